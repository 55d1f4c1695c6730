import PyProof.Rows.All
import Wide.All
import OpenK.AllK
import Wide.FinOn
import HandS.ForMost
import HandS.ForExc
import HandS.Walk
import HandS.DictComp
import HandS.SetKeys
import HandS.Flow
import HandS.FStr
import HandS.SortKw
import HandS.IsInst
import HandS.StrMore
import HandS.Conv
import HandS.ListItems
import HandS.Finally
import HandS.Style
import HandS.TupAny
import HandS.WordsDict
import HandS.More
import HandS.SortInts
import PyProof.ReprRoads
import KE.KEqNest
import HandS.Ends
import HandS.Words
import HandS.ClsMeth
import HandS.Codes
import HandS.NoneIn
import KE.KUnpackStar
import HandS.ExcInit
import HandS.Small
import HandS.ExcField
import HandS.TryOnly
import HandS.Dict
import PyProof.InstNe
import PyProof.InstEq
import HandS.Set
import HandS.SetFor
import HandS.Strs
import KE.KDictList
import KE.KSortTupG
import KE.GoesMore
import HandS.TupSets
import KE.GoesEnum
import HandS.Property
import HandS.TupLe
import PyProof.StrLawsRepr
import PySem.Challenge.RW_firsthome_k08_plays_made_and_taken_back
set_option Elab.async false
set_option linter.all false
set_option maxRecDepth 100000
/-! FhA: values as trees, cells, the relation to the abstract heap. -/
namespace FH
open PySem L2

/-- a value as a tree; cel j: the j-th mutable object -/
inductive TV where
  | non | bl (b : Bool) | int (i : Int) | str (x : Str)
  | lst (xs : List TV) | tup (xs : List TV)
  | dct (kvs : List (Key × TV))
  | dtt (kvs : List (List Key × TV))
  | obj (c : Str) (fs : List (Str × TV))
  | cel (j : Nat)
  | con (v : V)
  | lsc (ns : List Int)
  | cls (c : Str)

instance : Inhabited TV := ⟨.non⟩

/-- a mutable object: own (may be changed), lck (looked at by a walk), frz (never changed again) -/
inductive Cell where
  | own (t : TV) | lck (t : TV) | frz (t : TV)
instance : Inhabited Cell := ⟨.frz .non⟩
def Cell.tree : Cell → TV
  | .own t => t
  | .lck t => t
  | .frz t => t
def Cell.live : Cell → Bool
  | .frz _ => false
  | _ => true
abbrev Tab := List Cell
abbrev Slots := List (Option TV)

/-- the module's facts that trees lean on -/
structure Md where
  K : PySem.W.Frag
  cl : Str → Option Addr

/-- what is known besides the trees: B objects that stay as they are, L objects that others look after, A where the cells are -/
structure Gh where
  B : Hp
  L : Hp
  A : Nat → Addr
  n : Nat

def lockable : HO → Bool
  | .dK _ => true
  | .dT _ => true
  | _ => false

def KL (K : PySem.W.Frag) (a : Addr) (xs : List V) : Prop :=
  ∃ (o : Obj) (its : Array Value) (n : Nat), K.lookup a = some o ∧ o.cls = .type "list" ∧ o.dict = none ∧ o.data = .seq its n ∧ its.size ≤ sizeLine ∧ Vals xs its.toList
def KT' (K : PySem.W.Frag) (a : Addr) (xs : List V) : Prop :=
  ∃ (o : Obj) (its : Array Value) (n : Nat), K.lookup a = some o ∧ o.cls = .type "tuple" ∧ o.data = .seq its n ∧ its.size ≤ sizeLine ∧ Vals xs its.toList

mutual
/-- the value v is the tree t -/
inductive RV (M : Md) (g : Gh) : TV → V → Prop where
  | non : RV M g .non .non
  | bl {b : Bool} : RV M g (.bl b) (.bl b)
  | int {i : Int} : RV M g (.int i) (.int i)
  | str {x : Str} : RV M g (.str x) (.str x)
  | con {v : V} : RV M g (.con v) v
  | cls {c : Str} {A : Addr} : M.cl c = some A → RV M g (.cls c) (.ref A)
  | cel {j : Nat} : j < g.n → RV M g (.cel j) (.ref (g.A j))
  | lst {a : Addr} {xs : List TV} {vs : List V} : g.B a = some (.lst vs) → RVs M g xs vs → RV M g (.lst xs) (.ref a)
  | lsc {a : Addr} {o : Obj} {ns : List Int} : g.B a = some (.frz o (.lst (ns.map V.int))) → RV M g (.lsc ns) (.ref a)
  | lscK {a : Addr} {ns : List Int} : KL M.K a (ns.map V.int) → RV M g (.lsc ns) (.ref a)
  | tup {a : Addr} {xs : List TV} {vs : List V} : g.B a = some (.tup vs) → RVs M g xs vs → RV M g (.tup xs) (.ref a)
  | tupK {a : Addr} {xs : List TV} {vs : List V} : KT' M.K a vs → RVs M g xs vs → RV M g (.tup xs) (.ref a)
  | dct {a : Addr} {kvs : List (Key × TV)} {ws : List (Key × V)} : g.B a = some (.dK ws) → RKs M g kvs ws → RV M g (.dct kvs) (.ref a)
  | dtt {a : Addr} {kvs : List (List Key × TV)} {ws : List (List Key × V)} : g.B a = some (.dT ws) → RTs M g kvs ws → RV M g (.dtt kvs) (.ref a)
  | obj {a C dx : Addr} {c : Str} {fs : List (Str × TV)} {ws : List (Str × V)} : M.cl c = some C → g.B a = some (.ins C dx ws) → RFs M g fs ws → RV M g (.obj c fs) (.ref a)
inductive RVs (M : Md) (g : Gh) : List TV → List V → Prop where
  | nil : RVs M g [] []
  | cons {t : TV} {v : V} {ts : List TV} {vs : List V} : RV M g t v → RVs M g ts vs → RVs M g (t :: ts) (v :: vs)
inductive RKs (M : Md) (g : Gh) : List (Key × TV) → List (Key × V) → Prop where
  | nil : RKs M g [] []
  | cons {k : Key} {t : TV} {v : V} {ts : List (Key × TV)} {vs : List (Key × V)} : RV M g t v → RKs M g ts vs → RKs M g ((k, t) :: ts) ((k, v) :: vs)
inductive RTs (M : Md) (g : Gh) : List (List Key × TV) → List (List Key × V) → Prop where
  | nil : RTs M g [] []
  | cons {k : List Key} {t : TV} {v : V} {ts : List (List Key × TV)} {vs : List (List Key × V)} : RV M g t v → RTs M g ts vs → RTs M g ((k, t) :: ts) ((k, v) :: vs)
inductive RFs (M : Md) (g : Gh) : List (Str × TV) → List (Str × V) → Prop where
  | nil : RFs M g [] []
  | cons {k : Str} {t : TV} {v : V} {ts : List (Str × TV)} {vs : List (Str × V)} : RV M g t v → RFs M g ts vs → RFs M g ((k, t) :: ts) ((k, v) :: vs)
end

/-- what is known later -/
structure Ext (g g' : Gh) : Prop where
  B : ∀ a o, g.B a = some o → g'.B a = some o
  L : g'.L = g.L
  n : g.n ≤ g'.n
  A : ∀ j, j < g.n → g'.A j = g.A j
theorem Ext.refl (g : Gh) : Ext g g := ⟨fun _ _ h => h, rfl, Nat.le_refl _, fun _ _ => rfl⟩
theorem Ext.trans {g g1 g2 : Gh} (a : Ext g g1) (b : Ext g1 g2) : Ext g g2 :=
  ⟨fun x o h => b.B x o (a.B x o h), b.L.trans a.L, Nat.le_trans a.n b.n, fun j h => (b.A j (Nat.lt_of_lt_of_le h a.n)).trans (a.A j h)⟩

/-- the same but for L -/
structure Ext0 (g g' : Gh) : Prop where
  B : ∀ a o, g.B a = some o → g'.B a = some o
  n : g.n ≤ g'.n
  A : ∀ j, j < g.n → g'.A j = g.A j
theorem Ext.e0 {g g' : Gh} (e : Ext g g') : Ext0 g g' := ⟨e.B, e.n, e.A⟩
theorem Ext0.refl (g : Gh) : Ext0 g g := ⟨fun _ _ h => h, Nat.le_refl _, fun _ _ => rfl⟩
theorem Ext0.trans {g g1 g2 : Gh} (a : Ext0 g g1) (b : Ext0 g1 g2) : Ext0 g g2 :=
  ⟨fun x o h => b.B x o (a.B x o h), Nat.le_trans a.n b.n, fun j h => (b.A j (Nat.lt_of_lt_of_le h a.n)).trans (a.A j h)⟩

section
variable {M : Md} {g g' : Gh}
mutual
theorem RV.mono0 (e : Ext0 g g') : ∀ {t : TV} {v : V}, RV M g t v → RV M g' t v
  | _, _, .non => .non
  | _, _, .bl => .bl
  | _, _, .int => .int
  | _, _, .str => .str
  | _, _, .con => .con
  | _, _, .cls h => .cls h
  | _, _, .cel (j := j) h => by rw [← e.A j h]; exact .cel (Nat.lt_of_lt_of_le h e.n)
  | _, _, .lst h r => .lst (e.B _ _ h) (RVs.mono0 e r)
  | _, _, .lsc h => .lsc (e.B _ _ h)
  | _, _, .lscK h => .lscK h
  | _, _, .tup h r => .tup (e.B _ _ h) (RVs.mono0 e r)
  | _, _, .tupK h r => .tupK h (RVs.mono0 e r)
  | _, _, .dct h r => .dct (e.B _ _ h) (RKs.mono0 e r)
  | _, _, .dtt h r => .dtt (e.B _ _ h) (RTs.mono0 e r)
  | _, _, .obj c h r => .obj c (e.B _ _ h) (RFs.mono0 e r)
theorem RVs.mono0 (e : Ext0 g g') : ∀ {ts : List TV} {vs : List V}, RVs M g ts vs → RVs M g' ts vs
  | _, _, .nil => .nil
  | _, _, .cons r rs => .cons (RV.mono0 e r) (RVs.mono0 e rs)
theorem RKs.mono0 (e : Ext0 g g') : ∀ {ts : List (Key × TV)} {vs : List (Key × V)}, RKs M g ts vs → RKs M g' ts vs
  | _, _, .nil => .nil
  | _, _, .cons r rs => .cons (RV.mono0 e r) (RKs.mono0 e rs)
theorem RTs.mono0 (e : Ext0 g g') : ∀ {ts : List (List Key × TV)} {vs : List (List Key × V)}, RTs M g ts vs → RTs M g' ts vs
  | _, _, .nil => .nil
  | _, _, .cons r rs => .cons (RV.mono0 e r) (RTs.mono0 e rs)
theorem RFs.mono0 (e : Ext0 g g') : ∀ {ts : List (Str × TV)} {vs : List (Str × V)}, RFs M g ts vs → RFs M g' ts vs
  | _, _, .nil => .nil
  | _, _, .cons r rs => .cons (RV.mono0 e r) (RFs.mono0 e rs)
end
theorem RV.mono (e : Ext g g') {t : TV} {v : V} (r : RV M g t v) : RV M g' t v := r.mono0 e.e0
theorem RVs.mono (e : Ext g g') {t : List TV} {v : List V} (r : RVs M g t v) : RVs M g' t v := r.mono0 e.e0
end

/-- the object o is the root t of a cell -/
def RN (M : Md) (g : Gh) : TV → HO → Prop
  | .lst xs, o => ∃ vs, o = .lst vs ∧ RVs M g xs vs
  | .dct kvs, o => ∃ ws, o = .dK ws ∧ RKs M g kvs ws
  | .dtt kvs, o => ∃ ws, o = .dT ws ∧ RTs M g kvs ws
  | .obj c fs, o => ∃ C dx ws, o = .ins C dx ws ∧ M.cl c = some C ∧ RFs M g fs ws
  | _, _ => False
theorem RN.mono0 {M : Md} {g g' : Gh} (e : Ext0 g g') {t : TV} {o : HO} (r : RN M g t o) : RN M g' t o := by
  cases t <;> first | exact r.elim | skip
  · obtain ⟨vs, e1, h⟩ := r; exact ⟨vs, e1, h.mono0 e⟩
  · obtain ⟨vs, e1, h⟩ := r; exact ⟨vs, e1, h.mono0 e⟩
  · obtain ⟨vs, e1, h⟩ := r; exact ⟨vs, e1, h.mono0 e⟩
  · obtain ⟨C, dx, ws, e1, h1, h⟩ := r; exact ⟨C, dx, ws, e1, h1, h.mono0 e⟩

/-- to be read as u, maybe locked -/
def Rq (H : Hp) (a : Addr) (u : HO) : Prop := H a = some u ∨ (lockable u = true ∧ ∃ o, H a = some (.frz o u))
theorem Rq.rd {H : Hp} {a : Addr} {u : HO} (r : Rq H a u) : Rd H a u := r.elim .inl fun ⟨_, o, h⟩ => .inr ⟨o, h⟩
theorem Rq.ins {H : Hp} {a : Addr} {u : HO} (r : Rq H a u) (h : lockable u = false) : H a = some u := r.elim id fun ⟨q, _⟩ => by rw [h] at q; cases q

/-- nobody else writes at a -/
def LF (g : Gh) (a : Addr) : Prop := ∀ o, g.L a = some o → ∃ ob u, o = .frz ob u
def RC (M : Md) (g : Gh) (H : Hp) (a : Addr) : Cell → Prop
  | .own t => ∃ o, H a = some o ∧ RN M g t o ∧ g.B a = none ∧ g.L a = none
  | .lck t => ∃ o, Rq H a o ∧ RN M g t o ∧ g.B a = none ∧ LF g a
  | .frz t => RV M g t (.ref a)

/-- the heap is as the cells say -/
structure RH (M : Md) (g : Gh) (C : Tab) (H : Hp) : Prop where
  b : ∀ a o, g.B a = some o → Rq H a o
  l : ∀ a o, g.L a = some o → H a = some o
  n : g.n = C.length
  c : ∀ j c, C[j]? = some c → RC M g H (g.A j) c
  i : ∀ i j c d, C[i]? = some c → C[j]? = some d → c.live = true → d.live = true → g.A i = g.A j → i = j
  d : ∀ a o, g.L a = some o → (∀ ob u, o ≠ .frz ob u) → g.B a = none

/-- the slots -/
structure RS (M : Md) (g : Gh) (s : Slots) (σ : St) : Prop where
  len : s.length = σ.length
  v : ∀ (i : Nat) (t : TV), s[i]? = some (some t) → ∃ v, σ[i]? = some (some v) ∧ RV M g t v
theorem RS.mono0 {M : Md} {g g' : Gh} {s : Slots} {σ : St} (e : Ext0 g g') (r : RS M g s σ) : RS M g' s σ :=
  ⟨r.len, fun i t h => let ⟨v, h1, h2⟩ := r.v i t h; ⟨v, h1, h2.mono0 e⟩⟩
theorem RS.mono {M : Md} {g g' : Gh} {s : Slots} {σ : St} (e : Ext g g') (r : RS M g s σ) : RS M g' s σ := r.mono0 e.e0
theorem RS.set {M : Md} {g : Gh} {s : Slots} {σ : St} {i : Nat} {t : TV} {v : V} (r : RS M g s σ) (rv : RV M g t v) : RS M g (s.set i (some t)) (σ.set i (some v)) := by
  refine ⟨by simp [r.len], fun j u h => ?_⟩
  by_cases hj : j = i
  · subst hj
    by_cases hl : j < s.length
    · rw [List.getElem?_set_self hl] at h
      cases h
      exact ⟨v, List.getElem?_set_self (by rw [← r.len]; exact hl), rv⟩
    · rw [List.getElem?_eq_none (by simp; omega)] at h
      cases h
  · rw [List.getElem?_set_ne (Ne.symm hj)] at h
    obtain ⟨w, h1, h2⟩ := r.v j u h
    exact ⟨w, by rw [List.getElem?_set_ne (Ne.symm hj)]; exact h1, h2⟩
end FH
/-! FhB: what the heap's changes are to the relation; results, readings. -/
namespace FH
open PySem L2

section
variable {M : Md} {g : Gh} {C : Tab} {H H' : Hp} {p : Addr} {o : HO}
theorem Rq.same (hs : Same H H') {a : Addr} {u : HO} (r : Rq H a u) : Rq H' a u :=
  r.elim (fun h => .inl (hs _ _ h)) fun ⟨l, o, h⟩ => .inr ⟨l, o, hs _ _ h⟩
theorem Rd.same (hs : Same H H') {a : Addr} {u : HO} (r : Rd H a u) : Rd H' a u :=
  r.elim (fun h => .inl (hs _ _ h)) fun ⟨o, h⟩ => .inr ⟨o, hs _ _ h⟩
theorem Rd.ne_none {a : Addr} {u : HO} (r : Rd H a u) : H a ≠ none := fun z => by
  rcases r with h | ⟨_, h⟩ <;> rw [z] at h <;> cases h
theorem Rq.ne_none {a : Addr} {u : HO} (r : Rq H a u) : H a ≠ none := Rd.ne_none r.rd
theorem Same.upd (hn : H p = none) : Same H (upd H p o) := fun b u h => by rw [upd_ne (ne_of_none h hn)]; exact h

/-- more heap -/
theorem RH.same (R : RH M g C H) (hs : Same H H') : RH M g C H' where
  b := fun a o h => (R.b a o h).same hs
  l := fun a o h => hs _ _ (R.l a o h)
  n := R.n
  c := fun j c h => by
    have q := R.c j c h
    cases c with
    | own t => obtain ⟨o, h1, h2⟩ := q; exact ⟨o, hs _ _ h1, h2⟩
    | lck t => obtain ⟨o, h1, h2⟩ := q; exact ⟨o, Rq.same hs h1, h2⟩
    | frz t => exact q
  i := R.i
  d := R.d
theorem RH.Bnone (R : RH M g C H) {a : Addr} (h : H a = none) : g.B a = none := by
  cases e : g.B a with
  | none => rfl
  | some o => exact absurd h (Rq.ne_none (R.b a o e))
theorem RH.Lnone (R : RH M g C H) {a : Addr} (h : H a = none) : g.L a = none := by
  cases e : g.L a with
  | none => rfl
  | some o => rw [R.l a o e] at h; cases h
theorem RH.live_some (R : RH M g C H) {j : Nat} {c : Cell} (h : C[j]? = some c) (l : c.live = true) : H (g.A j) ≠ none := by
  have q := R.c j c h
  cases c with
  | own t => obtain ⟨o, h1, _⟩ := q; rw [h1]; exact fun z => nomatch z
  | lck t => obtain ⟨o, h1, _⟩ := q; exact Rq.ne_none h1
  | frz t => cases l

/-- g with p kept for ever -/
def Gh.keep (g : Gh) (p : Addr) (o : HO) : Gh := { g with B := upd g.B p o }
theorem ext_keep (h : g.B p = none) : Ext g (g.keep p o) :=
  ⟨fun a u e => by show upd g.B p o a = some u; rw [upd_ne (ne_of_none e h)]; exact e, rfl, Nat.le_refl _, fun _ _ => rfl⟩
/-- a new object, kept for ever -/
theorem RH.addB (R : RH M g C H) (hs : Same H H') (hn : H p = none) (hp : H' p = some o) : RH M (g.keep p o) C H' ∧ Ext g (g.keep p o) := by
  have e : Ext g (g.keep p o) := ext_keep (R.Bnone hn)
  have R' := R.same hs
  refine ⟨⟨fun a u h => ?_, R'.l, R.n, fun j c h => ?_, R.i, fun a u h hf => by
    show upd g.B p o a = none
    rw [upd_ne (ne_of_none (R.l a u h) hn)]; exact R.d a u h hf⟩, e⟩
  · by_cases ha : a = p
    · subst ha
      have h' : upd g.B a o a = some u := h
      rw [upd_same] at h'
      cases h'
      exact .inl hp
    · have h' : upd g.B p o a = some u := h
      rw [upd_ne ha] at h'
      exact R'.b a u h'
  · have q := R'.c j c h
    have ne : c.live = true → g.A j ≠ p := fun l z => R.live_some h l (by rw [z]; exact hn)
    cases c with
    | own t =>
      obtain ⟨u, h1, h2, h3, h4⟩ := q
      exact ⟨u, h1, h2.mono0 e.e0, by show upd g.B p o (g.A j) = none; rw [upd_ne (ne rfl)]; exact h3, h4⟩
    | lck t =>
      obtain ⟨u, h1, h2, h3, h4⟩ := q
      exact ⟨u, h1, h2.mono0 e.e0, by show upd g.B p o (g.A j) = none; rw [upd_ne (ne rfl)]; exact h3, h4⟩
    | frz t => exact RV.mono e q
/-- g with a further cell at p -/
def Gh.cell (g : Gh) (p : Addr) : Gh := { g with A := fun j => if j = g.n then p else g.A j, n := g.n + 1 }
theorem ext_cell : Ext g (g.cell p) :=
  ⟨fun _ _ h => h, rfl, Nat.le_succ _, fun j h => by show (if j = g.n then p else g.A j) = g.A j; rw [if_neg (Nat.ne_of_lt h)]⟩
/-- a new object, a cell of its own -/
theorem RH.addC (R : RH M g C H) (hs : Same H H') (hn : H p = none) (hp : H' p = some o) {t : TV} (r : RN M g t o) : RH M (g.cell p) (C ++ [.own t]) H' ∧ Ext g (g.cell p) := by
  have e : Ext g (g.cell p) := ext_cell
  have R' := R.same hs
  have hA : ∀ j, j < C.length → (g.cell p).A j = g.A j := fun j h => e.A j (by rw [R.n]; exact h)
  have hAn : (g.cell p).A C.length = p := by show (if C.length = g.n then p else g.A C.length) = p; rw [if_pos R.n.symm]
  have split : ∀ {j : Nat} {c : Cell}, (C ++ [Cell.own t])[j]? = some c → (j < C.length ∧ C[j]? = some c) ∨ (j = C.length ∧ c = .own t) := fun {j c} h => by
    by_cases hj : j < C.length
    · rw [List.getElem?_append_left hj] at h; exact .inl ⟨hj, h⟩
    · rw [List.getElem?_append_right (by omega)] at h
      have : j - C.length = 0 := by
        rcases Nat.eq_zero_or_pos (j - C.length) with z | z
        · exact z
        · rw [List.getElem?_eq_none (by simp; omega)] at h; cases h
      rw [this] at h
      cases h
      exact .inr ⟨by omega, rfl⟩
  refine ⟨⟨R'.b, R'.l, ?_, fun j c h => ?_, fun i j c d hi hj li lj ea => ?_, R'.d⟩, e⟩
  · show g.n + 1 = _; rw [R.n]; simp
  · rcases split h with ⟨hj, h⟩ | ⟨rfl, rfl⟩
    · rw [hA j hj]
      have q := R'.c j c h
      cases c with
      | own t => obtain ⟨u, h1, h2, h3, h4⟩ := q; exact ⟨u, h1, h2.mono0 e.e0, h3, h4⟩
      | lck t => obtain ⟨u, h1, h2, h3, h4⟩ := q; exact ⟨u, h1, h2.mono0 e.e0, h3, h4⟩
      | frz t => exact RV.mono e q
    · rw [hAn]
      exact ⟨o, hp, r.mono0 e.e0, R.Bnone hn, R.Lnone hn⟩
  · rcases split hi with ⟨h1, hi⟩ | ⟨rfl, rfl⟩ <;> rcases split hj with ⟨h2, hj⟩ | ⟨rfl, rfl⟩
    · rw [hA i h1, hA j h2] at ea; exact R.i i j c d hi hj li lj ea
    · rw [hA i h1, hAn] at ea; exact absurd (by rw [ea]; exact hn) (R.live_some hi li)
    · rw [hA j h2, hAn] at ea; exact absurd (by rw [← ea]; exact hn) (R.live_some hj lj)
    · rfl
/-- a cell is written -/
theorem RH.wr (R : RH M g C H) {j : Nat} {t t' : TV} (h : C[j]? = some (.own t)) (r : RN M g t' o) : RH M g (C.set j (.own t')) (upd H (g.A j) o) := by
  have hl : j < C.length := (List.getElem?_eq_some_iff.mp h).1
  obtain ⟨u0, hu, hr, hB, hL⟩ := R.c j _ h
  have split : ∀ {i : Nat} {c : Cell}, (C.set j (Cell.own t'))[i]? = some c → (i ≠ j ∧ C[i]? = some c) ∨ (i = j ∧ c = .own t') := fun {i c} hi => by
    by_cases e : i = j
    · subst e; rw [List.getElem?_set_self hl] at hi; cases hi; exact .inr ⟨rfl, rfl⟩
    · rw [List.getElem?_set_ne (Ne.symm e)] at hi; exact .inl ⟨e, hi⟩
  refine ⟨fun a u e => ?_, fun a u e => ?_, by rw [List.length_set]; exact R.n, fun i c hi => ?_, fun i k c d hi hk li lk ea => ?_, R.d⟩
  · have ne : a ≠ g.A j := fun z => by rw [z, hB] at e; cases e
    rcases R.b a u e with q | ⟨l, ob, q⟩
    · exact .inl (by rw [upd_ne ne]; exact q)
    · exact .inr ⟨l, ob, by rw [upd_ne ne]; exact q⟩
  · have ne : a ≠ g.A j := fun z => by rw [z, hL] at e; cases e
    rw [upd_ne ne]; exact R.l a u e
  · rcases split hi with ⟨ne, hi⟩ | ⟨rfl, rfl⟩
    · have q := R.c i c hi
      have na : c.live = true → g.A i ≠ g.A j := fun l z => ne (R.i i j c _ hi h l rfl z)
      cases c with
      | own t => obtain ⟨u, h1, h2, h3, h4⟩ := q; exact ⟨u, by rw [upd_ne (na rfl)]; exact h1, h2, h3, h4⟩
      | lck t =>
        obtain ⟨u, h1, h2, h3, h4⟩ := q
        refine ⟨u, ?_, h2, h3, h4⟩
        rcases h1 with h1 | ⟨l, ob, h1⟩
        · exact .inl (by rw [upd_ne (na rfl)]; exact h1)
        · exact .inr ⟨l, ob, by rw [upd_ne (na rfl)]; exact h1⟩
      | frz t => exact q
    · exact ⟨o, upd_same, r, hB, hL⟩
  · rcases split hi with ⟨_, hi2⟩ | ⟨e1, e2⟩ <;> rcases split hk with ⟨_, hk2⟩ | ⟨e3, e4⟩
    · exact R.i i k c d hi2 hk2 li lk ea
    · subst e3; exact R.i i _ c _ hi2 h li rfl ea
    · subst e1; exact R.i _ k _ d h hk2 rfl lk ea
    · rw [e1, e3]
theorem RN.rv {t : TV} (r : RN M g t o) : RV M (g.keep p o) t (.ref p) ∨ g.B p ≠ none := by
  by_cases hB : g.B p = none
  · have e : Ext g (g.keep p o) := ext_keep hB
    have s : (g.keep p o).B p = some o := upd_same
    refine .inl ?_
    cases t <;> first | exact r.elim | skip
    · obtain ⟨vs, rfl, h⟩ := r; exact .lst s (h.mono0 e.e0)
    · obtain ⟨vs, rfl, h⟩ := r; exact .dct s (h.mono0 e.e0)
    · obtain ⟨vs, rfl, h⟩ := r; exact .dtt s (h.mono0 e.e0)
    · obtain ⟨C, dx, ws, rfl, h1, h⟩ := r; exact .obj h1 s (h.mono0 e.e0)
  · exact .inr hB
theorem RN.rv' {t : TV} (r : RN M g t o) (hB : g.B p = none) : RV M (g.keep p o) t (.ref p) := r.rv.resolve_right fun z => z hB
/-- a cell is frozen -/
theorem RH.fz (R : RH M g C H) {j : Nat} {t : TV} (h : C[j]? = some (.own t)) : ∃ g', Ext g g' ∧ RH M g' (C.set j (.frz t)) H ∧ RV M g' t (.ref (g.A j)) := by
  have hl : j < C.length := (List.getElem?_eq_some_iff.mp h).1
  obtain ⟨o, hu, hr, hB, hL⟩ := R.c j _ h
  have e : Ext g (g.keep (g.A j) o) := ext_keep hB
  have rv : RV M (g.keep (g.A j) o) t (.ref (g.A j)) := hr.rv' hB
  have split : ∀ {i : Nat} {c : Cell}, (C.set j (Cell.frz t))[i]? = some c → (i ≠ j ∧ C[i]? = some c) ∨ (i = j ∧ c = .frz t) := fun {i c} hi => by
    by_cases e : i = j
    · subst e; rw [List.getElem?_set_self hl] at hi; cases hi; exact .inr ⟨rfl, rfl⟩
    · rw [List.getElem?_set_ne (Ne.symm e)] at hi; exact .inl ⟨e, hi⟩
  refine ⟨_, e, ⟨fun a u ea => ?_, R.l, by rw [List.length_set]; exact R.n, fun i c hi => ?_, fun i k c d hi hk li lk ea => ?_, fun a u h hf => by
    show upd g.B (g.A j) o a = none
    rw [upd_ne (fun z => by rw [z] at h; have q : g.L (g.A j) = some u := h; rw [hL] at q; cases q)]; exact R.d a u h hf⟩, rv⟩
  · have h' : upd g.B (g.A j) o a = some u := ea
    by_cases ha : a = g.A j
    · subst ha; rw [upd_same] at h'; cases h'; exact .inl hu
    · rw [upd_ne ha] at h'; exact R.b a u h'
  · rcases split hi with ⟨ne, hi⟩ | ⟨rfl, rfl⟩
    · have q := R.c i c hi
      have na : c.live = true → g.A i ≠ g.A j := fun l z => ne (R.i i j c _ hi h l rfl z)
      cases c with
      | own t => obtain ⟨u, h1, h2, h3, h4⟩ := q; exact ⟨u, h1, h2.mono0 e.e0, by show upd g.B (g.A j) o (g.A i) = none; rw [upd_ne (na rfl)]; exact h3, h4⟩
      | lck t => obtain ⟨u, h1, h2, h3, h4⟩ := q; exact ⟨u, h1, h2.mono0 e.e0, by show upd g.B (g.A j) o (g.A i) = none; rw [upd_ne (na rfl)]; exact h3, h4⟩
      | frz t => exact RV.mono e q
    · exact rv
  · rcases split hi with ⟨_, hi2⟩ | ⟨e1, e2⟩ <;> rcases split hk with ⟨_, hk2⟩ | ⟨e3, e4⟩
    · exact R.i i k c d hi2 hk2 li lk ea
    · subst e4; cases lk
    · subst e2; cases li
    · rw [e1, e3]
end

/-! ### results -/
structure Exc where
  c : Str
  fs : List (Str × TV)
inductive Res (α : Type) where
  | ok (a : α) (C : Tab) | exc (x : Exc) (C : Tab) | stuck
def Res.bind {α β : Type} (r : Res α) (f : α → Tab → Res β) : Res β := match r with
  | .ok a C => f a C
  | .exc x C => .exc x C
  | .stuck => .stuck
abbrev EM (α : Type) := Slots → Tab → Res α
inductive SR where
  | nx (s : Slots) (C : Tab) | rt (t : TV) (C : Tab) | bk (s : Slots) (C : Tab) | ct (s : Slots) (C : Tab) | exc (x : Exc) (s : Slots) (C : Tab) | stuck
abbrev SM := Slots → Tab → SR

/-- an exception's class value -/
structure Xd where
  M : Md
  cx : Str → Option Value
def RX (Y : Xd) (g : Gh) (x : Exc) (cls : Value) (d : Option Addr) : Prop :=
  Y.cx x.c = some cls ∧ ((d = none ∧ x.fs = []) ∨ ∃ dd ws, d = some dd ∧ g.B dd = some (.xd ws) ∧ RFs Y.M g x.fs ws)

def Fin {α : Type} (Y : Xd) (g : Gh) (W : Value → Option Addr → Hp → Prop) (r : Res α) (k : α → Gh → Tab → Hp → Prop) : Prop := match r with
  | .ok a C => ∀ g' H', Ext g g' → RH Y.M g' C H' → k a g' C H'
  | .exc x C => ∀ g' H' cls d, Ext g g' → RH Y.M g' C H' → RX Y g' x cls d → W cls d H'
  | .stuck => False
theorem Fin.imp {α : Type} {Y : Xd} {g : Gh} {W : Value → Option Addr → Hp → Prop} {r : Res α} {k k' : α → Gh → Tab → Hp → Prop} (f : Fin Y g W r k) (h : ∀ a g' C H', Ext g g' → RH Y.M g' C H' → k a g' C H' → k' a g' C H') : Fin Y g W r k' := by
  cases r with
  | ok a C => exact fun g' H' e R => h a g' C H' e R (f g' H' e R)
  | exc x C => exact f
  | stuck => exact f
theorem Fin.ext {α : Type} {Y : Xd} {g g1 : Gh} {W : Value → Option Addr → Hp → Prop} {r : Res α} {k : α → Gh → Tab → Hp → Prop} (e : Ext g g1) (f : Fin Y g W r k) : Fin Y g1 W r k := by
  cases r with
  | ok a C => exact fun g' H' e' R => f g' H' (e.trans e') R
  | exc x C => exact fun g' H' cls d e' R => f g' H' cls d (e.trans e') R
  | stuck => exact f
theorem Fin.bind {α β : Type} {Y : Xd} {g : Gh} {W : Value → Option Addr → Hp → Prop} {r : Res α} {f : α → Tab → Res β} {k : β → Gh → Tab → Hp → Prop} (h : Fin Y g W (r.bind f) k) : Fin Y g W r fun a g1 C1 H1 => Fin Y g1 W (f a C1) k := by
  cases r with
  | ok a C => exact fun g' H' e R => Fin.ext e h
  | exc x C => exact h
  | stuck => exact h
theorem Fin.now {α : Type} {Y : Xd} {g : Gh} {W : Value → Option Addr → Hp → Prop} {C : Tab} {H : Hp} {a : α} {k : α → Gh → Tab → Hp → Prop} (R : RH Y.M g C H) (f : Fin Y g W (.ok a C) k) : k a g C H := f g H (Ext.refl g) R

/-! ### readings -/
/-- the wish of the slots as they stand -/
def tE (Y : Xd) (W : WX) (m : EM TV) : TE := fun σ H Q => ∃ g s C, RS Y.M g s σ ∧ RH Y.M g C H ∧ Fin Y g (fun cls d H' => W cls d σ H') (m s C) fun t g' _ H' => ∀ v, RV Y.M g' t v → Q v H'
def tT (Y : Xd) (W : WX) (m : EM Bool) : TT := fun σ H Q => ∃ g s C, RS Y.M g s σ ∧ RH Y.M g C H ∧ Fin Y g (fun cls d H' => W cls d σ H') (m s C) fun b _ _ H' => Q b H'
def tA (Y : Xd) (W : WX) (m : EM (List TV)) : TA := fun σ H Q => ∃ g s C, RS Y.M g s σ ∧ RH Y.M g C H ∧ Fin Y g (fun cls d H' => W cls d σ H') (m s C) fun ts g' _ H' => ∀ vs, RVs Y.M g' ts vs → Q vs H'
def SFin (Y : Xd) (g : Gh) (W : WX) (D : Ends) (r : SR) : Prop := match r with
  | .nx s C => ∀ g' H' σ', Ext g g' → RH Y.M g' C H' → RS Y.M g' s σ' → D.nx σ' H'
  | .rt t C => ∀ g' H' v, Ext g g' → RH Y.M g' C H' → RV Y.M g' t v → D.rt v H'
  | .bk s C => ∀ g' H' σ', Ext g g' → RH Y.M g' C H' → RS Y.M g' s σ' → D.bk σ' H'
  | .ct s C => ∀ g' H' σ', Ext g g' → RH Y.M g' C H' → RS Y.M g' s σ' → D.ct σ' H'
  | .exc x s C => ∀ g' H' σ' cls d, Ext g g' → RH Y.M g' C H' → RS Y.M g' s σ' → RX Y g' x cls d → W cls d σ' H'
  | .stuck => False
def tS (Y : Xd) (W : WX) (m : SM) : TS := fun D σ H => ∃ g s C, RS Y.M g s σ ∧ RH Y.M g C H ∧ SFin Y g W D (m s C)
theorem SFin.ext {Y : Xd} {g g1 : Gh} {W : WX} {D : Ends} {r : SR} (e : Ext g g1) (f : SFin Y g W D r) : SFin Y g1 W D r := by
  cases r with
  | nx s C => exact fun g' H' σ' e' => f g' H' σ' (e.trans e')
  | rt t C => exact fun g' H' v e' => f g' H' v (e.trans e')
  | bk s C => exact fun g' H' σ' e' => f g' H' σ' (e.trans e')
  | ct s C => exact fun g' H' σ' e' => f g' H' σ' (e.trans e')
  | exc x s C => exact fun g' H' σ' cls d e' => f g' H' σ' cls d (e.trans e')
  | stuck => exact f
/-- a function on trees -/
abbrev FM := List TV → Tab → Res TV
/-- the promise of a def that is the function F -/
def spF (Y : Xd) (F : FM) : Sp := fun vs H Q E => ∃ g C ts, RH Y.M g C H ∧ RVs Y.M g ts vs ∧ Fin Y g E (F ts C) fun t g' _ H' => ∀ v, RV Y.M g' t v → Q v H'

theorem PE.imp {X : Cx} {e : Expr} {t t' : TE} (h : PE X e t) (i : ∀ σ H Q, t' σ H Q → t σ H Q) : PE X e t' := ⟨fun pins s σ H Q I q => h.run pins s σ H Q I (i σ H Q q)⟩
theorem PT.imp {X : Cx} {e : Expr} {t t' : TT} (h : PT X e t) (i : ∀ σ H Q, t' σ H Q → t σ H Q) : PT X e t' := ⟨fun pins s σ H Q I q => h.run pins s σ H Q I (i σ H Q q)⟩
theorem PW.imp {X : Cx} {e : Expr} {t t' : TT} (h : PW X e t) (i : ∀ σ H Q, t' σ H Q → t σ H Q) : PW X e t' := ⟨fun wh pins s σ H Q I q => h.run wh pins s σ H Q I (i σ H Q q)⟩
theorem PA.imp {X : Cx} {e : List Expr} {t t' : TA} (h : PA X e t) (i : ∀ σ H Q, t' σ H Q → t σ H Q) : PA X e t' := ⟨fun pos pins s σ H Q I q => h.run pos pins s σ H Q I (i σ H Q q)⟩
theorem PS.imp {X : Cx} {e : Stmt} {t t' : TS} (h : PS X e t) (i : ∀ D σ H, t' D σ H → t D σ H) : PS X e t' := ⟨fun pins s σ H D I q => h.run pins s σ H D I (i D σ H q)⟩
theorem PSs.imp {X : Cx} {e : List Stmt} {t t' : TS} (h : PSs X e t) (i : ∀ D σ H, t' D σ H → t D σ H) : PSs X e t' := ⟨fun pins s σ H D I q => h.run pins s σ H D I (i D σ H q)⟩
end FH
/-! FhC: defs as functions on trees, their calls. -/
namespace FH
open PySem L2
open PySem.Spec PyProof.Rows

/-- room for k calls, and no repr is under way -/
structure Rm (k : Nat) (A : Around) : Prop where
  room : Room k A
  gd : A.guards = some []
theorem Rm.mono {j k : Nat} {A : Around} (r : Rm k A) (h : j ≤ k) : Rm j A := ⟨r.room.mono h, r.gd⟩
theorem Rm.deeper {k : Nat} {A : Around} (r : Rm (k + 1) A) (env : Env) : Rm k (A.deeper env) := ⟨r.room.deeper env, r.gd⟩
theorem Rm.make {k : Nat} {A : Around} (r : Rm (k + 1) A) (C : Addr) (us : List Value) (kw : List (Str × Value)) : Rm k (A.under (.builtin "type.__call__" ⟨.ref C :: us, kw⟩)) := by
  refine ⟨r.room.make C us kw, ?_⟩
  show (A.under (.builtin "type.__call__" ⟨.ref C :: us, kw⟩)).guards = some []
  have hn : Code.isGuard (.builtin "type.__call__" ⟨.ref C :: us, kw⟩) = false := by
    show guardIds.contains "type.__call__" = false
    decide +kernel
  have e : (A.under (.builtin "type.__call__" ⟨.ref C :: us, kw⟩)).guards = A.guards := by
    simp [Around.under, Code.guards, hn]
    all_goals (cases A.guards <;> rfl)
  rw [e]; exact r.gd

/-- the def at f is the function F, by at most level k -/
structure FnT (P : Program) (w : World) (Y : Xd) (mg : Str → Option Value) (base : Heap) (k : Nat) (f : Addr) (fd : FuncData) (ps : List Str) (F : FM) : Prop where
  run : ∀ (A : Around) (outer : List Env) (s : Shared) (H : Hp) (args : Args) (us : List Value) (vs : List V) (Q : VK) (E : XK), Rm k A → Env0 P w Y.M.K mg base A outer s H → BindsTo s fd args (ps.zip us) →
    Vals vs us → us.length = ps.length → spF Y F vs H Q E → codeAny (model P w) A (.call (.ref f) args) (CR (L2.CX P w) outer P w H s Q E) s
theorem FnT.mono {P : Program} {w : World} {Y : Xd} {mg : Str → Option Value} {base : Heap} {j k : Nat} {f : Addr} {fd : FuncData} {ps : List Str} {F : FM} (h : FnT P w Y mg base j f fd ps F) (l : j ≤ k) : FnT P w Y mg base k f fd ps F :=
  ⟨fun A outer s H args us vs Q E r => h.run A outer s H args us vs Q E (r.mono l)⟩

/-- what is left of a table when a def is left: ρ tells where the cells stood -/
def TV.low (n : Nat) : TV → Bool
  | .cel j => decide (j < n)
  | .lst xs => lows n xs
  | .tup xs => lows n xs
  | .dct kvs => lowk n kvs
  | .dtt kvs => lowt n kvs
  | .obj _ fs => lowf n fs
  | _ => true
where
  lows (n : Nat) : List TV → Bool
    | [] => true
    | t :: ts => t.low n && lows n ts
  lowk (n : Nat) : List (Key × TV) → Bool
    | [] => true
    | (_, t) :: ts => t.low n && lowk n ts
  lowt (n : Nat) : List (List Key × TV) → Bool
    | [] => true
    | (_, t) :: ts => t.low n && lowt n ts
  lowf (n : Nat) : List (Str × TV) → Bool
    | [] => true
    | (_, t) :: ts => t.low n && lowf n ts
end FH

namespace FH
open PySem L2
open PySem.Spec PyProof.Rows
mutual
def TV.ren (ρ : Nat → Nat) : TV → TV
  | .cel j => .cel (ρ j)
  | .lst xs => .lst (rens ρ xs)
  | .tup xs => .tup (rens ρ xs)
  | .dct kvs => .dct (renk ρ kvs)
  | .dtt kvs => .dtt (rent ρ kvs)
  | .obj c fs => .obj c (renf ρ fs)
  | .non => .non
  | .bl b => .bl b
  | .int i => .int i
  | .str x => .str x
  | .con v => .con v
  | .cls c => .cls c
  | .lsc ns => .lsc ns
def rens (ρ : Nat → Nat) : List TV → List TV
  | [] => []
  | t :: ts => t.ren ρ :: rens ρ ts
def renk (ρ : Nat → Nat) : List (Key × TV) → List (Key × TV)
  | [] => []
  | (k, t) :: ts => (k, t.ren ρ) :: renk ρ ts
def rent (ρ : Nat → Nat) : List (List Key × TV) → List (List Key × TV)
  | [] => []
  | (k, t) :: ts => (k, t.ren ρ) :: rent ρ ts
def renf (ρ : Nat → Nat) : List (Str × TV) → List (Str × TV)
  | [] => []
  | (k, t) :: ts => (k, t.ren ρ) :: renf ρ ts
end
def Cell.ren (ρ : Nat → Nat) : Cell → Cell
  | .own t => .own (t.ren ρ)
  | .lck t => .lck (t.ren ρ)
  | .frz t => .frz (t.ren ρ)
def Cell.low (n : Nat) (c : Cell) : Bool := c.tree.low n

section
variable {M : Md} {g : Gh}
mutual
theorem RV.low : ∀ {t : TV} {v : V}, RV M g t v → t.low g.n = true
  | _, _, .non => rfl
  | _, _, .bl => rfl
  | _, _, .int => rfl
  | _, _, .str => rfl
  | _, _, .con => rfl
  | _, _, .cls _ => rfl
  | _, _, .cel h => decide_eq_true h
  | _, _, .lst _ r => RVs.low r
  | _, _, .lsc _ => rfl
  | _, _, .lscK _ => rfl
  | _, _, .tup _ r => RVs.low r
  | _, _, .tupK _ r => RVs.low r
  | _, _, .dct _ r => RKs.low r
  | _, _, .dtt _ r => RTs.low r
  | _, _, .obj _ _ r => RFs.low r
theorem RVs.low : ∀ {ts : List TV} {vs : List V}, RVs M g ts vs → TV.low.lows g.n ts = true
  | _, _, .nil => rfl
  | _, _, .cons r rs => by simp [TV.low.lows, RV.low r, RVs.low rs]
theorem RKs.low : ∀ {ts : List (Key × TV)} {vs : List (Key × V)}, RKs M g ts vs → TV.low.lowk g.n ts = true
  | _, _, .nil => rfl
  | _, _, .cons r rs => by simp [TV.low.lowk, RV.low r, RKs.low rs]
theorem RTs.low : ∀ {ts : List (List Key × TV)} {vs : List (List Key × V)}, RTs M g ts vs → TV.low.lowt g.n ts = true
  | _, _, .nil => rfl
  | _, _, .cons r rs => by simp [TV.low.lowt, RV.low r, RTs.low rs]
theorem RFs.low : ∀ {ts : List (Str × TV)} {vs : List (Str × V)}, RFs M g ts vs → TV.low.lowf g.n ts = true
  | _, _, .nil => rfl
  | _, _, .cons r rs => by simp [TV.low.lowf, RV.low r, RFs.low rs]
end
theorem RN.low {t : TV} {o : HO} (r : RN M g t o) : t.low g.n = true := by
  cases t <;> first | exact r.elim | skip
  · obtain ⟨_, _, h⟩ := r; exact h.low
  · obtain ⟨_, _, h⟩ := r; exact h.low
  · obtain ⟨_, _, h⟩ := r; exact h.low
  · obtain ⟨_, _, _, _, _, h⟩ := r; exact h.low
end
section
variable {n : Nat} {ρ : Nat → Nat} (hρ : ∀ j, j < n → ρ j = j)
include hρ
mutual
theorem ren_low : ∀ (t : TV), t.low n = true → t.ren ρ = t
  | .cel j, h => by simp only [TV.ren]; rw [hρ j (of_decide_eq_true h)]
  | .lst xs, h => by simp only [TV.ren]; rw [rens_low xs h]
  | .tup xs, h => by simp only [TV.ren]; rw [rens_low xs h]
  | .dct xs, h => by simp only [TV.ren]; rw [renk_low xs h]
  | .dtt xs, h => by simp only [TV.ren]; rw [rent_low xs h]
  | .obj c xs, h => by simp only [TV.ren]; rw [renf_low xs h]
  | .non, _ => by simp only [TV.ren]
  | .bl _, _ => by simp only [TV.ren]
  | .int _, _ => by simp only [TV.ren]
  | .str _, _ => by simp only [TV.ren]
  | .con _, _ => by simp only [TV.ren]
  | .cls _, _ => by simp only [TV.ren]
  | .lsc _, _ => by simp only [TV.ren]
theorem rens_low : ∀ (ts : List TV), TV.low.lows n ts = true → rens ρ ts = ts
  | [], _ => by simp only [rens]
  | t :: ts, h => by
    simp only [TV.low.lows, Bool.and_eq_true] at h
    simp only [rens]
    rw [ren_low t h.1, rens_low ts h.2]
theorem renk_low : ∀ (ts : List (Key × TV)), TV.low.lowk n ts = true → renk ρ ts = ts
  | [], _ => by simp only [renk]
  | (k, t) :: ts, h => by
    simp only [TV.low.lowk, Bool.and_eq_true] at h
    simp only [renk]
    rw [ren_low t h.1, renk_low ts h.2]
theorem rent_low : ∀ (ts : List (List Key × TV)), TV.low.lowt n ts = true → rent ρ ts = ts
  | [], _ => by simp only [rent]
  | (k, t) :: ts, h => by
    simp only [TV.low.lowt, Bool.and_eq_true] at h
    simp only [rent]
    rw [ren_low t h.1, rent_low ts h.2]
theorem renf_low : ∀ (ts : List (Str × TV)), TV.low.lowf n ts = true → renf ρ ts = ts
  | [], _ => by simp only [renf]
  | (k, t) :: ts, h => by
    simp only [TV.low.lowf, Bool.and_eq_true] at h
    simp only [renf]
    rw [ren_low t h.1, renf_low ts h.2]
end
end
/-- g by other numbers -/
def Gh.ren (g : Gh) (ρ : Nat → Nat) (n : Nat) : Gh := { g with A := fun j => g.A (ρ j), n := n }
section
variable {M : Md} {g : Gh} {ρ : Nat → Nat} {n : Nat}
mutual
theorem RV.unren : ∀ (t : TV) {v : V}, RV M g (t.ren ρ) v → t.low n = true → RV M (g.ren ρ n) t v
  | .cel j, v, r, h => by
    simp only [TV.ren] at r
    cases r with
    | cel _ => exact RV.cel (g := g.ren ρ n) (of_decide_eq_true h)
  | .lst xs, v, r, h => by
    simp only [TV.ren] at r
    cases r with
    | lst h1 r => exact .lst h1 (RVs.unren xs r h)
  | .tup xs, v, r, h => by
    simp only [TV.ren] at r
    cases r with
    | tup h1 r => exact .tup h1 (RVs.unren xs r h)
    | tupK h1 r => exact .tupK h1 (RVs.unren xs r h)
  | .dct xs, v, r, h => by
    simp only [TV.ren] at r
    cases r with
    | dct h1 r => exact .dct h1 (RKs.unren xs r h)
  | .dtt xs, v, r, h => by
    simp only [TV.ren] at r
    cases r with
    | dtt h1 r => exact .dtt h1 (RTs.unren xs r h)
  | .obj c xs, v, r, h => by
    simp only [TV.ren] at r
    cases r with
    | obj h0 h1 r => exact .obj h0 h1 (RFs.unren xs r h)
  | .non, v, r, h => by simp only [TV.ren] at r; cases r; exact .non
  | .bl _, v, r, h => by simp only [TV.ren] at r; cases r; exact .bl
  | .int _, v, r, h => by simp only [TV.ren] at r; cases r; exact .int
  | .str _, v, r, h => by simp only [TV.ren] at r; cases r; exact .str
  | .con _, v, r, h => by simp only [TV.ren] at r; cases r; exact .con
  | .cls _, v, r, h => by simp only [TV.ren] at r; cases r with | cls h => exact .cls h
  | .lsc _, v, r, h => by
    simp only [TV.ren] at r
    cases r with
    | lsc h1 => exact .lsc h1
    | lscK h1 => exact .lscK h1
theorem RVs.unren : ∀ (ts : List TV) {vs : List V}, RVs M g (rens ρ ts) vs → TV.low.lows n ts = true → RVs M (g.ren ρ n) ts vs
  | [], vs, r, _ => by simp only [rens] at r; cases r; exact .nil
  | t :: ts, vs, r, h => by
    simp only [rens] at r
    simp only [TV.low.lows, Bool.and_eq_true] at h
    cases r with
    | cons r1 r2 => exact .cons (RV.unren t r1 h.1) (RVs.unren ts r2 h.2)
theorem RKs.unren : ∀ (ts : List (Key × TV)) {vs : List (Key × V)}, RKs M g (renk ρ ts) vs → TV.low.lowk n ts = true → RKs M (g.ren ρ n) ts vs
  | [], vs, r, _ => by simp only [renk] at r; cases r; exact .nil
  | (k, t) :: ts, vs, r, h => by
    simp only [renk] at r
    simp only [TV.low.lowk, Bool.and_eq_true] at h
    cases r with
    | cons r1 r2 => exact .cons (RV.unren t r1 h.1) (RKs.unren ts r2 h.2)
theorem RTs.unren : ∀ (ts : List (List Key × TV)) {vs : List (List Key × V)}, RTs M g (rent ρ ts) vs → TV.low.lowt n ts = true → RTs M (g.ren ρ n) ts vs
  | [], vs, r, _ => by simp only [rent] at r; cases r; exact .nil
  | (k, t) :: ts, vs, r, h => by
    simp only [rent] at r
    simp only [TV.low.lowt, Bool.and_eq_true] at h
    cases r with
    | cons r1 r2 => exact .cons (RV.unren t r1 h.1) (RTs.unren ts r2 h.2)
theorem RFs.unren : ∀ (ts : List (Str × TV)) {vs : List (Str × V)}, RFs M g (renf ρ ts) vs → TV.low.lowf n ts = true → RFs M (g.ren ρ n) ts vs
  | [], vs, r, _ => by simp only [renf] at r; cases r; exact .nil
  | (k, t) :: ts, vs, r, h => by
    simp only [renf] at r
    simp only [TV.low.lowf, Bool.and_eq_true] at h
    cases r with
    | cons r1 r2 => exact .cons (RV.unren t r1 h.1) (RFs.unren ts r2 h.2)
end
theorem RN.unren {t : TV} {o : HO} (r : RN M g (t.ren ρ) o) (h : t.low n = true) : RN M (g.ren ρ n) t o := by
  cases t <;> (simp only [TV.ren] at r; first | exact r.elim | skip)
  · obtain ⟨vs, e, q⟩ := r; exact ⟨vs, e, q.unren _ h⟩
  · obtain ⟨vs, e, q⟩ := r; exact ⟨vs, e, q.unren _ h⟩
  · obtain ⟨vs, e, q⟩ := r; exact ⟨vs, e, q.unren _ h⟩
  · obtain ⟨C, dx, ws, e, h1, q⟩ := r; exact ⟨C, dx, ws, e, h1, q.unren _ h⟩
end

/-- C' is C0 (which came of C) by other numbers, with less cells -/
structure Vw (ρ : Nat → Nat) (C C0 C' : Tab) : Prop where
  le : C.length ≤ C'.length
  id : ∀ j, j < C.length → ρ j = j
  inj : ∀ i j, i < C'.length → j < C'.length → ρ i = ρ j → i = j
  c : ∀ j c, C'[j]? = some c → (C[j]? = some c ∧ C0[ρ j]? = some c) ∨ (C0[ρ j]? = some (c.ren ρ) ∧ c.low C'.length = true)
theorem RC.low {M : Md} {g : Gh} {H : Hp} {a : Addr} {c : Cell} (r : RC M g H a c) : c.low g.n = true := by
  cases c with
  | own t => obtain ⟨_, _, q, _⟩ := r; exact q.low
  | lck t => obtain ⟨_, _, q, _⟩ := r; exact q.low
  | frz t => exact RV.low r
theorem low_le {n m : Nat} (h : n ≤ m) {t : TV} {M : Md} {g : Gh} : True := trivial
mutual
theorem TV.low_mono {n m : Nat} (h : n ≤ m) : ∀ (t : TV), t.low n = true → t.low m = true
  | .cel j, e => decide_eq_true (Nat.lt_of_lt_of_le (of_decide_eq_true e) h)
  | .lst xs, e => lows_mono h xs e
  | .tup xs, e => lows_mono h xs e
  | .dct xs, e => lowk_mono h xs e
  | .dtt xs, e => lowt_mono h xs e
  | .obj c xs, e => lowf_mono h xs e
  | .non, _ => rfl
  | .bl _, _ => rfl
  | .int _, _ => rfl
  | .str _, _ => rfl
  | .con _, _ => rfl
  | .cls _, _ => rfl
  | .lsc _, _ => rfl
theorem lows_mono {n m : Nat} (h : n ≤ m) : ∀ (ts : List TV), TV.low.lows n ts = true → TV.low.lows m ts = true
  | [], _ => rfl
  | t :: ts, e => by
    simp only [TV.low.lows, Bool.and_eq_true] at e ⊢
    exact ⟨TV.low_mono h t e.1, lows_mono h ts e.2⟩
theorem lowk_mono {n m : Nat} (h : n ≤ m) : ∀ (ts : List (Key × TV)), TV.low.lowk n ts = true → TV.low.lowk m ts = true
  | [], _ => rfl
  | (k, t) :: ts, e => by
    simp only [TV.low.lowk, Bool.and_eq_true] at e ⊢
    exact ⟨TV.low_mono h t e.1, lowk_mono h ts e.2⟩
theorem lowt_mono {n m : Nat} (h : n ≤ m) : ∀ (ts : List (List Key × TV)), TV.low.lowt n ts = true → TV.low.lowt m ts = true
  | [], _ => rfl
  | (k, t) :: ts, e => by
    simp only [TV.low.lowt, Bool.and_eq_true] at e ⊢
    exact ⟨TV.low_mono h t e.1, lowt_mono h ts e.2⟩
theorem lowf_mono {n m : Nat} (h : n ≤ m) : ∀ (ts : List (Str × TV)), TV.low.lowf n ts = true → TV.low.lowf m ts = true
  | [], _ => rfl
  | (k, t) :: ts, e => by
    simp only [TV.low.lowf, Bool.and_eq_true] at e ⊢
    exact ⟨TV.low_mono h t e.1, lowf_mono h ts e.2⟩
end
theorem Cell.ren_live {ρ : Nat → Nat} (c : Cell) : (c.ren ρ).live = c.live := by cases c <;> rfl
theorem Cell.ren_low {ρ : Nat → Nat} {n : Nat} (hρ : ∀ j, j < n → ρ j = j) {c : Cell} (h : c.low n = true) : c.ren ρ = c := by
  cases c with
  | own t => show Cell.own (t.ren ρ) = _; rw [FH.ren_low hρ t h]
  | lck t => show Cell.lck (t.ren ρ) = _; rw [FH.ren_low hρ t h]
  | frz t => show Cell.frz (t.ren ρ) = _; rw [FH.ren_low hρ t h]
/-- the cells by other numbers -/
theorem Vw.rh {M : Md} {g g0 : Gh} {ρ : Nat → Nat} {C C0 C' : Tab} {H H0 : Hp} (v : Vw ρ C C0 C') (R : RH M g C H) (R0 : RH M g0 C0 H0) (e : Ext g g0) :
    RH M (g0.ren ρ C'.length) C' H0 ∧ Ext g (g0.ren ρ C'.length) := by
  have uni : ∀ j c, C'[j]? = some c → C0[ρ j]? = some (c.ren ρ) ∧ c.low C'.length = true := fun j c h => by
    rcases v.c j c h with ⟨h1, h2⟩ | h1
    · have lo := (R.c j c h1).low
      rw [R.n] at lo
      exact ⟨by rw [Cell.ren_low v.id lo]; exact h2, TV.low_mono v.le _ lo⟩
    · exact h1
  refine ⟨⟨R0.b, R0.l, rfl, fun j c h => ?_, fun i j c d hi hj li lj ea => ?_, R0.d⟩, ⟨e.B, e.L, by rw [R.n]; exact v.le, fun j hj => ?_⟩⟩
  · obtain ⟨h1, h2⟩ := uni j c h
    have q := R0.c (ρ j) _ h1
    cases c with
    | own t => obtain ⟨o, q1, q2, q3, q4⟩ := q; exact ⟨o, q1, q2.unren h2, q3, q4⟩
    | lck t => obtain ⟨o, q1, q2, q3, q4⟩ := q; exact ⟨o, q1, q2.unren h2, q3, q4⟩
    | frz t => exact RV.unren t q h2
  · obtain ⟨h1, _⟩ := uni i c hi
    obtain ⟨h2, _⟩ := uni j d hj
    have q := R0.i (ρ i) (ρ j) _ _ h1 h2 (by rw [Cell.ren_live]; exact li) (by rw [Cell.ren_live]; exact lj) ea
    exact v.inj i j (List.getElem?_eq_some_iff.mp hi).1 (List.getElem?_eq_some_iff.mp hj).1 q
  · show g0.A (ρ j) = g.A j
    rw [v.id j (by rw [← R.n]; exact hj)]
    exact e.A j hj
end FH
/-! FhD: a def by its body, a def called. -/
namespace FH
open PySem L2
open PySem.Spec PyProof.Rows

def Lv (C : Tab) (r : SR) : Res TV → Prop
  | .stuck => True
  | .ok t C' => (∃ t0 C0 ρ, r = .rt t0 C0 ∧ Vw ρ C C0 C' ∧ t0 = t.ren ρ ∧ t.low C'.length = true) ∨ (∃ s C0 ρ, r = .nx s C0 ∧ t = .non ∧ Vw ρ C C0 C')
  | .exc x C' => ∃ x0 s C0 ρ, r = .exc x0 s C0 ∧ Vw ρ C C0 C' ∧ x0.c = x.c ∧ x0.fs = renf ρ x.fs ∧ TV.low.lowf C'.length x.fs = true
theorem RX.unren {Y : Xd} {g : Gh} {ρ : Nat → Nat} {n : Nat} {x x0 : Exc} {cls : Value} {d : Option Addr} (r : RX Y g x0 cls d) (h1 : x0.c = x.c) (h2 : x0.fs = renf ρ x.fs) (h3 : TV.low.lowf n x.fs = true) : RX Y (g.ren ρ n) x cls d := by
  obtain ⟨c, q⟩ := r
  refine ⟨by rw [← h1]; exact c, ?_⟩
  rcases q with ⟨q1, q2⟩ | ⟨dd, ws, q1, q2, q3⟩
  · refine .inl ⟨q1, ?_⟩
    rw [q2] at h2
    cases e : x.fs with
    | nil => rfl
    | cons p r => obtain ⟨k, t⟩ := p; rw [e] at h2; simp [renf] at h2
  · rw [h2] at q3
    exact .inr ⟨dd, ws, q1, q2, RFs.unren _ q3 h3⟩
/-- a statement's end, seen from the caller -/
theorem lv_fin {Y : Xd} {g : Gh} {C : Tab} {H : Hp} {r : SR} {q : Res TV} {Q : VK} {E : XK} (R : RH Y.M g C H) (l : Lv C r q) (f : Fin Y g E q fun t g' _ H' => ∀ v, RV Y.M g' t v → Q v H') :
    SFin Y g (fun cls d _ H' => E cls d H') { nx := fun _ H' => Q .non H', rt := Q } r := by
  cases q with
  | stuck => exact f.elim
  | ok t C' =>
    rcases l with ⟨t0, C0, ρ, rfl, vw, rfl, lo⟩ | ⟨s, C0, ρ, rfl, rfl, vw⟩
    · intro g0 H0 v e R0 rv
      obtain ⟨R', e'⟩ := vw.rh R R0 e
      exact f _ H0 e' R' v (RV.unren t rv lo)
    · intro g0 H0 σ' e R0 _
      obtain ⟨R', e'⟩ := vw.rh R R0 e
      exact f _ H0 e' R' _ .non
  | exc x C' =>
    obtain ⟨x0, s, C0, ρ, rfl, vw, h1, h2, h3⟩ := l
    intro g0 H0 σ' cls d e R0 _ rx
    obtain ⟨R', e'⟩ := vw.rh R R0 e
    exact f _ H0 cls d e' R' (rx.unren h1 h2 h3)
def st0 (n : Nat) (ts : List TV) : Slots := ts.map some ++ List.replicate (n - ts.length) none
theorem RVs.length {M : Md} {g : Gh} : ∀ {ts : List TV} {vs : List V}, RVs M g ts vs → ts.length = vs.length
  | _, _, .nil => rfl
  | _, _, .cons _ r => by simp [RVs.length r]
theorem RVs.get {M : Md} {g : Gh} : ∀ {ts : List TV} {vs : List V} {i : Nat} {t : TV}, RVs M g ts vs → ts[i]? = some t → ∃ v, vs[i]? = some v ∧ RV M g t v
  | _, _, i, t, .nil, h => by simp at h
  | _, _, 0, t, .cons r _, h => by simp at h; subst h; exact ⟨_, rfl, r⟩
  | _, _, i + 1, t, .cons _ r, h => by
    obtain ⟨v, h1, h2⟩ := RVs.get (i := i) (t := t) r (by simpa using h)
    exact ⟨v, by simpa using h1, h2⟩
theorem RS.start {M : Md} {g : Gh} {N : List Str} {ts : List TV} {vs : List V} (r : RVs M g ts vs) : RS M g (st0 N.length ts) (L2.start N vs) := by
  have hl := r.length
  refine ⟨by simp [st0, L2.start, hl], fun i t h => ?_⟩
  unfold st0 at h
  by_cases hi : i < ts.length
  · rw [List.getElem?_append_left (by simpa using hi), List.getElem?_map] at h
    cases e : ts[i]? with
    | none => rw [e] at h; cases h
    | some u =>
      rw [e] at h; cases h
      obtain ⟨v, h1, h2⟩ := r.get e
      refine ⟨v, ?_, h2⟩
      unfold L2.start
      rw [List.getElem?_append_left (by simp; omega), List.getElem?_map, h1]
      rfl
  · rw [List.getElem?_append_right (by simpa using hi), List.getElem?_replicate] at h
    split at h <;> cases h

section
variable {P : Program} {w : World} {Y : Xd} {mg : Str → Option Value} {base : Heap}
/-- a def by its body -/
theorem FnT.of {k : Nat} {f : Addr} {fd : FuncData} {x qual : Str} {st : Stmt} {N ps : List Str} {F : FM} {m : SM} (Fu : Fun Y.M.K x qual st f fd) (S : FnScope N ps (defScope st))
    (hb : ∀ (cdv : Value) (A : Around) (outer : List Env) (s : Shared) (H : Hp) (E : XK), Rm k (A.deeper (envOfC qual (defScope st) s.heap.objs.size f cdv)) →
      PSs (cxOf (L2.CX P w) P w Y.M.K mg base N qual (defScope st) f cdv A outer s H E) (defBody st) (tS Y (fun cls d _ H' => E cls d H') m))
    (hF : ∀ ts C, ts.length = ps.length → Lv C (m (st0 N.length ts) C) (F ts C)) : FnT P w Y mg base (k + 1) f fd ps F := by
  obtain ⟨oc, od, kV, doc, pm, an, cdv, ct, osl, rfl, lk, hcd⟩ := Fu.ex
  constructor
  intro A outer s H args us vs Q E hr e0 bd r hl hsp
  have hlv : vs.length = ps.length := by rw [r.length]; exact hl
  have KX : Y.M.K.In s.heap := e0.mod.kin.keeps fun b o e => (e0.bs b o e).1
  have lim : s.heap.NoLimit := e0.mod.nolimit.keeps fun b o e => (e0.bs b o e).1
  refine codeAny_call_function hr.room.depth (KX _ _ lk) rfl S.co S.gen rfl (PySem.W.codeRec_of KX hcd) (bd _ _ _ _ ?_)
  refine wpAny_newFunctionEnv_cells S.kind (fun ⟨n, v⟩ hy => ?_) fun env he s1 x => ?_
  · rcases S.par n (List.of_mem_zip hy).1 with q | q
    · exact .inl q
    · exact .inr ⟨q, PySem.W.cellsFrom_some _ _ _ (.inl q)⟩
  · subst he
    refine ⟨lim.keeps x.toInCall.keep, codeAny_func ?_⟩
    have I := inv_start (CX := L2.CX P w) (E := E) S hr.room.hd e0 hlv r x
    obtain ⟨g, C, ts, R, rv, fin⟩ := hsp
    have q : tS Y (fun cls d _ H' => E cls d H') m { nx := fun _ H' => Q .non H', rt := Q } (L2.start N vs) H :=
      ⟨g, st0 N.length ts, C, RS.start rv, R, lv_fin R (hF ts C (by rw [rv.length]; exact hlv)) fin⟩
    refine wpAny_mono ((hb cdv A outer s H E (hr.deeper _)).run [] s1 _ H _ I q) (fun fl s' hs => ?_) fun e s' hs => hs
    cases fl with
    | ret u =>
      obtain ⟨v, σ', H', J, rv, q⟩ := hs
      exact ⟨v, H', J.os, J.bare, J.base, J.hok, rv, q⟩
    | next =>
      obtain ⟨σ', H', J, q⟩ := hs
      exact ⟨.non, H', J.os, J.bare, J.base, J.hok, rfl, q⟩
    | brk =>
      obtain ⟨_, _, _, q⟩ := hs
      exact q.elim
    | cont =>
      obtain ⟨_, _, _, q⟩ := hs
      exact q.elim
end

section
variable {X : Cx} {Y : Xd} {W : WX} {k : Nat} {f C : Addr} {fd : FuncData} {ps : List Str} {F : FM} {ds : List Value} {dts : List TV} {x m : Str} {p pos apos : Pos} {e o : Expr} {es : List Expr} {ma : EM (List TV)} {mo : EM TV}
def mCall (F : FM) (dts : List TV) (ma : EM (List TV)) : EM TV := fun s C => (ma s C).bind fun ts C1 => F (ts ++ dts) C1
/-- the callee runs -/
theorem run_T (G : FnT X.prog X.w Y X.mg X.base k f fd ps F) (hK : X.K = Y.M.K) (hr : Rm k X.A) (hb : Binds X.K fd ps ds) (tk : Takes X W) {pins : List (Addr × Obj)} {σ : L2.St} {H : Hp} {s : Shared} {Q : VK} {us : List Value} {vs dvs : List V} (hd : Vals dvs ds)
    (hl : vs.length + dvs.length = ps.length) (I : Inv X pins σ H s) (r : Vals vs us) (h : spF Y F (vs ++ dvs) H Q fun cls d H' => W cls d σ H') : wpAny (model X.prog X.w) X.A (call (.ref f) us) (EP X pins σ Q) X.xe s := by
  have r2 : Vals (vs ++ dvs) (us ++ ds) := r.append hd
  have hl' : (us ++ ds).length = ps.length := by rw [← r2.length, List.length_append]; exact hl
  have e0 : Env0 X.prog X.w Y.M.K X.mg X.base X.A X.stack s H := hK ▸ I.env0
  refine wpAny_call (codeAny_mono (G.run X.A X.stack s H ⟨us, []⟩ (us ++ ds) (vs ++ dvs) Q _ hr e0 (hb s us I.kIn hl') r2 hl' h) fun r s' hq => ?_)
  cases r with
  | error e => exact tk e s' (XE.of_call I (fun _ _ _ h => h) hq)
  | ok fl =>
    cases fl with
    | ret u => exact I.after hq
    | next => exact hq.elim
    | brk => exact hq.elim
    | cont => exact hq.elim
theorem RVs.append {M : Md} {g : Gh} : ∀ {ts us : List TV} {vs ws : List V}, RVs M g ts vs → RVs M g us ws → RVs M g (ts ++ us) (vs ++ ws)
  | _, _, _, _, .nil, r => r
  | _, _, _, _, .cons a b, r => .cons a (RVs.append b r)
/-- what a default may be: a value that needs no heap -/
inductive DV : TV → V → Prop where
  | non : DV .non .non
  | bl {b : Bool} : DV (.bl b) (.bl b)
  | int {i : Int} : DV (.int i) (.int i)
  | str {x : Str} : DV (.str x) (.str x)
theorem DV.rv {M : Md} {g : Gh} {t : TV} {v : V} (d : DV t v) : RV M g t v := by cases d <;> constructor
theorem dvs_rv {M : Md} {g : Gh} : ∀ {ts : List TV} {vs : List V}, Paired DV ts vs → RVs M g ts vs
  | _, _, .nil => .nil
  | _, _, .cons a b => .cons a.rv (dvs_rv b)
theorem call_sp {σ : L2.St} {H : Hp} {Q : VK} {dvs : List V} (hd : Paired DV dts dvs) (h : tE Y W (mCall F dts ma) σ H Q) :
    tA Y W ma σ H fun vs H1 => spF Y F (vs ++ dvs) H1 Q fun cls d H' => W cls d σ H' := by
  obtain ⟨g, s, C, rs, R, f⟩ := h
  refine ⟨g, s, C, rs, R, (Fin.bind f).imp fun ts g1 C1 H1 e R1 q vs rv => ?_⟩
  exact ⟨g1, C1, ts ++ dts, R1, rv.append (dvs_rv hd), q⟩
/-- arguments, so many -/
structure SA (X : Cx) (Y : Xd) (W : WX) (es : List Expr) (ma : EM (List TV)) : Prop where
  pa : PA X es (tA Y W ma)
  len : ∀ s C ts C', ma s C = .ok ts C' → ts.length = es.length
/-- f(e, ..) -/
theorem se_call (G : FnT X.prog X.w Y X.mg X.base k f fd ps F) (hK : X.K = Y.M.K) (hr : Rm k X.A) (hg : Gl X x) (hm : X.mg x = some (.ref f)) (hk : PySem.W.keepIn X.K (.ref f) = true) (hb : Binds X.K fd ps ds) (tk : Takes X W) {dvs : List V} (hdt : Paired DV dts dvs) (hd : Vals dvs ds)
    (hn : (e :: es).length + dvs.length = ps.length) (ha : SA X Y W (e :: es) ma) (hdb : (x == ("__debug__" : Str)) = false := by decide) (he : starEach (e :: es) X.env = (false, eval e X.env) :: starEach es X.env := by rfl)
    (hpl : (backTo pos (starEach es X.env)).any (·.1) = false := by rfl) : PE X (.Call (.Name x p) (e :: es) [] pos) (tE Y W (mCall F dts ma)) := by
  refine ⟨fun pins s σ H Q I h => ?_⟩
  refine wpAny_Call_Name_kw (ld_glob I hg hm ?_ hdb)
  obtain ⟨g, sl, C, rs, R, f0⟩ := h
  have h' : tA Y W ma σ H fun vs H1 => vs.length = (e :: es).length ∧ spF Y F (vs ++ dvs) H1 Q fun cls d H' => W cls d σ H' := by
    refine ⟨g, sl, C, rs, R, ?_⟩
    cases hq : ma sl C with
    | stuck => rw [mCall, hq] at f0; exact f0.elim
    | exc x0 C1 => rw [mCall, hq] at f0; exact f0
    | ok ts C1 =>
      rw [mCall, hq] at f0
      intro g1 H1 e1 R1 vs rv
      exact ⟨by rw [← rv.length]; exact ha.len _ _ _ _ hq, g1, C1, ts ++ dts, R1, rv.append (dvs_rv hdt), Fin.ext e1 f0⟩
  refine PySem.W.callWith_K (h₀ := X.base) I.ok.mod.kin hk (thn (ha.pa.run pos pins s σ H _ I h') fun us s1 ⟨vs, H1, I1, r, q1, q2⟩ => ⟨I1.kIn, ?_⟩) he hpl
  exact run_T G hK hr hb tk hd (by rw [q1]; exact hn) I1 r q2
end
end FH
/-! FhE: expressions. -/
namespace FH
open PySem L2
open PySem.Spec PyProof.Rows

/-- a value, seen through its cell -/
def rd (C : Tab) : TV → TV
  | .cel j => match C[j]? with
    | some c => c.tree
    | none => .non
  | t => t
/-- what is so of a value and its tree -/
def RR (M : Md) (g : Gh) (H : Hp) : TV → V → Prop
  | .non, v => v = .non
  | .bl b, v => v = .bl b
  | .int i, v => v = .int i
  | .str x, v => v = .str x
  | .con u, v => v = u
  | .cls c, v => ∃ A, v = .ref A ∧ M.cl c = some A
  | .lsc ns, v => ∃ a, v = .ref a ∧ SqL M.K H a (ns.map V.int)
  | .lst xs, v => ∃ a vs, v = .ref a ∧ H a = some (.lst vs) ∧ RVs M g xs vs
  | .tup xs, v => ∃ a vs, v = .ref a ∧ SqT M.K H a vs ∧ RVs M g xs vs
  | .dct kvs, v => ∃ a ws, v = .ref a ∧ Rq H a (.dK ws) ∧ RKs M g kvs ws
  | .dtt kvs, v => ∃ a ws, v = .ref a ∧ Rq H a (.dT ws) ∧ RTs M g kvs ws
  | .obj c fs, v => ∃ a C dx ws, v = .ref a ∧ H a = some (.ins C dx ws) ∧ M.cl c = some C ∧ RFs M g fs ws
  | .cel _, _ => True
theorem RN.rr {M : Md} {g : Gh} {H : Hp} {a : Addr} {t : TV} {o : HO} (r : RN M g t o) (h : Rq H a o) : RR M g H t (.ref a) := by
  cases t <;> first | exact r.elim | skip
  · obtain ⟨vs, rfl, q⟩ := r; exact ⟨a, vs, rfl, h.ins rfl, q⟩
  · obtain ⟨ws, rfl, q⟩ := r; exact ⟨a, ws, rfl, h, q⟩
  · obtain ⟨ws, rfl, q⟩ := r; exact ⟨a, ws, rfl, h, q⟩
  · obtain ⟨C, dx, ws, rfl, h1, q⟩ := r; exact ⟨a, C, dx, ws, rfl, h.ins rfl, h1, q⟩
section
variable {M : Md} {g : Gh} {C : Tab} {H : Hp}
theorem RH.rr0 (R : RH M g C H) {t : TV} {v : V} (r : RV M g t v) : RR M g H t v := by
  cases r with
  | non => rfl
  | bl => rfl
  | int => rfl
  | str => rfl
  | con => rfl
  | cls h => exact ⟨_, rfl, h⟩
  | cel h => trivial
  | lsc h => exact ⟨_, rfl, .inl (.inr ⟨_, (R.b _ _ h).ins rfl⟩)⟩
  | lscK h => exact ⟨_, rfl, .inr h⟩
  | lst h r => exact ⟨_, _, rfl, (R.b _ _ h).ins rfl, r⟩
  | tup h r => exact ⟨_, _, rfl, .inl (R.b _ _ h).rd, r⟩
  | tupK h r => exact ⟨_, _, rfl, .inr h, r⟩
  | dct h r => exact ⟨_, _, rfl, R.b _ _ h, r⟩
  | dtt h r => exact ⟨_, _, rfl, R.b _ _ h, r⟩
  | obj h0 h r => exact ⟨_, _, _, _, rfl, (R.b _ _ h).ins rfl, h0, r⟩
theorem RH.cell (R : RH M g C H) {j : Nat} (h : j < g.n) : ∃ c, C[j]? = some c ∧ RC M g H (g.A j) c := by
  have hl : j < C.length := by rw [← R.n]; exact h
  exact ⟨C[j], List.getElem?_eq_getElem hl, R.c j _ (List.getElem?_eq_getElem hl)⟩
theorem RH.rr (R : RH M g C H) {t : TV} {v : V} (r : RV M g t v) : RR M g H (rd C t) v := by
  cases t <;> first | exact R.rr0 r | skip
  rename_i j
  cases r with
  | cel h =>
    obtain ⟨c, hc, q⟩ := R.cell h
    have e : rd C (.cel j) = c.tree := by simp [rd, hc]
    rw [e]
    cases c with
    | own t => obtain ⟨o, h1, h2, _⟩ := q; exact h2.rr (.inl h1)
    | lck t => obtain ⟨o, h1, h2, _⟩ := q; exact h2.rr h1
    | frz t => exact R.rr0 q
end

/-- a new object: kept for ever, or a cell -/
def alc (m : Bool) (t : TV) (C : Tab) : Res TV := if m then .ok (.cel C.length) (C ++ [.own t]) else .ok t C
section
variable {Y : Xd} {g : Gh} {C : Tab} {H : Hp} {W : Value → Option Addr → Hp → Prop} {Q : VK}
/-- what is wanted of a value -/
abbrev kV' (Y : Xd) (Q : VK) : TV → Gh → Tab → Hp → Prop := fun t g' _ H' => ∀ u, RV Y.M g' t u → Q u H'
theorem alc_new {m : Bool} {t : TV} {o : HO} (R : RH Y.M g C H) (rn : RN Y.M g t o) (f : Fin Y g W (alc m t C) (kV' Y Q)) : ∀ p, H p = none → Q (.ref p) (upd H p o) := by
  intro p hp
  cases m with
  | true =>
    obtain ⟨R', e⟩ := R.addC (Same.upd hp) hp upd_same rn
    refine f _ _ e R' _ ?_
    have q : RV Y.M (g.cell p) (.cel C.length) (.ref ((g.cell p).A C.length)) := .cel (by show _ < g.n + 1; rw [R.n]; exact Nat.lt_succ_self _)
    have ea : (g.cell p).A C.length = p := by show (if C.length = g.n then p else g.A C.length) = p; rw [if_pos R.n.symm]
    rw [ea] at q
    exact q
  | false =>
    obtain ⟨R', e⟩ := R.addB (o := o) (Same.upd hp) hp upd_same
    exact f _ _ e R' _ (rn.rv' (R.Bnone hp))
/-- a new tuple -/
theorem tup_new {xs : List TV} {vs : List V} (R : RH Y.M g C H) (rv : RVs Y.M g xs vs) (f : Fin Y g W (.ok (.tup xs) C) (kV' Y Q)) : ∀ p, H p = none → Q (.ref p) (upd H p (.tup vs)) := by
  intro p hp
  obtain ⟨R', e⟩ := R.addB (o := .tup vs) (Same.upd hp) hp upd_same
  exact f _ _ e R' _ (.tup upd_same (rv.mono e))
theorem val_now {t : TV} {v : V} (R : RH Y.M g C H) (rv : RV Y.M g t v) (f : Fin Y g W (.ok t C) (kV' Y Q)) : Q v H := f g H (Ext.refl g) R v rv
end

/-! ### names, constants -/
def mVar (i : Nat) : EM TV := fun s C => match s[i]? with
  | some (some t) => .ok t C
  | _ => .stuck
def mC (t : TV) : EM TV := fun _ C => .ok t C
section
variable {X : Cx} {Y : Xd} {W : WX} {e a b c : Expr} {es : List Expr} {pos : Pos} {m ma mb mc : EM TV}
theorem se_var (i : Nat) {x : Str} (hN : X.N[i]? = some x := by rfl) (hv : Vis X.env.scope x := by first | exact Or.inl rfl | exact Or.inr (Or.inl rfl) | exact Or.inr (Or.inr rfl)) (hd : (x == ("__debug__" : Str)) = false := by decide)
    (hcd : (x == ("__classdict__" : Str)) = false := by decide) : PE X (.Name x pos) (tE Y W (mVar i)) := by
  refine PE.imp (pe_var hN hv hd hcd) fun σ H Q h => ?_
  obtain ⟨g, s, C, rs, R, f⟩ := h
  unfold mVar at f
  split at f
  · rename_i t ht
    obtain ⟨v, h1, h2⟩ := rs.v i t ht
    exact ⟨v, h1, val_now R h2 f⟩
  · exact f.elim
theorem se_c {t : TV} {v : V} (h : PE X e (tC v)) (d : DV t v) : PE X e (tE Y W (mC t)) := PE.imp h fun σ H Q ⟨g, s, C, rs, R, f⟩ => val_now R d.rv f
theorem se_int {i : Int} {j : Nat} : PE X (.Constant (.int i) j pos) (tE Y W (mC (.int i))) := se_c pe_int .int
theorem se_bl {i : Bool} {j : Nat} : PE X (.Constant (.bool i) j pos) (tE Y W (mC (.bl i))) := se_c pe_bl .bl
theorem se_str {i : Str} {j : Nat} : PE X (.Constant (.str i) j pos) (tE Y W (mC (.str i))) := se_c pe_str .str
theorem se_non {j : Nat} : PE X (.Constant .none j pos) (tE Y W (mC .non)) := se_c pe_non .non

/-! ### arguments -/
def mNil : EM (List TV) := fun _ C => .ok [] C
def mCons (m : EM TV) (ms : EM (List TV)) : EM (List TV) := fun s C => (m s C).bind fun t C1 => (ms s C1).bind fun ts C2 => .ok (t :: ts) C2
theorem sa_nil : SA X Y W [] mNil :=
  ⟨PA.imp pa_nil fun σ H Q ⟨g, s, C, rs, R, f⟩ => f g H (Ext.refl g) R [] .nil, fun s C ts C' h => by cases h; rfl⟩
/-- the reading behind the first of two -/
theorem tE_bind {β : Type} {σ : L2.St} {H : Hp} {g : Gh} {s : Slots} {C : Tab} {f : TV → Tab → Res β} {k : β → Gh → Tab → Hp → Prop} {Q : VK} (rs : RS Y.M g s σ) (R : RH Y.M g C H)
    (h : Fin Y g (fun cls d H' => W cls d σ H') ((m s C).bind f) k) (hq : ∀ t g1 C1 H1 v, Ext g g1 → RS Y.M g1 s σ → RH Y.M g1 C1 H1 → RV Y.M g1 t v → Fin Y g1 (fun cls d H' => W cls d σ H') (f t C1) k → Q v H1) : tE Y W m σ H Q :=
  ⟨g, s, C, rs, R, (Fin.bind h).imp fun t g1 C1 H1 e R1 q v rv => hq t g1 C1 H1 v e (rs.mono e) R1 rv q⟩
theorem sa_cons (h : PE X e (tE Y W m)) {ms : EM (List TV)} (hs : SA X Y W es ms) (hst : starEach (e :: es) X.env = (false, eval e X.env) :: starEach es X.env := by rfl) : SA X Y W (e :: es) (mCons m ms) := by
  refine ⟨PA.imp (pa_cons h hs.pa hst) fun σ H Q ⟨g, s, C, rs, R, f⟩ => ?_, fun s C ts C' hh => ?_⟩
  · refine tE_bind rs R f fun t g1 C1 H1 v e1 rs1 R1 rv f1 => ?_
    refine ⟨g1, s, C1, rs1, R1, (Fin.bind f1).imp fun ts g2 C2 H2 e2 R2 f2 vs rvs => ?_⟩
    exact f2 g2 H2 (Ext.refl g2) R2 (v :: vs) (.cons (rv.mono e2) rvs)
  · unfold mCons at hh
    cases h1 : m s C with
    | stuck => rw [h1] at hh; cases hh
    | exc x C1 => rw [h1] at hh; cases hh
    | ok t C1 =>
      rw [h1] at hh
      cases h2 : ms s C1 with
      | stuck => simp only [Res.bind, h2] at hh; cases hh
      | exc x C2 => simp only [Res.bind, h2] at hh; cases hh
      | ok ts' C2 =>
        simp only [Res.bind, h2] at hh
        cases hh
        simp [hs.len _ _ _ _ h2]

/-! ### operators by values -/
def OpS (Y : Xd) (r : R2) (f : TV → TV → Tab → Res TV) : Prop := ∀ (g : Gh) (C : Tab) (H : Hp) (W : Value → Option Addr → Hp → Prop) (x y : TV) (v w : V) (Q : VK), RH Y.M g C H → RV Y.M g x v → RV Y.M g y w → Fin Y g W (f x y C) (kV' Y Q) → r v w H Q
def UnS (Y : Xd) (r : V → Hp → VK → Prop) (f : TV → Tab → Res TV) : Prop := ∀ (g : Gh) (C : Tab) (H : Hp) (W : Value → Option Addr → Hp → Prop) (x : TV) (v : V) (Q : VK), RH Y.M g C H → RV Y.M g x v → Fin Y g W (f x C) (kV' Y Q) → r v H Q
def CallS (Y : Xd) (r : List V → Hp → VK → Prop) (f : FM) : Prop := ∀ (g : Gh) (C : Tab) (H : Hp) (W : Value → Option Addr → Hp → Prop) (xs : List TV) (vs : List V) (Q : VK), RH Y.M g C H → RVs Y.M g xs vs → Fin Y g W (f xs C) (kV' Y Q) → r vs H Q
def mOp (f : TV → TV → Tab → Res TV) (ma mb : EM TV) : EM TV := fun s C => (ma s C).bind fun x C1 => (mb s C1).bind fun y C2 => f x y C2
def mUn (f : TV → Tab → Res TV) (ma : EM TV) : EM TV := fun s C => (ma s C).bind fun x C1 => f x C1
theorem tOp_of {r : R2} {f : TV → TV → Tab → Res TV} (hs : OpS Y r f) {σ : L2.St} {H : Hp} {Q : VK} (h : tE Y W (mOp f ma mb) σ H Q) : tOp r (tE Y W ma) (tE Y W mb) σ H Q := by
  obtain ⟨g, s, C, rs, R, f0⟩ := h
  refine tE_bind rs R f0 fun x g1 C1 H1 v e1 rs1 R1 rv f1 => ?_
  refine tE_bind rs1 R1 f1 fun y g2 C2 H2 w e2 rs2 R2 rw' f2 => ?_
  exact hs g2 C2 H2 _ x y v w Q R2 (rv.mono e2) rw' f2
theorem se_op {op : Operator} {r : R2} {f : TV → TV → Tab → Res TV} (ho : OpR X (binaryOp op) r) (hs : OpS Y r f) (ha : PE X a (tE Y W ma)) (hb : PE X b (tE Y W mb)) : PE X (.BinOp a op b pos) (tE Y W (mOp f ma mb)) :=
  PE.imp (pe_op ho ha hb) fun _ _ _ h => tOp_of hs h
theorem se_un {op : UnaryOp} {r : V → Hp → VK → Prop} {f : TV → Tab → Res TV} (ho : UnR X (unaryOp op) r) (hs : UnS Y r f) (ha : PE X a (tE Y W ma)) : PE X (.UnaryOp op a pos) (tE Y W (mUn f ma)) :=
  PE.imp (pe_un ho ha) fun σ H Q ⟨g, s, C, rs, R, f0⟩ => tE_bind rs R f0 fun x g1 C1 H1 v e1 rs1 R1 rv f1 => hs g1 C1 H1 _ x v Q R1 rv f1
theorem se_cmp {op : CmpOp} {r : R2} {f : TV → TV → Tab → Res TV} (ho : OpR X (compareOp op) r) (hs : OpS Y r f) (ha : PE X a (tE Y W ma)) (hb : PE X b (tE Y W mb)) (hm : behindInMarks op b = false) : PE X (.Compare a [op] [b] pos) (tE Y W (mOp f ma mb)) :=
  PE.imp (pe_cmpR ho ha hb hm) fun _ _ _ h => tOp_of hs h
theorem se_ix {r : R2} {f : TV → TV → Tab → Res TV} (hr : IxR X r) (hs : OpS Y r f) (ha : PE X a (tE Y W ma)) (hb : PE X b (tE Y W mb)) (hp : PlainIx b := by intro _ _; rfl) : PE X (.Subscript a b pos) (tE Y W (mOp f ma mb)) :=
  PE.imp (pe_ix hr ha hb hp) fun _ _ _ h => tOp_of hs h
/-- two roads, by what comes -/
theorem PE.or {t u : TE} (h : PE X e t) (h' : PE X e u) : PE X e (fun σ H Q => t σ H Q ∨ u σ H Q) :=
  ⟨fun pins s σ H Q I q => q.elim (h.run pins s σ H Q I) (h'.run pins s σ H Q I)⟩
theorem OpS.or {r r' : R2} {f f' : TV → TV → Tab → Res TV} (p : TV → TV → Tab → Bool) (h : OpS Y r f) (h' : OpS Y r' f') : OpS Y (fun x y H Q => r x y H Q ∨ r' x y H Q) (fun x y C => if p x y C then f x y C else f' x y C) := by
  intro g C H W x y v w Q R rx ry fin
  by_cases hp : p x y C = true
  · dsimp only at fin; rw [if_pos hp] at fin; exact .inl (h g C H W x y v w Q R rx ry fin)
  · dsimp only at fin; rw [if_neg hp] at fin; exact .inr (h' g C H W x y v w Q R rx ry fin)

/-! ### tests -/
def mB (m : EM TV) : EM Bool := fun s C => (m s C).bind fun x C1 => match x with
  | .bl b => .ok b C1
  | _ => .stuck
def mNot (m : EM Bool) : EM Bool := fun s C => (m s C).bind fun b C1 => .ok (!b) C1
def mAnd (m n : EM Bool) : EM Bool := fun s C => (m s C).bind fun b C1 => if b = true then n s C1 else .ok false C1
def mOr (m n : EM Bool) : EM Bool := fun s C => (m s C).bind fun b C1 => if b = true then .ok true C1 else n s C1
variable {ta tb : EM Bool}
theorem mB_of {σ : L2.St} {H : Hp} {Q : Bool → Hp → Prop} (h : tT Y W (mB m) σ H Q) : tE Y W m σ H fun x H1 => ∃ k, x = .bl k ∧ Q k H1 := by
  obtain ⟨g, s, C, rs, R, f0⟩ := h
  refine tE_bind rs R f0 fun x g1 C1 H1 v e1 rs1 R1 rv f1 => ?_
  cases x <;> first | exact f1.elim | skip
  cases rv
  exact ⟨_, rfl, f1 g1 H1 (Ext.refl g1) R1⟩
theorem st_val (h : PE X e (tE Y W m)) (he : ∀ whole, isTrue e X.env whole = (do let v ← whole; standAt e.pos; holding [v] (truthy v)) := by intro _; rfl) : PT X e (tT Y W (mB m)) :=
  PT.imp (pt_val h he) fun _ _ _ h => mB_of h
theorem st_cmp {op : CmpOp} {r : R2} {f : TV → TV → Tab → Res TV} (ho : OpR X (compareOp op) r) (hs : OpS Y r f) (ha : PE X a (tE Y W ma)) (hb : PE X b (tE Y W mb)) (hm : behindInMarks op b = false) : PT X (.Compare a [op] [b] pos) (tT Y W (mB (mOp f ma mb))) :=
  PT.imp (pt_cmpR ho ha hb hm) fun σ H Q h => tOp_of hs (mB_of h)
theorem tT_bind {β : Type} {σ : L2.St} {H : Hp} {g : Gh} {s : Slots} {C : Tab} {f : Bool → Tab → Res β} {k : β → Gh → Tab → Hp → Prop} {Q : Bool → Hp → Prop} (rs : RS Y.M g s σ) (R : RH Y.M g C H)
    (h : Fin Y g (fun cls d H' => W cls d σ H') ((ta s C).bind f) k) (hq : ∀ t g1 C1 H1, Ext g g1 → RS Y.M g1 s σ → RH Y.M g1 C1 H1 → Fin Y g1 (fun cls d H' => W cls d σ H') (f t C1) k → Q t H1) : tT Y W ta σ H Q :=
  ⟨g, s, C, rs, R, (Fin.bind h).imp fun t g1 C1 H1 e R1 q => hq t g1 C1 H1 e (rs.mono e) R1 q⟩
theorem st_not (h : PT X a (tT Y W ta)) : PT X (.UnaryOp .Not a pos) (tT Y W (mNot ta)) :=
  PT.imp (pt_not h) fun σ H Q ⟨g, s, C, rs, R, f0⟩ => tT_bind rs R f0 fun t g1 C1 H1 e rs1 R1 f1 => f1 g1 H1 (Ext.refl g1) R1
theorem sw_and1 (h : PT X a (tT Y W ta)) : PW X (.BoolOp .And [a] pos) (tT Y W ta) := pw_and1 h
theorem sw_or1 (h : PT X a (tT Y W ta)) : PW X (.BoolOp .Or [a] pos) (tT Y W ta) := pw_or1 h
theorem sw_and {rest : List Expr} (h : PT X a (tT Y W ta)) (h' : PW X (.BoolOp .And (b :: rest) pos) (tT Y W tb)) : PW X (.BoolOp .And (a :: b :: rest) pos) (tT Y W (mAnd ta tb)) :=
  PW.imp (pw_and h h') fun σ H Q ⟨g, s, C, rs, R, f0⟩ => tT_bind rs R f0 fun t g1 C1 H1 e rs1 R1 f1 => by
    cases t with
    | true => exact ⟨g1, s, C1, rs1, R1, f1⟩
    | false => exact f1 g1 H1 (Ext.refl g1) R1
theorem sw_or {rest : List Expr} (h : PT X a (tT Y W ta)) (h' : PW X (.BoolOp .Or (b :: rest) pos) (tT Y W tb)) : PW X (.BoolOp .Or (a :: b :: rest) pos) (tT Y W (mOr ta tb)) :=
  PW.imp (pw_or h h') fun σ H Q ⟨g, s, C, rs, R, f0⟩ => tT_bind rs R f0 fun t g1 C1 H1 e rs1 R1 f1 => by
    cases t with
    | true => exact f1 g1 H1 (Ext.refl g1) R1
    | false => exact ⟨g1, s, C1, rs1, R1, f1⟩
theorem sw_pt (h : PW X e (tT Y W ta)) : PT X e (tT Y W ta) := h.pt
def mIf (t : EM Bool) (ma mb : EM TV) : EM TV := fun s C => (t s C).bind fun b C1 => if b = true then ma s C1 else mb s C1
theorem se_if (hc : PT X c (tT Y W ta)) (ha : PE X a (tE Y W ma)) (hb : PE X b (tE Y W mb)) : PE X (.IfExp c a b pos) (tE Y W (mIf ta ma mb)) :=
  PE.imp (pe_ifExp hc ha hb) fun σ H Q ⟨g, s, C, rs, R, f0⟩ => tT_bind rs R f0 fun t g1 C1 H1 e rs1 R1 f1 => by
    cases t with
    | true => exact ⟨g1, s, C1, rs1, R1, f1⟩
    | false => exact ⟨g1, s, C1, rs1, R1, f1⟩
/-- and, or, not as values of bools -/
def mAndV (ma mb : EM TV) : EM TV := fun s C => (ma s C).bind fun x C1 => match x with
  | .bl b => if b = true then mb s C1 else .ok (.bl false) C1
  | _ => .stuck
def mOrV (ma mb : EM TV) : EM TV := fun s C => (ma s C).bind fun x C1 => match x with
  | .bl b => if b = true then .ok (.bl true) C1 else mb s C1
  | _ => .stuck
def mNotV (ma : EM TV) : EM TV := fun s C => (ma s C).bind fun x C1 => match x with
  | .bl b => .ok (.bl (!b)) C1
  | _ => .stuck
theorem se_one {op : BoolOp} (h : PE X a (tE Y W ma)) : PE X (.BoolOp op [a] pos) (tE Y W ma) := pe_one h
theorem se_and {rest : List Expr} (h : PE X a (tE Y W ma)) (h' : PE X (.BoolOp .And (b :: rest) pos) (tE Y W mb)) : PE X (.BoolOp .And (a :: b :: rest) pos) (tE Y W (mAndV ma mb)) :=
  PE.imp (pe_and h h') fun σ H Q ⟨g, s, C, rs, R, f0⟩ => tE_bind rs R f0 fun x g1 C1 H1 v e1 rs1 R1 rv f1 => by
    cases x <;> first | exact f1.elim | skip
    rename_i k
    cases rv
    refine ⟨k, rfl, ?_⟩
    cases k with
    | true => exact ⟨g1, s, C1, rs1, R1, f1⟩
    | false => exact val_now R1 .bl f1
theorem se_or {rest : List Expr} (h : PE X a (tE Y W ma)) (h' : PE X (.BoolOp .Or (b :: rest) pos) (tE Y W mb)) : PE X (.BoolOp .Or (a :: b :: rest) pos) (tE Y W (mOrV ma mb)) :=
  PE.imp (pe_or h h') fun σ H Q ⟨g, s, C, rs, R, f0⟩ => tE_bind rs R f0 fun x g1 C1 H1 v e1 rs1 R1 rv f1 => by
    cases x <;> first | exact f1.elim | skip
    rename_i k
    cases rv
    refine ⟨k, rfl, ?_⟩
    cases k with
    | true => exact val_now R1 .bl f1
    | false => exact ⟨g1, s, C1, rs1, R1, f1⟩
theorem se_not (h : PE X a (tE Y W ma)) : PE X (.UnaryOp .Not a pos) (tE Y W (mNotV ma)) :=
  PE.imp (pe_not h) fun σ H Q ⟨g, s, C, rs, R, f0⟩ => tE_bind rs R f0 fun x g1 C1 H1 v e1 rs1 R1 rv f1 => by
    cases x <;> first | exact f1.elim | skip
    rename_i k
    cases rv
    exact ⟨k, rfl, val_now R1 .bl f1⟩
/-- a < b < c -/
def mChain (f f' : TV → TV → Tab → Res TV) (ma mb mc : EM TV) : EM TV := fun s C => (ma s C).bind fun x C1 => (mb s C1).bind fun y C2 => (f x y C2).bind fun z C3 => match z with
  | .bl k => if k = true then (mc s C3).bind fun w C4 => f' y w C4 else .ok (.bl false) C3
  | _ => .stuck
end
end FH
/-! FhF: what the operators do to trees. -/
namespace FH
open PySem L2
open PySem.Spec PyProof.Rows

/-- a value that a key can be -/
def keyOf : TV → Option Key
  | .int i => some (.inl i)
  | .str x => some (.inr x)
  | _ => none
theorem keyOf_rv {M : Md} {g : Gh} {t : TV} {v : V} {k : Key} (h : keyOf t = some k) (r : RV M g t v) : v = L2.kV k := by
  cases t <;> simp only [keyOf] at h <;> cases h <;> cases r <;> rfl
def lookT (kvs : List (Key × TV)) (k : Key) : Option TV := (kvs.find? fun kv => decide (kv.1 = k)).map (·.2)
section
variable {M : Md} {g : Gh}
theorem RKs.look (k : Key) : ∀ {ts : List (Key × TV)} {vs : List (Key × V)}, RKs M g ts vs → (lookT ts k = none ∧ valV vs k = none) ∨ ∃ t v, lookT ts k = some t ∧ valV vs k = some v ∧ RV M g t v
  | _, _, .nil => .inl ⟨rfl, rfl⟩
  | (k', t) :: ts, (_, v) :: vs, .cons a b => by
    by_cases h : k' = k
    · exact .inr ⟨t, v, by simp [lookT, List.find?_cons, h], by simp [valV, List.find?_cons, h], a⟩
    · rcases RKs.look k b with ⟨h1, h2⟩ | ⟨t', v', h1, h2, h3⟩
      · exact .inl ⟨by simpa [lookT, List.find?_cons, h] using h1, by simpa [valV, List.find?_cons, h] using h2⟩
      · exact .inr ⟨t', v', by simpa [lookT, List.find?_cons, h] using h1, by simpa [valV, List.find?_cons, h] using h2, h3⟩
theorem RVs.atI {ts : List TV} {vs : List V} {i : Int} {t : TV} (r : RVs M g ts vs) (h : L2.atI ts i = some t) : ∃ v, L2.atI vs i = some v ∧ RV M g t v := by
  unfold L2.atI at h ⊢
  rw [← r.length]
  cases e : ixN ts.length i with
  | none => rw [e] at h; cases h
  | some j =>
    rw [e] at h
    obtain ⟨v, h1, h2⟩ := r.get (i := j) (t := t) h
    exact ⟨v, h1, h2⟩
theorem rvs_ints : ∀ {ns : List Int}, RVs M g (ns.map TV.int) (ns.map V.int)
  | [] => .nil
  | _ :: _ => .cons .int rvs_ints
theorem RVs.take : ∀ {ts : List TV} {vs : List V} (n : Nat), RVs M g ts vs → RVs M g (ts.take n) (vs.take n)
  | _, _, 0, _ => by simp; exact .nil
  | _, _, _ + 1, .nil => .nil
  | _, _, n + 1, .cons a b => .cons a (RVs.take n b)
theorem RVs.drop : ∀ {ts : List TV} {vs : List V} (n : Nat), RVs M g ts vs → RVs M g (ts.drop n) (vs.drop n)
  | _, _, 0, r => r
  | _, _, _ + 1, .nil => .nil
  | _, _, n + 1, .cons _ b => RVs.drop n b
end

/-! ### arithmetic -/
def addI : Bool → TV → TV → Tab → Res TV := fun m x y C => match rd C x, rd C y with
  | .int i, .int j => .ok (.int (i + j)) C
  | .str i, .str j => if i.length + j.length ≤ sizeLine then .ok (.str (i ++ j)) C else .stuck
  | .lst xs, .lst ys => if xs.length + ys.length ≤ sizeLine then alc m (.lst (xs ++ ys)) C else .stuck
  | .tup xs, .tup ys => if xs ≠ [] ∧ xs.length + ys.length ≤ sizeLine then .ok (.tup (xs ++ ys)) C else .stuck
  | _, _ => .stuck
def subI : TV → TV → Tab → Res TV := fun x y C => match x, y with
  | .int i, .int j => .ok (.int (i - j)) C
  | _, _ => .stuck
/-- a factor within 2 ^ 64, or both great but bounded -/
def mulOk (i j : Int) : Bool := decide (-(2 ^ 64) < i ∧ i < 2 ^ 64) || decide (-(2 ^ 64) < j ∧ j < 2 ^ 64)
def mulI : Bool → TV → TV → Tab → Res TV := fun m x y C => match rd C x, y with
  | .int i, .int j => if mulOk i j then .ok (.int (i * j)) C else .stuck
  | .lst xs, .int k => if -(2 ^ 63) ≤ k ∧ k < 2 ^ 63 ∧ xs.length * k.toNat ≤ sizeLine then alc m (.lst (List.replicate k.toNat xs).flatten) C else .stuck
  | _, _ => .stuck
def modI : TV → TV → Tab → Res TV := fun x y C => match x, y with
  | .int i, .int j => if j ≠ 0 then .ok (.int (i.fmod j)) C else .stuck
  | _, _ => .stuck
def fdivI : TV → TV → Tab → Res TV := fun x y C => match x, y with
  | .int i, .int j => if j ≠ 0 ∧ j.natAbs < 1073741824 then .ok (.int (i.fdiv j)) C else .stuck
  | _, _ => .stuck
def powI : TV → TV → Tab → Res TV := fun x y C => match x, y with
  | .int i, .int j => if 0 ≤ j ∧ j ≤ 10000 ∧ i.natAbs < 2 ^ 128 then .ok (.int (i ^ j.toNat)) C else .stuck
  | _, _ => .stuck
def negI : TV → Tab → Res TV := fun x C => match x with
  | .int i => .ok (.int (-i)) C
  | _ => .stuck
def cmpI (p : Int → Int → Bool) : TV → TV → Tab → Res TV := fun x y C => match x, y with
  | .int i, .int j => .ok (.bl (p i j)) C
  | _, _ => .stuck
theorem rep_map {M : Md} {g : Gh} {ts : List TV} {vs : List V} (r : RVs M g ts vs) : ∀ k : Nat, RVs M g (List.replicate k ts).flatten (List.replicate k vs).flatten
  | 0 => .nil
  | k + 1 => by simp only [List.replicate_succ, List.flatten_cons]; exact r.append (rep_map r k)
theorem RN.lst {M : Md} {g : Gh} {ts : List TV} {vs : List V} (r : RVs M g ts vs) : RN M g (.lst ts) (.lst vs) := ⟨vs, rfl, r⟩
theorem RN.dct {M : Md} {g : Gh} {ts : List (Key × TV)} {vs : List (Key × V)} (r : RKs M g ts vs) : RN M g (.dct ts) (.dK vs) := ⟨vs, rfl, r⟩
/-- what is no cell's own root is the value itself -/
theorem RH.rvtup {M : Md} {g : Gh} {C : Tab} {H : Hp} (R : RH M g C H) {t : TV} {xs : List TV} {v : V} (r : RV M g t v) (e : rd C t = .tup xs) : RV M g (.tup xs) v := by
  cases t <;> first | (simp only [rd] at e; cases e; exact r) | (simp only [rd] at e; cases e) | skip
  rename_i j
  cases r with
  | cel h =>
    obtain ⟨c, hc, q⟩ := R.cell h
    have e' : rd C (.cel j) = c.tree := by simp [rd, hc]
    rw [e'] at e
    cases c with
    | own t => cases e; obtain ⟨_, _, h2, _⟩ := q; exact h2.elim
    | lck t => cases e; obtain ⟨_, _, h2, _⟩ := q; exact h2.elim
    | frz t => cases e; exact q
section
variable {X : Cx} {Y : Xd}
def rAdd4 (K : PySem.W.Frag) : R2 := fun x y H Q => (rI0 (fun i j => .int (i + j)) x y H Q ∨ (∃ i j, x = .str i ∧ y = .str j ∧ i.length + j.length ≤ sizeLine ∧ Q (.str (i ++ j)) H)) ∨ (rCat x y H Q ∨ rCatT K x y H Q)
theorem op_add4 : OpR X (binaryOp .Add) (rAdd4 X.K) := (op_add.or op_add_str).or (op_cat.or op_catT)
theorem RR.lst_inv {M : Md} {g : Gh} {H : Hp} {xs : List TV} {v : V} (r : RR M g H (.lst xs) v) : ∃ a vs, v = .ref a ∧ H a = some (.lst vs) ∧ RVs M g xs vs := r
theorem addI_ok (hK : X.K = Y.M.K) (m : Bool) : OpS Y (rAdd4 X.K) (addI m) := by
  intro g C H W x y v w Q R rx ry f
  have qx := R.rr rx
  have qy := R.rr ry
  unfold addI at f
  split at f
  · rename_i i j ex ey
    rw [ex] at qx; rw [ey] at qy
    exact .inl (.inl ⟨i, j, qx, qy, val_now R .int f⟩)
  · rename_i i j ex ey
    rw [ex] at qx; rw [ey] at qy
    split at f
    · rename_i hl
      exact .inl (.inr ⟨i, j, qx, qy, hl, val_now R .str f⟩)
    · exact f.elim
  · rename_i xs ys ex ey
    rw [ex] at qx; rw [ey] at qy
    obtain ⟨a, vs, rfl, ha, r1⟩ := qx
    obtain ⟨b, ws, rfl, hb, r2⟩ := qy
    split at f
    · rename_i hl
      refine .inr (.inl ⟨a, b, vs, ws, rfl, rfl, ha, hb, by rw [← r1.length, ← r2.length]; exact hl, ?_⟩)
      exact alc_new R (RN.lst (r1.append r2)) f
    · exact f.elim
  · rename_i xs ys ex ey
    rw [ex] at qx; rw [ey] at qy
    obtain ⟨a, vs, rfl, ha, r1⟩ := qx
    obtain ⟨b, ws, rfl, hb, r2⟩ := qy
    split at f
    · rename_i hl
      obtain ⟨hne, hl⟩ := hl
      refine .inr (.inr ⟨a, b, vs, ws, rfl, rfl, hK ▸ ha, hK ▸ hb, fun z => hne ?_, by rw [← r1.length, ← r2.length]; exact hl, fun z => ?_, fun z => ?_⟩)
      · subst z; cases r1; rfl
      · subst z
        cases r2
        rw [List.append_nil] at f
        exact val_now R (R.rvtup rx ex) f
      · exact tup_new R (r1.append r2) f
    · exact f.elim
  · exact f.elim
theorem subI_ok : OpS Y (rI0 fun i j => .int (i - j)) subI := by
  intro g C H W x y v w Q R rx ry f
  unfold subI at f
  split at f
  · cases rx; cases ry; exact ⟨_, _, rfl, rfl, val_now R .int f⟩
  · exact f.elim
def rMul2 : R2 := fun x y H Q => rI CMul (fun i j => .int (i * j)) x y H Q ∨ rRep x y H Q
theorem op_mul2 : OpR X (binaryOp .Mult) rMul2 := op_mul.or op_rep
theorem mulI_ok (m : Bool) : OpS Y rMul2 (mulI m) := by
  intro g C H W x y v w Q R rx ry f
  have qx := R.rr rx
  unfold mulI at f
  split at f
  · rename_i i j ex
    rw [ex] at qx
    cases ry
    split at f
    · rename_i hl
      simp only [mulOk, Bool.or_eq_true, decide_eq_true_eq] at hl
      exact .inl ⟨i, j, qx, rfl, hl, val_now R .int f⟩
    · exact f.elim
  · rename_i xs k ex
    rw [ex] at qx
    obtain ⟨a, vs, rfl, ha, r1⟩ := qx
    cases ry
    split at f
    · rename_i hl
      exact .inr ⟨a, k, vs, rfl, rfl, ha, hl.1, hl.2.1, by rw [← r1.length]; exact hl.2.2, alc_new R (RN.lst (rep_map r1 _)) f⟩
    · exact f.elim
  · exact f.elim
theorem modI_ok : OpS Y (rI (fun _ j => j ≠ 0) fun i j => .int (i.fmod j)) modI := by
  intro g C H W x y v w Q R rx ry f
  unfold modI at f
  split at f
  · cases rx; cases ry
    split at f
    · rename_i hl; exact ⟨_, _, rfl, rfl, hl, val_now R .int f⟩
    · exact f.elim
  · exact f.elim
theorem fdivI_ok : OpS Y (rI CDivN fun i j => .int (i.fdiv j)) fdivI := by
  intro g C H W x y v w Q R rx ry f
  unfold fdivI at f
  split at f
  · cases rx; cases ry
    split at f
    · rename_i hl; exact ⟨_, _, rfl, rfl, hl, val_now R .int f⟩
    · exact f.elim
  · exact f.elim
def CPowW (i j : Int) : Prop := 0 ≤ j ∧ j ≤ 10000 ∧ i.natAbs < 2 ^ 128
theorem pow_bits {i j : Int} (hc : CPowW i j) : (Builtin.Int.intBits i : Int) * j ≤ 2 ^ 27 := by
  have hb := intBits_le hc.2.2
  have h1 : (Builtin.Int.intBits i : Int) * j ≤ 128 * j := Int.mul_le_mul_of_nonneg_right (by omega) hc.1
  have h2 := hc.2.1
  omega
theorem op_powW {X : Cx} : OpR X (binaryOp .Pow) (rI CPowW fun i j => .int (i ^ j.toNat)) := opI fun i j _ _ _ _ _ hc q => pow_int hc.1 (pow_bits hc) q
theorem powI_ok : OpS Y (rI CPowW fun i j => .int (i ^ j.toNat)) powI := by
  intro g C H W x y v w Q R rx ry f
  unfold powI at f
  split at f
  · cases rx; cases ry
    split at f
    · rename_i hl; exact ⟨_, _, rfl, rfl, hl, val_now R .int f⟩
    · exact f.elim
  · exact f.elim
theorem negI_ok : UnS Y (rU fun i => .int (-i)) negI := by
  intro g C H W x v Q R rx f
  unfold negI at f
  split at f
  · cases rx; exact ⟨_, rfl, val_now R .int f⟩
  · exact f.elim
theorem cmpI_ok (p : Int → Int → Bool) : OpS Y (rI0 fun i j => .bl (p i j)) (cmpI p) := by
  intro g C H W x y v w Q R rx ry f
  unfold cmpI at f
  split at f
  · cases rx; cases ry; exact ⟨_, _, rfl, rfl, val_now R .bl f⟩
  · exact f.elim

/-! ### is None -/
def isN (neg : Bool) : TV → TV → Tab → Res TV := fun x y C => match x, y with
  | .con _, _ => .stuck
  | .non, .non => .ok (.bl (!neg)) C
  | _, .non => .ok (.bl neg) C
  | _, _ => .stuck
theorem RV.isnon {M : Md} {g : Gh} {t : TV} {v : V} (r : RV M g t v) (h : ∀ u, t ≠ .con u) : decide (v = .non) = match t with | .non => true | _ => false := by
  cases r <;> first | rfl | exact absurd rfl (h _)
theorem isN_ok : OpS Y (fun x y H Q => y = .non ∧ Q (.bl (decide (x = .non))) H) (isN false) := by
  intro g C H W x y v w Q R rx ry f
  unfold isN at f
  split at f
  · exact f.elim
  · cases rx; cases ry; exact ⟨rfl, val_now R .bl f⟩
  · rename_i h1 h2
    cases ry
    refine ⟨rfl, ?_⟩
    have e : decide (v = V.non) = false := by
      rw [rx.isnon h1]; cases x <;> first | rfl | exact (h2 rfl).elim
    rw [e]
    exact val_now R .bl f
  · exact f.elim
theorem notN_ok : OpS Y (fun x y H Q => y = .non ∧ Q (.bl (!decide (x = .non))) H) (isN true) := by
  intro g C H W x y v w Q R rx ry f
  unfold isN at f
  split at f
  · exact f.elim
  · cases rx; cases ry; exact ⟨rfl, val_now R .bl f⟩
  · rename_i h1 h2
    cases ry
    refine ⟨rfl, ?_⟩
    have e : decide (v = V.non) = false := by
      rw [rx.isnon h1]; cases x <;> first | rfl | exact (h2 rfl).elim
    rw [e]
    exact val_now R .bl f
  · exact f.elim

/-! ### subscripts -/
def ixT : TV → TV → Tab → Res TV := fun x y C => match rd C x with
  | .lst xs => match y with
    | .int i => match atI xs i with
      | some t => .ok t C
      | none => .stuck
    | _ => .stuck
  | .tup xs => match y with
    | .int i => match atI xs i with
      | some t => .ok t C
      | none => .stuck
    | _ => .stuck
  | .lsc ns => match y with
    | .int i => match atI ns i with
      | some n => .ok (.int n) C
      | none => .stuck
    | _ => .stuck
  | .str z => match y with
    | .int i => match atI z.cps.toList i with
      | some c => if z.length ≤ sizeLine then .ok (.str ⟨#[c]⟩) C else .stuck
      | none => .stuck
    | _ => .stuck
  | .dct kvs => match keyOf y with
    | some k => match lookT kvs k with
      | some t => .ok t C
      | none => .stuck
    | none => .stuck
  | _ => .stuck
def rIxD : R2 := fun x y H Q => ∃ a v, x = .ref a ∧ DGet H a y (some v) ∧ Q v H
theorem ix_dict {k : Nat} (hr : Rm k X.A) : IxR X rIxD := by
  intro value slice pins s σ H x y v u Q I rx ry q hs
  obtain ⟨a, vv, rfl, dg, q⟩ := q
  cases rx
  have hT := dict_typeIs I dg
  unfold subscriptTail
  refine wpAny_bind ?_
  rw [getitemInPython_of_ne hT.not_modules]
  refine wpAny_bind (wpAny_specialOf hT PySem.F.slot_dict_getitem.lookup ?_)
  have fin : wpAny (model X.prog X.w) X.A (subscripted slice false (.ref a) u) (fun r s₃ => wpAny (model X.prog X.w) X.A (letTemporaryGo value (.ref a) r >>= fun _ => pure r) (EP X pins σ Q) X.xe s₃) X.xe s := by
    rw [hs]
    refine wpAny_operating (d_getItem (L2.hu_of hr.room) I dg ry fun w' s3 I3 rw' => ?_)
    exact wpAny_bind (wpAny_letTemporaryGo (wpAny_pure ⟨vv, H, I3, rw', q⟩))
  first
    | exact wpAny_pure (wpAny_bind fin)
    | exact wpAny_bind (wpAny_pure (wpAny_bind fin))
    | exact wpAny_bind fin
def rIx4 (K : PySem.W.Frag) : R2 := fun x y H Q => rIx K x y H Q ∨ rIxD x y H Q
theorem ix4 {k : Nat} (hr : Rm k X.A) : IxR X (rIx4 X.K) := ix_seq.or (ix_dict hr)
theorem atI_map {α β : Type} (f : α → β) (xs : List α) (i : Int) : atI (xs.map f) i = (atI xs i).map f := by
  unfold L2.atI
  rw [List.length_map]
  cases ixN xs.length i with
  | none => rfl
  | some j => simp
theorem ixT_ok (hK : X.K = Y.M.K) : OpS Y (rIx4 X.K) ixT := by
  intro g C H W x y v w Q R rx ry f
  have qx := R.rr rx
  unfold ixT at f
  split at f
  · rename_i xs ex
    rw [ex] at qx
    obtain ⟨a, vs, rfl, ha, r1⟩ := qx
    split at f
    · cases ry
      split at f
      · rename_i t ht
        obtain ⟨vv, h1, h2⟩ := r1.atI ht
        exact .inl (.inl ⟨a, vs, _, vv, rfl, rfl, .of ha, h1, val_now R h2 f⟩)
      · exact f.elim
    · exact f.elim
  · rename_i xs ex
    rw [ex] at qx
    obtain ⟨a, vs, rfl, ha, r1⟩ := qx
    split at f
    · cases ry
      split at f
      · rename_i t ht
        obtain ⟨vv, h1, h2⟩ := r1.atI ht
        exact .inl (.inr (.inl ⟨a, vs, _, vv, rfl, rfl, hK ▸ ha, h1, val_now R h2 f⟩))
      · exact f.elim
    · exact f.elim
  · rename_i ns ex
    rw [ex] at qx
    obtain ⟨a, rfl, ha⟩ := qx
    split at f
    · cases ry
      split at f
      · rename_i n hn
        exact .inl (.inl ⟨a, _, _, .int n, rfl, rfl, hK ▸ ha, by rw [atI_map, hn]; rfl, val_now R .int f⟩)
      · exact f.elim
    · exact f.elim
  · rename_i z ex
    rw [ex] at qx
    split at f
    · cases ry
      split at f
      · rename_i c hc
        split at f
        · rename_i hz
          exact .inl (.inr (.inr ⟨z, _, c, qx, rfl, hz, hc, val_now R .str f⟩))
        · exact f.elim
      · exact f.elim
    · exact f.elim
  · rename_i kvs ex
    rw [ex] at qx
    obtain ⟨a, ws, rfl, ha, r1⟩ := qx
    split at f
    · rename_i k hk
      have ek := keyOf_rv hk ry
      subst ek
      split at f
      · rename_i t ht
        rcases r1.look k with ⟨h1, _⟩ | ⟨t', v', h1, h2, h3⟩
        · rw [h1] at ht; cases ht
        · rw [h1] at ht
          cases ht
          exact .inr ⟨a, v', rfl, .inl ⟨ws, k, ha.rd, rfl, h2.symm⟩, val_now R h3 f⟩
      · exact f.elim
    · exact f.elim
  · exact f.elim
end
end FH
/-! FhG: statements. -/
namespace FH
open PySem L2
open PySem.Spec PyProof.Rows

def Res.sr {α : Type} (r : Res α) (s : Slots) (f : α → Tab → SR) : SR := match r with
  | .ok a C => f a C
  | .exc x C => .exc x s C
  | .stuck => .stuck
section
variable {X : Cx} {Y : Xd} {W : WX} {e a b c : Expr} {es : List Expr} {pos : Pos} {m ma mb mc : EM TV} {D : Ends}
theorem SFin.res {α : Type} {g : Gh} {r : Res α} {s : Slots} {C : Tab} {H : Hp} {σ : L2.St} {f : α → Tab → SR} (rs : RS Y.M g s σ) (h : SFin Y g W D (r.sr s f)) :
    Fin Y g (fun cls d H' => W cls d σ H') r fun a g1 C1 H1 => SFin Y g1 W D (f a C1) := by
  cases r with
  | ok a C1 => exact fun g1 H1 e R1 => SFin.ext e h
  | exc x C1 => exact fun g1 H1 cls d e R1 rx => h g1 H1 σ cls d e R1 (rs.mono e) rx
  | stuck => exact h
theorem tS_bind {σ : L2.St} {H : Hp} {g : Gh} {s : Slots} {C : Tab} {f : TV → Tab → SR} {Q : VK} (rs : RS Y.M g s σ) (R : RH Y.M g C H) (h : SFin Y g W D ((m s C).sr s f))
    (hq : ∀ t g1 C1 H1 v, Ext g g1 → RS Y.M g1 s σ → RH Y.M g1 C1 H1 → RV Y.M g1 t v → SFin Y g1 W D (f t C1) → Q v H1) : tE Y W m σ H Q :=
  ⟨g, s, C, rs, R, (SFin.res (C := C) (H := H) rs h).imp fun t g1 C1 H1 e R1 q v rv => hq t g1 C1 H1 v e (rs.mono e) R1 rv q⟩
theorem sT_bind {ta : EM Bool} {σ : L2.St} {H : Hp} {g : Gh} {s : Slots} {C : Tab} {f : Bool → Tab → SR} {Q : Bool → Hp → Prop} (rs : RS Y.M g s σ) (R : RH Y.M g C H) (h : SFin Y g W D ((ta s C).sr s f))
    (hq : ∀ t g1 C1 H1, Ext g g1 → RS Y.M g1 s σ → RH Y.M g1 C1 H1 → SFin Y g1 W D (f t C1) → Q t H1) : tT Y W ta σ H Q :=
  ⟨g, s, C, rs, R, (SFin.res (C := C) (H := H) rs h).imp fun t g1 C1 H1 e R1 q => hq t g1 C1 H1 e (rs.mono e) R1 q⟩

/-! ### rows of statements -/
def nNil : SM := fun s C => .nx s C
def SR.seq (r : SR) (n : SM) : SR := match r with
  | .nx s C => n s C
  | r => r
def nSeq (m n : SM) : SM := fun s C => (m s C).seq n
def nRow : List SM → SM
  | [] => nNil
  | [m] => m
  | m :: ms => nSeq m (nRow ms)
theorem ss_nil : PSs X [] (tS Y W nNil) := PSs.imp pss_nil fun D σ H ⟨g, s, C, rs, R, f⟩ => f g H σ (Ext.refl g) R rs
theorem ss_one {st : Stmt} {n : SM} (h : PS X st (tS Y W n)) : PSs X [st] (tS Y W n) := pss_one h
theorem ss_cons {st : Stmt} {sts : List Stmt} {n k : SM} (h : PS X st (tS Y W n)) (h' : PSs X sts (tS Y W k)) : PSs X (st :: sts) (tS Y W (nSeq n k)) :=
  PSs.imp (pss_cons h h') fun D σ H ⟨g, s, C, rs, R, f⟩ => by
    refine ⟨g, s, C, rs, R, ?_⟩
    have f' : SFin Y g W D ((n s C).seq k) := f
    revert f'
    cases n s C with
    | nx s1 C1 => exact fun f' g1 H1 σ1 e R1 rs1 => ⟨g1, s1, C1, rs1, R1, SFin.ext e f'⟩
    | rt t C1 => exact fun f' => f'
    | bk s1 C1 => exact fun f' => f'
    | ct s1 C1 => exact fun f' => f'
    | exc x s1 C1 => exact fun f' => f'
    | stuck => exact fun f' => f'

/-! ### small statements -/
def nSet (i : Nat) (m : EM TV) : SM := fun s C => (m s C).sr s fun t C1 => .nx (s.set i (some t)) C1
def nExpr (m : EM TV) : SM := fun s C => (m s C).sr s fun _ C1 => .nx s C1
def nRet (m : EM TV) : SM := fun s C => (m s C).sr s fun t C1 => .rt t C1
def nRetN : SM := fun _ C => .rt .non C
def nIf (t : EM Bool) (n k : SM) : SM := fun s C => (t s C).sr s fun b C1 => if b = true then n s C1 else k s C1
theorem ss_set (i : Nat) {x : Str} {pos' : Pos} (hN : X.N.Nodup) (he : PE X e (tE Y W m)) (hi : X.N[i]? = some x := by rfl) (hx : Loc X.env.scope x := by first | exact Or.inl rfl | exact Or.inr rfl) (hs : swapsWith e (some (.Name x pos')) pos.line X.env = pure false := by rfl)
    (hf : X.fn x = true ∨ X.env.scope.names.lookup x = some .local := by first | exact .inl rfl | exact .inr rfl) : PS X (.Assign [.Name x pos'] e pos) (tS Y W (nSet i m)) :=
  PS.imp (ps_set (i := i) hN hi hx he hs hf) fun D σ H ⟨g, s, C, rs, R, f⟩ => tS_bind rs R f fun t g1 C1 H1 v e1 rs1 R1 rv f1 => f1 g1 H1 _ (Ext.refl g1) R1 (rs1.set rv)
theorem ss_expr (he : PE X e (tE Y W m)) (hs : swapsWith e none pos.line X.env = pure false := by rfl) : PS X (.Expr e pos) (tS Y W (nExpr m)) :=
  PS.imp (ps_expr he hs) fun D σ H ⟨g, s, C, rs, R, f⟩ => tS_bind rs R f fun t g1 C1 H1 v e1 rs1 R1 rv f1 => f1 g1 H1 _ (Ext.refl g1) R1 rs1
theorem ss_ret (he : PE X e (tE Y W m)) : PS X (.Return (some e) pos) (tS Y W (nRet m)) :=
  PS.imp (ps_ret he) fun D σ H ⟨g, s, C, rs, R, f⟩ => tS_bind rs R f fun t g1 C1 H1 v e1 rs1 R1 rv f1 => f1 g1 H1 v (Ext.refl g1) R1 rv
theorem ss_retN : PS X (.Return none pos) (tS Y W nRetN) := PS.imp ps_retN fun D σ H ⟨g, s, C, rs, R, f⟩ => f g H .non (Ext.refl g) R .non
theorem ss_pass : PS X (.Pass pos) (tS Y W nNil) := PS.imp ps_pass fun D σ H ⟨g, s, C, rs, R, f⟩ => f g H σ (Ext.refl g) R rs
def nBrk : SM := fun s C => .bk s C
def nCnt : SM := fun s C => .ct s C
theorem ss_break : PS X (.Break pos) (tS Y W nBrk) := PS.imp ps_break fun D σ H ⟨g, s, C, rs, R, f⟩ => f g H σ (Ext.refl g) R rs
theorem ss_continue : PS X (.Continue pos) (tS Y W nCnt) := PS.imp ps_continue fun D σ H ⟨g, s, C, rs, R, f⟩ => f g H σ (Ext.refl g) R rs
theorem ss_if {ta : EM Bool} {x y : List Stmt} {n k : SM} (hc : PT X c (tT Y W ta)) (hx : PSs X x (tS Y W n)) (hy : PSs X y (tS Y W k)) : PS X (.If c x y pos) (tS Y W (nIf ta n k)) :=
  PS.imp (ps_if hc hx hy) fun D σ H ⟨g, s, C, rs, R, f⟩ => sT_bind rs R f fun t g1 C1 H1 e1 rs1 R1 f1 => by
    cases t with
    | true => exact ⟨g1, s, C1, rs1, R1, f1⟩
    | false => exact ⟨g1, s, C1, rs1, R1, f1⟩
theorem PS.or {st : Stmt} {t u : TS} (h : PS X st t) (h' : PS X st u) : PS X st (fun D σ H => t D σ H ∨ u D σ H) :=
  ⟨fun pins s σ H D I q => q.elim (h.run pins s σ H D I) (h'.run pins s σ H D I)⟩

/-! ### o[i] = e -/
def putIx (i : Int) (v : TV) (xs : List TV) : Option (List TV) := (ixN xs.length i).map fun j => xs.set j v
theorem RVs.set {M : Md} {g : Gh} {t : TV} {v : V} (r : RV M g t v) : ∀ {ts : List TV} {vs : List V} (i : Nat), RVs M g ts vs → RVs M g (ts.set i t) (vs.set i v)
  | _, _, _, .nil => .nil
  | _, _, 0, .cons _ b => .cons r b
  | _, _, i + 1, .cons a b => .cons a (RVs.set r i b)
def putT (kvs : List (Key × TV)) (k : Key) (v : TV) : List (Key × TV) :=
  if kvs.any (fun kv => decide (kv.1 = k)) then kvs.map fun kv => if kv.1 = k then (kv.1, v) else kv else kvs ++ [(k, v)]
theorem RKs.any {M : Md} {g : Gh} (k : Key) : ∀ {ts : List (Key × TV)} {vs : List (Key × V)}, RKs M g ts vs → (vs.any fun kv => decide (kv.1 = k)) = ts.any fun kv => decide (kv.1 = k)
  | _, _, .nil => rfl
  | _, _, .cons _ r => by simp [RKs.any k r]
theorem RKs.repl {M : Md} {g : Gh} {t : TV} {v : V} (k : Key) (r : RV M g t v) : ∀ {ts : List (Key × TV)} {vs : List (Key × V)}, RKs M g ts vs → RKs M g (ts.map fun kv => if kv.1 = k then (kv.1, t) else kv) (vs.map fun kv => if kv.1 = k then (kv.1, v) else kv)
  | _, _, .nil => .nil
  | _, _, .cons (k := k') a b => by
    simp only [List.map_cons]
    by_cases h : k' = k
    · rw [if_pos h, if_pos h]; exact .cons r (RKs.repl k r b)
    · rw [if_neg h, if_neg h]; exact .cons a (RKs.repl k r b)
theorem RKs.append {M : Md} {g : Gh} : ∀ {ts us : List (Key × TV)} {vs ws : List (Key × V)}, RKs M g ts vs → RKs M g us ws → RKs M g (ts ++ us) (vs ++ ws)
  | _, _, _, _, .nil, r => r
  | _, _, _, _, .cons a b, r => .cons a (RKs.append b r)
theorem RKs.put {M : Md} {g : Gh} {t : TV} {v : V} (k : Key) (r : RV M g t v) {ts : List (Key × TV)} {vs : List (Key × V)} (h : RKs M g ts vs) : RKs M g (putT ts k t) (putK vs k v) := by
  unfold putT putK
  rw [h.any k]
  split
  · exact h.repl k r
  · exact h.append (.cons r .nil)
theorem RKs.length {M : Md} {g : Gh} : ∀ {ts : List (Key × TV)} {vs : List (Key × V)}, RKs M g ts vs → ts.length = vs.length
  | _, _, .nil => rfl
  | _, _, .cons _ r => by simp [RKs.length r]
/-- o[i] = v -/
def setSub (o i v : TV) (C : Tab) : Option Tab := match o with
  | .cel j => match C[j]? with
    | some (.own (.lst xs)) => match i with
      | .int k => (putIx k v xs).map fun ys => C.set j (.own (.lst ys))
      | _ => none
    | some (.own (.dct kvs)) => (keyOf i).bind fun k => if kvs.length < sizeLine then some (C.set j (.own (.dct (putT kvs k v)))) else none
    | _ => none
  | _ => none
def nSub (mv mo mi : EM TV) : SM := fun s C => (mv s C).sr s fun v C1 => (mo s C1).sr s fun o C2 => (mi s C2).sr s fun i C3 => match setSub o i v C3 with
  | some C4 => .nx s C4
  | none => .stuck
def rSetD : V → V → V → Hp → (Hp → Prop) → Prop := fun o i v H Q => ∃ a H', o = .ref a ∧ DPut H a i v H' ∧ Q H'
theorem set_dict {k : Nat} (hr : Rm k X.A) : PSet X rSetD := by
  intro pins s σ H o i v ov iv u Q I ro ri rv h
  obtain ⟨a, H', rfl, dp, q⟩ := h
  cases ro
  exact d_setItem (L2.hu_of hr.room) I dp ri rv fun s' I' => ⟨H', I', q⟩
theorem PSet.or {t u : TSet} (h : PSet X t) (h' : PSet X u) : PSet X (fun o i v H Q => t o i v H Q ∨ u o i v H Q) := by
  intro pins s σ H o i v ov iv w Q I ro ri rv q
  exact q.elim (h pins s σ H o i v ov iv w Q I ro ri rv) (h' pins s σ H o i v ov iv w Q I ro ri rv)
theorem setSub_ok {g : Gh} {C C' : Tab} {H : Hp} {o i v : TV} {ov iv vv : V} {Q : Hp → Prop} (R : RH Y.M g C H) (ro : RV Y.M g o ov) (ri : RV Y.M g i iv) (rv : RV Y.M g v vv) (h : setSub o i v C = some C')
    (q : ∀ H', RH Y.M g C' H' → Q H') : rSetL ov iv vv H Q ∨ rSetD ov iv vv H Q := by
  cases o <;> first | (simp only [setSub] at h; cases h) | skip
  rename_i j
  cases ro with
  | cel hj =>
    simp only [setSub] at h
    split at h
    · rename_i xs hc
      obtain ⟨ob, h1, ⟨vs, rfl, h2⟩, h3, h4⟩ := R.c j _ hc
      cases i <;> first | (cases h; done) | skip
      rename_i k
      cases ri
      simp only [putIx] at h
      rw [h2.length] at h
      cases e : ixN vs.length k with
      | none => rw [e] at h; cases h
      | some p =>
        rw [e] at h
        cases h
        exact .inl ⟨g.A j, vs, k, p, rfl, rfl, h1, e, q _ (R.wr hc (RN.lst (h2.set rv p)))⟩
    · rename_i kvs hc
      obtain ⟨ob, h1, ⟨ws, rfl, h2⟩, h3, h4⟩ := R.c j _ hc
      cases e : keyOf i with
      | none => rw [e] at h; cases h
      | some k =>
        rw [e] at h
        have ek := keyOf_rv e ri
        subst ek
        simp only [Option.bind] at h
        split at h
        · rename_i hl
          cases h
          exact .inr ⟨g.A j, _, rfl, .inl ⟨ws, k, h1, rfl, by rw [← h2.length]; exact hl, rfl⟩, q _ (R.wr hc (RN.dct (h2.put k rv)))⟩
        · cases h
    · cases h
theorem ss_sub {o i v : Expr} {mo mi mv : EM TV} {k : Nat} {tp : Pos} (hr : Rm k X.A) (ho : PE X o (tE Y W mo)) (hi : PE X i (tE Y W mi)) (hv : PE X v (tE Y W mv))
    (ha : ∀ u, assign (.Subscript o i tp) X.env u = (do
      let ov ← holding [u] (eval o X.env)
      let iv ← holding [u, ov] (eval i X.env)
      standAt tp
      holding [u, ov, iv] (setItem ov iv u)
      release [u, ov, iv] []) := by intro _; rfl)
    (hs : swapsWithSole [.Subscript o i tp] v pos.line X.env = pure false := by rfl) (hw : swappedStores [.Subscript o i tp] v X.env = pure none := by rfl)
    (h1 : (assignEach [.Subscript o i tp] X.env).map (·.2) = [assign (.Subscript o i tp) X.env] := by rfl) : PS X (.Assign [.Subscript o i tp] v pos) (tS Y W (nSub mv mo mi)) := by
  refine PS.imp (ps_asg hv (pg_sub ho hi (PSet.or set_list (set_dict hr)) ha) hs hw h1) fun D σ H ⟨g, s, C, rs, R, f⟩ => ?_
  refine tS_bind rs R f fun vT g1 C1 H1 vv e1 rs1 R1 rv f1 => ?_
  refine tS_bind rs1 R1 f1 fun oT g2 C2 H2 ov e2 rs2 R2 ro f2 => ?_
  refine tS_bind rs2 R2 f2 fun iT g3 C3 H3 iv e3 rs3 R3 ri f3 => ?_
  split at f3
  · rename_i C4 hC
    exact setSub_ok R3 (ro.mono e3) ri ((rv.mono e2).mono e3) hC fun H' R' => f3 g3 H' σ (Ext.refl g3) R' rs3
  · exact f3.elim
end
end FH
/-! FhH: built-ins called. -/
namespace FH
open PySem L2
open PySem.Spec PyProof.Rows
section
variable {X : Cx} {Y : Xd} {W : WX} {e o : Expr} {es : List Expr} {x : Str} {p pos apos : Pos} {ma : EM (List TV)} {mo : EM TV} {id T : String} {r : List V → Hp → VK → Prop} {f : FM}
def mB1 (f : FM) (ma : EM (List TV)) : EM TV := fun s C => (ma s C).bind fun ts C1 => f ts C1
theorem tCB_of (hs : CallS Y r f) {σ : L2.St} {H : Hp} {Q : VK} (h : tE Y W (mB1 f ma) σ H Q) : tCB r (tA Y W ma) σ H Q := by
  obtain ⟨g, s, C, rs, R, f0⟩ := h
  exact ⟨g, s, C, rs, R, (Fin.bind f0).imp fun ts g1 C1 H1 e1 R1 q vs rv => hs g1 C1 H1 _ ts vs Q R1 rv q⟩
theorem se_callB (hc : CallR X (.builtin id) r) (hs : CallS Y r f) (hm : X.mg x = none) (hv : bootBuiltins x = some (.builtin id)) (ha : SA X Y W (e :: es) ma) (hg : Gl X x := by rfl) (hn : x ≠ "__name__" := by decide) (hdb : (x == ("__debug__" : Str)) = false := by decide)
    (he : starEach (e :: es) X.env = (false, eval e X.env) :: starEach es X.env := by rfl) (hpl : (backTo pos (starEach es X.env)).any (·.1) = false := by rfl) : PE X (.Call (.Name x p) (e :: es) [] pos) (tE Y W (mB1 f ma)) :=
  PE.imp (pe_callB hc hg hm hv ha.pa hn hdb he hpl) fun _ _ _ h => tCB_of hs h
theorem se_callTy (hc : CallR X (.type T) r) (hs : CallS Y r f) (hm : X.mg x = none) (hv : bootBuiltins x = some (.type T)) (ha : SA X Y W (e :: es) ma) (hg : Gl X x := by rfl) (hn : x ≠ "__name__" := by decide) (hdb : (x == ("__debug__" : Str)) = false := by decide)
    (he : starEach (e :: es) X.env = (false, eval e X.env) :: starEach es X.env := by rfl) (hpl : (backTo pos (starEach es X.env)).any (·.1) = false := by rfl) : PE X (.Call (.Name x p) (e :: es) [] pos) (tE Y W (mB1 f ma)) :=
  PE.imp (pe_callTy hc hg hm hv ha.pa hn hdb he hpl) fun _ _ _ h => tCB_of hs h
/-! ### int, len, max, min, abs -/
def bInt : FM := fun ts C => match ts with
  | [.int i] => .ok (.int i) C
  | [.bl k] => .ok (.int (if k then 1 else 0)) C
  | _ => .stuck
theorem bInt_ok : CallS Y (fun xs H Q => (∃ i, xs = [.int i] ∧ Q (.int i) H) ∨ ∃ k, xs = [.bl k] ∧ Q (.int (if k then 1 else 0)) H) bInt := by
  intro g C H W xs vs Q R rv f
  unfold bInt at f
  split at f
  · cases rv with | cons a b => cases a; cases b; exact .inl ⟨_, rfl, val_now R .int f⟩
  · cases rv with | cons a b => cases a; cases b; exact .inr ⟨_, rfl, val_now R .int f⟩
  · exact f.elim
def bMax2 : FM := fun ts C => match ts with
  | [.int i, .int j] => .ok (.int (if j > i then j else i)) C
  | _ => .stuck
theorem bMax2_ok : CallS Y (fun xs H Q => ∃ i j, xs = [.int i, .int j] ∧ Q (.int (if j > i then j else i)) H) bMax2 := by
  intro g C H W xs vs Q R rv f
  unfold bMax2 at f
  split at f
  · cases rv with | cons a b => cases a; cases b with | cons a b => cases a; cases b; exact ⟨_, _, rfl, val_now R .int f⟩
  · exact f.elim
def bMin2 : FM := fun ts C => match ts with
  | [.int i, .int j] => .ok (.int (if j < i then j else i)) C
  | _ => .stuck
theorem bMin2_ok : CallS Y (fun xs H Q => ∃ i j, xs = [.int i, .int j] ∧ Q (.int (if j < i then j else i)) H) bMin2 := by
  intro g C H W xs vs Q R rv f
  unfold bMin2 at f
  split at f
  · cases rv with | cons a b => cases a; cases b with | cons a b => cases a; cases b; exact ⟨_, _, rfl, val_now R .int f⟩
  · exact f.elim
end
end FH

namespace FH
open PySem L2
open PySem.Spec PyProof.Rows
/-- a def of the module: it stands there, and it is F -/
structure Def (P : Program) (w : World) (Y : Xd) (mg : Str → Option Value) (base : Heap) (x : Str) (k : Nat) (ps : List Str) (F : FM) (dts : List TV) : Prop where
  ex : ∃ (f : Addr) (fd : FuncData) (ds : List Value) (dvs : List V), FnT P w Y mg base k f fd ps F ∧ mg x = some (.ref f) ∧ PySem.W.keepIn Y.M.K (.ref f) = true ∧ Binds Y.M.K fd ps ds ∧ Paired DV dts dvs ∧ Vals dvs ds
section
variable {X : Cx} {Y : Xd} {W : WX} {k : Nat} {ps : List Str} {F : FM} {dts : List TV} {x : Str} {p pos : Pos} {e : Expr} {es : List Expr} {ma : EM (List TV)}
theorem Paired.len {α β : Type} {R : α → β → Prop} : ∀ {xs : List α} {ys : List β}, Paired R xs ys → xs.length = ys.length
  | _, _, .nil => rfl
  | _, _, .cons _ r => by simp [Paired.len r]
/-- f(e, ..) of a def -/
theorem sf (D : Def X.prog X.w Y X.mg X.base x k ps F dts) (hr : Rm k X.A) (tk : Takes X W) (ha : SA X Y W (e :: es) ma) (hn : (e :: es).length + dts.length = ps.length := by rfl) (hK : X.K = Y.M.K := by rfl) (hg : Gl X x := by rfl) (hdb : (x == ("__debug__" : Str)) = false := by decide)
    (he : starEach (e :: es) X.env = (false, eval e X.env) :: starEach es X.env := by rfl) (hpl : (backTo pos (starEach es X.env)).any (·.1) = false := by rfl) : PE X (.Call (.Name x p) (e :: es) [] pos) (tE Y W (mCall F dts ma)) := by
  obtain ⟨f, fd, ds, dvs, G, hm, hk, hb, hdt, hd⟩ := D.ex
  exact se_call G hK hr hg hm (by rw [hK]; exact hk) (by rw [hK]; exact hb) tk hdt hd (by rw [← Paired.len hdt]; exact hn) ha hdb he hpl
end
def gtI := cmpI fun i j => decide (j < i)
def ltI := cmpI fun i j => decide (i < j)
def leI := cmpI fun i j => decide (i ≤ j)
def geI := cmpI fun i j => decide (j ≤ i)
abbrev W0 : WX := fun _ _ _ _ => False
end FH
/-! FhI: evaluation by simp: the rules look at what is ahead first. -/
namespace FH
open PySem L2
section
variable {α β : Type} {C C' : Tab} {s s' : Slots} {x : Exc}
@[simp] theorem bind_ok {a : α} {f : α → Tab → Res β} : (Res.ok a C).bind f = f a C := rfl
@[simp] theorem bind_exc {f : α → Tab → Res β} : (Res.exc x C : Res α).bind f = .exc x C := rfl
@[simp] theorem bind_stuck {f : α → Tab → Res β} : (Res.stuck : Res α).bind f = .stuck := rfl
@[simp] theorem sr_ok {a : α} {f : α → Tab → SR} : (Res.ok a C).sr s f = f a C := rfl
@[simp] theorem sr_exc {f : α → Tab → SR} : (Res.exc x C : Res α).sr s f = .exc x s C := rfl
@[simp] theorem sr_stuck {f : α → Tab → SR} : (Res.stuck : Res α).sr s f = .stuck := rfl
@[simp] theorem seq_nx {n : SM} : (SR.nx s C).seq n = n s C := rfl
@[simp] theorem seq_rt {t : TV} {n : SM} : (SR.rt t C).seq n = .rt t C := rfl
@[simp] theorem seq_bk {n : SM} : (SR.bk s C).seq n = .bk s C := rfl
@[simp] theorem seq_ct {n : SM} : (SR.ct s C).seq n = .ct s C := rfl
@[simp] theorem seq_exc {n : SM} : (SR.exc x s C).seq n = .exc x s C := rfl
@[simp] theorem seq_stuck {n : SM} : SR.stuck.seq n = .stuck := rfl
@[simp] theorem nSeq_ev {m n : SM} : nSeq m n s C = (m s C).seq n := rfl
@[simp] theorem nNil_ev : nNil s C = .nx s C := rfl
@[simp] theorem nIf_ev {t : EM Bool} {n k : SM} : nIf t n k s C = (t s C).sr s fun b C1 => if b = true then n s C1 else k s C1 := rfl
@[simp] theorem nSet_ev {i : Nat} {m : EM TV} : nSet i m s C = (m s C).sr s fun t C1 => .nx (s.set i (some t)) C1 := rfl
@[simp] theorem nExpr_ev {m : EM TV} : nExpr m s C = (m s C).sr s fun _ C1 => .nx s C1 := rfl
@[simp] theorem nRet_ev {m : EM TV} : nRet m s C = (m s C).sr s fun t C1 => .rt t C1 := rfl
@[simp] theorem nRetN_ev : nRetN s C = .rt .non C := rfl
@[simp] theorem nBrk_ev : nBrk s C = .bk s C := rfl
@[simp] theorem nCnt_ev : nCnt s C = .ct s C := rfl
def putC (s : Slots) : Option Tab → SR
  | some C => .nx s C
  | none => .stuck
@[simp] theorem putC_some : putC s (some C) = .nx s C := rfl
@[simp] theorem nSub_ev {mv mo mi : EM TV} : nSub mv mo mi s C = (mv s C).sr s fun v C1 => (mo s C1).sr s fun o C2 => (mi s C2).sr s fun i C3 => putC s (setSub o i v C3) := rfl
@[simp] theorem mC_ev {t : TV} : mC t s C = .ok t C := rfl
def rdS (C : Tab) : Option (Option TV) → Res TV
  | some (some t) => .ok t C
  | _ => .stuck
@[simp] theorem rdS_some {t : TV} : rdS C (some (some t)) = .ok t C := rfl
@[simp] theorem mVar_ev {i : Nat} : mVar i s C = rdS C s[i]? := by
  unfold mVar rdS
  cases s[i]? with
  | none => rfl
  | some o => cases o <;> rfl
@[simp] theorem mNil_ev : mNil s C = .ok [] C := rfl
@[simp] theorem mCons_ev {m : EM TV} {ms : EM (List TV)} : mCons m ms s C = (m s C).bind fun t C1 => (ms s C1).bind fun ts C2 => .ok (t :: ts) C2 := rfl
@[simp] theorem mOp_ev {f : TV → TV → Tab → Res TV} {ma mb : EM TV} : mOp f ma mb s C = (ma s C).bind fun x C1 => (mb s C1).bind fun y C2 => f x y C2 := rfl
@[simp] theorem mUn_ev {f : TV → Tab → Res TV} {ma : EM TV} : mUn f ma s C = (ma s C).bind fun x C1 => f x C1 := rfl
@[simp] theorem mB1_ev {f : FM} {ma : EM (List TV)} : mB1 f ma s C = (ma s C).bind fun ts C1 => f ts C1 := rfl
@[simp] theorem mCall_ev {F : FM} {dts : List TV} {ma : EM (List TV)} : mCall F dts ma s C = (ma s C).bind fun ts C1 => F (ts ++ dts) C1 := rfl
def blOf (C : Tab) : TV → Res Bool
  | .bl b => .ok b C
  | _ => .stuck
@[simp] theorem blOf_bl {b : Bool} : blOf C (.bl b) = .ok b C := rfl
@[simp] theorem mB_ev {m : EM TV} : mB m s C = (m s C).bind fun x C1 => blOf C1 x := by
  show (m s C).bind (fun x C1 => match x with | .bl b => .ok b C1 | _ => .stuck) = _
  congr
@[simp] theorem mNot_ev {m : EM Bool} : mNot m s C = (m s C).bind fun b C1 => .ok (!b) C1 := rfl
@[simp] theorem mAnd_ev {m n : EM Bool} : mAnd m n s C = (m s C).bind fun b C1 => if b = true then n s C1 else .ok false C1 := rfl
@[simp] theorem mOr_ev {m n : EM Bool} : mOr m n s C = (m s C).bind fun b C1 => if b = true then .ok true C1 else n s C1 := rfl
@[simp] theorem mIf_ev {t : EM Bool} {ma mb : EM TV} : mIf t ma mb s C = (t s C).bind fun b C1 => if b = true then ma s C1 else mb s C1 := rfl
end
/-! ### operators on what is known -/
section
variable {C : Tab} {i j : Int} {x y : Str} {xs ys : List TV}
def trO : Option Cell → TV
  | some c => c.tree
  | none => .non
@[simp] theorem trO_some {c : Cell} : trO (some c) = c.tree := rfl
@[simp] theorem rd_cel {n : Nat} : rd C (.cel n) = trO C[n]? := rfl
@[simp] theorem get_set {n : Nat} {c : Cell} (h : C[n]?.isSome = true) : (C.set n c)[n]? = some c := by
  have : n < C.length := by
    cases e : C[n]? with
    | none => rw [e] at h; cases h
    | some x => exact (List.getElem?_eq_some_iff.mp e).1
  exact List.getElem?_set_self this
@[simp] theorem rd_non : rd C .non = .non := rfl
@[simp] theorem rd_bl {b : Bool} : rd C (.bl b) = .bl b := rfl
@[simp] theorem rd_int : rd C (.int i) = .int i := rfl
@[simp] theorem rd_str : rd C (.str x) = .str x := rfl
@[simp] theorem rd_lst : rd C (.lst xs) = .lst xs := rfl
@[simp] theorem rd_tup : rd C (.tup xs) = .tup xs := rfl
@[simp] theorem rd_dct {kvs : List (Key × TV)} : rd C (.dct kvs) = .dct kvs := rfl
@[simp] theorem rd_dtt {kvs : List (List Key × TV)} : rd C (.dtt kvs) = .dtt kvs := rfl
@[simp] theorem rd_obj {c : Str} {fs : List (Str × TV)} : rd C (.obj c fs) = .obj c fs := rfl
@[simp] theorem rd_lsc {ns : List Int} : rd C (.lsc ns) = .lsc ns := rfl
@[simp] theorem tree_own {t : TV} : (Cell.own t).tree = t := rfl
@[simp] theorem tree_lck {t : TV} : (Cell.lck t).tree = t := rfl
@[simp] theorem tree_frz {t : TV} : (Cell.frz t).tree = t := rfl
def addR (m : Bool) (x y : TV) (C : Tab) : Res TV := match x, y with
  | .int i, .int j => .ok (.int (i + j)) C
  | .str i, .str j => if i.length + j.length ≤ sizeLine then .ok (.str (i ++ j)) C else .stuck
  | .lst xs, .lst ys => if xs.length + ys.length ≤ sizeLine then alc m (.lst (xs ++ ys)) C else .stuck
  | .tup xs, .tup ys => if xs ≠ [] ∧ xs.length + ys.length ≤ sizeLine then .ok (.tup (xs ++ ys)) C else .stuck
  | _, _ => .stuck
@[simp] theorem addI_ev {m : Bool} {x y : TV} : addI m x y C = addR m (rd C x) (rd C y) C := rfl
@[simp] theorem addR_int {m : Bool} : addR m (.int i) (.int j) C = .ok (.int (i + j)) C := rfl
@[simp] theorem addR_str {m : Bool} (h : x.length + y.length ≤ sizeLine) : addR m (.str x) (.str y) C = .ok (.str (x ++ y)) C := by simp [addR, h]
@[simp] theorem addR_lst {m : Bool} (h : xs.length + ys.length ≤ sizeLine) : addR m (.lst xs) (.lst ys) C = alc m (.lst (xs ++ ys)) C := by simp [addR, h]
@[simp] theorem addR_tup {m : Bool} (h0 : xs ≠ []) (h : xs.length + ys.length ≤ sizeLine) : addR m (.tup xs) (.tup ys) C = .ok (.tup (xs ++ ys)) C := by simp [addR, h, h0]
@[simp] theorem alc_own {t : TV} : alc true t C = .ok (.cel C.length) (C ++ [.own t]) := rfl
@[simp] theorem alc_fz {t : TV} : alc false t C = .ok t C := rfl
@[simp] theorem subI_int : subI (.int i) (.int j) C = .ok (.int (i - j)) C := rfl
def mulR (m : Bool) (x y : TV) (C : Tab) : Res TV := match x, y with
  | .int i, .int j => if mulOk i j then .ok (.int (i * j)) C else .stuck
  | .lst xs, .int k => if -(2 ^ 63) ≤ k ∧ k < 2 ^ 63 ∧ xs.length * k.toNat ≤ sizeLine then alc m (.lst (List.replicate k.toNat xs).flatten) C else .stuck
  | _, _ => .stuck
@[simp] theorem mulI_ev {m : Bool} {x y : TV} : mulI m x y C = mulR m (rd C x) y C := rfl
@[simp] theorem mulR_int {m : Bool} (h : mulOk i j = true) : mulR m (.int i) (.int j) C = .ok (.int (i * j)) C := by simp [mulR, h]
@[simp] theorem modI_int (h : j ≠ 0) : modI (.int i) (.int j) C = .ok (.int (i.fmod j)) C := by simp [modI, h]
theorem fdivI_int (h : j ≠ 0) (h' : j.natAbs < 1073741824) : fdivI (.int i) (.int j) C = .ok (.int (i.fdiv j)) C := by simp [fdivI, h, h']
theorem powI_int (h : 0 ≤ j) (h' : j ≤ 10000) (h'' : i.natAbs < 2 ^ 128) : powI (.int i) (.int j) C = .ok (.int (i ^ j.toNat)) C := by
  show (if 0 ≤ j ∧ j ≤ 10000 ∧ i.natAbs < 2 ^ 128 then Res.ok (TV.int (i ^ j.toNat)) C else .stuck) = _
  rw [if_pos ⟨h, h', h''⟩]
@[simp] theorem cmpI_int {p : Int → Int → Bool} : cmpI p (.int i) (.int j) C = .ok (.bl (p i j)) C := rfl
@[simp] theorem gtI_int : gtI (.int i) (.int j) C = .ok (.bl (decide (j < i))) C := rfl
@[simp] theorem ltI_int : ltI (.int i) (.int j) C = .ok (.bl (decide (i < j))) C := rfl
@[simp] theorem leI_int : leI (.int i) (.int j) C = .ok (.bl (decide (i ≤ j))) C := rfl
@[simp] theorem geI_int : geI (.int i) (.int j) C = .ok (.bl (decide (j ≤ i))) C := rfl
@[simp] theorem negI_int : negI (.int i) C = .ok (.int (-i)) C := rfl
@[simp] theorem bInt_int : bInt [.int i] C = .ok (.int i) C := rfl
@[simp] theorem bInt_bl {b : Bool} : bInt [.bl b] C = .ok (.int (if b then 1 else 0)) C := rfl
@[simp] theorem bMax2_int : bMax2 [.int i, .int j] C = .ok (.int (if j > i then j else i)) C := rfl
@[simp] theorem bMin2_int : bMin2 [.int i, .int j] C = .ok (.int (if j < i then j else i)) C := rfl
def okO (C : Tab) : Option TV → Res TV
  | some t => .ok t C
  | none => .stuck
@[simp] theorem okO_some {t : TV} : okO C (some t) = .ok t C := rfl
/-- what a subscript finds -/
def ixR (x y : TV) : Option TV := match x with
  | .lst xs => match y with
    | .int i => atI xs i
    | _ => none
  | .tup xs => match y with
    | .int i => atI xs i
    | _ => none
  | .lsc ns => match y with
    | .int i => (atI ns i).map TV.int
    | _ => none
  | .str z => match y with
    | .int i => (atI z.cps.toList i).bind fun c => if z.length ≤ sizeLine then some (.str ⟨#[c]⟩) else none
    | _ => none
  | .dct kvs => (keyOf y).bind (lookT kvs)
  | _ => none
@[simp] theorem ixT_ev {x y : TV} : ixT x y C = okO C (ixR (rd C x) y) := by
  unfold ixT ixR
  cases rd C x with
  | str z =>
    cases y <;> first | rfl | skip
    rename_i i
    cases e : atI z.cps.toList i with
    | none => simp [e, okO]
    | some c => by_cases hz : z.length ≤ sizeLine <;> simp [e, okO, hz]
  | lst xs =>
    cases y <;> first
      | rfl
      | (rename_i i; cases e : atI xs i <;> simp [e, okO])
  | tup xs =>
    cases y <;> first
      | rfl
      | (rename_i i; cases e : atI xs i <;> simp [e, okO])
  | lsc xs =>
    cases y <;> first
      | rfl
      | (rename_i i; cases e : atI xs i <;> simp [e, okO])
  | dct kvs =>
    cases e : keyOf y with
    | none => simp [e, okO]
    | some k => cases e2 : lookT kvs k <;> simp [e, e2, okO]
  | _ => rfl
@[simp] theorem ixR_lst : ixR (.lst xs) (.int i) = atI xs i := rfl
@[simp] theorem ixR_tup : ixR (.tup xs) (.int i) = atI xs i := rfl
@[simp] theorem ixR_dcts {kvs : List (Key × TV)} : ixR (.dct kvs) (.str x) = lookT kvs (.inr x) := rfl
@[simp] theorem ixR_dcti {kvs : List (Key × TV)} : ixR (.dct kvs) (.int i) = lookT kvs (.inl i) := rfl
/-- the literal places -/
@[simp] theorem atI_0 {α : Type} {a : α} {as : List α} : atI (a :: as) 0 = some a := by simp [atI, ixN]
@[simp] theorem atI_1 {α : Type} {a b : α} {as : List α} : atI (a :: b :: as) 1 = some b := by
  have : ((1 : Int)) < ((as.length : Int) + 1 + 1) := by omega
  simp [atI, ixN, this]
@[simp] theorem atI_2 {α : Type} {a b c : α} {as : List α} : atI (a :: b :: c :: as) 2 = some c := by
  have : ((2 : Int)) < ((as.length : Int) + 1 + 1 + 1) := by omega
  simp [atI, ixN, this]
def setR (n : Nat) (i v : TV) (C : Tab) : Option Cell → Option Tab
  | some (.own (.lst xs)) => match i with
    | .int k => (putIx k v xs).map fun ys => C.set n (.own (.lst ys))
    | _ => none
  | some (.own (.dct kvs)) => (keyOf i).bind fun k => if kvs.length < sizeLine then some (C.set n (.own (.dct (putT kvs k v)))) else none
  | _ => none
@[simp] theorem setSub_ev {n : Nat} {i v : TV} : setSub (.cel n) i v C = setR n i v C C[n]? := by
  first
    | rfl
    | (unfold setSub setR
       dsimp only
       cases C[n]? with
       | none => rfl
       | some c => cases c with
         | own t => cases t <;> rfl
         | lck t => rfl
         | frz t => rfl)
@[simp] theorem setR_lst {n : Nat} {v : TV} {k : Int} : setR n (.int k) v C (some (.own (.lst xs))) = (putIx k v xs).map fun ys => C.set n (.own (.lst ys)) := rfl
@[simp] theorem setR_dcts {n : Nat} {v : TV} {kvs : List (Key × TV)} (h : kvs.length < sizeLine) : setR n (.str x) v C (some (.own (.dct kvs))) = some (C.set n (.own (.dct (putT kvs (.inr x) v)))) := by simp [setR, keyOf, h]
@[simp] theorem setR_dcti {n : Nat} {v : TV} {kvs : List (Key × TV)} (h : kvs.length < sizeLine) : setR n (.int i) v C (some (.own (.dct kvs))) = some (C.set n (.own (.dct (putT kvs (.inl i) v)))) := by simp [setR, keyOf, h]
@[simp] theorem putIx_0 {v a : TV} : putIx 0 v (a :: xs) = some (v :: xs) := by simp [putIx, ixN]
@[simp] theorem putIx_1 {v a b : TV} : putIx 1 v (a :: b :: xs) = some (a :: v :: xs) := by
  have : ((1 : Int)) < ((xs.length : Int) + 1 + 1) := by omega
  simp [putIx, ixN, this]
@[simp] theorem putIx_2 {v a b c : TV} : putIx 2 v (a :: b :: c :: xs) = some (a :: b :: v :: xs) := by
  have : ((2 : Int)) < ((xs.length : Int) + 1 + 1 + 1) := by omega
  simp [putIx, ixN, this]
end
end FH
/-! FhJ: loops: what is walked, locks, for and while. -/
namespace FH
open PySem L2
open PySem.Spec PyProof.Rows

/-! ### locks of the heap -/
/-- wanted behind an unlocking -/
def Unl (X : Cx) (H : Hp) (P : Hp → Prop) : Prop := ∃ d od u, H d = some (.frz od u) ∧ (∀ o' u', X.H_0 d ≠ some (.frz o' u')) ∧ P (upd H d u)
def OrU (X : Cx) (H : Hp) (P : Hp → Prop) : Prop := P H ∨ Unl X H P
section
variable {X : Cx} {e : Expr} {t : TE} {st : Stmt} {ts : TS}
/-- the dict that has come may be locked -/
theorem pe_lk (h : PE X e t) : PE X e (fun σ H Q => t σ H fun x H1 => Q x H1 ∨ ∃ d u, x = .ref d ∧ H1 d = some u ∧ Mut (some u) ∧ ((∀ o' u', X.H_0 d ≠ some (.frz o' u')) → ∀ od, Q x (upd H1 d (.frz od u)))) := by
  refine ⟨fun pins s σ H Q I q => ?_⟩
  refine thn (h.run pins s σ H _ I q) fun v s1 ⟨x, H1, I1, r, q1⟩ => ?_
  rcases q1 with q1 | ⟨d, u, ex, hd, mu, q1⟩
  · exact ⟨x, H1, I1, r, q1⟩
  · obtain ⟨od, I2⟩ := I1.lock hd mu
    exact ⟨x, _, I2, r, q1 (I1.nofrz hd mu) od⟩
theorem ps_unlk (h : PS X st ts) : PS X st (fun D σ H => ts ⟨fun σ' H' => OrU X H' (D.nx σ'), fun v H' => OrU X H' (D.rt v), fun σ' H' => OrU X H' (D.bk σ'), fun σ' H' => OrU X H' (D.ct σ')⟩ σ H) := by
  refine ⟨fun pins s σ H D I q => thn (h.run pins s σ H _ I q) fun f s1 q => ?_⟩
  cases f with
  | next =>
    obtain ⟨σ', H', I2, q | ⟨d, od, u, e, n, q⟩⟩ := q
    · exact ⟨σ', H', I2, q⟩
    · exact ⟨σ', _, I2.unlock e n, q⟩
  | brk =>
    obtain ⟨σ', H', I2, q | ⟨d, od, u, e, n, q⟩⟩ := q
    · exact ⟨σ', H', I2, q⟩
    · exact ⟨σ', _, I2.unlock e n, q⟩
  | cont =>
    obtain ⟨σ', H', I2, q | ⟨d, od, u, e, n, q⟩⟩ := q
    · exact ⟨σ', H', I2, q⟩
    · exact ⟨σ', _, I2.unlock e n, q⟩
  | ret v =>
    obtain ⟨x, σ', H', I2, r, q | ⟨d, od, u, e, n, q⟩⟩ := q
    · exact ⟨x, σ', H', I2, r, q⟩
    · exact ⟨x, σ', _, I2.unlock e n, r, q⟩
theorem pe_unlk (h : PE X e t) : PE X e (fun σ H Q => t σ H fun x H' => OrU X H' (Q x)) := by
  refine ⟨fun pins s σ H Q I q => thn (h.run pins s σ H _ I q) fun v s1 ⟨x, H', I2, r, q⟩ => ?_⟩
  rcases q with q | ⟨d, od, u, e, n, q⟩
  · exact ⟨x, H', I2, r, q⟩
  · exact ⟨x, _, I2.unlock e n, r, q⟩
/-- an exception that leaves while something is locked -/
abbrev WU (X : Cx) (W : WX) : WX := fun cls d σ H => OrU X H (W cls d σ)
theorem Takes.unl {W : WX} (tk : Takes X W) : Takes X (WU X W) := by
  intro u s' ⟨a, B, sI, pins, σ, H, cls, d, e, I, nb, up, sky, na, os, ag, w⟩
  rcases w with w | ⟨b, od, v, e2, n, w⟩
  · exact tk u s' ⟨a, B, sI, pins, σ, H, cls, d, e, I, nb, up, sky, na, os, ag, w⟩
  · refine tk u s' ⟨a, B, sI, pins, σ, _, cls, d, e, I.unlock e2 n, nb, up, sky, ?_, os, ag, w⟩
    rw [upd_ne (fun z => by rw [z, e2] at na; cases na)]
    exact na
end

/-- from g, H to g', H': the same, or a dict is locked -/
inductive Lkd (X : Cx) (g : Gh) (H : Hp) : Gh → Hp → Prop where
  | no : Lkd X g H g H
  | yes {d : Addr} {u : HO} {od : Obj} : H d = some u → lockable u = true → (∀ o' u', X.H_0 d ≠ some (.frz o' u')) → g.L d = none → Lkd X g H { g with L := upd g.L d (.frz od u) } (upd H d (.frz od u))
  | keep {d : Addr} {u : HO} {od : Obj} : H d = some (.frz od u) → Lkd X g H { g with L := upd g.L d (.frz od u) } H
theorem lockable_mut {u : HO} (h : lockable u = true) : Mut (some u) := by cases u <;> first | trivial | cases h
theorem RN.nofrz {M : Md} {g : Gh} {t : TV} {o : Obj} {u : HO} (h : RN M g t (.frz o u)) : False := by
  cases t with
  | lst xs => obtain ⟨_, z, _⟩ := h; cases z
  | dct xs => obtain ⟨_, z, _⟩ := h; cases z
  | dtt xs => obtain ⟨_, z, _⟩ := h; cases z
  | obj c xs => obtain ⟨_, _, _, z, _⟩ := h; cases z
  | _ => exact h.elim
section
variable {X : Cx} {M : Md} {g g2 g3 : Gh} {H H2 H3 : Hp} {C C3 : Tab}
theorem Lkd.ext0 (k : Lkd X g H g2 H2) : Ext0 g g2 := by
  cases k with
  | no => exact Ext0.refl g
  | yes h1 h2 h3 h4 => exact ⟨fun _ _ h => h, Nat.le_refl _, fun _ _ => rfl⟩
  | keep h => exact ⟨fun _ _ h => h, Nat.le_refl _, fun _ _ => rfl⟩
/-- what is locked already is looked after -/
theorem Lkd.rhk {d : Addr} {u : HO} {od : Obj} (R : RH M g C H) (hd : H d = some (.frz od u)) : RH M { g with L := upd g.L d (.frz od u) } C H where
  b := R.b
  l := fun a o h => by
    have h' : upd g.L d (.frz od u) a = some o := h
    by_cases ha : a = d
    · subst ha; rw [upd_same] at h'; cases h'; exact hd
    · rw [upd_ne ha] at h'; exact R.l a o h'
  n := R.n
  c := fun j c h => by
    have q := R.c j c h
    have e0 : Ext0 g { g with L := upd g.L d (.frz od u) } := ⟨fun _ _ h => h, Nat.le_refl _, fun _ _ => rfl⟩
    cases c with
    | own t =>
      obtain ⟨o, h1, h2, h3, h4⟩ := q
      have ne : g.A j ≠ d := fun z => by rw [z, hd] at h1; cases h1; exact RN.nofrz h2
      exact ⟨o, h1, h2.mono0 e0, h3, by show upd g.L d _ (g.A j) = _; rw [upd_ne ne]; exact h4⟩
    | lck t =>
      obtain ⟨o, h1, h2, h3, h4⟩ := q
      refine ⟨o, h1, h2.mono0 e0, h3, fun z hz => ?_⟩
      have hz' : upd g.L d (.frz od u) (g.A j) = some z := hz
      by_cases ha : g.A j = d
      · rw [ha, upd_same] at hz'; cases hz'; exact ⟨_, _, rfl⟩
      · rw [upd_ne ha] at hz'; exact h4 z hz'
    | frz t => exact RV.mono0 e0 q
  i := R.i
  d := fun a o h hf => by
    have h' : upd g.L d (.frz od u) a = some o := h
    by_cases ha : a = d
    · subst ha; rw [upd_same] at h'; cases h'; exact absurd rfl (hf _ _)
    · rw [upd_ne ha] at h'; exact R.d a o h' hf
/-- what a lock asks of the relation: the thing is not one that is being written -/
theorem Lkd.rh {d : Addr} {u : HO} {od : Obj} (R : RH M g C H) (hd : H d = some u) (hl : lockable u = true) (hc : ∀ j t, C[j]? = some (.own t) → g.A j ≠ d) : RH M { g with L := upd g.L d (.frz od u) } C (upd H d (.frz od u)) where
  b := fun a o h => by
    by_cases ha : a = d
    · subst ha
      rcases R.b a o h with q | ⟨l, ob, q⟩
      · rw [hd] at q; cases q; exact .inr ⟨hl, od, upd_same⟩
      · rw [hd] at q; cases q; cases hl
    · rcases R.b a o h with q | ⟨l, ob, q⟩
      · exact .inl (by rw [upd_ne ha]; exact q)
      · exact .inr ⟨l, ob, by rw [upd_ne ha]; exact q⟩
  l := fun a o h => by
    have h' : upd g.L d (.frz od u) a = some o := h
    by_cases ha : a = d
    · subst ha; rw [upd_same] at h' ⊢; exact h'
    · rw [upd_ne ha] at h' ⊢; exact R.l a o h'
  n := R.n
  c := fun j c h => by
    have q := R.c j c h
    have e0 : Ext0 g { g with L := upd g.L d (.frz od u) } := ⟨fun _ _ h => h, Nat.le_refl _, fun _ _ => rfl⟩
    cases c with
    | own t =>
      obtain ⟨o, h1, h2, h3, h4⟩ := q
      have ne := hc j t h
      exact ⟨o, by show upd H d _ (g.A j) = _; rw [upd_ne ne]; exact h1, h2.mono0 e0, h3, by show upd g.L d _ (g.A j) = _; rw [upd_ne ne]; exact h4⟩
    | lck t =>
      obtain ⟨o, h1, h2, h3, h4⟩ := q
      refine ⟨o, ?_, h2.mono0 e0, h3, fun z hz => ?_⟩
      rotate_left
      · have hz' : upd g.L d (.frz od u) (g.A j) = some z := hz
        by_cases ha : g.A j = d
        · rw [ha, upd_same] at hz'; cases hz'; exact ⟨_, _, rfl⟩
        · rw [upd_ne ha] at hz'; exact h4 z hz'
      show Rq (upd H d _) (g.A j) o
      by_cases ha : g.A j = d
      · rw [ha] at h1 ⊢
        rcases h1 with q | ⟨l, ob, q⟩
        · rw [hd] at q; cases q; exact .inr ⟨hl, od, upd_same⟩
        · rw [hd] at q; cases q; cases hl
      · rcases h1 with q | ⟨l, ob, q⟩
        · exact .inl (by rw [upd_ne ha]; exact q)
        · exact .inr ⟨l, ob, by rw [upd_ne ha]; exact q⟩
    | frz t => exact RV.mono0 e0 q
  i := R.i
  d := fun a o h hf => by
    have h' : upd g.L d (.frz od u) a = some o := h
    by_cases ha : a = d
    · subst ha; rw [upd_same] at h'; cases h'; exact absurd rfl (hf _ _)
    · rw [upd_ne ha] at h'; exact R.d a o h' hf
/-- the lock is taken away -/
theorem Lkd.un (k : Lkd X g H g2 H2) (R : RH M g C H) (e : Ext g2 g3) (R3 : RH M g3 C3 H3) (hB : ∀ d u, H d = some u → lockable u = true → H2 d ≠ H d → g.B d = none → (∃ j t, C3[j]? = some (.lck t) ∧ g3.A j = d)) :
    ∃ g4 H4, Ext g g4 ∧ Ext0 g3 g4 ∧ RH M g4 C3 H4 ∧ (∀ P, P H4 → OrU X H3 P) ∧ (∀ d u, H d = some u → lockable u = true → H2 d ≠ H d → H4 d = some u) := by
  cases k with
  | no => exact ⟨g3, H3, e, Ext0.refl _, R3, fun P h => .inl h, fun d u _ _ ne => absurd rfl ne⟩
  | @keep d u od hd =>
    refine ⟨{ g3 with L := g.L }, H3, ⟨e.B, rfl, e.n, e.A⟩, ⟨fun _ _ h => h, Nat.le_refl _, fun _ _ => rfl⟩, ⟨R3.b, fun a o h => ?_, R3.n, fun j c h => ?_, R3.i, fun a o h hf => ?_⟩, fun P h => .inl h, fun d u _ _ ne => absurd rfl ne⟩
    · by_cases ha : a = d
      · subst ha
        have q := R.l a o h
        rw [hd] at q; cases q
        exact R3.l a _ (by rw [e.L]; exact upd_same)
      · exact R3.l a o (by rw [e.L]; show upd g.L d _ a = _; rw [upd_ne ha]; exact h)
    · have q := R3.c j c h
      have e0 : Ext0 g3 { g3 with L := g.L } := ⟨fun _ _ h => h, Nat.le_refl _, fun _ _ => rfl⟩
      cases c with
      | own t =>
        obtain ⟨o, h1, h2, h5, h4⟩ := q
        have ne : g3.A j ≠ d := fun z => by rw [z, e.L] at h4; have q : upd g.L d (.frz od u) d = none := h4; rw [upd_same] at q; cases q
        refine ⟨o, h1, h2.mono0 e0, h5, ?_⟩
        show g.L (g3.A j) = none
        have q : upd g.L d (.frz od u) (g3.A j) = none := by rw [← h4, e.L]
        rw [upd_ne ne] at q
        exact q
      | lck t =>
        obtain ⟨o, h1, h2, h5, h6⟩ := q
        refine ⟨o, h1, h2.mono0 e0, h5, fun z hz => ?_⟩
        by_cases ha : g3.A j = d
        · have q := R.l d z (by rw [← ha]; exact hz)
          rw [hd] at q; cases q; exact ⟨_, _, rfl⟩
        · exact h6 z (by rw [e.L]; show upd g.L d _ _ = _; rw [upd_ne ha]; exact hz)
      | frz t => exact RV.mono0 e0 q
    · by_cases ha : a = d
      · subst ha
        have q := R.l a o h
        rw [hd] at q; cases q
        exact absurd rfl (hf _ _)
      · exact R3.d a o (by rw [e.L]; show upd g.L d _ a = _; rw [upd_ne ha]; exact h) hf
  | @yes d u od hd hl hn hL0 =>
    have hL : g3.L d = some (.frz od u) := by rw [e.L]; exact upd_same
    have h3 : H3 d = some (.frz od u) := R3.l d _ hL
    have bd : ∀ o, g3.B d = some o → o = u := fun o ho => by
      cases hb : g.B d with
      | none =>
        obtain ⟨j, t, hj, ha⟩ := hB d u hd hl (by rw [upd_same, hd]; intro z; have z2 := Option.some.inj z; rw [← z2] at hl; cases hl) hb
        obtain ⟨_, _, _, q, _⟩ := R3.c j _ hj
        rw [ha, ho] at q; cases q
      | some o1 =>
        have q := e.B d o1 hb
        rw [ho] at q
        cases q
        rcases R.b d o hb with q | ⟨l, ob, q⟩
        · rw [hd] at q; cases q; rfl
        · rw [hd] at q; cases q; cases hl
    refine ⟨{ g3 with L := g.L }, upd H3 d u, ⟨e.B, rfl, e.n, e.A⟩, ⟨fun _ _ h => h, Nat.le_refl _, fun _ _ => rfl⟩, ⟨fun a o h => ?_, fun a o h => ?_, R3.n, fun j c h => ?_, R3.i, fun a o h hf => ?_⟩, fun P h => .inr ⟨d, od, u, h3, hn, h⟩, fun d' u' hd' hl' ne => ?_⟩
    · by_cases ha : a = d
      · subst ha; rw [bd o h]; exact .inl upd_same
      · rcases R3.b a o h with q | ⟨l, ob, q⟩
        · exact .inl (by rw [upd_ne ha]; exact q)
        · exact .inr ⟨l, ob, by rw [upd_ne ha]; exact q⟩
    · by_cases ha : a = d
      · subst ha
        have q := R.l a o h
        rw [hd] at q; cases q
        exact upd_same
      · rw [upd_ne ha]
        exact R3.l a o (by rw [e.L]; show upd g.L d _ a = _; rw [upd_ne ha]; exact h)
    · have q := R3.c j c h
      have e0 : Ext0 g3 { g3 with L := g.L } := ⟨fun _ _ h => h, Nat.le_refl _, fun _ _ => rfl⟩
      cases c with
      | own t =>
        obtain ⟨o, h1, h2, h5, h4⟩ := q
        have ne : g3.A j ≠ d := fun z => by rw [z, hL] at h4; cases h4
        refine ⟨o, by show upd H3 d _ (g3.A j) = _; rw [upd_ne ne]; exact h1, h2.mono0 e0, h5, ?_⟩
        show g.L (g3.A j) = none
        have q : upd g.L d (.frz od u) (g3.A j) = none := by rw [← h4, e.L]
        rw [upd_ne ne] at q
        exact q
      | lck t =>
        obtain ⟨o, h1, h2, h5, h6⟩ := q
        refine ⟨o, ?_, h2.mono0 e0, h5, fun z hz => ?_⟩
        rotate_left
        · by_cases ha : g3.A j = d
          · have hz' : g.L d = some z := by rw [← ha]; exact hz
            rw [hL0] at hz'; cases hz'
          · exact h6 z (by rw [e.L]; show upd g.L d _ _ = _; rw [upd_ne ha]; exact hz)
        show Rq (upd H3 d _) (g3.A j) o
        by_cases ha : g3.A j = d
        · rw [ha] at h1 ⊢
          rcases h1 with q | ⟨l, ob, q⟩
          · rw [h3] at q; cases q; exact (RN.nofrz h2).elim
          · rw [h3] at q; cases q; exact .inl upd_same
        · rcases h1 with q | ⟨l, ob, q⟩
          · exact .inl (by rw [upd_ne ha]; exact q)
          · exact .inr ⟨l, ob, by rw [upd_ne ha]; exact q⟩
      | frz t => exact RV.mono0 e0 q
    · have ne : a ≠ d := fun z => by rw [z, hL0] at h; cases h
      exact R3.d a o (by rw [e.L]; show upd g.L d _ a = _; rw [upd_ne ne]; exact h) hf
    · by_cases ha : d' = d
      · subst ha; rw [hd] at hd'; cases hd'; exact upd_same
      · exact absurd (upd_ne ha) ne
end
end FH

namespace FH
open PySem L2
open PySem.Spec PyProof.Rows
theorem RX.mono0 {Y : Xd} {g g' : Gh} {x : Exc} {cls : Value} {d : Option Addr} (e : Ext0 g g') (r : RX Y g x cls d) : RX Y g' x cls d := by
  obtain ⟨c, q⟩ := r
  refine ⟨c, ?_⟩
  rcases q with q | ⟨dd, ws, q1, q2, q3⟩
  · exact .inl q
  · exact .inr ⟨dd, ws, q1, e.B _ _ q2, q3.mono0 e⟩
/-! ### what is walked -/
/-- the cell that is walked, as it stood -/
abbrev Lk := Option (Nat × Cell)
def unlk (lk : Lk) (C : Tab) : Tab := match lk with
  | some (j, c) => C.set j c
  | none => C
def lkOk (lk : Lk) (C C' : Tab) : Prop := match lk with
  | some (j, _) => C'[j]? = C[j]?
  | none => True
/-- what is known later, whatever is pinned besides -/
structure ExtF (g g' : Gh) : Prop where
  e0 : Ext0 g g'
  L : ∀ a ob u, g.L a = some (.frz ob u) → g'.L a = some (.frz ob u)
theorem Ext.f {g g' : Gh} (e : Ext g g') : ExtF g g' := ⟨e.e0, fun a ob u h => by rw [e.L]; exact h⟩
/-- the walk J gives the items xs, while the cell that is walked stays -/
def Yl (Y : Xd) (g : Gh) (C : Tab) (lk : Lk) (xs : List TV) (J : It) : Prop := ∃ (G : Hp → Prop) (Yd : Nat → Hp → V → Hp → Prop), Walk J xs.length G Yd ∧
  (∀ g' C' H', ExtF g g' → RH Y.M g' C' H' → lkOk lk C C' → G H') ∧
  (∀ i g' C' H' x H2, i < xs.length → ExtF g g' → RH Y.M g' C' H' → lkOk lk C C' → Yd i H' x H2 → ∃ g2, Ext g' g2 ∧ RH Y.M g2 C' H2 ∧ ∃ t, xs[i]? = some t ∧ RV Y.M g2 t x)
/-- a cell is locked for a walk -/
structure LkAt (lk : Lk) (C : Tab) : Prop where
  ok : ∀ j c, lk = some (j, c) → ∃ t, C[j]? = some (.lck t) ∧ (c = .own t ∨ c = .lck t)
/-- what is wanted behind the walk's source: rd: whether a dict is to be locked -/
def tI (X : Cx) (Y : Xd) (W : WX) (m : EM (List TV × Lk)) : TI := fun σ H R => ∃ g s C, RS Y.M g s σ ∧ RH Y.M g C H ∧ Fin Y g (fun cls d H' => W cls d σ H') (m s C) fun p g1 C1 H1 =>
  ∀ J g2 H2, Lkd X g1 H1 g2 H2 → RH Y.M g2 C1 H2 → LkAt p.2 C1 → (∀ j t, p.2 = some (j, .own t) → ((∃ xs, t = .lst xs) ∨ ∃ u, H1 (g1.A j) = some u ∧ lockable u = true ∧ H2 (g1.A j) ≠ H1 (g1.A j)) ∧ g1.L (g1.A j) = none) →
    (∀ d u, H1 d = some u → lockable u = true → H2 d ≠ H1 d → g1.B d = none → ∃ j t c, C1[j]? = some (.lck t) ∧ g1.A j = d ∧ p.2 = some (j, c)) → Yl Y g2 C1 p.2 p.1 J → R J H2

open Classical in
/-- the turns of a loop -/
noncomputable def loop (gt : TV → Slots → Option Slots) (body : SM) (lk : Lk) (C0 : Tab) : List TV → SM
  | [], s, C => .nx s C
  | x :: xs, s, C => match gt x s with
    | none => .stuck
    | some s1 => match body s1 C with
      | .nx s2 C2 => if lkOk lk C0 C2 then loop gt body lk C0 xs s2 C2 else .stuck
      | .ct s2 C2 => if lkOk lk C0 C2 then loop gt body lk C0 xs s2 C2 else .stuck
      | .bk s2 C2 => if lkOk lk C0 C2 then .nx s2 C2 else .stuck
      | .rt t C2 => if lkOk lk C0 C2 then .rt t C2 else .stuck
      | .exc x s2 C2 => if lkOk lk C0 C2 then .exc x s2 C2 else .stuck
      | .stuck => .stuck
def SR.unlk (lk : Lk) : SR → SR
  | .nx s C => .nx s (FH.unlk lk C)
  | .bk s C => .bk s (FH.unlk lk C)
  | .ct s C => .ct s (FH.unlk lk C)
  | .rt t C => .rt t (FH.unlk lk C)
  | .exc x s C => .exc x s (FH.unlk lk C)
  | .stuck => .stuck
noncomputable def nFor (m : EM (List TV × Lk)) (gt : TV → Slots → Option Slots) (body : SM) : SM := fun s C => (m s C).sr s fun p C1 => (loop gt body p.2 C1 p.1 s C1).unlk p.2
/-- a target that stores slots -/
def GS (X : Cx) (Y : Xd) (g : TG) (gt : TV → Slots → Option Slots) (is : List Nat) : Prop := ∀ (gh : Gh) (C : Tab) (H : Hp) (t : TV) (v : V) (s s1 : Slots) (σ : L2.St) (Q : L2.St → Hp → Prop),
  RH Y.M gh C H → RS Y.M gh s σ → RV Y.M gh t v → gt t s = some s1 → (∀ σ', RS Y.M gh s1 σ' → (∀ vs, (∀ i ∈ is, i ∈ vs) → L2.wipe σ' vs = L2.wipe σ vs) → Q σ' H) → g v σ H Q
def gtN (i : Nat) : TV → Slots → Option Slots := fun t s => some (s.set i (some t))
theorem wipe_set {σ : L2.St} {i : Nat} {x : Option V} : ∀ {vs : List Nat}, i ∈ vs → L2.wipe (σ.set i x) vs = L2.wipe σ vs
  | v :: vs, h => by
    by_cases hv : i ∈ vs
    · simp only [L2.wipe]; rw [wipe_set hv]
    · have e : i = v := (List.mem_cons.mp h).resolve_right hv
      subst e
      have out : ∀ {vs : List Nat} {σ : L2.St}, i ∉ vs → L2.wipe (σ.set i x) vs = (L2.wipe σ vs).set i x := by
        intro vs
        induction vs with
        | nil => intro σ _; rfl
        | cons w ws ih =>
          intro σ hn
          simp only [List.mem_cons, not_or] at hn
          simp only [L2.wipe]
          rw [ih hn.2, List.set_comm _ _ hn.1]
      simp only [L2.wipe]
      rw [out hv, List.set_set]
theorem gs_name {X : Cx} {Y : Xd} (i : Nat) : GS X Y (gName i) (gtN i) [i] := by
  intro gh C H t v s s1 σ Q R rs rv e q
  cases e
  exact q _ (rs.set rv) fun vs h => wipe_set (h i (List.mem_cons_self))

/-- the end of a walk: the heap unlocked, the cell as it was -/
theorem walk_end {X : Cx} {Y : Xd} {g1 g2 g3 : Gh} {H1 H2 H3 : Hp} {C1 C3 : Tab} {lk : Lk} (k : Lkd X g1 H1 g2 H2) (R1 : RH Y.M g1 C1 H1) (e : Ext g2 g3) (R3 : RH Y.M g3 C3 H3) (la : LkAt lk C1) (ok : lkOk lk C1 C3)
    (ho : ∀ j t, lk = some (j, .own t) → ((∃ xs, t = .lst xs) ∨ ∃ u, H1 (g1.A j) = some u ∧ lockable u = true ∧ H2 (g1.A j) ≠ H1 (g1.A j)) ∧ g1.L (g1.A j) = none)
    (hx : ∀ d u, H1 d = some u → lockable u = true → H2 d ≠ H1 d → g1.B d = none → ∃ j t c, C1[j]? = some (.lck t) ∧ g1.A j = d ∧ lk = some (j, c)) :
    ∃ g4 H4, Ext g1 g4 ∧ Ext0 g3 g4 ∧ RH Y.M g4 (unlk lk C3) H4 ∧ ∀ P, P H4 → OrU X H3 P := by
  have hA : ∀ j c, C1[j]? = some c → g3.A j = g1.A j := fun j c h => by
    have hj : j < g1.n := by rw [R1.n]; exact (List.getElem?_eq_some_iff.mp h).1
    have e1 := k.ext0
    rw [e.A j (Nat.lt_of_lt_of_le hj e1.n), e1.A j hj]
  obtain ⟨g4, H4, x1, x2, R4, hP, hU⟩ := k.un R1 e R3 fun d u h1 h2 h3 h4 => by
    obtain ⟨j, t, c, q1, q2, q3⟩ := hx d u h1 h2 h3 h4
    subst q3
    have ok' : C3[j]? = C1[j]? := ok
    exact ⟨j, t, by rw [ok']; exact q1, by rw [hA j _ q1]; exact q2⟩
  refine ⟨g4, H4, x1, x2, ?_, hP⟩
  cases lk with
  | none => exact R4
  | some p =>
    obtain ⟨j, c⟩ := p
    obtain ⟨t, ht, hc⟩ := la.ok j c rfl
    have ok' : C3[j]? = C1[j]? := ok
    have ht3 : C3[j]? = some (.lck t) := by rw [ok']; exact ht
    have hl : j < C3.length := (List.getElem?_eq_some_iff.mp ht3).1
    rcases hc with rfl | rfl
    · -- it was an own one
      obtain ⟨q1, q2⟩ := ho j t rfl
      have eA : g4.A j = g1.A j := by rw [x2.A j (by rw [R3.n]; exact hl), hA j _ ht]
      obtain ⟨o, h1, h2, h3, _⟩ := R4.c j _ ht3
      have hex : H4 (g4.A j) = some o := by
        rcases q1 with ⟨xs, rfl⟩ | ⟨u, u1, u2, u3⟩
        · obtain ⟨vs, rfl, _⟩ := h2
          exact h1.ins rfl
        · have q := hU _ u u1 u2 u3
          rw [← eA] at q
          rcases h1 with h1 | ⟨_, ob, h1⟩
          · exact h1
          · rw [q] at h1; cases h1; cases u2
      have split : ∀ {i : Nat} {c : Cell}, (C3.set j (Cell.own t))[i]? = some c → (i ≠ j ∧ C3[i]? = some c) ∨ (i = j ∧ c = .own t) := fun {i c} hi => by
        by_cases e : i = j
        · subst e; rw [List.getElem?_set_self hl] at hi; cases hi; exact .inr ⟨rfl, rfl⟩
        · rw [List.getElem?_set_ne (Ne.symm e)] at hi; exact .inl ⟨e, hi⟩
      refine ⟨R4.b, R4.l, by show g4.n = (C3.set j _).length; rw [List.length_set]; exact R4.n, fun i c hi => ?_, fun i i' c d hi hi' li li' ea => ?_, R4.d⟩
      · rcases split hi with ⟨ne, hi⟩ | ⟨rfl, rfl⟩
        · exact R4.c i c hi
        · exact ⟨o, hex, h2, h3, by rw [eA, x1.L]; exact q2⟩
      · rcases split hi with ⟨_, a1⟩ | ⟨a1, a2⟩ <;> rcases split hi' with ⟨_, b1⟩ | ⟨b1, b2⟩
        · exact R4.i i i' c d a1 b1 li li' ea
        · subst b1; exact R4.i i _ c _ a1 ht3 li rfl ea
        · subst a1; exact R4.i _ i' _ d ht3 b1 rfl li' ea
        · rw [a1, b1]
    · have e : unlk (some (j, Cell.lck t)) C3 = C3 := by
        show C3.set j (.lck t) = C3
        refine List.ext_getElem? fun i => ?_
        by_cases hi : i = j
        · subst hi; rw [List.getElem?_set_self hl]; exact ht3.symm
        · rw [List.getElem?_set_ne (Ne.symm hi)]
      rw [e]; exact R4

section
variable {X : Cx} {Y : Xd} {W : WX} {tg iter : Expr} {body : List Stmt} {g : TG} {gt : TV → Slots → Option Slots} {n : SM} {pos : Pos} {m : EM (List TV × Lk)}
theorem SFin.orU {gh : Gh} {D : Ends} {r : SR} : True := trivial
/-- for .. in ..: .. -/
theorem ss_for (po : PassesOwn (model X.prog X.w) X.A X.env X.xe) (hc : X.calm = true) (hi : PI X tg iter (tI X Y W m)) {is : List Nat} (hg : PG X tg g) (hgt : GS X Y g gt is) (tk : Takes X W)
    (hb : ∀ (W : WX), Takes X W → PSs X body (tS Y W n)) (hs : ∀ x, foldedSetIterable iter X.env x = pure x := by intro _; rfl) : PS X (.For tg iter body [] pos) (tS Y W (nFor m gt n)) := by
  refine PS.imp (ps_unlk (ps_for po hc hi hg (hb (WU X W) (Takes.unl tk)) hs)) fun D σ H ⟨gh, s, C, rs, R, f⟩ => ?_
  refine ⟨gh, s, C, rs, R, (SFin.res (C := C) (H := H) rs f).imp fun p g1 C1 H1 e1 R1 fin J g2 H2 hk R2 la ho hx yl => ?_⟩
  obtain ⟨xs, lk⟩ := p
  have rs1 := rs.mono e1
  have rs2 := rs1.mono0 hk.ext0
  obtain ⟨G, Yd, wk, hG, hY⟩ := yl
  -- what each end of the turns gives
  have fin' : SFin Y g1 W D ((loop gt n lk C1 xs s C1).unlk lk) := fin
  refine for_it wk (fun i σ' H' => ∃ g3 s3 C3, Ext g2 g3 ∧ RH Y.M g3 C3 H' ∧ RS Y.M g3 s3 σ' ∧ lkOk lk C1 C3 ∧ SFin Y g1 W D ((loop gt n lk C1 (xs.drop i) s3 C3).unlk lk))
    ⟨g2, s, C1, Ext.refl _, R2, rs2, by cases lk with | none => trivial | some p => rfl, fin'⟩ (fun i σ' H' hi' ⟨g3, s3, C3, e3, R3, _, ok3, _⟩ => hG g3 C3 H' e3.f R3 ok3) (fun i x σ' H' H'' hi' ⟨g3, s3, C3, e3, R3, rs3, ok3, f3⟩ hy => ?_)
    (fun σ' H' ⟨g3, s3, C3, e3, R3, rs3, ok3, f3⟩ => ?_)
  · obtain ⟨g4, e4, R4, t, ht, rv⟩ := hY i g3 C3 H' x H'' hi' e3.f R3 ok3 hy
    have ed : xs.drop i = t :: xs.drop (i + 1) := by
      have hl : i < xs.length := hi'
      rw [List.drop_eq_getElem_cons hl]
      rw [List.getElem?_eq_getElem hl] at ht
      cases ht; rfl
    rw [ed] at f3
    have rs4 := rs3.mono e4
    have e24 := e3.trans e4
    unfold loop at f3
    cases hgt' : gt t s3 with
    | none => rw [hgt'] at f3; exact f3.elim
    | some s5 =>
      rw [hgt'] at f3
      refine hgt g4 C3 H'' t x s3 s5 σ' _ R4 rs4 rv hgt' fun σ5 rs5 _ => ?_
      refine ⟨g4, s5, C3, rs5, R4, ?_⟩
      dsimp only at f3
      cases hbody : n s5 C3 with
      | nx s6 C6 =>
        rw [hbody] at f3
        intro g6 H6 σ6 e6 R6 rs6
        by_cases hok : lkOk lk C1 C6
        · dsimp only at f3; rw [if_pos hok] at f3; exact ⟨g6, s6, C6, e24.trans e6, R6, rs6, hok, f3⟩
        · dsimp only at f3; rw [if_neg hok] at f3; exact f3.elim
      | ct s6 C6 =>
        rw [hbody] at f3
        intro g6 H6 σ6 e6 R6 rs6
        by_cases hok : lkOk lk C1 C6
        · dsimp only at f3; rw [if_pos hok] at f3; exact ⟨g6, s6, C6, e24.trans e6, R6, rs6, hok, f3⟩
        · dsimp only at f3; rw [if_neg hok] at f3; exact f3.elim
      | bk s6 C6 =>
        rw [hbody] at f3
        intro g6 H6 σ6 e6 R6 rs6
        by_cases hok : lkOk lk C1 C6
        · dsimp only at f3; rw [if_pos hok] at f3
          obtain ⟨g7, H7, x1, x2, R7, hP⟩ := walk_end hk R1 (e24.trans e6) R6 la hok ho hx
          exact hP (D.nx σ6) (f3 g7 H7 σ6 x1 R7 (rs6.mono0 x2))
        · dsimp only at f3; rw [if_neg hok] at f3; exact f3.elim
      | rt u C6 =>
        rw [hbody] at f3
        intro g6 H6 v6 e6 R6 rv6
        by_cases hok : lkOk lk C1 C6
        · dsimp only at f3; rw [if_pos hok] at f3
          obtain ⟨g7, H7, x1, x2, R7, hP⟩ := walk_end hk R1 (e24.trans e6) R6 la hok ho hx
          exact hP (D.rt v6) (f3 g7 H7 v6 x1 R7 (rv6.mono0 x2))
        · dsimp only at f3; rw [if_neg hok] at f3; exact f3.elim
      | exc x0 s6 C6 =>
        rw [hbody] at f3
        intro g6 H6 σ6 cls d e6 R6 rs6 rx
        by_cases hok : lkOk lk C1 C6
        · dsimp only at f3; rw [if_pos hok] at f3
          obtain ⟨g7, H7, x1, x2, R7, hP⟩ := walk_end hk R1 (e24.trans e6) R6 la hok ho hx
          exact hP (W cls d σ6) (f3 g7 H7 σ6 cls d x1 R7 (rs6.mono0 x2) (RX.mono0 x2 rx))
        · dsimp only at f3; rw [if_neg hok] at f3; exact f3.elim
      | stuck => rw [hbody] at f3; exact f3.elim
  · rw [List.drop_length] at f3
    obtain ⟨g7, H7, x1, x2, R7, hP⟩ := walk_end hk R1 e3 R3 la ok3 ho hx
    exact hP (D.nx σ') (f3 g7 H7 σ' x1 R7 (rs3.mono0 x2))
end
end FH
/-! FhK: what loops walk; while; targets of several names; displays. -/
namespace FH
open PySem L2
open PySem.Spec PyProof.Rows

/-! ### while -/
def nWh (t : EM Bool) (body : SM) : Nat → SM
  | 0 => fun _ _ => .stuck
  | n + 1 => fun s C => (t s C).sr s fun b C1 => if b = true then (match body s C1 with
      | .nx s2 C2 => nWh t body n s2 C2
      | .ct s2 C2 => nWh t body n s2 C2
      | .bk s2 C2 => .nx s2 C2
      | r => r) else .nx s C1
section
variable {X : Cx} {Y : Xd} {W : WX} {c : Expr} {body : List Stmt} {ta : EM Bool} {k : SM} {pos : Pos}
theorem ss_while (n : Nat) (po : PassesOwn (model X.prog X.w) X.A X.env X.xe) (hc : PT X c (tT Y W ta)) (hb : PSs X body (tS Y W k)) : PS X (.While c body [] pos) (tS Y W (nWh ta k n)) := by
  refine PS.imp (ps_while po hc hb) fun D σ H h => ?_
  refine ⟨fun m σ H => tS Y W (nWh ta k m) D σ H, ⟨n, h⟩, fun m σ H h => ?_⟩
  obtain ⟨g, s, C, rs, R, f⟩ := h
  cases m with
  | zero => exact f.elim
  | succ m =>
    refine sT_bind rs R f fun b g1 C1 H1 e1 rs1 R1 f1 => ?_
    cases b with
    | false => exact f1 g1 H1 σ (Ext.refl g1) R1 rs1
    | true =>
      refine ⟨fun σ' H' => tS Y W (nWh ta k m) D σ' H', fun σ' H' h' => ⟨m, Nat.lt_succ_self m, h'⟩, g1, s, C1, rs1, R1, ?_⟩
      rw [if_pos rfl] at f1
      cases e : k s C1 with
      | nx s2 C2 => rw [e] at f1; exact fun g2 H2 σ2 e2 R2 rs2 => ⟨g2, s2, C2, rs2, R2, SFin.ext e2 f1⟩
      | ct s2 C2 => rw [e] at f1; exact fun g2 H2 σ2 e2 R2 rs2 => ⟨g2, s2, C2, rs2, R2, SFin.ext e2 f1⟩
      | bk s2 C2 => rw [e] at f1; exact f1
      | rt t C2 => rw [e] at f1; exact f1
      | exc x s2 C2 => rw [e] at f1; exact f1
      | stuck => rw [e] at f1; exact f1.elim
end

/-! ### lists, tuples, dicts by their keys -/
def keyTV : Key → TV
  | .inl i => .int i
  | .inr x => .str x
theorem keyTV_rv {M : Md} {g : Gh} (k : Key) : RV M g (keyTV k) (L2.kV k) := by cases k <;> constructor
def itemsOf : TV → Option (List TV)
  | .lst xs => some xs
  | .tup xs => some xs
  | .lsc ns => some (ns.map .int)
  | .dct kvs => some (kvs.map fun kv => keyTV kv.1)
  | _ => none
def withLk (t : Option (List TV)) (lk : Lk) (C : Tab) : Res (List TV × Lk) := match t with
  | some xs => .ok (xs, lk) C
  | none => .stuck
def seqOf (t : TV) (C : Tab) : Res (List TV × Lk) := match t with
  | .cel j => match C[j]? with
    | some (.own u) => withLk (itemsOf u) (some (j, .own u)) (C.set j (.lck u))
    | some (.lck u) => withLk (itemsOf u) (some (j, .lck u)) C
    | some (.frz u) => withLk (itemsOf u) none C
    | none => .stuck
  | u => withLk (itemsOf u) none C
def mSeq (m : EM TV) : EM (List TV × Lk) := fun s C => (m s C).bind seqOf
/-- an own cell is locked -/
theorem RH.lock {M : Md} {g : Gh} {C : Tab} {H : Hp} (R : RH M g C H) {j : Nat} {t : TV} (h : C[j]? = some (.own t)) : RH M g (C.set j (.lck t)) H := by
  have hl : j < C.length := (List.getElem?_eq_some_iff.mp h).1
  have split : ∀ {i : Nat} {c : Cell}, (C.set j (Cell.lck t))[i]? = some c → (i ≠ j ∧ C[i]? = some c) ∨ (i = j ∧ c = .lck t) := fun {i c} hi => by
    by_cases e : i = j
    · subst e; rw [List.getElem?_set_self hl] at hi; cases hi; exact .inr ⟨rfl, rfl⟩
    · rw [List.getElem?_set_ne (Ne.symm e)] at hi; exact .inl ⟨e, hi⟩
  refine ⟨R.b, R.l, by rw [List.length_set]; exact R.n, fun i c hi => ?_, fun i k c d hi hk li lk ea => ?_, R.d⟩
  · rcases split hi with ⟨_, hi⟩ | ⟨rfl, rfl⟩
    · exact R.c i c hi
    · obtain ⟨o, h1, h2, h3, h4⟩ := R.c i _ h; exact ⟨o, .inl h1, h2, h3, fun z hz => by rw [h4] at hz; cases hz⟩
  · rcases split hi with ⟨_, a1⟩ | ⟨a1, a2⟩ <;> rcases split hk with ⟨_, b1⟩ | ⟨b1, b2⟩
    · exact R.i i k c d a1 b1 li lk ea
    · subst b1; exact R.i i _ c _ a1 h li rfl ea
    · subst a1; exact R.i _ k _ d h b1 rfl lk ea
    · rw [a1, b1]
theorem RVs.getV {M : Md} {g : Gh} : ∀ {ts : List TV} {vs : List V} {i : Nat} {v : V}, RVs M g ts vs → vs[i]? = some v → ∃ t, ts[i]? = some t ∧ RV M g t v
  | _, _, i, t, .nil, h => by simp at h
  | _, _, 0, t, .cons r _, h => by simp at h; subst h; exact ⟨_, rfl, r⟩
  | _, _, i + 1, t, .cons _ r, h => by
    obtain ⟨v, h1, h2⟩ := RVs.getV (i := i) (v := t) r (by simpa using h)
    exact ⟨v, by simpa using h1, h2⟩
/-- a list that stays a list of the same trees -/
theorem yl_list {Y : Xd} {K : PySem.W.Frag} {g : Gh} {C : Tab} {lk : Lk} {xs : List TV} {a : Addr} (h : ∀ g' C' H', ExtF g g' → RH Y.M g' C' H' → lkOk lk C C' → ∃ vs, SqL K H' a vs ∧ RVs Y.M g' xs vs) : Yl Y g C lk xs (Itl K a) := by
  refine ⟨fun H => ∃ vs, SqL K H a vs ∧ vs.length = xs.length, fun i H x H2 => H2 = H ∧ ∀ vs, SqL K H a vs → vs[i]? = some x,
    ⟨fun i H hi ⟨vs, h1, h2⟩ => ⟨vs, vs[i]'(by omega), h1, List.getElem?_eq_getElem _⟩, fun H ⟨vs, h1, h2⟩ => ⟨vs, h1, by omega⟩, fun i H x H2 hi _ y => y⟩,
    fun g' C' H' e R l => let ⟨vs, h1, h2⟩ := h g' C' H' e R l; ⟨vs, h1, h2.length.symm⟩, fun i g' C' H' x H2 hi e R l y => ?_⟩
  obtain ⟨vs, h1, h2⟩ := h g' C' H' e R l
  obtain ⟨rfl, y⟩ := y
  obtain ⟨t, ht, rv⟩ := h2.getV (y vs h1)
  exact ⟨g', Ext.refl _, R, t, ht, rv⟩
theorem yl_tup {Y : Xd} {K : PySem.W.Frag} {g : Gh} {C : Tab} {lk : Lk} {xs : List TV} {a : Addr} (h : ∀ g' C' H', ExtF g g' → RH Y.M g' C' H' → lkOk lk C C' → ∃ vs, SqT K H' a vs ∧ RVs Y.M g' xs vs) : Yl Y g C lk xs (Itt K a) := by
  refine ⟨fun H => ∃ vs, SqT K H a vs ∧ vs.length = xs.length, fun i H x H2 => H2 = H ∧ ∀ vs, SqT K H a vs → vs[i]? = some x,
    ⟨fun i H hi ⟨vs, h1, h2⟩ => ⟨vs, vs[i]'(by omega), h1, List.getElem?_eq_getElem _⟩, fun H ⟨vs, h1, h2⟩ => ⟨vs, h1, by omega⟩, fun i H x H2 hi _ y => y⟩,
    fun g' C' H' e R l => let ⟨vs, h1, h2⟩ := h g' C' H' e R l; ⟨vs, h1, h2.length.symm⟩, fun i g' C' H' x H2 hi e R l y => ?_⟩
  obtain ⟨vs, h1, h2⟩ := h g' C' H' e R l
  obtain ⟨rfl, y⟩ := y
  obtain ⟨t, ht, rv⟩ := h2.getV (y vs h1)
  exact ⟨g', Ext.refl _, R, t, ht, rv⟩
theorem RKs.get {M : Md} {g : Gh} : ∀ {ts : List (Key × TV)} {vs : List (Key × V)} {i : Nat} {k : Key} {v : V}, RKs M g ts vs → vs[i]? = some (k, v) → ∃ t, ts[i]? = some (k, t) ∧ RV M g t v
  | _, _, i, k, v, .nil, h => by simp at h
  | _, _, 0, k, v, .cons r _, h => by simp at h; obtain ⟨h1, h2⟩ := h; subst h1; subst h2; exact ⟨_, rfl, r⟩
  | _, _, i + 1, k, v, .cons _ r, h => by
    obtain ⟨v, h1, h2⟩ := RKs.get (i := i) r (by simpa using h)
    exact ⟨v, by simpa using h1, h2⟩
theorem yl_keys {Y : Xd} {g : Gh} {C : Tab} {lk : Lk} {kvs : List (Key × TV)} {ws : List (Key × V)} {d : Addr} {o : Obj} (h : g.L d = some (.frz o (.dK ws))) (r : RKs Y.M g kvs ws) : Yl Y g C lk (kvs.map fun kv => keyTV kv.1) (Itk d o ws) := by
  have hl := r.length
  refine ⟨fun H => H d = some (.frz o (.dK ws)), fun i H x H2 => H2 = H ∧ ∃ k v, ws[i]? = some (k, v) ∧ x = L2.kV k, ⟨fun i H hi hd => ⟨hd, by rw [List.length_map] at hi; omega⟩, fun H hd => ⟨hd, by rw [List.length_map]; omega⟩, fun i H x H2 hi _ y => y⟩,
    fun g' C' H' e R l => R.l d _ (e.L _ _ _ h), fun i g' C' H' x H2 hi e R l y => ?_⟩
  obtain ⟨rfl, k, v, h1, rfl⟩ := y
  obtain ⟨t, h2, _⟩ := r.get h1
  exact ⟨g', Ext.refl _, R, keyTV k, by rw [List.getElem?_map, h2]; rfl, keyTV_rv k⟩
theorem yl_items {Y : Xd} {g : Gh} {C : Tab} {lk : Lk} {kvs : List (Key × TV)} {ws : List (Key × V)} {d : Addr} {o : Obj} (h : g.L d = some (.frz o (.dK ws))) (r : RKs Y.M g kvs ws) : Yl Y g C lk (kvs.map fun kv => .tup [keyTV kv.1, kv.2]) (Iti d o ws) := by
  have hl := r.length
  refine ⟨fun H => H d = some (.frz o (.dK ws)), fun i H x H2 => ∃ T k v, ws[i]? = some (k, v) ∧ x = .ref T ∧ H T = none ∧ H2 = upd H T (.tup [L2.kV k, v]), ⟨fun i H hi hd => ⟨hd, by rw [List.length_map] at hi; omega⟩, fun H hd => ⟨hd, by rw [List.length_map]; omega⟩, fun i H x H2 hi _ y => y⟩,
    fun g' C' H' e R l => R.l d _ (e.L _ _ _ h), fun i g' C' H' x H2 hi e R l y => ?_⟩
  obtain ⟨T, k, v, h1, rfl, hT, rfl⟩ := y
  obtain ⟨t, h2, rv⟩ := r.get h1
  obtain ⟨R', e'⟩ := R.addB (o := .tup [L2.kV k, v]) (Same.upd hT) hT upd_same
  exact ⟨_, e', R', .tup [keyTV k, t], by rw [List.getElem?_map, h2]; rfl, .tup upd_same (.cons (keyTV_rv k) (.cons (((rv.mono0 e.e0).mono e')) .nil))⟩
theorem yl_vals {Y : Xd} {g : Gh} {C : Tab} {lk : Lk} {kvs : List (Key × TV)} {ws : List (Key × V)} {d : Addr} {o : Obj} (h : g.L d = some (.frz o (.dK ws))) (r : RKs Y.M g kvs ws) : Yl Y g C lk (kvs.map fun kv => kv.2) (Itd d o ws) := by
  have hl := r.length
  refine ⟨fun H => H d = some (.frz o (.dK ws)), fun i H x H2 => H2 = H ∧ ∃ k, ws[i]? = some (k, x), ⟨fun i H hi hd => ⟨hd, by rw [List.length_map] at hi; omega⟩, fun H hd => ⟨hd, by rw [List.length_map]; omega⟩, fun i H x H2 hi _ y => y⟩,
    fun g' C' H' e R l => R.l d _ (e.L _ _ _ h), fun i g' C' H' x H2 hi e R l y => ?_⟩
  obtain ⟨rfl, k, h1⟩ := y
  obtain ⟨t, h2, rv⟩ := r.get h1
  exact ⟨g', Ext.refl _, R, t, by rw [List.getElem?_map, h2]; rfl, rv.mono0 e.e0⟩

/-! ### the sources -/
section
variable {X : Cx} {Y : Xd} {W : WX} {tg l e : Expr} {m : EM TV} {pos apos cpos : Pos}
theorem PI.imp {wi wi' : TI} (h : PI X tg l wi) (i : ∀ σ H R, wi' σ H R → wi σ H R) : PI X tg l wi' := ⟨fun pins s σ H R I q => h.run pins s σ H R I (i σ H R q)⟩
theorem PI.or {wi wi' : TI} (h : PI X tg l wi) (h' : PI X tg l wi') : PI X tg l (fun σ H R => wi σ H R ∨ wi' σ H R) :=
  ⟨fun pins s σ H R I q => q.elim (h.run pins s σ H R I) (h'.run pins s σ H R I)⟩
/-- the reading of a dict that may be locked -/
def tLk (X : Cx) (t : TE) : TE := fun σ H Q => t σ H fun x H1 => Q x H1 ∨ ∃ d u, x = .ref d ∧ H1 d = some u ∧ Mut (some u) ∧ ((∀ o' u', X.H_0 d ≠ some (.frz o' u')) → ∀ od, Q x (upd H1 d (.frz od u)))
/-- what the consumer of a walk is given, at g, C, H -/
def Go (X : Cx) (Y : Xd) (R : It → Hp → Prop) (p : List TV × Lk) (g1 : Gh) (C1 : Tab) (H1 : Hp) : Prop :=
  ∀ J g2 H2, Lkd X g1 H1 g2 H2 → RH Y.M g2 C1 H2 → LkAt p.2 C1 → (∀ j t, p.2 = some (j, .own t) → ((∃ xs, t = .lst xs) ∨ ∃ u, H1 (g1.A j) = some u ∧ lockable u = true ∧ H2 (g1.A j) ≠ H1 (g1.A j)) ∧ g1.L (g1.A j) = none) →
    (∀ d u, H1 d = some u → lockable u = true → H2 d ≠ H1 d → g1.B d = none → ∃ j t c, C1[j]? = some (.lck t) ∧ g1.A j = d ∧ p.2 = some (j, c)) → Yl Y g2 C1 p.2 p.1 J → R J H2
theorem lkAt_none {C : Tab} : LkAt none C := ⟨fun j c h => nomatch h⟩
/-- a walk that locks nothing of the heap, over a cell or none -/
theorem Go.plain {R : It → Hp → Prop} {xs : List TV} {lk : Lk} {g1 : Gh} {C1 : Tab} {H1 : Hp} (G : Go X Y R (xs, lk) g1 C1 H1) (R1 : RH Y.M g1 C1 H1) (la : LkAt lk C1) (ho : ∀ j t, lk = some (j, .own t) → (∃ xs, t = .lst xs) ∧ g1.L (g1.A j) = none) {J : It} (yl : Yl Y g1 C1 lk xs J) : R J H1 :=
  G J g1 H1 .no R1 la (fun j t h => ⟨.inl (ho j t h).1, (ho j t h).2⟩) (fun d u _ _ ne _ => absurd rfl ne) yl
/-- the readings of the four -/
def iL (K : PySem.W.Frag) (R : It → Hp → Prop) (x : V) (H : Hp) : Prop := ∃ a, x = .ref a ∧ (∃ xs, SqL K H a xs) ∧ R (Itl K a) H
def iT (K : PySem.W.Frag) (R : It → Hp → Prop) (x : V) (H : Hp) : Prop := ∃ a, x = .ref a ∧ (∃ xs, SqT K H a xs) ∧ R (Itt K a) H
def iK (R : It → Hp → Prop) (x : V) (H : Hp) : Prop := ∃ d o, x = .ref d ∧ ((∃ kvs, H d = some (.frz o (.dK kvs)) ∧ R (Itk d o kvs) H) ∨ ∃ kvs, H d = some (.frz o (.dT kvs)) ∧ R (Itkt d o kvs) H)
def orLk (X : Cx) (Q : V → Hp → Prop) (x : V) (H1 : Hp) : Prop := Q x H1 ∨ ∃ d u, x = .ref d ∧ H1 d = some u ∧ Mut (some u) ∧ ((∀ o' u', X.H_0 d ≠ some (.frz o' u')) → ∀ od, Q x (upd H1 d (.frz od u)))
/-- a dict is walked: J0 tells the walk of the locked dict -/
theorem dict_go {R : It → Hp → Prop} {xs : List TV} {lk : Lk} {g1 : Gh} {C1 : Tab} {H1 : Hp} {d : Addr} {ws : List (Key × V)} {kvs : List (Key × TV)} (G : Go X Y R (xs, lk) g1 C1 H1) (R1 : RH Y.M g1 C1 H1) (la : LkAt lk C1)
    (hd : Rq H1 d (.dK ws)) (rk : RKs Y.M g1 kvs ws) (ho : ∀ j t, lk = some (j, .own t) → g1.A j = d ∧ H1 d = some (.dK ws) ∧ g1.L d = none) (hx : g1.B d = none → ∃ j t c, C1[j]? = some (.lck t) ∧ g1.A j = d ∧ lk = some (j, c))
    (hc : ∀ j t, C1[j]? = some (.own t) → g1.A j ≠ d) (hLd : H1 d = some (.dK ws) → g1.L d = none) (J0 : Obj → It) (Q : V → Hp → Prop) (hQ : ∀ (o : Obj) (H : Hp), H d = some (.frz o (.dK ws)) → R (J0 o) H → Q (.ref d) H)
    (hY : ∀ (o : Obj) (g : Gh), g.L d = some (.frz o (.dK ws)) → RKs Y.M g kvs ws → Yl Y g C1 lk xs (J0 o)) : orLk X Q (.ref d) H1 := by
  rcases hd with hd | ⟨_, o, hd⟩
  · refine .inr ⟨d, .dK ws, rfl, hd, trivial, fun hn od => hQ od _ upd_same ?_⟩
    have k : Lkd X g1 H1 { g1 with L := upd g1.L d (.frz od (.dK ws)) } (upd H1 d (.frz od (.dK ws))) := .yes hd rfl hn (hLd hd)
    refine G _ _ _ k (Lkd.rh R1 hd rfl hc) la (fun j t h => ?_) (fun d' u h1 h2 h3 h4 => ?_) (hY od _ upd_same (rk.mono0 k.ext0))
    · obtain ⟨e1, e2, e3⟩ := ho j t h
      rw [e1]
      exact ⟨.inr ⟨_, hd, rfl, by rw [upd_same, hd]; intro z; cases z⟩, e3⟩
    · by_cases e : d' = d
      · subst e; exact hx h4
      · exact absurd (upd_ne e) h3
  · refine .inl (hQ o _ hd ?_)
    have k : Lkd X g1 H1 { g1 with L := upd g1.L d (.frz o (.dK ws)) } H1 := .keep hd
    refine G _ _ _ k (Lkd.rhk R1 hd) la (fun j t h => ?_) (fun d' u h1 h2 h3 h4 => absurd rfl h3) (hY o _ upd_same (rk.mono0 k.ext0))
    obtain ⟨e1, e2, e3⟩ := ho j t h
    rw [e2] at hd; cases hd
/-- the dict behind a value, as a walk finds it -/
theorem dict_at {M : Md} {g : Gh} {C C1 : Tab} {H : Hp} {t : TV} {v : V} {kvs : List (Key × TV)} {lk : Lk} (R : RH M g C H) (rv : RV M g t v) (e : rd C t = .dct kvs)
    (hl : (∃ j u, t = .cel j ∧ C[j]? = some (.own u) ∧ lk = some (j, .own u) ∧ C1 = C.set j (.lck u)) ∨ (∃ j u, t = .cel j ∧ C[j]? = some (.lck u) ∧ lk = some (j, .lck u) ∧ C1 = C) ∨ ((∀ j u, t = .cel j → C[j]? ≠ some (.own u) ∧ C[j]? ≠ some (.lck u)) ∧ lk = none ∧ C1 = C)) :
    ∃ d ws, v = .ref d ∧ Rq H d (.dK ws) ∧ RKs M g kvs ws ∧ RH M g C1 H ∧ LkAt lk C1 ∧ (∀ j t, lk = some (j, .own t) → g.A j = d ∧ H d = some (.dK ws) ∧ g.L d = none) ∧
      (g.B d = none → ∃ j t c, C1[j]? = some (.lck t) ∧ g.A j = d ∧ lk = some (j, c)) ∧ (∀ j t, C1[j]? = some (.own t) → g.A j ≠ d) ∧ (H d = some (.dK ws) → g.L d = none) := by
  rcases hl with ⟨j, u, rfl, hj, rfl, rfl⟩ | ⟨j, u, rfl, hj, rfl, rfl⟩ | ⟨hn, rfl, rfl⟩
  · have hjl := (List.getElem?_eq_some_iff.mp hj).1
    have hs : (C.set j (Cell.lck u))[j]? = some (.lck u) := List.getElem?_set_self hjl
    cases rv with
    | cel h =>
      have eu : u = .dct kvs := by simpa [rd, hj] using e
      subst eu
      obtain ⟨o, h1, ⟨ws, rfl, h2⟩, h3, h4⟩ := R.c j _ hj
      refine ⟨g.A j, ws, rfl, .inl h1, h2, R.lock hj, ⟨fun i c hh => by cases hh; exact ⟨_, hs, .inl rfl⟩⟩, fun i t hh => by cases hh; exact ⟨rfl, h1, h4⟩, fun _ => ⟨j, _, _, hs, rfl, rfl⟩, fun i t hi ea => ?_, fun _ => h4⟩
      have ne : i ≠ j := fun z => by rw [z, hs] at hi; cases hi
      rw [List.getElem?_set_ne (Ne.symm ne)] at hi
      exact ne (R.i i j _ _ hi hj rfl rfl ea)
  · cases rv with
    | cel h =>
      have eu : u = .dct kvs := by simpa [rd, hj] using e
      subst eu
      obtain ⟨o, h1, ⟨ws, rfl, h2⟩, h3, h4⟩ := R.c j _ hj
      refine ⟨g.A j, ws, rfl, h1, h2, R, ⟨fun i c hh => by cases hh; exact ⟨_, hj, .inr rfl⟩⟩, (fun i t hh => by cases hh), fun _ => ⟨j, _, _, hj, rfl, rfl⟩, fun i t hi ea => ?_, fun hd => ?_⟩
      · have ne : i ≠ j := fun z => by rw [z, hj] at hi; cases hi
        exact ne (R.i i j _ _ hi hj rfl rfl ea)
      · cases el : g.L (g.A j) with
        | none => rfl
        | some o =>
          obtain ⟨ob, u, rfl⟩ := h4 o el
          rw [R.l _ _ el] at hd; cases hd
  · have plain : ∀ {t : TV}, RV M g t v → t = .dct kvs → ∃ d ws, v = .ref d ∧ Rq H d (.dK ws) ∧ RKs M g kvs ws ∧ RH M g C1 H ∧ LkAt none C1 ∧ (∀ j t, (none : Lk) = some (j, .own t) → g.A j = d ∧ H d = some (.dK ws) ∧ g.L d = none) ∧
        (g.B d = none → ∃ j t c, C1[j]? = some (.lck t) ∧ g.A j = d ∧ (none : Lk) = some (j, c)) ∧ (∀ j t, C1[j]? = some (.own t) → g.A j ≠ d) ∧ (H d = some (.dK ws) → g.L d = none) := by
      intro t rv et
      subst et
      cases rv with
      | @dct d _ ws h1 h2 =>
        refine ⟨d, ws, rfl, R.b _ _ h1, h2, R, lkAt_none, (fun j t hh => nomatch hh), (fun z => by rw [h1] at z; cases z), fun j t hj ea => ?_, fun hd => ?_⟩
        · obtain ⟨o, _, _, q, _⟩ := R.c j _ hj
          rw [ea, h1] at q; cases q
        · cases el : g.L d with
          | none => rfl
          | some o =>
            by_cases hf : ∃ ob u, o = .frz ob u
            · obtain ⟨ob, u, rfl⟩ := hf
              rw [R.l _ _ el] at hd; cases hd
            · have q := R.d d o el fun ob u z => hf ⟨ob, u, z⟩
              rw [h1] at q; cases q
    cases t with
    | cel j =>
      cases rv with
      | cel h =>
        obtain ⟨c, hc, q⟩ := R.cell h
        have et : c.tree = .dct kvs := by simpa [rd, hc] using e
        cases c with
        | own u => exact absurd hc (hn j u rfl).1
        | lck u => exact absurd hc (hn j u rfl).2
        | frz u => exact plain q et
    | dct k => exact plain rv (by simpa [rd] using e)
    | _ => simp [rd] at e

theorem set_at {C : Tab} {j : Nat} {c d : Cell} (h : C[j]? = some c) : (C.set j d)[j]? = some d := List.getElem?_set_self (List.getElem?_eq_some_iff.mp h).1
/-- lists -/
def iLJ (K : PySem.W.Frag) (J0 : Addr → It) (R : It → Hp → Prop) (x : V) (H : Hp) : Prop := ∃ a, x = .ref a ∧ (∃ xs, SqL K H a xs) ∧ R (J0 a) H
def iTJ (K : PySem.W.Frag) (J0 : Addr → It) (R : It → Hp → Prop) (x : V) (H : Hp) : Prop := ∃ a, x = .ref a ∧ (∃ xs, SqT K H a xs) ∧ R (J0 a) H
theorem seq_l {R0 : It → Hp → Prop} (φ : List TV → List TV) (J0 : Addr → It) (hyl : ∀ {g : Gh} {C : Tab} {lk : Lk} {xs : List TV} {a : Addr}, (∀ g' C' H', ExtF g g' → RH Y.M g' C' H' → lkOk lk C C' → ∃ vs, SqL X.K H' a vs ∧ RVs Y.M g' xs vs) → Yl Y g C lk (φ xs) (J0 a)) {g : Gh} {C : Tab} {H : Hp} {t : TV} {v : V} {Wσ : Value → Option Addr → Hp → Prop} (hK : X.K = Y.M.K) (R : RH Y.M g C H) (rv : RV Y.M g t v) (f : Fin Y g Wσ (seqOf t C) fun p g1 C1 H1 => Go X Y R0 (φ p.1, p.2) g1 C1 H1)
    (hk : (∃ xs, rd C t = .lst xs) ∨ ∃ ns, rd C t = .lsc ns) : iLJ X.K J0 R0 v H := by
  have plain : ∀ {u : TV}, RV Y.M g u v → (∃ xs, u = .lst xs) ∨ (∃ ns, u = .lsc ns) → (∀ xs, itemsOf u = some xs → Go X Y R0 (φ xs, none) g C H) → iLJ X.K J0 R0 v H := by
    intro u ru hu hG
    rcases hu with ⟨xs, rfl⟩ | ⟨ns, rfl⟩
    · have G := hG xs rfl
      cases ru with
      | @lst a _ vs h1 h2 =>
        exact ⟨a, rfl, ⟨vs, .of ((R.b _ _ h1).ins rfl)⟩, G.plain R lkAt_none (fun j t h => nomatch h) (hyl fun g' C' H' e R' _ => ⟨vs, .of ((R'.b _ _ (e.e0.B _ _ h1)).ins rfl), h2.mono0 e.e0⟩)⟩
    · have G := hG _ rfl
      cases ru with
      | @lsc a o _ h1 =>
        exact ⟨a, rfl, ⟨_, .inl (.inr ⟨o, (R.b _ _ h1).ins rfl⟩)⟩, G.plain R lkAt_none (fun j t h => nomatch h) (hyl fun g' C' H' e R' _ => ⟨_, .inl (.inr ⟨o, (R'.b _ _ (e.e0.B _ _ h1)).ins rfl⟩), rvs_ints⟩)⟩
      | @lscK a _ h1 =>
        have hS : ∀ H, SqL X.K H a (ns.map V.int) := fun H => .inr (by rw [hK]; exact h1)
        exact ⟨a, rfl, ⟨_, hS H⟩, G.plain R lkAt_none (fun j t h => nomatch h) (hyl fun g' C' H' e R' _ => ⟨_, hS H', rvs_ints⟩)⟩
  have tree : ∀ {u : TV} {o : HO}, RN Y.M g u o → (∃ xs, u = .lst xs) ∨ (∃ ns, u = .lsc ns) → ∃ xs, u = .lst xs := fun {u o} rn h => h.elim id fun ⟨ns, e⟩ => by subst e; exact rn.elim
  cases t with
  | cel j =>
    cases rv with
    | cel h =>
      obtain ⟨c, hc, q⟩ := R.cell h
      have et : rd C (.cel j) = c.tree := by simp [rd, hc]
      rw [et] at hk
      unfold seqOf at f
      dsimp only at f
      rw [hc] at f
      cases c with
      | own u =>
        obtain ⟨o, h1, h2, h3, h4⟩ := q
        obtain ⟨xs, rfl⟩ := tree h2 hk
        obtain ⟨vs, rfl, h5⟩ := h2
        have hs : (C.set j (Cell.lck (.lst xs)))[j]? = some (.lck (.lst xs)) := set_at hc
        have G := f g H (Ext.refl g) (R.lock hc)
        refine ⟨_, rfl, ⟨vs, .of h1⟩, G.plain (R.lock hc) ⟨fun i c hh => by cases hh; exact ⟨_, hs, .inl rfl⟩⟩ (fun i t hh => by cases hh; exact ⟨⟨_, rfl⟩, h4⟩) (hyl fun g' C' H' e R' l => ?_)⟩
        have l' : C'[j]? = some (.lck (.lst xs)) := Eq.trans l hs
        obtain ⟨o, q1, ⟨ws, rfl, q2⟩, q3⟩ := R'.c j _ l'
        rw [e.e0.A j h] at q1
        exact ⟨ws, .of (q1.ins rfl), q2⟩
      | lck u =>
        obtain ⟨o, h1, h2, h3⟩ := q
        obtain ⟨xs, rfl⟩ := tree h2 hk
        obtain ⟨vs, rfl, h5⟩ := h2
        have G := f g H (Ext.refl g) R
        refine ⟨_, rfl, ⟨vs, .of (h1.ins rfl)⟩, G.plain R ⟨fun i c hh => by cases hh; exact ⟨_, hc, .inr rfl⟩⟩ (fun i t hh => by cases hh) (hyl fun g' C' H' e R' l => ?_)⟩
        have l' : C'[j]? = some (.lck (.lst xs)) := Eq.trans l hc
        obtain ⟨o, q1, ⟨ws, rfl, q2⟩, q3⟩ := R'.c j _ l'
        rw [e.e0.A j h] at q1
        exact ⟨ws, .of (q1.ins rfl), q2⟩
      | frz u =>
        refine plain q hk fun xs hx => ?_
        dsimp only at f
        rw [hx] at f
        exact f g H (Ext.refl g) R
  | _ =>
    refine plain rv hk fun xs hx => ?_
    unfold seqOf at f
    dsimp only at f
    first
      | (rw [hx] at f; exact f g H (Ext.refl g) R)
      | (cases hx; exact f g H (Ext.refl g) R)
theorem seq_t {R0 : It → Hp → Prop} (φ : List TV → List TV) (J0 : Addr → It) (hyl : ∀ {g : Gh} {C : Tab} {lk : Lk} {xs : List TV} {a : Addr}, (∀ g' C' H', ExtF g g' → RH Y.M g' C' H' → lkOk lk C C' → ∃ vs, SqT X.K H' a vs ∧ RVs Y.M g' xs vs) → Yl Y g C lk (φ xs) (J0 a)) {g : Gh} {C : Tab} {H : Hp} {t : TV} {v : V} {Wσ : Value → Option Addr → Hp → Prop} {xs : List TV} (hK : X.K = Y.M.K) (R : RH Y.M g C H) (rv : RV Y.M g t v) (f : Fin Y g Wσ (seqOf t C) fun p g1 C1 H1 => Go X Y R0 (φ p.1, p.2) g1 C1 H1)
    (hk : rd C t = .tup xs) : iTJ X.K J0 R0 v H := by
  have rt := R.rvtup rv hk
  have G : Go X Y R0 (φ xs, none) g C H := by
    cases t with
    | cel j =>
      cases rv with
      | cel h =>
        obtain ⟨c, hc, q⟩ := R.cell h
        have et : rd C (.cel j) = c.tree := by simp [rd, hc]
        rw [et] at hk
        unfold seqOf at f
        dsimp only at f
        rw [hc] at f
        cases c with
        | own u => cases hk; obtain ⟨_, _, q, _⟩ := q; exact q.elim
        | lck u => cases hk; obtain ⟨_, _, q, _⟩ := q; exact q.elim
        | frz u => cases hk; exact f g H (Ext.refl g) R
    | tup k => cases hk; exact f g H (Ext.refl g) R
    | _ => simp [rd] at hk
  cases rt with
  | @tup a _ vs h1 h2 =>
    exact ⟨a, rfl, ⟨vs, .inl (R.b _ _ h1).rd⟩, G.plain R lkAt_none (fun j t h => nomatch h) (hyl fun g' C' H' e R' _ => ⟨vs, .inl (R'.b _ _ (e.e0.B _ _ h1)).rd, h2.mono0 e.e0⟩)⟩
  | @tupK a _ vs h1 h2 =>
    have hS : ∀ H, SqT X.K H a vs := fun H => .inr (by rw [hK]; exact h1)
    exact ⟨a, rfl, ⟨vs, hS H⟩, G.plain R lkAt_none (fun j t h => nomatch h) (hyl fun g' C' H' e R' _ => ⟨vs, hS H', h2.mono0 e.e0⟩)⟩
/-- the table and the lock that a dict's walk begins with -/
def dctOf (t : TV) (C : Tab) : Option (List (Key × TV) × Lk × Tab) := match t with
  | .cel j => match C[j]? with
    | some (.own (.dct k)) => some (k, some (j, .own (.dct k)), C.set j (.lck (.dct k)))
    | some (.lck (.dct k)) => some (k, some (j, .lck (.dct k)), C)
    | some (.frz (.dct k)) => some (k, none, C)
    | _ => none
  | .dct k => some (k, none, C)
  | _ => none
theorem dctOf_at {g : Gh} {C : Tab} {H : Hp} {t : TV} {v : V} {kvs : List (Key × TV)} {lk : Lk} {C1 : Tab} (R : RH Y.M g C H) (rv : RV Y.M g t v) (e : dctOf t C = some (kvs, lk, C1)) :
    ∃ d ws, v = .ref d ∧ Rq H d (.dK ws) ∧ RKs Y.M g kvs ws ∧ RH Y.M g C1 H ∧ LkAt lk C1 ∧ (∀ j t, lk = some (j, .own t) → g.A j = d ∧ H d = some (.dK ws) ∧ g.L d = none) ∧
      (g.B d = none → ∃ j t c, C1[j]? = some (.lck t) ∧ g.A j = d ∧ lk = some (j, c)) ∧ (∀ j t, C1[j]? = some (.own t) → g.A j ≠ d) ∧ (H d = some (.dK ws) → g.L d = none) := by
  cases t with
  | cel j =>
    unfold dctOf at e
    dsimp only at e
    split at e
    · rename_i k hj; cases e
      exact dict_at R rv (by simp [rd, hj, Cell.tree]) (.inl ⟨j, _, rfl, hj, rfl, rfl⟩)
    · rename_i k hj; cases e
      exact dict_at R rv (by simp [rd, hj, Cell.tree]) (.inr (.inl ⟨j, _, rfl, hj, rfl, rfl⟩))
    · rename_i k hj; cases e
      exact dict_at R rv (by simp [rd, hj, Cell.tree]) (.inr (.inr ⟨fun i u h => by injection h with h1; subst h1; rw [hj]; exact ⟨(fun z => by cases z), (fun z => by cases z)⟩, rfl, rfl⟩))
    · cases e
  | dct k =>
    cases e
    exact dict_at R rv rfl (.inr (.inr ⟨(fun i u h => by cases h), rfl, rfl⟩))
  | _ => cases e
theorem seqOf_dct {t : TV} {C : Tab} {kvs : List (Key × TV)} (h : rd C t = .dct kvs) : ∃ lk C1, dctOf t C = some (kvs, lk, C1) ∧ seqOf t C = .ok (kvs.map fun kv => keyTV kv.1, lk) C1 := by
  cases t with
  | cel j =>
    cases hc : C[j]? with
    | none => simp [rd, hc] at h
    | some c =>
      have et : c.tree = .dct kvs := by simpa [rd, hc] using h
      cases c with
      | own u => cases et; exact ⟨some (j, .own (.dct kvs)), C.set j (.lck (.dct kvs)), by simp [dctOf, hc], by simp [seqOf, hc, withLk, itemsOf]⟩
      | lck u => cases et; exact ⟨some (j, .lck (.dct kvs)), C, by simp [dctOf, hc], by simp [seqOf, hc, withLk, itemsOf]⟩
      | frz u => cases et; exact ⟨none, C, by simp [dctOf, hc], by simp [seqOf, hc, withLk, itemsOf]⟩
  | dct k => cases h; exact ⟨_, _, rfl, rfl⟩
  | _ => simp [rd] at h
theorem seq_d {R0 : It → Hp → Prop} {g : Gh} {C : Tab} {H : Hp} {t : TV} {v : V} {Wσ : Value → Option Addr → Hp → Prop} {kvs : List (Key × TV)} (R : RH Y.M g C H) (rv : RV Y.M g t v) (f : Fin Y g Wσ (seqOf t C) fun p g1 C1 H1 => Go X Y R0 p g1 C1 H1)
    (hk : rd C t = .dct kvs) : orLk X (iK R0) v H := by
  obtain ⟨lk, C1, e1, e2⟩ := seqOf_dct hk
  obtain ⟨d, ws, rfl, hd, rk, R1, la, ho, hx, hc, hLd⟩ := dctOf_at R rv e1
  rw [e2] at f
  exact dict_go (f g H (Ext.refl g) R1) R1 la hd rk ho hx hc hLd (fun o => Itk d o ws) (iK R0) (fun o H' h r => ⟨d, o, rfl, .inl ⟨ws, h, r⟩⟩) fun o g' h rk' => yl_keys h rk'
theorem seqOf_stuck {t : TV} {C : Tab} (h : itemsOf (rd C t) = none) : seqOf t C = .stuck := by
  cases t with
  | cel j =>
    unfold seqOf
    dsimp only
    cases hc : C[j]? with
    | none => rfl
    | some c =>
      have et : rd C (.cel j) = c.tree := by simp [rd, hc]
      rw [et] at h
      cases c with
      | own u => have h' : itemsOf u = none := h; dsimp only; rw [h']; rfl
      | lck u => have h' : itemsOf u = none := h; dsimp only; rw [h']; rfl
      | frz u => have h' : itemsOf u = none := h; dsimp only; rw [h']; rfl
  | lst xs => cases h
  | tup xs => cases h
  | lsc xs => cases h
  | dct xs => cases h
  | _ => rfl
/-- for x in e: a list, a tuple, a dict's keys -/
theorem si_seq (h : PE X l (tE Y W m)) (hK : X.K = Y.M.K := by rfl) : PI X tg l (tI X Y W (mSeq m)) := by
  refine PI.imp (PI.or (pi_list h) (PI.or (pi_tup h) (pi_keys (pe_lk h)))) fun σ H R0 ⟨g, s, C, rs, R, f⟩ => ?_
  have f' : Fin Y g (fun cls d H' => W cls d σ H') ((m s C).bind seqOf) fun p g1 C1 H1 => Go X Y R0 p g1 C1 H1 := f
  cases hm : m s C with
  | stuck => rw [hm] at f'; exact f'.elim
  | exc x C1 => rw [hm] at f'; exact .inl ⟨g, s, C, rs, R, by rw [hm]; exact f'⟩
  | ok t C1 =>
    rw [hm] at f'
    have mk : ∀ {Q : VK}, (∀ g1 H1 v, Ext g g1 → RH Y.M g1 C1 H1 → RV Y.M g1 t v → Q v H1) → tE Y W m σ H Q := fun {Q} hq => ⟨g, s, C, rs, R, by rw [hm]; exact fun g1 H1 e1 R1 v rv => hq g1 H1 v e1 R1 rv⟩
    have f2 : Fin Y g (fun cls d H' => W cls d σ H') (seqOf t C1) fun p g1 C1 H1 => Go X Y R0 p g1 C1 H1 := f'
    cases hk : rd C1 t with
    | lst xs => exact .inl (mk fun g1 H1 v e1 R1 rv => seq_l id (Itl X.K) yl_list hK R1 rv (Fin.ext e1 f2) (.inl ⟨xs, hk⟩))
    | lsc ns => exact .inl (mk fun g1 H1 v e1 R1 rv => seq_l id (Itl X.K) yl_list hK R1 rv (Fin.ext e1 f2) (.inr ⟨ns, hk⟩))
    | tup xs => exact .inr (.inl (mk fun g1 H1 v e1 R1 rv => seq_t id (Itt X.K) yl_tup hK R1 rv (Fin.ext e1 f2) hk))
    | dct kvs => exact .inr (.inr (mk fun g1 H1 v e1 R1 rv => seq_d R1 rv (Fin.ext e1 f2) hk))
    | _ => rw [seqOf_stuck (by rw [hk]; rfl)] at f2; exact f2.elim
end
end FH
/-! FhL: more sources; targets of several names; displays; slices; comprehensions. -/
namespace FH
open PySem L2
open PySem.Spec PyProof.Rows
section
variable {X : Cx} {Y : Xd} {W : WX} {tg l e : Expr} {es : List Expr} {m : EM TV} {ma : EM (List TV)} {pos apos cpos p tpos : Pos} {elts : List Expr} {kk : Nat}
/-! ### range -/
def rngL (lo c : Int) (n : Nat) : List TV := (List.range n).map fun i => .int (lo + (i : Nat) * c)
theorem rngL_get {lo c : Int} {n i : Nat} (h : i < n) : (rngL lo c n)[i]? = some (.int (lo + (i : Nat) * c)) := by simp [rngL, h]
theorem yl_range {g : Gh} {C : Tab} {lk : Lk} {lo : Int} {n : Nat} : Yl Y g C lk (rngL lo 1 n) (Itr lo n) := by
  have hl : (rngL lo 1 n).length = n := by simp [rngL]
  refine ⟨fun _ => True, YFn fun i => .int (lo + i), by rw [hl]; exact walk_range, fun _ _ _ _ _ _ => trivial, fun i g' C' H' x H2 hi e R l y => ?_⟩
  obtain ⟨rfl, rfl⟩ := y
  exact ⟨g', Ext.refl _, R, _, rngL_get (by rw [hl] at hi; exact hi), by rw [Int.mul_one]; exact .int⟩
theorem yl_rangeC {g : Gh} {C : Tab} {lk : Lk} {lo c : Int} {n : Nat} : Yl Y g C lk (rngL lo c n) (Itc lo c n) := by
  have hl : (rngL lo c n).length = n := by simp [rngL]
  refine ⟨fun _ => True, YFn fun i => .int (lo + (i : Nat) * c), by rw [hl]; exact walk_rangeC, fun _ _ _ _ _ _ => trivial, fun i g' C' H' x H2 hi e R l y => ?_⟩
  obtain ⟨rfl, rfl⟩ := y
  exact ⟨g', Ext.refl _, R, _, rngL_get (by rw [hl] at hi; exact hi), .int⟩
def rngOk (i : Int) : Bool := decide (-(2 ^ 62) ≤ i ∧ i < 2 ^ 62)
def rangeOf (ts : List TV) (C : Tab) : Res (List TV × Lk) := match ts with
  | [.int j] => if rngOk j then .ok (rngL 0 1 j.toNat, none) C else .stuck
  | [.int i, .int j] => if rngOk i && rngOk j then .ok (rngL i 1 (j - i).toNat, none) C else .stuck
  | [.int i, .int j, .int c] => if rngOk i && rngOk j && c == -1 then .ok (rngL i (-1) (i - j).toNat, none) C else .stuck
  | _ => .stuck
def mRange (ma : EM (List TV)) : EM (List TV × Lk) := fun s C => (ma s C).bind rangeOf
/-- arguments of a walk: what they come to -/
theorem tA_src {σ : L2.St} {H : Hp} {R0 : It → Hp → Prop} {f : List TV → Tab → Res (List TV × Lk)} {Q : List V → Hp → Prop} (h : tI X Y W (fun s C => (ma s C).bind f) σ H R0)
    (hq : ∀ g1 C1 H1 ts vs, RH Y.M g1 C1 H1 → RVs Y.M g1 ts vs → Fin Y g1 (fun cls d H' => W cls d σ H') (f ts C1) (fun p g2 C2 H2 => Go X Y R0 p g2 C2 H2) → Q vs H1) : tA Y W ma σ H Q := by
  obtain ⟨g, s, C, rs, R, f0⟩ := h
  exact ⟨g, s, C, rs, R, (Fin.bind f0).imp fun ts g1 C1 H1 e1 R1 q vs rv => hq g1 C1 H1 ts vs R1 rv q⟩
theorem si_range1 {a : Expr} (ha : SA X Y W [a] ma) (hm : X.mg "range" = none) (hg : Gl X "range" := by rfl) (hs : starEach [a] X.env = [(false, eval a X.env)] := by rfl) : PI X tg (.Call (.Name "range" p) [a] [] pos) (tI X Y W (mRange ma)) := by
  refine PI.imp (pi_range1 hg hm ha.pa hs) fun σ H R0 h => ?_
  obtain ⟨g, s, C, rs, R, f0⟩ := h
  refine ⟨g, s, C, rs, R, ?_⟩
  cases hq : ma s C with
  | stuck => rw [mRange, hq] at f0; exact f0.elim
  | exc x C1 => rw [mRange, hq] at f0; exact f0
  | ok ts C1 =>
    have hl := ha.len _ _ _ _ hq
    rw [mRange, hq] at f0
    have f1 : Fin Y g (fun cls d H' => W cls d σ H') (rangeOf ts C1) fun p g2 C2 H2 => Go X Y R0 p g2 C2 H2 := f0
    intro g1 H1 e1 R1 vs rv
    have f2 := Fin.ext e1 f1
    unfold rangeOf at f2
    split at f2
    · split at f2
      · rename_i j hj
        have hj' := of_decide_eq_true hj
        cases rv with
        | cons r1 r2 =>
          cases r1; cases r2
          exact ⟨j, rfl, hj'.1, hj'.2, (f2 g1 H1 (Ext.refl _) R1).plain R1 lkAt_none (fun j t h => nomatch h) yl_range⟩
      · exact f2.elim
    · simp at hl
    · simp at hl
    · exact f2.elim
theorem si_range2 {a b : Expr} (ha : SA X Y W [a, b] ma) (hm : X.mg "range" = none) (hg : Gl X "range" := by rfl) (hs : starEach [a, b] X.env = [(false, eval a X.env), (false, eval b X.env)] := by rfl) (hs2 : starEach [b] X.env = [(false, eval b X.env)] := by rfl) : PI X tg (.Call (.Name "range" p) [a, b] [] pos) (tI X Y W (mRange ma)) := by
  refine PI.imp (pi_range2 hg hm ha.pa hs hs2) fun σ H R0 h => ?_
  obtain ⟨g, s, C, rs, R, f0⟩ := h
  refine ⟨g, s, C, rs, R, ?_⟩
  cases hq : ma s C with
  | stuck => rw [mRange, hq] at f0; exact f0.elim
  | exc x C1 => rw [mRange, hq] at f0; exact f0
  | ok ts C1 =>
    have hl := ha.len _ _ _ _ hq
    rw [mRange, hq] at f0
    have f1 : Fin Y g (fun cls d H' => W cls d σ H') (rangeOf ts C1) fun p g2 C2 H2 => Go X Y R0 p g2 C2 H2 := f0
    intro g1 H1 e1 R1 vs rv
    have f2 := Fin.ext e1 f1
    unfold rangeOf at f2
    split at f2
    · simp at hl
    · split at f2
      · rename_i i j hj
        simp only [Bool.and_eq_true, rngOk, decide_eq_true_eq] at hj
        cases rv with
        | cons r1 r2 =>
          cases r1
          cases r2 with
          | cons r1 r2 =>
            cases r1; cases r2
            exact ⟨i, j, rfl, ⟨hj.1.1, hj.1.2, hj.2.1, hj.2.2⟩, (f2 g1 H1 (Ext.refl _) R1).plain R1 lkAt_none (fun j t h => nomatch h) yl_range⟩
      · exact f2.elim
    · simp at hl
    · exact f2.elim
/-! ### enumerate of a list -/
def enumT (xs : List TV) : List TV := xs.mapIdx fun i t => .tup [.int (i : Nat), t]
theorem enumT_get {xs : List TV} {i : Nat} {t : TV} (h : xs[i]? = some t) : (enumT xs)[i]? = some (.tup [.int (i : Nat), t]) := by simp [enumT, List.getElem?_mapIdx, h]
theorem yl_enum {K : PySem.W.Frag} {g : Gh} {C : Tab} {lk : Lk} {xs : List TV} {a : Addr} (h : ∀ g' C' H', ExtF g g' → RH Y.M g' C' H' → lkOk lk C C' → ∃ vs, SqL K H' a vs ∧ RVs Y.M g' xs vs) : Yl Y g C lk (enumT xs) (Ite K a) := by
  have hl : (enumT xs).length = xs.length := by simp [enumT]
  refine ⟨fun H => ∃ vs, SqL K H a vs ∧ vs.length = xs.length, fun i H v H' => ∃ T x, v = .ref T ∧ H T = none ∧ H' = upd H T (.tup [.int (i : Nat), x]) ∧ ∀ vs, SqL K H a vs → vs[i]? = some x,
    ⟨fun i H hi ⟨vs, h1, h2⟩ => ⟨vs, vs[i]'(by omega), h1, List.getElem?_eq_getElem _⟩, fun H ⟨vs, h1, h2⟩ => ⟨vs, h1, by omega⟩, fun i H x H2 hi _ y => y⟩,
    fun g' C' H' e R l => let ⟨vs, h1, h2⟩ := h g' C' H' e R l; ⟨vs, h1, h2.length.symm⟩, fun i g' C' H' x H2 hi e R l y => ?_⟩
  obtain ⟨vs, h1, h2⟩ := h g' C' H' e R l
  obtain ⟨T, w, rfl, hT, rfl, y⟩ := y
  obtain ⟨t, ht, rv⟩ := h2.getV (y vs h1)
  obtain ⟨R', e'⟩ := R.addB (o := .tup [.int (i : Nat), w]) (Same.upd hT) hT upd_same
  exact ⟨_, e', R', _, enumT_get ht, .tup upd_same (.cons .int (.cons (rv.mono e') .nil))⟩
def mapSrc (φ : List TV → List TV) : Res (List TV × Lk) → Res (List TV × Lk)
  | .ok p C => .ok (φ p.1, p.2) C
  | .exc x C => .exc x C
  | .stuck => .stuck
theorem mapSrc_fin {φ : List TV → List TV} {g : Gh} {Wσ : Value → Option Addr → Hp → Prop} {r : Res (List TV × Lk)} {k : List TV × Lk → Gh → Tab → Hp → Prop} (f : Fin Y g Wσ (mapSrc φ r) k) : Fin Y g Wσ r fun p => k (φ p.1, p.2) := by
  cases r <;> exact f
def enumOf (ts : List TV) (C : Tab) : Res (List TV × Lk) := match ts with
  | [t] => match rd C t with
    | .lst _ => mapSrc enumT (seqOf t C)
    | .lsc _ => mapSrc enumT (seqOf t C)
    | _ => .stuck
  | _ => .stuck
def mEnum (ma : EM (List TV)) : EM (List TV × Lk) := fun s C => (ma s C).bind enumOf
theorem si_enum (ha : SA X Y W [e] ma) (hm : X.mg "enumerate" = none) (hK : X.K = Y.M.K := by rfl) (hg : Gl X "enumerate" := by rfl) (hs : starEach [e] X.env = [(false, eval e X.env)] := by rfl) : PI X (.Tuple elts kk tpos) (.Call (.Name "enumerate" p) [e] [] pos) (tI X Y W (mEnum ma)) := by
  refine PI.imp (pi_enum hg hm ha.pa hs) fun σ H R0 h => tA_src h fun g1 C1 H1 ts vs R1 rv f => ?_
  unfold enumOf at f
  split at f
  · rename_i t
    cases rv with
    | cons r1 r2 =>
      cases r2
      split at f
      · rename_i xs hk
        obtain ⟨a, rfl, ⟨ys, hy⟩, q⟩ := seq_l enumT (Ite X.K) yl_enum hK R1 r1 (mapSrc_fin f) (.inl ⟨xs, hk⟩)
        exact ⟨a, ys, rfl, hy, q⟩
      · rename_i ns hk
        obtain ⟨a, rfl, ⟨ys, hy⟩, q⟩ := seq_l enumT (Ite X.K) yl_enum hK R1 r1 (mapSrc_fin f) (.inr ⟨ns, hk⟩)
        exact ⟨a, ys, rfl, hy, q⟩
      · exact f.elim
  · exact f.elim
/-! ### d.items(), d.values() -/
def dsrc (φ : List (Key × TV) → List TV) (t : TV) (C : Tab) : Res (List TV × Lk) := match dctOf t C with
  | some (kvs, lk, C1) => .ok (φ kvs, lk) C1
  | none => .stuck
def itemsT (kvs : List (Key × TV)) : List TV := kvs.map fun kv => .tup [keyTV kv.1, kv.2]
def valsT (kvs : List (Key × TV)) : List TV := kvs.map fun kv => kv.2
def mItems (m : EM TV) : EM (List TV × Lk) := fun s C => (m s C).bind (dsrc itemsT)
def mVals (m : EM TV) : EM (List TV × Lk) := fun s C => (m s C).bind (dsrc valsT)
theorem tE_src {σ : L2.St} {H : Hp} {R0 : It → Hp → Prop} {f : TV → Tab → Res (List TV × Lk)} {Q : VK} (h : tI X Y W (fun s C => (m s C).bind f) σ H R0)
    (hq : ∀ g1 C1 H1 t v, RH Y.M g1 C1 H1 → RV Y.M g1 t v → Fin Y g1 (fun cls d H' => W cls d σ H') (f t C1) (fun p g2 C2 H2 => Go X Y R0 p g2 C2 H2) → Q v H1) : tE Y W m σ H Q := by
  obtain ⟨g, s, C, rs, R, f0⟩ := h
  exact ⟨g, s, C, rs, R, (Fin.bind f0).imp fun t g1 C1 H1 e1 R1 q v rv => hq g1 C1 H1 t v R1 rv q⟩
theorem dsrc_ok {φ : List (Key × TV) → List TV} {R0 : It → Hp → Prop} {g : Gh} {C : Tab} {H : Hp} {t : TV} {v : V} {Wσ : Value → Option Addr → Hp → Prop} (J0 : Addr → Obj → List (Key × V) → It) (Q : V → Hp → Prop)
    (hQ : ∀ d (o : Obj) ws (H : Hp), H d = some (.frz o (.dK ws)) → R0 (J0 d o ws) H → Q (.ref d) H) (hY : ∀ {g : Gh} {C : Tab} {lk : Lk} {kvs : List (Key × TV)} {ws : List (Key × V)} {d : Addr} {o : Obj}, g.L d = some (.frz o (.dK ws)) → RKs Y.M g kvs ws → Yl Y g C lk (φ kvs) (J0 d o ws))
    (R : RH Y.M g C H) (rv : RV Y.M g t v) (f : Fin Y g Wσ (dsrc φ t C) fun p g1 C1 H1 => Go X Y R0 p g1 C1 H1) : orLk X Q v H := by
  unfold dsrc at f
  cases e1 : dctOf t C with
  | none => rw [e1] at f; exact f.elim
  | some q =>
    obtain ⟨kvs, lk, C1⟩ := q
    rw [e1] at f
    obtain ⟨d, ws, rfl, hd, rk, R1, la, ho, hx, hc, hLd⟩ := dctOf_at R rv e1
    exact dict_go (f g H (Ext.refl g) R1) R1 la hd rk ho hx hc hLd (fun o => J0 d o ws) Q (fun o H' h r => hQ d o ws H' h r) fun o g' h rk' => hY h rk'
theorem si_items (h : PE X e (tE Y W m)) (hbase : attributeBase e "items" X.env (eval e X.env) = eval e X.env := by rfl) (hline : (apos.endLine == cpos.line) = true := by rfl) : PI X (.Tuple elts kk tpos) (.Call (.Attribute e "items" apos) [] [] cpos) (tI X Y W (mItems m)) := by
  refine PI.imp (pi_items (pe_lk h) hbase hline) fun σ H R0 h => tE_src h fun g1 C1 H1 t v R1 rv f => ?_
  exact dsrc_ok (fun d o ws => Iti d o ws) (fun x H => ∃ d o kvs, x = .ref d ∧ H d = some (.frz o (.dK kvs)) ∧ R0 (Iti d o kvs) H) (fun d o ws H h r => ⟨d, o, ws, rfl, h, r⟩) yl_items R1 rv f
theorem si_vals (h : PE X e (tE Y W m)) (hbase : attributeBase e "values" X.env (eval e X.env) = eval e X.env := by rfl) (hline : (apos.endLine == cpos.line) = true := by rfl) : PI X tg (.Call (.Attribute e "values" apos) [] [] cpos) (tI X Y W (mVals m)) := by
  refine PI.imp (pi_values (pe_lk h) hbase hline) fun σ H R0 h => tE_src h fun g1 C1 H1 t v R1 rv f => ?_
  exact dsrc_ok (fun d o ws => Itd d o ws) (fun x H => ∃ d o kvs, x = .ref d ∧ H d = some (.frz o (.dK kvs)) ∧ R0 (Itd d o kvs) H) (fun d o ws H h r => ⟨d, o, ws, rfl, h, r⟩) yl_vals R1 rv f

/-! ### targets of several names -/
def gts : List (TV → Slots → Option Slots) → List TV → Slots → Option Slots
  | [], [], s => some s
  | g :: gs, t :: ts, s => (g t s).bind (gts gs ts)
  | _, _, _ => none
def gtT (gs : List (TV → Slots → Option Slots)) : TV → Slots → Option Slots := fun t s => match t with
  | .tup xs => gts gs xs s
  | _ => none
def GSs (X : Cx) (Y : Xd) (g : TGs) (gs : List (TV → Slots → Option Slots)) (is : List Nat) : Prop := ∀ (gh : Gh) (C : Tab) (H : Hp) (ts : List TV) (vs : List V) (s s1 : Slots) (σ : L2.St) (Q : L2.St → Hp → Prop),
  RH Y.M gh C H → RS Y.M gh s σ → RVs Y.M gh ts vs → gts gs ts s = some s1 → (∀ σ', RS Y.M gh s1 σ' → (∀ vs, (∀ i ∈ is, i ∈ vs) → L2.wipe σ' vs = L2.wipe σ vs) → Q σ' H) → g vs σ H Q
theorem gss_nil : GSs X Y gNil [] [] := by
  intro gh C H ts vs s s1 σ Q R rs rv e q
  cases rv with
  | nil => cases e; exact ⟨rfl, q σ rs fun _ _ => rfl⟩
  | cons a b => cases e
theorem gss_cons {g : TG} {u : TGs} {gt : TV → Slots → Option Slots} {gs : List (TV → Slots → Option Slots)} {is js : List Nat} (h : GS X Y g gt is) (h' : GSs X Y u gs js) : GSs X Y (gCons g u) (gt :: gs) (is ++ js) := by
  intro gh C H ts vs s s1 σ Q R rs rv e q
  cases rv with
  | nil => cases e
  | cons a b =>
    rename_i t v ts vs
    cases e1 : gt t s with
    | none => rw [gts, e1] at e; cases e
    | some s2 =>
      rw [gts, e1] at e
      exact ⟨v, vs, rfl, h gh C H t v s s2 σ _ R rs a e1 fun σ' rs' w => h' gh C H ts vs s2 s1 σ' Q R rs' b e fun σ'' rs'' w' => q σ'' rs'' fun vs hv => (w' vs fun i hi => hv i (List.mem_append_right _ hi)).trans (w vs fun i hi => hv i (List.mem_append_left _ hi))⟩
theorem gts_len : ∀ {gs : List (TV → Slots → Option Slots)} {ts : List TV} {s s1 : Slots}, gts gs ts s = some s1 → ts.length = gs.length
  | [], [], _, _, _ => rfl
  | [], _ :: _, _, _, h => by cases h
  | _ :: _, [], _, _, h => by cases h
  | g :: gs, t :: ts, s, s1, h => by
    rw [gts] at h
    cases e : g t s with
    | none => rw [e] at h; cases h
    | some s2 => rw [e] at h; simp [gts_len h]
theorem gs_tup {u : TGs} {n : Nat} {gs : List (TV → Slots → Option Slots)} {is : List Nat} (h : GSs X Y u gs is) (hn : gs.length = n := by rfl) (hK : X.K = Y.M.K := by rfl) : GS X Y (gTup X.K n u) (gtT gs) is := by
  intro gh C H t v s s1 σ Q R rs rv e q
  cases t <;> first | (cases e; done) | skip
  rename_i xs
  have e' : gts gs xs s = some s1 := e
  have hl := gts_len e'
  obtain ⟨a, vs, rfl, h1, h2⟩ := R.rr0 rv
  exact ⟨a, vs, rfl, hK ▸ h1, by rw [← h2.length, hl, hn], h gh C H xs vs s s1 σ Q R rs h2 e' q⟩
end
end FH
/-! FhM: comprehensions. -/
namespace FH
open PySem L2
open PySem.Spec PyProof.Rows
section
variable {M : Md} {g g3 : Gh} {C : Tab} {H : Hp} {p : Addr} {o : HO}
/-- what stands and belongs to nobody is kept for ever -/
theorem RH.adoptB (R : RH M g C H) (hp : H p = some o) (hB : g.B p = none) (hL : g.L p = none) (hc : ∀ j c, C[j]? = some c → c.live = true → g.A j ≠ p) : RH M (g.keep p o) C H ∧ Ext g (g.keep p o) := by
  have e : Ext g (g.keep p o) := ext_keep hB
  refine ⟨⟨fun a u h => ?_, R.l, R.n, fun j c h => ?_, R.i, fun a u h hf => ?_⟩, e⟩
  · have h' : upd g.B p o a = some u := h
    by_cases ha : a = p
    · subst ha; rw [upd_same] at h'; cases h'; exact .inl hp
    · rw [upd_ne ha] at h'; exact R.b a u h'
  · have q := R.c j c h
    have ne := hc j c h
    cases c with
    | own t => obtain ⟨u, h1, h2, h3, h4⟩ := q; exact ⟨u, h1, h2.mono0 e.e0, by show upd g.B p o (g.A j) = none; rw [upd_ne (ne rfl)]; exact h3, h4⟩
    | lck t => obtain ⟨u, h1, h2, h3, h4⟩ := q; exact ⟨u, h1, h2.mono0 e.e0, by show upd g.B p o (g.A j) = none; rw [upd_ne (ne rfl)]; exact h3, h4⟩
    | frz t => exact RV.mono e q
  · show upd g.B p o a = none
    rw [upd_ne (fun z => by rw [z] at h; have q : g.L p = some u := h; rw [hL] at q; cases q)]
    exact R.d a u h hf
/-- .. becomes a cell -/
theorem RH.adoptC (R : RH M g C H) (hp : H p = some o) (hB : g.B p = none) (hL : g.L p = none) (hc : ∀ j c, C[j]? = some c → c.live = true → g.A j ≠ p) {t : TV} (r : RN M g t o) : RH M (g.cell p) (C ++ [.own t]) H ∧ Ext g (g.cell p) := by
  have e : Ext g (g.cell p) := ext_cell
  have hA : ∀ j, j < C.length → (g.cell p).A j = g.A j := fun j h => e.A j (by rw [R.n]; exact h)
  have hAn : (g.cell p).A C.length = p := by show (if C.length = g.n then p else g.A C.length) = p; rw [if_pos R.n.symm]
  have split : ∀ {j : Nat} {c : Cell}, (C ++ [Cell.own t])[j]? = some c → (j < C.length ∧ C[j]? = some c) ∨ (j = C.length ∧ c = .own t) := fun {j c} h => by
    by_cases hj : j < C.length
    · rw [List.getElem?_append_left hj] at h; exact .inl ⟨hj, h⟩
    · rw [List.getElem?_append_right (by omega)] at h
      have : j - C.length = 0 := by
        rcases Nat.eq_zero_or_pos (j - C.length) with z | z
        · exact z
        · rw [List.getElem?_eq_none (by simp; omega)] at h; cases h
      rw [this] at h
      cases h
      exact .inr ⟨by omega, rfl⟩
  refine ⟨⟨R.b, R.l, ?_, fun j c h => ?_, fun i j c d hi hj li lj ea => ?_, R.d⟩, e⟩
  · show g.n + 1 = _; rw [R.n]; simp
  · rcases split h with ⟨hj, h⟩ | ⟨rfl, rfl⟩
    · rw [hA j hj]
      have q := R.c j c h
      cases c with
      | own t => obtain ⟨u, h1, h2, h3, h4⟩ := q; exact ⟨u, h1, h2.mono0 e.e0, h3, h4⟩
      | lck t => obtain ⟨u, h1, h2, h3, h4⟩ := q; exact ⟨u, h1, h2.mono0 e.e0, h3, h4⟩
      | frz t => exact RV.mono e q
    · rw [hAn]; exact ⟨o, hp, r.mono0 e.e0, hB, hL⟩
  · rcases split hi with ⟨h1, hi⟩ | ⟨h1, rfl⟩ <;> rcases split hj with ⟨h2, hj⟩ | ⟨h2, rfl⟩
    · rw [hA i h1, hA j h2] at ea; exact R.i i j c d hi hj li lj ea
    · rw [hA i h1, h2, hAn] at ea; exact absurd ea (hc i c hi li)
    · rw [hA j h2, h1, hAn] at ea; exact absurd ea.symm (hc j d hj lj)
    · rw [h1, h2]
/-- what others look after is let go -/
theorem RH.unpin (R : RH M g3 C H) {L : Hp} (eL : g3.L = upd L p o) (hL : L p = none) (hf : ∀ ob u, o ≠ .frz ob u) :
    RH M { g3 with L := L } C H ∧ H p = some o ∧ g3.B p = none ∧ ∀ j c, C[j]? = some c → c.live = true → g3.A j ≠ p := by
  have lp : g3.L p = some o := by rw [eL, upd_same]
  have nc : ∀ j c, C[j]? = some c → c.live = true → g3.A j ≠ p := fun j c h l z => by
    have q := R.c j c h
    cases c with
    | own t => obtain ⟨_, _, _, _, q⟩ := q; rw [z, lp] at q; cases q
    | lck t => obtain ⟨_, _, _, _, q⟩ := q; rw [z] at q; obtain ⟨ob, u, e⟩ := q o lp; exact hf _ _ e
    | frz t => cases l
  have e0 : Ext0 g3 { g3 with L := L } := ⟨fun _ _ h => h, Nat.le_refl _, fun _ _ => rfl⟩
  refine ⟨⟨R.b, fun a u h => ?_, R.n, fun j c h => ?_, R.i, fun a u h hu => ?_⟩, R.l p o lp, R.d p o lp hf, nc⟩
  · have h' : L a = some u := h
    have ne : a ≠ p := fun z => by rw [z, hL] at h'; cases h'
    exact R.l a u (by rw [eL, upd_ne ne]; exact h')
  · have q := R.c j c h
    have ne := nc j c h
    cases c with
    | own t =>
      obtain ⟨u, h1, h2, h3, h4⟩ := q
      refine ⟨u, h1, h2.mono0 e0, h3, ?_⟩
      show L (g3.A j) = none
      rw [eL, upd_ne (ne rfl)] at h4; exact h4
    | lck t =>
      obtain ⟨u, h1, h2, h3, h4⟩ := q
      refine ⟨u, h1, h2.mono0 e0, h3, fun z hz => h4 z ?_⟩
      rw [eL, upd_ne (ne rfl)]; exact hz
    | frz t => exact RV.mono0 e0 q
  · have h' : L a = some u := h
    have ne : a ≠ p := fun z => by rw [z, hL] at h'; cases h'
    exact R.d a u (by rw [eL, upd_ne ne]; exact h') hu
/-- a new thing that others look after -/
theorem RH.pin (R : RH M g C H) (hn : H p = none) : RH M { g with L := upd g.L p o } C (upd H p o) where
  b := fun a u h => by
    have ne : a ≠ p := fun z => (Rq.ne_none (R.b a u h)) (by rw [z]; exact hn)
    rcases R.b a u h with q | ⟨l, ob, q⟩
    · exact .inl (by rw [upd_ne ne]; exact q)
    · exact .inr ⟨l, ob, by rw [upd_ne ne]; exact q⟩
  l := fun a u h => by
    have h' : upd g.L p o a = some u := h
    by_cases ha : a = p
    · subst ha; rw [upd_same] at h' ⊢; exact h'
    · rw [upd_ne ha] at h' ⊢; exact R.l a u h'
  n := R.n
  c := fun j c h => by
    have e0 : Ext0 g { g with L := upd g.L p o } := ⟨fun _ _ h => h, Nat.le_refl _, fun _ _ => rfl⟩
    have q := R.c j c h
    have ne : c.live = true → g.A j ≠ p := fun l z => R.live_some h l (by rw [z]; exact hn)
    cases c with
    | own t =>
      obtain ⟨u, h1, h2, h3, h4⟩ := q
      exact ⟨u, by show upd H p o (g.A j) = _; rw [upd_ne (ne rfl)]; exact h1, h2.mono0 e0, h3, by show upd g.L p o (g.A j) = _; rw [upd_ne (ne rfl)]; exact h4⟩
    | lck t =>
      obtain ⟨u, h1, h2, h3, h4⟩ := q
      refine ⟨u, ?_, h2.mono0 e0, h3, fun z hz => h4 z ?_⟩
      · rcases h1 with q | ⟨l, ob, q⟩
        · exact .inl (by show upd H p o (g.A j) = _; rw [upd_ne (ne rfl)]; exact q)
        · exact .inr ⟨l, ob, by show upd H p o (g.A j) = _; rw [upd_ne (ne rfl)]; exact q⟩
      · have hz' : upd g.L p o (g.A j) = some z := hz
        rw [upd_ne (ne rfl)] at hz'; exact hz'
    | frz t => exact RV.mono0 e0 q
  i := R.i
  d := fun a u h hf => by
    have h' : upd g.L p o a = some u := h
    by_cases ha : a = p
    · subst ha; exact R.Bnone hn
    · rw [upd_ne ha] at h'; exact R.d a u h' hf
/-- it is changed by its owner -/
theorem RH.repin (R : RH M g3 C H) {L : Hp} {o' : HO} (eL : g3.L = upd L p o) (hL : L p = none) (hf : ∀ ob u, o ≠ .frz ob u) : RH M { g3 with L := upd L p o' } C (upd H p o') := by
  obtain ⟨R1, h1, h2, h3⟩ := R.unpin eL hL hf
  have e1 : Ext0 { g3 with L := L } { g3 with L := upd L p o' } := ⟨fun _ _ h => h, Nat.le_refl _, fun _ _ => rfl⟩
  refine ⟨fun a u h => ?_, fun a u h => ?_, R.n, fun j c h => ?_, R.i, fun a u h hu => ?_⟩
  · have ne : a ≠ p := fun z => by have q : g3.B a = some u := h; rw [z, h2] at q; cases q
    rcases R.b a u h with q | ⟨l, ob, q⟩
    · exact .inl (by rw [upd_ne ne]; exact q)
    · exact .inr ⟨l, ob, by rw [upd_ne ne]; exact q⟩
  · have h' : upd L p o' a = some u := h
    by_cases ha : a = p
    · subst ha; rw [upd_same] at h' ⊢; exact h'
    · rw [upd_ne ha] at h' ⊢; exact R1.l a u h'
  · have q := R1.c j c h
    have ne := h3 j c h
    cases c with
    | own t =>
      obtain ⟨u, q1, q2, q3, q4⟩ := q
      refine ⟨u, by show upd H p o' (g3.A j) = _; rw [upd_ne (ne rfl)]; exact q1, q2.mono0 e1, q3, ?_⟩
      show upd L p o' (g3.A j) = none
      rw [upd_ne (ne rfl)]; exact q4
    | lck t =>
      obtain ⟨u, q1, q2, q3, q4⟩ := q
      refine ⟨u, ?_, q2.mono0 e1, q3, fun z hz => q4 z ?_⟩
      · rcases q1 with q | ⟨l, ob, q⟩
        · exact .inl (by show upd H p o' (g3.A j) = _; rw [upd_ne (ne rfl)]; exact q)
        · exact .inr ⟨l, ob, by show upd H p o' (g3.A j) = _; rw [upd_ne (ne rfl)]; exact q⟩
      · have hz' : upd L p o' (g3.A j) = some z := hz
        rw [upd_ne (ne rfl)] at hz'; exact hz'
    | frz t => exact RV.mono0 e1 q
  · have h' : upd L p o' a = some u := h
    by_cases ha : a = p
    · subst ha; exact h2
    · rw [upd_ne ha] at h'; exact R1.d a u h' hu
end
/-! ### the turns -/
def Res.nox {α : Type} : Res α → Res α
  | .exc _ _ => .stuck
  | r => r
theorem nox_fin {α : Type} {Y : Xd} {g : Gh} {Wσ Wσ' : Value → Option Addr → Hp → Prop} {r : Res α} {k : α → Gh → Tab → Hp → Prop} (f : Fin Y g Wσ r.nox k) : Fin Y g Wσ' r k := by
  cases r with
  | ok a C => exact f
  | exc x C => exact f.elim
  | stuck => exact f
def wipeS (s : Slots) : List Nat → Slots
  | [] => s
  | v :: vs => (wipeS s vs).set v none
theorem RS.wipe {M : Md} {g : Gh} {s : Slots} {σ : L2.St} (r : RS M g s σ) : ∀ vs : List Nat, RS M g (wipeS s vs) (L2.wipe σ vs)
  | [] => r
  | v :: vs => by
    have ih := RS.wipe r vs
    refine ⟨by simp [wipeS, L2.wipe, ih.len], fun i t h => ?_⟩
    simp only [wipeS] at h
    simp only [L2.wipe]
    by_cases hi : v = i
    · subst hi
      by_cases hl : v < (wipeS s vs).length
      · rw [List.getElem?_set_self hl] at h; cases h
      · rw [List.getElem?_eq_none (by simpa using hl)] at h; cases h
    · rw [List.getElem?_set_ne hi] at h ⊢
      exact ih.v i t h
open Classical in
noncomputable def lcL (gt : TV → Slots → Option Slots) (tt : EM Bool) (me : EM TV) (lk : Lk) (C0 : Tab) (s0 : Slots) : List TV → List TV → Tab → Res (List TV)
  | [], acc, C => .ok acc C
  | x :: xs, acc, C => match gt x s0 with
    | none => .stuck
    | some s1 => (tt s1 C).bind fun b C2 => if b = true then (me s1 C2).bind fun t C3 => if acc.length < sizeLine ∧ lkOk lk C0 C3 then lcL gt tt me lk C0 s0 xs (acc ++ [t]) C3 else .stuck
        else if lkOk lk C0 C2 then lcL gt tt me lk C0 s0 xs acc C2 else .stuck
def Res.unlk {α : Type} (lk : Lk) : Res α → Res α
  | .ok a C => .ok a (FH.unlk lk C)
  | .exc x C => .exc x (FH.unlk lk C)
  | .stuck => .stuck
noncomputable def mLc (own : Bool) (src : EM (List TV × Lk)) (gt : TV → Slots → Option Slots) (tt : EM Bool) (me : EM TV) (ws : List Nat) : EM TV := fun s C => (src s C).bind fun p C1 =>
  (lcL gt tt me p.2 C1 (wipeS s ws) p.1 [] C1).nox.bind fun acc C2 => (alc own (.lst acc) C2).unlk p.2

theorem wipe_idem {σ : L2.St} : ∀ vs : List Nat, L2.wipe (L2.wipe σ vs) vs = L2.wipe σ vs := by
  have len : ∀ (vs : List Nat) (σ : L2.St), (L2.wipe σ vs).length = σ.length := fun vs σ => wipe_length σ vs
  have none_at : ∀ (vs : List Nat) (σ : L2.St) (i : Nat), i ∈ vs → i < σ.length → (L2.wipe σ vs)[i]? = some none := by
    intro vs
    induction vs with
    | nil => intro σ i h; cases h
    | cons v vs ih =>
      intro σ i h hi
      simp only [L2.wipe]
      by_cases e : v = i
      · subst e; rw [List.getElem?_set_self (by rw [len]; exact hi)]
      · rw [List.getElem?_set_ne e]; exact ih σ i ((List.mem_cons.mp h).resolve_left (Ne.symm e)) hi
  have out : ∀ (vs : List Nat) (σ : L2.St) (i : Nat), i ∉ vs → (L2.wipe σ vs)[i]? = σ[i]? := by
    intro vs
    induction vs with
    | nil => intro σ i _; rfl
    | cons v vs ih =>
      intro σ i h
      simp only [List.mem_cons, not_or] at h
      simp only [L2.wipe]
      rw [List.getElem?_set_ne (Ne.symm h.1)]; exact ih σ i h.2
  intro vs
  refine List.ext_getElem? fun i => ?_
  by_cases h : i ∈ vs
  · by_cases hi : i < σ.length
    · rw [none_at vs _ i h (by rw [len]; exact hi), none_at vs σ i h hi]
    · rw [List.getElem?_eq_none (by rw [len, len]; omega), List.getElem?_eq_none (by rw [len]; omega)]
  · rw [out vs _ i h]
def mYes : EM Bool := fun _ C => .ok true C
section
variable {X : Cx} {Y : Xd} {W : WX} {e : Expr} {ta : EM Bool}
theorem pt0 : PTs X [] (tT Y W mYes) := ⟨fun pins s σ H Q I ⟨g, sl, C, rs, R, f⟩ => pts_nil.run pins s σ H Q I (f g H (Ext.refl g) R)⟩
theorem pt1 (h : PT X e (tT Y W ta)) : PTs X [e] (tT Y W ta) := pts_one h
end
/-- the accumulator becomes a value -/
theorem acc_done {Y : Xd} {g2 g3 : Gh} {C3 : Tab} {H : Hp} {D : Addr} {o : HO} {t : TV} (own : Bool) (R : RH Y.M g3 C3 H) (eL : g3.L = upd g2.L D o) (hL : g2.L D = none) (hf : ∀ ob u, o ≠ .frz ob u) (rn : RN Y.M g3 t o)
    (e0 : Ext0 g2 g3) : ∃ g4 u C4, alc own t C3 = .ok u C4 ∧ Ext g2 g4 ∧ RH Y.M g4 C4 H ∧ RV Y.M g4 u (.ref D) ∧ (∀ (j : Nat) (c : Cell), C3[j]? = some c → C4[j]? = some c) := by
  obtain ⟨R1, h1, h2, h3⟩ := R.unpin eL hL hf
  have ex : Ext0 g3 { g3 with L := g2.L } := ⟨fun _ _ h => h, Nat.le_refl _, fun _ _ => rfl⟩
  have ey : Ext g2 { g3 with L := g2.L } := ⟨e0.B, rfl, e0.n, e0.A⟩
  have rn1 := rn.mono0 ex
  cases own with
  | true =>
    obtain ⟨R2, e2⟩ := R1.adoptC h1 h2 hL h3 rn1
    have q : RV Y.M (Gh.cell { g3 with L := g2.L } D) (.cel C3.length) (.ref ((Gh.cell { g3 with L := g2.L } D).A C3.length)) := .cel (by show _ < g3.n + 1; rw [R.n]; exact Nat.lt_succ_self _)
    have ea : (Gh.cell { g3 with L := g2.L } D).A C3.length = D := by show (if C3.length = g3.n then D else g3.A C3.length) = D; rw [if_pos R.n.symm]
    rw [ea] at q
    exact ⟨_, _, _, rfl, ey.trans e2, R2, q, fun j c h => by rw [List.getElem?_append_left (List.getElem?_eq_some_iff.mp h).1]; exact h⟩
  | false =>
    obtain ⟨R2, e2⟩ := R1.adoptB h1 h2 hL h3
    exact ⟨_, _, _, rfl, ey.trans e2, R2, rn1.rv' h2, fun j c h => h⟩
theorem lkOk_more {lk : Lk} {C1 C3 C4 : Tab} (la : LkAt lk C1) (ok : lkOk lk C1 C3) (h : ∀ (j : Nat) (c : Cell), C3[j]? = some c → C4[j]? = some c) : lkOk lk C1 C4 := by
  cases lk with
  | none => trivial
  | some p =>
    obtain ⟨j, c⟩ := p
    obtain ⟨t, ht, _⟩ := la.ok j c rfl
    have ok' : C3[j]? = C1[j]? := ok
    show C4[j]? = C1[j]?
    rw [ht] at ok' ⊢
    exact h j _ ok'
section
variable {X : Cx} {Y : Xd} {W : WX} {elt tg iter : Expr} {ifs : List Expr} {scope : Scope} {pos : Pos} {g : TG} {gt : TV → Slots → Option Slots} {is : List Nat} {src : EM (List TV × Lk)} {tt : EM Bool} {me : EM TV}
theorem lc_sem (own : Bool) {ws : List Nat} (hgt : GS X Y g gt is) (his : ∀ i ∈ is, i ∈ ws) {σ : L2.St} {H : Hp} {Q : VK} (h : tE Y W (mLc own src gt tt me ws) σ H Q) :
    tLc (tI X Y W src) g (tT Y W0 tt) (tE Y W0 me) ws σ H fun x H' => OrU X H' (Q x) := by
  obtain ⟨gh, s, C, rs, R, f⟩ := h
  refine ⟨gh, s, C, rs, R, (Fin.bind f).imp fun p g1 C1 H1 e1 R1 fin J g2 H2 hk R2 la ho hx yl D hD => ?_⟩
  obtain ⟨xs, lk⟩ := p
  have rs2 := (rs.mono e1).mono0 hk.ext0
  have rsw := rs2.wipe ws
  obtain ⟨G, Yd, wk, hG, hY⟩ := yl
  have hL2 : g2.L D = none := R2.Lnone hD
  have fz : ∀ (vs : List V) (ob : Obj) (u : HO), HO.lst vs ≠ .frz ob u := fun _ _ _ z => nomatch z
  -- g2 while the new list holds acc
  have gF : ∀ {acc : List V} {g3 : Gh}, Ext { g2 with L := upd g2.L D (.lst acc) } g3 → ExtF g2 g3 := fun {acc g3} e => ⟨⟨e.B, e.n, e.A⟩, fun a ob u h => by
    rw [e.L]
    show upd g2.L D _ a = _
    rw [upd_ne (fun z => by rw [z, hL2] at h; cases h)]
    exact h⟩
  refine lc_it wk (fun i H' => ∃ g3 C3 accT accV, Ext { g2 with L := upd g2.L D (.lst accV) } g3 ∧ RH Y.M g3 C3 H' ∧ RVs Y.M g3 accT accV ∧ lkOk lk C1 C3 ∧
      Fin Y g1 (fun cls d H' => W cls d σ H') ((lcL gt tt me lk C1 (wipeS s ws) (xs.drop i) accT C3).nox.bind fun acc C2 => (alc own (.lst acc) C2).unlk lk) (kV' Y Q))
    ⟨_, C1, [], [], Ext.refl _, R2.pin hD, .nil, by cases lk with | none => trivial | some p => rfl, fin⟩ (fun i H' hi' ⟨g3, C3, accT, accV, e3, R3, _, ok3, _⟩ => hG g3 C3 H' (gF e3) R3 ok3)
    (fun i x H' H'' hi' ⟨g3, C3, accT, accV, e3, R3, rva, ok3, f3⟩ hy => ?_) (fun H' ⟨g3, C3, accT, accV, e3, R3, rva, ok3, f3⟩ => ?_)
  · obtain ⟨g4, e4, R4, t, htx, rv⟩ := hY i g3 C3 H' x H'' hi' (gF e3) R3 ok3 hy
    have ed : xs.drop i = t :: xs.drop (i + 1) := by
      have hl : i < xs.length := hi'
      rw [List.drop_eq_getElem_cons hl]
      rw [List.getElem?_eq_getElem hl] at htx
      cases htx; rfl
    rw [ed] at f3
    unfold lcL at f3
    have rs4 : RS Y.M g4 (wipeS s ws) (L2.wipe σ ws) := (rsw.mono0 (gF e3).e0).mono e4
    cases hgt' : gt t (wipeS s ws) with
    | none => rw [hgt'] at f3; exact f3.elim
    | some s1 =>
      rw [hgt'] at f3
      refine hgt g4 C3 H'' t x _ s1 _ _ R4 rs4 rv hgt' fun σ2 rs5 hw => ⟨(hw _ his).trans (wipe_idem _), ?_⟩
      dsimp only at f3
      cases h1 : tt s1 C3 with
      | stuck => rw [h1] at f3; exact f3.elim
      | exc x0 C5 => rw [h1] at f3; exact f3.elim
      | ok b C5 =>
        rw [h1] at f3
        simp only [Res.bind] at f3
        refine ⟨g4, s1, C3, rs5, R4, ?_⟩
        rw [h1]
        intro g5 H5 e5 R5
        have e35 := e3.trans (e4.trans e5)
        cases b with
        | false =>
          simp only [Bool.false_eq_true, if_false] at f3 ⊢
          by_cases hok : lkOk lk C1 C5
          · rw [if_pos hok] at f3
            exact ⟨g5, C5, accT, accV, e35, R5, rva.mono (e4.trans e5), hok, f3⟩
          · rw [if_neg hok] at f3; exact f3.elim
        | true =>
          simp only [if_true] at f3 ⊢
          cases h2 : me s1 C5 with
          | stuck => rw [h2] at f3; exact f3.elim
          | exc x0 C6 => rw [h2] at f3; exact f3.elim
          | ok u C6 =>
            rw [h2] at f3
            refine ⟨g5, s1, C5, rs5.mono e5, R5, ?_⟩
            rw [h2]
            intro g6 H6 e6 R6 v rvu
            dsimp only at f3
            by_cases hok : accT.length < sizeLine ∧ lkOk lk C1 C6
            · rw [if_pos hok] at f3
              have e36 := e35.trans e6
              have eL : g6.L = upd g2.L D (.lst accV) := e36.L
              have R7 := R6.repin (o' := .lst (accV ++ [v])) eL hL2 (fz _)
              have ex : Ext0 g6 { g6 with L := upd g2.L D (.lst (accV ++ [v])) } := ⟨fun _ _ h => h, Nat.le_refl _, fun _ _ => rfl⟩
              refine ⟨accV, R6.l D _ (by rw [eL]; exact upd_same), by rw [← rva.length]; exact hok.1, { g6 with L := upd g2.L D (.lst (accV ++ [v])) }, C6, accT ++ [u], accV ++ [v], ⟨e36.B, rfl, e36.n, e36.A⟩, R7, ?_, hok.2, f3⟩
              exact ((rva.mono ((e4.trans e5).trans e6)).append (.cons rvu .nil)).mono0 ex
            · rw [if_neg hok] at f3; exact f3.elim
  · rw [List.drop_length] at f3
    have f4 : Fin Y g1 (fun cls d H' => W cls d σ H') ((alc own (.lst accT) C3).unlk lk) (kV' Y Q) := f3
    obtain ⟨g4, u, C4, ea, e4, R4, rvD, hC⟩ := acc_done own R3 e3.L hL2 (fz _) (RN.lst rva) ⟨e3.B, e3.n, e3.A⟩
    rw [ea] at f4
    obtain ⟨g7, H7, x1, x2, R7, hP⟩ := walk_end hk R1 e4 R4 la (lkOk_more la ok3 hC) ho hx
    exact hP (Q (.ref D)) (f4 g7 H7 x1 R7 (.ref D) (rvD.mono0 x2))
/-- [e for .. in .. if ..] -/
theorem se_lc (own : Bool) (names : List (Str × Nat)) (hN : X.N.Nodup) (hi : PI X tg iter (tI X Y W src)) (ok : blkC X.N X.env.scope scope names = true)
    (hg : ∀ (s : Shared) (H : Hp) (C : Addr) (cl : List (Str × Addr)) (fp : List Addr), PG (X.blk s H scope (compEnvC scope cl C X.env) fp) tg g) (hgt : GS X Y g gt is)
    (ht : ∀ (s : Shared) (H : Hp) (C : Addr) (cl : List (Str × Addr)) (fp : List Addr), PTs (X.blk s H scope (compEnvC scope cl C X.env) fp) ifs (tT Y W0 tt))
    (he : ∀ (s : Shared) (H : Hp) (C : Addr) (cl : List (Str × Addr)) (fp : List Addr), PE (X.blk s H scope (compEnvC scope cl C X.env) fp) elt (tE Y W0 me)) (his : ∀ i ∈ is, i ∈ names.map (·.2) := by decide) (hc : X.calm = true := by rfl)
    (hs : ∀ x, foldedSetIterable iter X.env x = pure x := by intro _; rfl) : PE X (.ListComp elt [⟨tg, iter, ifs, 0⟩] scope pos) (tE Y W (mLc own src gt tt me (names.map (·.2)))) :=
  PE.imp (pe_unlk (pe_lc (own := names) hc hN hi (blkOk_by ok) hg ht he hs)) fun _ _ _ h => lc_sem own hgt his h
/-- x = [e for .. in .. if ..] on one row -/
theorem ss_lc (i : Nat) (own : Bool) (names : List (Str × Nat)) {y : Str} {py spos : Pos} (hN : X.N.Nodup) (hi : PI X tg iter (tI X Y W src)) (ok : blkC X.N X.env.scope scope names = true)
    (hg : ∀ (s : Shared) (H : Hp) (C : Addr) (cl : List (Str × Addr)) (fp : List Addr), PG (X.blk s H scope (compEnvC scope cl C X.env) fp) tg g) (hgt : GS X Y g gt is)
    (ht : ∀ (s : Shared) (H : Hp) (C : Addr) (cl : List (Str × Addr)) (fp : List Addr), PTs (X.blk s H scope (compEnvC scope cl C X.env) fp) ifs (tT Y W0 tt))
    (he : ∀ (s : Shared) (H : Hp) (C : Addr) (cl : List (Str × Addr)) (fp : List Addr), PE (X.blk s H scope (compEnvC scope cl C X.env) fp) elt (tE Y W0 me)) (his : ∀ i ∈ is, i ∈ names.map (·.2) := by decide) (hc : X.calm = true := by rfl)
    (hs : ∀ x, foldedSetIterable iter X.env x = pure x := by intro _; rfl) (hy : X.N[i]? = some y := by rfl) (hyl : X.env.scope.names.lookup y = some .local := by rfl)
    (hk : X.env.scope.kind = .function := by rfl) (hl : (py.line == pos.line) = true := by rfl) (ha : (scope.names.any fun (n, k) => n == y && (k == .local || k == .cell)) = false := by decide +kernel) :
    PS X (.Assign [.Name y py] (.ListComp elt [⟨tg, iter, ifs, 0⟩] scope pos) spos) (tS Y W (nSet i (mLc own src gt tt me (names.map (·.2))))) := by
  refine PS.imp (ps_unlk (ps_setLc (own := names) hc hN hy hyl (sw_true hk hyl hl ha) hi (blkOk_by ok) hg ht he hs)) fun D σ H ⟨gh, s, C, rs, R, f⟩ => ?_
  exact lc_sem (Q := fun x H1 => D.nx (σ.set i (some x)) H1) own hgt his (tS_bind rs R f fun t g1 C1 H1 v e1 rs1 R1 rv f1 => f1 g1 H1 _ (Ext.refl g1) R1 (rs1.set rv))
end
end FH
/-! FhN: displays, slices, methods, more built-ins. -/
namespace FH
open PySem L2
open PySem.Spec PyProof.Rows
section
variable {X : Cx} {Y : Xd} {W : WX} {e o : Expr} {es : List Expr} {pos apos cpos : Pos} {m mo : EM TV} {ma : EM (List TV)}
/-! ### displays -/
def lstV (own : Bool) (ts : List TV) (C : Tab) : Res TV := if ts.length ≤ sizeLine then alc own (.lst ts) C else .stuck
def mLst (own : Bool) (ma : EM (List TV)) : EM TV := fun s C => (ma s C).bind (lstV own)
def tupV (ts : List TV) (C : Tab) : Res TV := if ts.length ≤ sizeLine then .ok (.tup ts) C else .stuck
def mTup (ma : EM (List TV)) : EM TV := fun s C => (ma s C).bind tupV
def mDic0 (own : Bool) : EM TV := fun _ C => alc own (.dct []) C
theorem tA_bind {σ : L2.St} {H : Hp} {g : Gh} {s : Slots} {C : Tab} {β : Type} {f : List TV → Tab → Res β} {k : β → Gh → Tab → Hp → Prop} {Q : List V → Hp → Prop} (rs : RS Y.M g s σ) (R : RH Y.M g C H)
    (h : Fin Y g (fun cls d H' => W cls d σ H') ((ma s C).bind f) k) (hq : ∀ ts g1 C1 H1 vs, Ext g g1 → RS Y.M g1 s σ → RH Y.M g1 C1 H1 → RVs Y.M g1 ts vs → Fin Y g1 (fun cls d H' => W cls d σ H') (f ts C1) k → Q vs H1) : tA Y W ma σ H Q :=
  ⟨g, s, C, rs, R, (Fin.bind h).imp fun ts g1 C1 H1 e R1 q vs rv => hq ts g1 C1 H1 vs e (rs.mono e) R1 rv q⟩
theorem se_lst (own : Bool) (h : SA X Y W es ma) : PE X (.List es pos) (tE Y W (mLst own ma)) := by
  refine PE.imp (pe_lst h.pa) fun σ H Q ⟨g, s, C, rs, R, f⟩ => tA_bind rs R f fun ts g1 C1 H1 vs e1 rs1 R1 rv f1 => ?_
  unfold lstV at f1
  split at f1
  · rename_i hl; exact ⟨by rw [← rv.length]; exact hl, alc_new R1 (RN.lst rv) f1⟩
  · exact f1.elim
theorem se_tup {x1} (h : SA X Y W es ma) : PE X (.Tuple es x1 pos) (tE Y W (mTup ma)) := by
  refine PE.imp (pe_tup h.pa) fun σ H Q ⟨g, s, C, rs, R, f⟩ => tA_bind rs R f fun ts g1 C1 H1 vs e1 rs1 R1 rv f1 => ?_
  unfold tupV at f1
  split at f1
  · rename_i hl; exact ⟨by rw [← rv.length]; exact hl, tup_new R1 rv f1⟩
  · exact f1.elim
theorem se_dic0 (own : Bool) : PE X (.Dict [] [] pos) (tE Y W (mDic0 own)) :=
  PE.imp pe_dnewK fun σ H Q ⟨g, s, C, rs, R, f⟩ => alc_new R (RN.dct .nil) f
/-- a cell that is kept as a value is never changed again -/
def fzv (t : TV) (C : Tab) : Res TV := match t with
  | .cel j => match C[j]? with
    | some (.own u) => .ok u (C.set j (.frz u))
    | some (.frz u) => .ok u C
    | _ => .ok (.cel j) C
  | t => .ok t C
def mFz (m : EM TV) : EM TV := fun s C => (m s C).bind fzv
theorem se_fz (h : PE X e (tE Y W m)) : PE X e (tE Y W (mFz m)) := by
  refine PE.imp h fun σ H Q ⟨g, s, C, rs, R, f⟩ => tE_bind rs R f fun t g1 C1 H1 v e1 rs1 R1 rv f1 => ?_
  unfold fzv at f1
  split at f1
  · rename_i j
    cases rv with
    | cel hj =>
      obtain ⟨c, hc, q⟩ := R1.cell hj
      rw [hc] at f1
      cases c with
      | own u =>
        obtain ⟨g2, e2, R2, rv2⟩ := R1.fz hc
        exact f1 g2 H1 e2 R2 _ rv2
      | frz u => exact f1 g1 H1 (Ext.refl _) R1 _ q
      | lck u => exact f1 g1 H1 (Ext.refl _) R1 _ (.cel hj)
  · exact f1 g1 H1 (Ext.refl _) R1 v rv

/-! ### slices -/
def cutT {α : Type} (xs : List α) (lo hi : Option Int) : List α := (xs.drop (HT.sIx xs.length 0 lo)).take (HT.sIx xs.length xs.length hi - HT.sIx xs.length 0 lo)
theorem RVs.cut {M : Md} {g : Gh} {ts : List TV} {vs : List V} (r : RVs M g ts vs) (lo hi : Option Int) : RVs M g (cutT ts lo hi) (cutV vs lo hi) := by
  unfold cutT cutV
  rw [r.length]
  exact (r.drop _).take _
theorem cut_map {α β : Type} (f : α → β) (xs : List α) (lo hi : Option Int) : cutT (xs.map f) lo hi = (cutT xs lo hi).map f := by
  unfold cutT
  rw [List.length_map, List.map_take, List.map_drop]
theorem cutV_eq (xs : List V) (lo hi : Option Int) : cutV xs lo hi = cutT xs lo hi := rfl
def sliceV (own : Bool) (x : TV) (lo hi : Option Int) (C : Tab) : Res TV := match rd C x with
  | .lst xs => alc own (.lst (cutT xs lo hi)) C
  | .lsc ns => alc own (.lst ((cutT ns lo hi).map .int)) C
  | .tup xs => if HT.sIx xs.length 0 lo = 0 ∧ HT.sIx xs.length xs.length hi = xs.length then .stuck else .ok (.tup (cutT xs lo hi)) C
  | .str z => if z.length ≤ sizeLine then .ok (.str (cutS z lo hi)) C else .stuck
  | _ => .stuck
def mNo : EM (Option Int) := fun _ C => .ok none C
def mSo (m : EM TV) : EM (Option Int) := fun s C => (m s C).bind fun t C1 => match t with
  | .int i => .ok (some i) C1
  | _ => .stuck
def mSlice (own : Bool) (me : EM TV) (lo hi : EM (Option Int)) : EM TV := fun s C => (me s C).bind fun x C1 => (lo s C1).bind fun l C2 => (hi s C2).bind fun h C3 => sliceV own x l h C3
def tO (Y : Xd) (W : WX) (m : EM (Option Int)) : TO := fun σ H Q => ∃ g s C, RS Y.M g s σ ∧ RH Y.M g C H ∧ Fin Y g (fun cls d H' => W cls d σ H') (m s C) fun b _ _ H' => Q b H'
theorem PO.imp {e : Option Expr} {t t' : TO} (h : PO X e t) (i : ∀ σ H Q, t' σ H Q → t σ H Q) : PO X e t' := ⟨fun pins s σ H Q I q => h.run pins s σ H Q I (i σ H Q q)⟩
theorem so_no : PO X none (tO Y W mNo) := PO.imp po_none fun σ H Q ⟨g, s, C, rs, R, f⟩ => f g H (Ext.refl _) R
theorem so_some (h : PE X e (tE Y W m)) : PO X (some e) (tO Y W (mSo m)) :=
  PO.imp (po_some h) fun σ H Q ⟨g, s, C, rs, R, f⟩ => tE_bind rs R f fun t g1 C1 H1 v e1 rs1 R1 rv f1 => by
    cases t <;> first | (exact f1.elim) | skip
    cases rv
    exact ⟨_, rfl, f1 g1 H1 (Ext.refl _) R1⟩
theorem tO_bind {mo : EM (Option Int)} {σ : L2.St} {H : Hp} {g : Gh} {s : Slots} {C : Tab} {β : Type} {f : Option Int → Tab → Res β} {k : β → Gh → Tab → Hp → Prop} {Q : Option Int → Hp → Prop} (rs : RS Y.M g s σ) (R : RH Y.M g C H)
    (h : Fin Y g (fun cls d H' => W cls d σ H') ((mo s C).bind f) k) (hq : ∀ t g1 C1 H1, Ext g g1 → RS Y.M g1 s σ → RH Y.M g1 C1 H1 → Fin Y g1 (fun cls d H' => W cls d σ H') (f t C1) k → Q t H1) : tO Y W mo σ H Q :=
  ⟨g, s, C, rs, R, (Fin.bind h).imp fun t g1 C1 H1 e R1 q => hq t g1 C1 H1 e (rs.mono e) R1 q⟩
def rSl3 (K : PySem.W.Frag) : V → Option Int → Option Int → Hp → VK → Prop := fun x lo hi H Q => rSlL K x lo hi H Q ∨ (rSlT K x lo hi H Q ∨ rSlS x lo hi H Q)
theorem sl3 : SlR X (rSl3 X.K) := sl_list.or (sl_tup.or sl_str)
theorem se_slice {lo hi : Option Expr} {ml mh : EM (Option Int)} {p2 : Pos} (own : Bool) (he : PE X e (tE Y W m)) (hl : PO X lo (tO Y W ml)) (hh : PO X hi (tO Y W mh)) (hK : X.K = Y.M.K := by rfl) : PE X (.Subscript e (.Slice lo hi none p2) pos) (tE Y W (mSlice own m ml mh)) := by
  refine PE.imp (pe_slice sl3 he hl hh) fun σ H Q ⟨g, s, C, rs, R, f⟩ => tE_bind rs R f fun x g1 C1 H1 v e1 rs1 R1 rv f1 => ?_
  refine tO_bind rs1 R1 f1 fun l g2 C2 H2 e2 rs2 R2 f2 => tO_bind rs2 R2 f2 fun h g3 C3 H3 e3 rs3 R3 f3 => ?_
  have rv3 := (rv.mono e2).mono e3
  have q := R3.rr rv3
  unfold sliceV at f3
  split at f3
  · rename_i xs ex
    rw [ex] at q
    obtain ⟨a, vs, rfl, ha, r1⟩ := q
    exact .inl ⟨a, vs, rfl, .of ha, alc_new R3 (RN.lst (r1.cut l h)) f3⟩
  · rename_i ns ex
    rw [ex] at q
    obtain ⟨a, rfl, ha⟩ := q
    refine .inl ⟨a, _, rfl, hK ▸ ha, alc_new R3 (RN.lst ?_) f3⟩
    rw [cutV_eq, cut_map]
    exact rvs_ints
  · rename_i xs ex
    rw [ex] at q
    obtain ⟨a, vs, rfl, ha, r1⟩ := q
    split at f3
    · exact f3.elim
    · rename_i hne
      exact .inr (.inl ⟨a, vs, rfl, hK ▸ ha, by rw [← r1.length]; exact hne, tup_new R3 (r1.cut l h) f3⟩)
  · rename_i z ex
    rw [ex] at q
    split at f3
    · rename_i hz; exact .inr (.inr ⟨z, q, hz, val_now R3 .str f3⟩)
    · exact f3.elim
  · exact f3.elim

/-! ### methods of built-in types -/
structure MtS (X : Cx) (Y : Xd) (T : String) (r : V → List V → Hp → VK → Prop) (ty : TV → Tab → Bool) (f : TV → FM) : Prop where
  ty : ∀ (g : Gh) (C : Tab) (H : Hp) (x : TV) (v : V), RH Y.M g C H → RV Y.M g x v → ty x C = true → tyV X.K T v H
  f : ∀ (g : Gh) (C : Tab) (H : Hp) (W : Value → Option Addr → Hp → Prop) (x : TV) (v : V) (xs : List TV) (vs : List V) (Q : VK), RH Y.M g C H → RV Y.M g x v → RVs Y.M g xs vs → Fin Y g W (f x xs C) (kV' Y Q) → r v vs H Q
def mBM (ty : TV → Tab → Bool) (f : TV → FM) (mo : EM TV) (ma : EM (List TV)) : EM TV := fun s C => (mo s C).bind fun x C1 => if ty x C1 = true then (ma s C1).bind fun xs C2 => f x xs C2 else .stuck
variable {T id : String} {r : V → List V → Hp → VK → Prop} {ty : TV → Tab → Bool} {f : TV → FM} {name : Str}
theorem se_bm0 (pa : PlainAttrs T) (slot : Slot T name id) (hty : typeOf (.builtin id) = pure (.type "method_descriptor")) (hm : MtR X id r) (hs : MtS X Y T r ty f) (ho : PE X o (tE Y W mo))
    (hbase : attributeBase o name X.env (eval o X.env) = eval o X.env := by rfl) (hline : (apos.endLine == cpos.line) = true := by rfl) : PE X (.Call (.Attribute o name apos) [] [] cpos) (tE Y W (mBM ty f mo mNil)) := by
  refine PE.imp (pe_bm0 pa slot hty hm ho hbase hline) fun σ H Q ⟨g, s, C, rs, R, f0⟩ => tE_bind rs R f0 fun x g1 C1 H1 v e1 rs1 R1 rv f1 => ?_
  split at f1
  · rename_i ht; exact ⟨hs.ty g1 C1 H1 x v R1 rv ht, hs.f g1 C1 H1 _ x v [] [] Q R1 rv .nil f1⟩
  · exact f1.elim
theorem se_bm (pa : PlainAttrs T) (slot : Slot T name id) (hty : typeOf (.builtin id) = pure (.type "method_descriptor")) (hm : MtR X id r) (hs : MtS X Y T r ty f) (ho : PE X o (tE Y W mo)) (ha : SA X Y W (e :: es) ma)
    (hbase : attributeBase o name X.env (eval o X.env) = eval o X.env := by rfl)
    (hfew : ((backTo cpos (starEach (e :: es) X.env)).all (fun x => !x.1) && (backToKw cpos (keywordEach [] X.env)).all (fun x => x.1.isSome)
      && decide ((e :: es).length + ([] : List Keyword).length + (if ([] : List Keyword).isEmpty then 0 else 1) < 30)) = true := by rfl)
    (hline : (apos.endLine == cpos.line) = true := by rfl) (hst : starEach (e :: es) X.env = (false, eval e X.env) :: starEach es X.env := by rfl) (hplain : (backTo cpos (starEach es X.env)).any (·.1) = false := by rfl) :
    PE X (.Call (.Attribute o name apos) (e :: es) [] cpos) (tE Y W (mBM ty f mo ma)) := by
  refine PE.imp (pe_bm pa slot hty hm ho ha.pa hbase hfew hline hst hplain) fun σ H Q ⟨g, s, C, rs, R, f0⟩ => tE_bind rs R f0 fun x g1 C1 H1 v e1 rs1 R1 rv f1 => ?_
  split at f1
  · rename_i ht
    exact ⟨hs.ty g1 C1 H1 x v R1 rv ht, tA_bind rs1 R1 f1 fun ts g2 C2 H2 vs e2 rs2 R2 rvs f2 => hs.f g2 C2 H2 _ x v ts vs Q R2 (rv.mono e2) rvs f2⟩
  · exact f1.elim
end
end FH
/-! FhO: more built-ins, methods, texts. -/
namespace FH
open PySem L2
open PySem.Spec PyProof.Rows
/-! ### views of trees -/
def strL : List TV → Option (List Str)
  | [] => some []
  | .str x :: ts => (strL ts).map (x :: ·)
  | _ :: _ => none
def intL : List TV → Option (List Int)
  | [] => some []
  | .int x :: ts => (intL ts).map (x :: ·)
  | _ :: _ => none
@[simp] theorem strL_map : ∀ {ys : List Str}, strL (ys.map TV.str) = some ys
  | [] => rfl
  | y :: ys => by simp [strL, strL_map (ys := ys)]
@[simp] theorem intL_map : ∀ {ys : List Int}, intL (ys.map TV.int) = some ys
  | [] => rfl
  | y :: ys => by simp [intL, intL_map (ys := ys)]
/-- the items of a list or a tuple -/
def itT : TV → Option (List TV)
  | .lst xs => some xs
  | .tup xs => some xs
  | .lsc ns => some (ns.map .int)
  | _ => none
section
variable {M : Md} {g : Gh}
theorem strL_rv : ∀ {ts : List TV} {ys : List Str} {vs : List V}, strL ts = some ys → RVs M g ts vs → vs = ys.map V.str
  | [], ys, vs, h, r => by cases h; cases r; rfl
  | t :: ts, ys, _, h, .cons a b => by
    cases t <;> first | (cases h; done) | skip
    simp only [strL, Option.map_eq_some_iff] at h
    obtain ⟨zs, h1, rfl⟩ := h
    cases a
    rw [strL_rv h1 b]; rfl
theorem intL_rv : ∀ {ts : List TV} {ys : List Int} {vs : List V}, intL ts = some ys → RVs M g ts vs → vs = ys.map V.int
  | [], ys, vs, h, r => by cases h; cases r; rfl
  | t :: ts, ys, _, h, .cons a b => by
    cases t <;> first | (cases h; done) | skip
    simp only [intL, Option.map_eq_some_iff] at h
    obtain ⟨zs, h1, rfl⟩ := h
    cases a
    rw [intL_rv h1 b]; rfl
theorem rvs_strs : ∀ {ns : List Str}, RVs M g (ns.map TV.str) (ns.map V.str)
  | [] => .nil
  | _ :: _ => .cons .str rvs_strs
theorem rvs_keys : ∀ {ts : List (Key × TV)} {ws : List (Key × V)}, RKs M g ts ws → RVs M g (ts.map fun kv => keyTV kv.1) (ws.map fun kv => kV kv.1)
  | _, _, .nil => .nil
  | _, _, .cons _ r => .cons (keyTV_rv _) (rvs_keys r)
theorem RR.it {H : Hp} {t : TV} {v : V} {xs : List TV} (q : RR M g H t v) (h : itT t = some xs) : ∃ a vs, v = .ref a ∧ (SqL M.K H a vs ∨ SqT M.K H a vs) ∧ RVs M g xs vs := by
  cases t <;> first | (cases h; done) | skip
  · cases h; obtain ⟨a, vs, rfl, ha, r⟩ := q; exact ⟨a, vs, rfl, .inl (.of ha), r⟩
  · cases h; obtain ⟨a, vs, rfl, ha, r⟩ := q; exact ⟨a, vs, rfl, .inr ha, r⟩
  · cases h; obtain ⟨a, rfl, ha⟩ := q; exact ⟨a, _, rfl, .inl ha, rvs_ints⟩
end
section
variable {X : Cx} {Y : Xd} {W : WX} {e a b c : Expr} {es : List Expr} {pos : Pos} {m ma mb mc : EM TV}
/-! ### len, list, tuple -/
def lenR : TV → Option Nat
  | .str z => if z.length ≤ sizeLine then some z.length else none
  | .dct kvs => some kvs.length
  | t => (itT t).map List.length
def bLen : FM := fun ts C => match ts with
  | [x] => match lenR (rd C x) with
    | some n => .ok (.int n) C
    | none => .stuck
  | _ => .stuck
def rLen2 (K : PySem.W.Frag) : List V → Hp → VK → Prop := fun xs H Q => (∃ x n, xs = [x] ∧ LenV K x H n ∧ Q (.int n) H) ∨ ∃ a kvs, xs = [V.ref a] ∧ Rd H a (.dK kvs) ∧ Q (.int kvs.length) H
theorem call_len2 : CallR X (.builtin "len") (rLen2 X.K) := by
  intro pins s σ H xs us Q I r h
  rcases h with h | ⟨a, kvs, rfl, ha, q⟩
  · exact call_len pins s σ H xs us Q I r h
  · obtain ⟨u, rfl, ru⟩ := vals1 r
    cases ru
    exact d_len I ha fun t s' I' => ⟨.int kvs.length, H, I', ⟨t, rfl⟩, q⟩
theorem RVs.one {M : Md} {g : Gh} {x : TV} {vs : List V} (r : RVs M g [x] vs) : ∃ v, vs = [v] ∧ RV M g x v := by
  cases r with | cons a b => cases b; exact ⟨_, rfl, a⟩
theorem RVs.two {M : Md} {g : Gh} {x y : TV} {vs : List V} (r : RVs M g [x, y] vs) : ∃ v w, vs = [v, w] ∧ RV M g x v ∧ RV M g y w := by
  cases r with | cons a b => cases b with | cons b c => cases c; exact ⟨_, _, rfl, a, b⟩
theorem bLen_ok (hK : X.K = Y.M.K) : CallS Y (rLen2 X.K) bLen := by
  intro g C H W xs vs Q R rv f
  unfold bLen at f
  split at f
  · rename_i x
    obtain ⟨v, rfl, rx⟩ := rv.one
    have q := R.rr rx
    split at f
    · rename_i n hn
      generalize rd C x = t at hn q
      have other : ∀ xs, itT t = some xs → (itT t).map List.length = some n → rLen2 X.K [v] H Q := fun xs h h' => by
        obtain ⟨a, vs, rfl, hs, r⟩ := q.it h
        rw [h] at h'; cases h'
        refine .inl ⟨_, vs.length, rfl, ?_, by rw [← r.length]; exact val_now R .int f⟩
        rcases hs with hs | hs
        · exact .inl ⟨vs, hK ▸ hs, rfl⟩
        · exact .inr ⟨vs, hK ▸ hs, rfl⟩
      cases t <;> first | (cases hn; done) | (exact other _ rfl hn) | skip
      · rename_i z
        simp only [lenR] at hn
        split at hn
        · rename_i hz
          cases hn
          obtain rfl : v = .str z := q
          exact .inl ⟨_, z.length, rfl, ⟨hz, rfl⟩, val_now R .int f⟩
        · cases hn
      · rename_i kvs
        cases hn
        obtain ⟨a, ws, rfl, ha, r⟩ := q
        exact .inr ⟨a, ws, rfl, ha.rd, by rw [← r.length]; exact val_now R .int f⟩
    · exact f.elim
  · exact f.elim
/-- the items of what list() takes -/
def itD : TV → Option (List TV)
  | .dct kvs => some (kvs.map fun kv => keyTV kv.1)
  | t => itT t
def bList (own : Bool) : FM := fun ts C => match ts with
  | [x] => match itD (rd C x) with
    | some xs => alc own (.lst xs) C
    | none => .stuck
  | _ => .stuck
def rList2 (K : PySem.W.Frag) : List V → Hp → VK → Prop := fun xs H Q => (∃ p ys, xs = [.ref p] ∧ (SqL K H p ys ∨ SqT K H p ys) ∧ ∀ l, H l = none → Q (.ref l) (upd H l (.lst ys))) ∨
  ∃ (a : Addr) (kvs : List (Key × V)), xs = [.ref a] ∧ Rd H a (.dK kvs) ∧ ∀ p, H p = none → Q (.ref p) (upd H p (.lst (kvs.map fun kv => kV kv.1)))
theorem call_list2 (hc : X.calm = true) : CallR X (.type "list") (rList2 X.K) := call_list_of.or (call_listD hc)
theorem bList_ok (hK : X.K = Y.M.K) (own : Bool) : CallS Y (rList2 X.K) (bList own) := by
  intro g C H W xs vs Q R rv f
  unfold bList at f
  split at f
  · rename_i x
    obtain ⟨v, rfl, rx⟩ := rv.one
    have q := R.rr rx
    split at f
    · rename_i xs hn
      generalize rd C x = t at hn q
      have other : itT t = some xs → rList2 X.K [v] H Q := fun h => by
        obtain ⟨a, vs, rfl, hs, r⟩ := q.it h
        refine .inl ⟨_, vs, rfl, ?_, alc_new R (RN.lst r) f⟩
        rcases hs with hs | hs
        · exact .inl (hK ▸ hs)
        · exact .inr (hK ▸ hs)
      cases t <;> first | (cases hn; done) | (exact other hn) | skip
      rename_i kvs
      cases hn
      obtain ⟨a, ws, rfl, ha, r⟩ := q
      exact .inr ⟨a, ws, rfl, ha.rd, alc_new R (RN.lst (rvs_keys r)) f⟩
    · exact f.elim
  · exact f.elim
def bTuple : FM := fun ts C => match ts with
  | [x] => match rd C x with
    | .lst xs => .ok (.tup xs) C
    | .tup xs => .ok (.tup xs) C
    | _ => .stuck
  | _ => .stuck
def rTup2 (K : PySem.W.Frag) : List V → Hp → VK → Prop := fun xs H Q => ∃ p ys, xs = [.ref p] ∧ ((SqL K H p ys ∧ ∀ l, H l = none → Q (.ref l) (upd H l (.tup ys))) ∨ (SqT K H p ys ∧ Q (.ref p) H))
theorem bTuple_ok (hK : X.K = Y.M.K) : CallS Y (rTup2 X.K) bTuple := by
  intro g C H W xs vs Q R rv f
  unfold bTuple at f
  split at f
  · rename_i x
    obtain ⟨v, rfl, rx⟩ := rv.one
    have q := R.rr rx
    split at f
    · rename_i xs ex
      rw [ex] at q
      obtain ⟨a, vs, rfl, ha, r⟩ := q
      exact ⟨a, vs, rfl, .inl ⟨.of ha, tup_new R r f⟩⟩
    · rename_i xs ex
      rw [ex] at q
      obtain ⟨a, vs, rfl, ha, r⟩ := q
      exact ⟨a, vs, rfl, .inr ⟨hK ▸ ha, val_now R (R.rvtup rx ex) f⟩⟩
    · exact f.elim
  · exact f.elim
/-! ### sorted -/
def leS (x y : Str) : Bool := !ltCps y.cps.toList x.cps.toList
def srtS (xs : List Str) : List Str := xs.mergeSort leS
def srtI (xs : List Int) : List Int := xs.mergeSort fun a b => decide (a ≤ b)
def bSorted (own : Bool) : FM := fun ts C => match ts with
  | [x] => match itT (rd C x) with
    | some xs => match strL xs with
      | some ys => if ys.length < 64 then alc own (.lst ((srtS ys).map .str)) C else .stuck
      | none => match intL xs with
        | some ns => alc own (.lst ((srtI ns).map .int)) C
        | none => .stuck
    | none => .stuck
  | _ => .stuck
end
end FH
/-! FhP: sorted, dict, isinstance, in, or, texts, methods. -/
namespace FH
open PySem L2
open PySem.Spec PyProof.Rows
/-! ### sorted -/
theorem leS_iff {x y : Str} : leS x y = true ↔ x.cps.toList ≤ y.cps.toList := by
  unfold leS
  rw [ltCps_eq]
  simp [List.not_lt]
theorem leS_total (x y : Str) : (leS x y || leS y x) = true := by
  simp only [Bool.or_eq_true, leS_iff]
  exact List.le_total _ _
theorem leS_trans (x y z : Str) (h : leS x y = true) (h' : leS y z = true) : leS x z = true := by
  rw [leS_iff] at *
  exact List.le_trans h h'
theorem leS_anti {x y : Str} (h : leS x y = true) (h' : leS y x = true) : x = y := by
  rw [leS_iff] at h h'
  have e := List.le_antisymm h h'
  cases x; cases y
  simp only at e
  congr
  exact Array.toList_inj.mp e
theorem srtS_pw (xs : List Str) : (srtS xs).Pairwise fun a b => leS a b = true := List.pairwise_mergeSort (fun a b c h h' => leS_trans a b c h h') (fun a b => leS_total a b) xs
theorem srtS_perm (xs : List Str) : (srtS xs).Perm xs := List.mergeSort_perm xs leS
theorem pw_of_rising : ∀ {p : Str} {l : List Str}, risingS p l = true → (p :: l).Pairwise fun a b => leS a b = true
  | p, [], _ => by simp
  | p, x :: r, h => by
    simp only [risingS, Bool.and_eq_true] at h
    have ih := pw_of_rising h.2
    refine List.pairwise_cons.mpr ⟨fun z hz => ?_, ih⟩
    rcases List.mem_cons.mp hz with rfl | hz
    · exact h.1
    · exact leS_trans p x z h.1 ((List.pairwise_cons.mp ih).1 z hz)
theorem pw_of_sorted {l : List Str} (h : sortedS l = true) : l.Pairwise fun a b => leS a b = true := by
  cases l with
  | nil => exact .nil
  | cons x r => exact pw_of_rising h
theorem perm_unique {α : Type} {r : α → α → Prop} (anti : ∀ a b, r a b → r b a → a = b) : ∀ {xs ys : List α}, xs.Perm ys → xs.Pairwise r → ys.Pairwise r → xs = ys
  | [], ys, p, _, _ => (List.Perm.nil_eq p)
  | x :: xs, ys, p, hx, hy => by
    cases ys with
    | nil => exact absurd p.symm (by simp)
    | cons y ys =>
      have exy : x = y := by
        by_cases e : x = y
        · exact e
        · have h1 : x ∈ y :: ys := p.subset (List.mem_cons_self)
          have h2 : y ∈ x :: xs := p.symm.subset (List.mem_cons_self)
          have h1 := (List.mem_cons.mp h1).resolve_left e
          have h2 := (List.mem_cons.mp h2).resolve_left (Ne.symm e)
          exact anti _ _ ((List.pairwise_cons.mp hx).1 _ h2) ((List.pairwise_cons.mp hy).1 _ h1)
      subst exy
      rw [perm_unique anti (List.Perm.cons_inv p) (List.pairwise_cons.mp hx).2 (List.pairwise_cons.mp hy).2]
theorem srtS_unique {ys xs : List Str} (p : ys.Perm xs) (h : sortedS ys = true) : ys = srtS xs :=
  perm_unique (fun a b => leS_anti) (p.trans (srtS_perm xs).symm) (pw_of_sorted h) (srtS_pw xs)
theorem srtI_pw (xs : List Int) : (srtI xs).Pairwise fun a b => a ≤ b := by
  have h := List.pairwise_mergeSort (le := fun a b : Int => decide (a ≤ b)) (fun a b c h h' => by simp at *; omega) (fun a b => by simp; omega) xs
  exact h.imp fun h => by simpa using h
theorem srtI_unique {ys xs : List Int} (p : ys.Perm xs) (h : ys.Pairwise (· ≤ ·)) : ys = srtI xs :=
  perm_unique (fun a b h h' => by omega) (p.trans (List.mergeSort_perm xs _).symm) h (srtI_pw xs)
section
variable {X : Cx} {Y : Xd} {W : WX} {e a b c : Expr} {es : List Expr} {pos : Pos} {m ma mb mc : EM TV}
def rSort2 (K : PySem.W.Frag) : List V → Hp → VK → Prop := fun xs H Q => rSortedS K xs H Q ∨ rSortedI K xs H Q
theorem call_sort2 : CallR X (.builtin "sorted") (rSort2 X.K) := cr_sortedS.or cr_sortedI
theorem RR.itl {M : Md} {g : Gh} {H : Hp} {t : TV} {v : V} {xs : List TV} (q : RR M g H t v) (h : itT t = some xs) (hn : ∀ ys, t ≠ .tup ys) : ∃ a vs, v = .ref a ∧ SqL M.K H a vs ∧ RVs M g xs vs := by
  cases t <;> first | (cases h; done) | (exact absurd rfl (hn _)) | skip
  · cases h; obtain ⟨a, vs, rfl, ha, r⟩ := q; exact ⟨a, vs, rfl, .of ha, r⟩
  · cases h; obtain ⟨a, rfl, ha⟩ := q; exact ⟨a, _, rfl, ha, rvs_ints⟩
def notTup : TV → Bool
  | .tup _ => false
  | _ => true
def bSort (own : Bool) : FM := fun ts C => match ts with
  | [x] => if notTup (rd C x) = true then bSorted own [x] C else .stuck
  | _ => .stuck
theorem bSort_ok (hK : X.K = Y.M.K) (own : Bool) : CallS Y (rSort2 X.K) (bSort own) := by
  intro g C H W xs vs Q R rv f
  unfold bSort at f
  split at f
  · rename_i x
    split at f
    · rename_i hnt
      unfold bSorted at f
      dsimp only at f
      obtain ⟨v, rfl, rx⟩ := rv.one
      have q := R.rr rx
      split at f
      · rename_i xs hn
        obtain ⟨a, vs, rfl, hs, r⟩ := q.itl hn (fun ys z => by rw [z] at hnt; cases hnt)
        split at f
        · rename_i ys hys
          obtain rfl := strL_rv hys r
          split at f
          · rename_i hl
            refine .inl ⟨a, ys, rfl, hK ▸ hs, hl, fun zs p pm so => ?_⟩
            rw [srtS_unique pm so]
            exact alc_new R (RN.lst rvs_strs) f p
          · exact f.elim
        · split at f
          · rename_i ns hns
            obtain rfl := intL_rv hns r
            refine .inr ⟨a, ns, rfl, hK ▸ hs, fun zs p pm so => ?_⟩
            rw [srtI_unique pm so]
            exact alc_new R (RN.lst rvs_ints) f p
          · exact f.elim
      · exact f.elim
    · exact f.elim
  · exact f.elim
/-! ### dict(..) -/
def pairL : List TV → Option (List (Key × TV))
  | [] => some []
  | .tup [k, v] :: ts => (keyOf k).bind fun k => (pairL ts).map ((k, v) :: ·)
  | _ :: _ => none
def mergeT (kvs more : List (Key × TV)) : List (Key × TV) := more.foldl (fun acc kv => putT acc kv.1 kv.2) kvs
theorem RKs.merge {M : Md} {g : Gh} : ∀ {more : List (Key × TV)} {mw : List (Key × V)} {ts : List (Key × TV)} {ws : List (Key × V)}, RKs M g more mw → RKs M g ts ws → RKs M g (mergeT ts more) (mergeK ws mw)
  | _, _, _, _, .nil, r => r
  | (k, t) :: more, (_, v) :: mw, ts, ws, .cons a b, r => show RKs M g (mergeT (putT ts k t) more) (mergeK (putK ws k v) mw) from RKs.merge b (r.put k a)
theorem pairL_rv {g : Gh} {C : Tab} {H : Hp} {K : PySem.W.Frag} (hK : K = Y.M.K) (R : RH Y.M g C H) : ∀ {ts : List TV} {kvs : List (Key × TV)} {vs : List V}, pairL ts = some kvs → RVs Y.M g ts vs →
    ∃ (ps : List Addr) (ws : List (Key × V)), vs = ps.map V.ref ∧ RKs Y.M g kvs ws ∧ Paired (fun p kv => SqT K H p [kV kv.1, kv.2]) ps ws
  | [], kvs, vs, h, r => by cases h; cases r; exact ⟨[], [], rfl, .nil, .nil⟩
  | t :: ts, kvs, _, h, .cons a b => by
    unfold pairL at h
    split at h
    · rename_i e; cases e
    · rename_i k v ts' e1
      cases e1
      cases hk : keyOf k with
      | none => rw [hk] at h; cases h
      | some key =>
        rw [hk] at h
        simp only [Option.bind, Option.map_eq_some_iff] at h
        obtain ⟨kvs', h1, rfl⟩ := h
        obtain ⟨ps, ws, rfl, h2, h3⟩ := pairL_rv hK R h1 b
        have q := R.rr0 a
        obtain ⟨p, us, rfl, hp, ru⟩ := q
        obtain ⟨v1, v2, rfl, r1, r2⟩ := ru.two
        obtain rfl := keyOf_rv hk r1
        exact ⟨p :: ps, (key, v2) :: ws, rfl, .cons r2 h2, .cons (hK ▸ hp) h3⟩
    · cases h
def bDict (own : Bool) : FM := fun ts C => match ts with
  | [x] => match rd C x with
    | .dct kvs => alc own (.dct kvs) C
    | .lst xs => match pairL xs with
      | some kvs => alc own (.dct (mergeT [] kvs)) C
      | none => .stuck
    | _ => .stuck
  | _ => .stuck
def rDict2 (K : PySem.W.Frag) : List V → Hp → VK → Prop := fun xs H Q => (∃ (a : Addr) (kvs : List (Key × V)), xs = [.ref a] ∧ Rd H a (.dK kvs) ∧ ∀ p, H p = none → Q (.ref p) (upd H p (.dK kvs))) ∨
  ∃ (a : Addr) (ps : List Addr) (kvs : List (Key × V)), xs = [.ref a] ∧ SqL K H a (ps.map V.ref) ∧ Paired (fun p kv => SqT K H p [kV kv.1, kv.2]) ps kvs ∧ ∀ p, H p = none → Q (.ref p) (upd H p (.dK (mergeK [] kvs)))
theorem call_dict2 (hc : X.calm = true) : CallR X (.type "dict") (rDict2 X.K) := call_dictD.or (call_dictP hc)
theorem bDict_ok (hK : X.K = Y.M.K) (own : Bool) : CallS Y (rDict2 X.K) (bDict own) := by
  intro g C H W xs vs Q R rv f
  unfold bDict at f
  split at f
  · rename_i x
    obtain ⟨v, rfl, rx⟩ := rv.one
    have q := R.rr rx
    split at f
    · rename_i kvs ex
      rw [ex] at q
      obtain ⟨a, ws, rfl, ha, r⟩ := q
      exact .inl ⟨a, ws, rfl, ha.rd, alc_new R (RN.dct r) f⟩
    · rename_i xs ex
      rw [ex] at q
      obtain ⟨a, vs, rfl, ha, r⟩ := q
      split at f
      · rename_i kvs hk
        obtain ⟨ps, ws, rfl, h2, h3⟩ := pairL_rv hK R hk r
        exact .inr ⟨a, ps, ws, rfl, .of ha, h3, alc_new R (RN.dct (RKs.merge h2 .nil)) f⟩
      · exact f.elim
    · exact f.elim
  · exact f.elim
/-! ### isinstance -/
def tyName : TV → Option String
  | .non => some "NoneType" | .bl _ => some "bool" | .int _ => some "int" | .str _ => some "str" | .lst _ => some "list" | .tup _ => some "tuple" | .dct _ => some "dict"
  | _ => none
def bIsi : FM := fun ts C => match ts with
  | [x, .con (.ty n)] => match (tyName (rd C x)).bind fun a => kitB a n with
    | some b => .ok (.bl b) C
    | none => .stuck
  | _ => .stuck
theorem Rq.tyd {K : PySem.W.Frag} {H : Hp} {a : Addr} {kvs : List (Key × V)} (r : Rq H a (.dK kvs)) : TyX K H (.ref a) (.type "dict") := r.elim (fun h => .base (.dK h)) fun ⟨_, o, h⟩ => .fDict h
theorem SqT.tyx {K : PySem.W.Frag} {H : Hp} {a : Addr} {xs : List V} (r : SqT K H a xs) : TyX K H (.ref a) (.type "tuple") := by
  rcases r with (h | ⟨o, h⟩) | ⟨o, its, n, h1, h2, _⟩
  · exact .base (.tup h)
  · exact .fTuple h
  · exact .kTuple h1 h2
theorem bIsi_ok (hK : X.K = Y.M.K) : CallS Y (rIsi X.K) bIsi := by
  intro g C H W xs vs Q R rv f
  unfold bIsi at f
  split at f
  · rename_i x n
    obtain ⟨v, w, rfl, rx, rt⟩ := rv.two
    cases rt
    split at f
    · rename_i bb hb
      have q := R.rr rx
      simp only [Option.bind_eq_some_iff] at hb
      obtain ⟨a, ha, hb⟩ := hb
      have ty : TyX X.K H v (.type a) := by
        generalize rd C x = t at ha q
        cases t <;> simp only [tyName, Option.some.injEq, reduceCtorEq] at ha <;> subst ha
        · obtain rfl : v = .non := q; exact .base .non
        · obtain rfl : v = .bl _ := q; exact .base (.bl _)
        · obtain rfl : v = .int _ := q; exact .base (.int _)
        · obtain rfl : v = .str _ := q; exact .base (.str _)
        · obtain ⟨a, vs, rfl, ha, r⟩ := q; exact .base (.lst ha)
        · obtain ⟨a, vs, rfl, ha, r⟩ := q; exact SqT.tyx (hK ▸ ha)
        · obtain ⟨a, vs, rfl, ha, r⟩ := q; exact ha.tyd
      exact ⟨v, .ty n, .type a, .type n, bb, rfl, .ty n, ty, kit_ty hb, val_now R .bl f⟩
    · exact f.elim
  · exact f.elim
theorem se_ty {n : String} {x : Str} (hm : X.mg x = none) (hv : bootBuiltins x = some (.type n)) (hg : Gl X x := by rfl) (hn : x ≠ "__name__" := by decide) (hd : (x == ("__debug__" : Str)) = false := by decide) : PE X (.Name x pos) (tE Y W (mC (.con (.ty n)))) :=
  PE.imp (pe_bltn hg hm hv (v := .ty n) rfl hn hd) fun σ H Q ⟨g, s, C, rs, R, f⟩ => val_now R .con f
/-! ### x or y, x and y by truth -/
def truT : TV → Option Bool
  | .non => some false | .bl b => some b | .int i => some (i != 0)
  | .str z => if z.length ≤ sizeLine then some ((z.length : Int) != 0) else none
  | .lst xs => some (!xs.isEmpty) | .tup xs => some (!xs.isEmpty) | .lsc ns => some (!ns.isEmpty)
  | _ => none
theorem truT_ok {g : Gh} {C : Tab} {H : Hp} {x : TV} {v : V} {k : Bool} (hK : X.K = Y.M.K) (R : RH Y.M g C H) (rx : RV Y.M g x v) (h : truT (rd C x) = some k) : TruV X.K v H k := by
  have q := R.rr rx
  generalize rd C x = t at h q
  cases t <;> simp only [truT, Option.some.injEq, reduceCtorEq] at h
  · obtain rfl : v = .non := q; exact h.symm
  · obtain rfl : v = .bl _ := q; exact h.symm
  · obtain rfl : v = .int _ := q; exact h.symm
  · obtain rfl : v = .str _ := q
    split at h
    · rename_i hz; cases h; exact ⟨hz, rfl⟩
    · cases h
  · obtain ⟨a, vs, rfl, ha, r⟩ := q
    refine .inl ⟨vs, .of ha, ?_⟩
    rw [← h]; cases r <;> rfl
  · obtain ⟨a, vs, rfl, ha, r⟩ := q
    refine .inr (.inl ⟨vs, hK ▸ ha, ?_⟩)
    rw [← h]; cases r <;> rfl
  · obtain ⟨a, rfl, ha⟩ := q
    refine .inl ⟨_, hK ▸ ha, ?_⟩
    rw [← h]; rename_i ns; cases ns <;> rfl
def mOrT (ma mb : EM TV) : EM TV := fun s C => (ma s C).bind fun x C1 => match truT (rd C1 x) with
  | some true => .ok x C1
  | some false => mb s C1
  | none => .stuck
theorem se_orT {rest : List Expr} (ha : PE X a (tE Y W ma)) (hb : PE X (.BoolOp .Or (b :: rest) pos) (tE Y W mb)) (hK : X.K = Y.M.K := by rfl) : PE X (.BoolOp .Or (a :: b :: rest) pos) (tE Y W (mOrT ma mb)) :=
  PE.imp (pe_orT ha hb) fun σ H Q ⟨g, s, C, rs, R, f⟩ => tE_bind rs R f fun x g1 C1 H1 v e1 rs1 R1 rv f1 => by
    split at f1
    · rename_i ht; exact ⟨true, truT_ok hK R1 rv ht, by rw [if_pos rfl]; exact val_now R1 rv f1⟩
    · rename_i ht; exact ⟨false, truT_ok hK R1 rv ht, by rw [if_neg (by decide)]; exact ⟨g1, s, C1, rs1, R1, f1⟩⟩
    · exact f1.elim
/-- a test by truth -/
def mTr (m : EM TV) : EM Bool := fun s C => (m s C).bind fun x C1 => match truT (rd C1 x) with
  | some b => .ok b C1
  | none => .stuck
/-! ### a op b op c -/
theorem chain_of {f1' f2' : TV → TV → Tab → Res TV} {r r' : R2} (h1 : OpS Y r f1') (h2 : OpS Y r' f2') {σ : L2.St} {H : Hp} {Q : VK} (h : tE Y W (mChain f1' f2' ma mb mc) σ H Q) : tChain r r' (tE Y W ma) (tE Y W mb) (tE Y W mc) σ H Q := by
  obtain ⟨g, s, C, rs, R, f⟩ := h
  refine tE_bind rs R f fun x g1 C1 H1 v e1 rs1 R1 rx f1 => ?_
  refine tE_bind rs1 R1 f1 fun y g2 C2 H2 w e2 rs2 R2 ry f2 => ?_
  refine h1 g2 C2 H2 (fun cls d H' => W cls d σ H') x y v w _ R2 (rx.mono e2) ry ?_
  refine (Fin.bind f2).imp fun z g3 C3 H3 e3 R3 f3 u ru => ?_
  cases z <;> first | (exact f3.elim) | skip
  rename_i k
  cases ru
  refine ⟨k, rfl, ?_⟩
  cases k with
  | true =>
    rw [if_pos rfl]
    refine tE_bind (rs2.mono e3) R3 f3 fun z g4 C4 H4 w' e4 rs4 R4 rz f4 => ?_
    exact h2 g4 C4 H4 _ y z w w' Q R4 ((ry.mono e3).mono e4) rz f4
  | false => rw [if_neg (by decide)]; exact val_now R3 .bl f3
theorem se_chain {op op' : CmpOp} {r r' : R2} {f1 f2 : TV → TV → Tab → Res TV} (ho : OpR X (compareOp op) r) (hs : OpS Y r f1) (ho' : OpR X (compareOp op') r') (hs' : OpS Y r' f2) (ha : PE X a (tE Y W ma)) (hb : PE X b (tE Y W mb)) (hc : PE X c (tE Y W mc))
    (hm : lastMarks [op, op'] [b, c] = false := by with_unfolding_all rfl) : PE X (.Compare a [op, op'] [b, c] pos) (tE Y W (mChain f1 f2 ma mb mc)) :=
  PE.imp (pe_chain ho ho' ha hb hc hm) fun _ _ _ h => chain_of hs hs' h
theorem st_chain {op op' : CmpOp} {r r' : R2} {f1 f2 : TV → TV → Tab → Res TV} (ho : OpR X (compareOp op) r) (hs : OpS Y r f1) (ho' : OpR X (compareOp op') r') (hs' : OpS Y r' f2) (ha : PE X a (tE Y W ma)) (hb : PE X b (tE Y W mb)) (hc : PE X c (tE Y W mc))
    (hm : lastMarks [op, op'] [b, c] = false := by with_unfolding_all rfl) : PT X (.Compare a [op, op'] [b, c] pos) (tT Y W (mB (mChain f1 f2 ma mb mc))) :=
  PT.imp (pt_chain ho ho' ha hb hc hm) fun _ _ _ h => chain_of hs hs' (mB_of h)
/-! ### texts -/
def fmtT (x : TV) (C : Tab) : Res TV := match x with
  | .str y => if y.length ≤ sizeLine then .ok (.str y) C else .stuck
  | .int i => if i.natAbs.log2 < 1920 then .ok (.str (toString i)) C else .stuck
  | _ => .stuck
def mFmt (m : EM TV) : EM TV := fun s C => (m s C).bind fmtT
theorem se_fmt (h : PE X e (tE Y W m)) : PE X (.FormattedValue e (-1) none pos) (tE Y W (mFmt m)) :=
  PE.imp (pe_fmt h) fun σ H Q ⟨g, s, C, rs, R, f⟩ => tE_bind rs R f fun x g1 C1 H1 v e1 rs1 R1 rv f1 => by
    unfold fmtT at f1
    split at f1
    · split at f1
      · rename_i hz; cases rv; exact .inl ⟨_, rfl, hz, val_now R1 .str f1⟩
      · exact f1.elim
    · split at f1
      · rename_i hz; cases rv; exact .inr ⟨_, rfl, hz, val_now R1 .str f1⟩
      · exact f1.elim
    · exact f1.elim
structure SJ (X : Cx) (Y : Xd) (W : WX) (es : List Expr) (ms : List (EM TV)) : Prop where
  pj : PJ X es (ms.map fun m => tE Y W m)
theorem sj_nil : SJ X Y W [] [] := ⟨.nil⟩
theorem sj_cons {ms : List (EM TV)} (h : PE X e (tE Y W m)) (r : SJ X Y W es ms) : SJ X Y W (e :: es) (m :: ms) := ⟨.cons h r.pj⟩
def joinS : List (EM TV) → Str → Slots → Tab → Res TV
  | [], acc, _, C => .ok (.str acc) C
  | m :: ms, acc, s, C => (m s C).bind fun x C1 => match x with
    | .str y => if (acc ++ y).length ≤ sizeLine then joinS ms (acc ++ y) s C1 else .stuck
    | _ => .stuck
def mJs (ms : List (EM TV)) : EM TV := fun s C => joinS ms Str.empty s C
theorem joinS_ok {σ : L2.St} {Q : VK} : ∀ {ms : List (EM TV)} {acc : Str} {g : Gh} {s : Slots} {C : Tab} {H : Hp}, RS Y.M g s σ → RH Y.M g C H → Fin Y g (fun cls d H' => W cls d σ H') (joinS ms acc s C) (kV' Y Q) →
    tJs (ms.map fun m => tE Y W m) acc σ H fun out H1 => Q (.str out) H1
  | [], acc, g, s, C, H, rs, R, f => val_now R .str f
  | m :: ms, acc, g, s, C, H, rs, R, f => by
    refine tE_bind rs R f fun x g1 C1 H1 v e1 rs1 R1 rv f1 => ?_
    cases x <;> first | (exact f1.elim) | skip
    rename_i y
    cases rv
    dsimp only at f1
    split at f1
    · rename_i hl; exact ⟨y, rfl, hl, joinS_ok rs1 R1 f1⟩
    · exact f1.elim
theorem se_js {v1 v2 : Expr} {rest : List Expr} {ms : List (EM TV)} (h : SJ X Y W (v1 :: v2 :: rest) ms) : PE X (.JoinedStr (v1 :: v2 :: rest) pos) (tE Y W (mJs ms)) :=
  PE.imp (pe_joined h.pj) fun σ H Q ⟨g, s, C, rs, R, f⟩ => joinS_ok rs R f
theorem se_js1 (h : PE X e (tE Y W m)) : PE X (.JoinedStr [e] pos) (tE Y W m) := pe_joined1 h
end
end FH
/-! FhQ: in, methods, pairs of targets, list(d.items()), dict comprehensions. -/
namespace FH
open PySem L2
open PySem.Spec PyProof.Rows
/-! ### in -/
def flatT : TV → Option V
  | .non => some .non | .bl b => some (.bl b) | .int i => some (.int i) | .str x => some (.str x)
  | _ => none
theorem flatT_rv {M : Md} {g : Gh} {t : TV} {v u : V} (h : flatT t = some u) (r : RV M g t v) : v = u ∧ flatV u = true := by
  cases t <;> simp only [flatT, Option.some.injEq, reduceCtorEq] at h <;> subst h <;> cases r <;> exact ⟨rfl, rfl⟩
def flatL : List TV → Option (List V)
  | [] => some []
  | t :: ts => (flatT t).bind fun u => (flatL ts).map (u :: ·)
theorem flatL_rv {M : Md} {g : Gh} : ∀ {ts : List TV} {vs us : List V}, flatL ts = some us → RVs M g ts vs → vs = us ∧ us.all flatV = true
  | [], _, us, h, .nil => by cases h; exact ⟨rfl, rfl⟩
  | t :: ts, _, us, h, .cons a b => by
    simp only [flatL, Option.bind_eq_some_iff, Option.map_eq_some_iff] at h
    obtain ⟨u, h1, us', h2, rfl⟩ := h
    obtain ⟨rfl, f1⟩ := flatT_rv h1 a
    obtain ⟨rfl, f2⟩ := flatL_rv h2 b
    exact ⟨rfl, by simp [f1, f2]⟩
def inR (x : TV) : TV → Option Bool
  | .dct kvs => (keyOf x).map fun k => (lookT kvs k).isSome
  | .str z => match x with
    | .str y => some (!(Builtin.Str.occurrences z y 0 z.length 1).isEmpty)
    | _ => none
  | t => (itT t).bind fun xs => (flatL xs).bind fun vs => (flatT x).map fun v => inV v vs
def inT (neg : Bool) : TV → TV → Tab → Res TV := fun x y C => match inR x (rd C y) with
  | some b => .ok (.bl (if neg then !b else b)) C
  | none => .stuck
section
variable {X : Cx} {Y : Xd} {W : WX} {e a b c : Expr} {es : List Expr} {pos : Pos} {m ma mb mc : EM TV}
def rIn3 (K : PySem.W.Frag) (neg : Bool) : R2 := fun x y H Q => rIn K neg x y H Q ∨ ((∃ i j, x = .str i ∧ y = .str j ∧ Q (.bl (if neg then !(!(Builtin.Str.occurrences j i 0 j.length 1).isEmpty) else (!(Builtin.Str.occurrences j i 0 j.length 1).isEmpty))) H) ∨
  ∃ a o, y = .ref a ∧ DGet H a x o ∧ Q (.bl (if neg then !o.isSome else o.isSome)) H)
theorem op_in3 {k : Nat} (hr : Rm k X.A) : OpR X (compareOp .In) (rIn3 X.K false) := by
  refine op_in_seq.or (op_in_str.or ?_)
  intro pins s σ H x y v u Q I rx ry h
  obtain ⟨a, o, rfl, dg, q⟩ := h
  cases ry
  exact d_in (L2.hu_of hr.room) I dg rx fun s' I' => ⟨.bl o.isSome, H, I', rfl, q⟩
theorem op_nin3 {k : Nat} (hr : Rm k X.A) : OpR X (compareOp .NotIn) (rIn3 X.K true) := by
  refine op_notIn_seq.or (op_notIn_str.or ?_)
  intro pins s σ H x y v u Q I rx ry h
  obtain ⟨a, o, rfl, dg, q⟩ := h
  cases ry
  exact d_notIn (L2.hu_of hr.room) I dg rx fun s' I' => ⟨.bl (!o.isSome), H, I', rfl, q⟩
theorem inT_ok (hK : X.K = Y.M.K) (neg : Bool) : OpS Y (rIn3 X.K neg) (inT neg) := by
  intro g C H W x y v w Q R rx ry f
  unfold inT at f
  split at f
  · rename_i bb hb
    have q := R.rr ry
    generalize rd C y = t at hb q
    have other : ∀ xs, itT t = some xs → ((itT t).bind fun xs => (flatL xs).bind fun vs => (flatT x).map fun v => inV v vs) = some bb → rIn3 X.K neg v w H Q := fun xs h h' => by
      obtain ⟨a, vs, rfl, hs, r⟩ := q.it h
      rw [h] at h'
      simp only [Option.bind_some, Option.bind_eq_some_iff, Option.map_eq_some_iff] at h'
      obtain ⟨us, h1, u, h2, rfl⟩ := h'
      obtain ⟨rfl, f2⟩ := flatL_rv h1 r
      obtain ⟨rfl, f1⟩ := flatT_rv h2 rx
      exact .inl ⟨a, vs, rfl, hs.elim (fun h => .inl (hK ▸ h)) (fun h => .inr (hK ▸ h)), f1, f2, val_now R .bl f⟩
    cases t <;> first | (cases hb; done) | (exact other _ rfl hb) | skip
    · rename_i z
      cases x <;> first | (cases hb; done) | skip
      cases rx
      cases hb
      obtain rfl : w = .str z := q
      exact .inr (.inl ⟨_, _, rfl, rfl, val_now R .bl f⟩)
    · rename_i kvs
      simp only [inR, Option.map_eq_some_iff] at hb
      obtain ⟨k, hk, rfl⟩ := hb
      obtain ⟨a, ws, rfl, ha, r⟩ := q
      obtain rfl := keyOf_rv hk rx
      have e : (valV ws k).isSome = (lookT kvs k).isSome := by
        rcases r.look k with ⟨h1, h2⟩ | ⟨t, v, h1, h2, _⟩ <;> rw [h1, h2] <;> rfl
      refine .inr (.inr ⟨a, _, rfl, .inl ⟨ws, k, ha.rd, rfl, rfl⟩, ?_⟩)
      rw [e]
      exact val_now R .bl f
  · exact f.elim
/-! ### methods -/
def tyS : TV → Tab → Bool := fun x _ => match x with
  | .str _ => true
  | _ => false
def tyL : TV → Tab → Bool := fun x C => match rd C x with
  | .lst _ => true
  | .lsc _ => true
  | _ => false
def tyD : TV → Tab → Bool := fun x C => match x with
  | .cel j => match C[j]? with
    | some (.own (.dct _)) => true
    | _ => false
  | _ => false
theorem tyS_ok {g : Gh} {C : Tab} {H : Hp} {x : TV} {v : V} (R : RH Y.M g C H) (r : RV Y.M g x v) (h : tyS x C = true) : tyV X.K "str" v H := by
  cases x <;> first | (cases h; done) | skip
  cases r; exact rfl
theorem tyL_ok {g : Gh} {C : Tab} {H : Hp} {x : TV} {v : V} (hK : X.K = Y.M.K) (R : RH Y.M g C H) (r : RV Y.M g x v) (h : tyL x C = true) : tyV X.K "list" v H := by
  have q := R.rr r
  unfold tyL at h
  split at h
  · rename_i xs ex; rw [ex] at q; obtain ⟨a, vs, rfl, ha, _⟩ := q; exact .inl ⟨rfl, vs, .of ha⟩
  · rename_i xs ex; rw [ex] at q; obtain ⟨a, rfl, ha⟩ := q; exact .inl ⟨rfl, _, hK ▸ ha⟩
  · cases h
theorem tyD_ok {g : Gh} {C : Tab} {H : Hp} {x : TV} {v : V} (R : RH Y.M g C H) (r : RV Y.M g x v) (h : tyD x C = true) : tyV X.K "dict" v H := by
  unfold tyD at h
  split at h
  · rename_i j
    cases r with
    | cel hj =>
      split at h
      · rename_i kvs hc
        obtain ⟨o, h1, ⟨ws, rfl, _⟩, _⟩ := R.c j _ hc
        exact .inr (.inr (.inl ⟨rfl, .inl ⟨ws, h1⟩⟩))
      · cases h
  · cases h
def fStr0 (p : Str → TV) : TV → FM := fun x ts C => match x, ts with
  | .str a, [] => .ok (p a) C
  | _, _ => .stuck
theorem ms_str0 (p : Str → Bool) : MtS X Y "str" (fun x xs H Q => ∃ a, x = .str a ∧ xs = [] ∧ True ∧ Q (.bl (p a)) H) tyS (fStr0 fun a => .bl (p a)) := ⟨fun g C H x v R r h => tyS_ok R r h, fun g C H W x v xs vs Q R rx rvs f => by
  unfold fStr0 at f
  split at f
  · cases rx; cases rvs; exact ⟨_, rfl, rfl, trivial, val_now R .bl f⟩
  · exact f.elim⟩
def fJoin : TV → FM := fun x ts C => match x, ts with
  | .str a, [y] => match (itT (rd C y)).bind strL with
    | some ys => if (ys.map (·.length)).sum + ys.length * a.length ≤ 16777216 then .ok (.str (Txt.join a ys)) C else .stuck
    | none => .stuck
  | _, _ => .stuck
def rJoin (K : PySem.W.Frag) : V → List V → Hp → VK → Prop := fun x xs H Q => ∃ a p, ∃ ys : List Str, x = .str a ∧ xs = [.ref p] ∧ (SqL K H p (ys.map V.str) ∨ SqT K H p (ys.map V.str)) ∧
    (ys.map (·.length)).sum + ys.length * a.length ≤ 16777216 ∧ Q (.str (Txt.join a ys)) H
theorem ms_join (hK : X.K = Y.M.K) : MtS X Y "str" (rJoin X.K) tyS fJoin := ⟨fun g C H x v R r h => tyS_ok R r h, fun g C H W x v xs vs Q R rx rvs f => by
  unfold fJoin at f
  split at f
  · rename_i a y
    cases rx
    obtain ⟨w, rfl, ry⟩ := rvs.one
    split at f
    · rename_i ys hys
      simp only [Option.bind_eq_some_iff] at hys
      obtain ⟨ts, h1, h2⟩ := hys
      obtain ⟨p, us, rfl, hs, r⟩ := (R.rr ry).it h1
      obtain rfl := strL_rv h2 r
      split at f
      · rename_i hl
        exact ⟨_, p, ys, rfl, rfl, hs.elim (fun h => .inl (hK ▸ h)) (fun h => .inr (hK ▸ h)), hl, val_now R .str f⟩
      · exact f.elim
    · exact f.elim
  · exact f.elim⟩
def fSplit (own : Bool) : TV → FM := fun x ts C => match x, ts with
  | .str a, [.str b] => if (b.length == 0) = false ∧ a.length + 2 ≤ sizeLine then alc own (.lst ((Txt.split a b).map .str)) C else .stuck
  | _, _ => .stuck
def rSplit : V → List V → Hp → VK → Prop := fun x xs H Q => ∃ a b, x = .str a ∧ xs = [.str b] ∧ (b.length == 0) = false ∧ a.length + 2 ≤ sizeLine ∧ rNewStrs (Txt.split a b) H Q
theorem ms_split (own : Bool) : MtS X Y "str" rSplit tyS (fSplit own) := ⟨fun g C H x v R r h => tyS_ok R r h, fun g C H W x v xs vs Q R rx rvs f => by
  unfold fSplit at f
  split at f
  · rename_i a b
    cases rx
    obtain ⟨w, rfl, ry⟩ := rvs.one
    cases ry
    split at f
    · rename_i hl
      exact ⟨_, _, rfl, rfl, hl.1, hl.2, alc_new R (RN.lst rvs_strs) f⟩
    · exact f.elim
  · exact f.elim⟩
def fAppend : TV → FM := fun x ts C => match x, ts with
  | .cel j, [y] => match C[j]? with
    | some (.own (.lst xs)) => if xs.length < sizeLine then .ok .non (C.set j (.own (.lst (xs ++ [y])))) else .stuck
    | _ => .stuck
  | _, _ => .stuck
theorem ms_append (hK : X.K = Y.M.K) : MtS X Y "list" rAppend tyL fAppend := ⟨fun g C H x v R r h => tyL_ok hK R r h, fun g C H W x v xs vs Q R rx rvs f => by
  unfold fAppend at f
  split at f
  · rename_i j y
    obtain ⟨w, rfl, ry⟩ := rvs.one
    cases rx with
    | cel hj =>
      split at f
      · rename_i xs hc
        split at f
        · rename_i hl
          obtain ⟨o, h1, ⟨ws, rfl, r⟩, _⟩ := R.c j _ hc
          exact ⟨_, ws, w, rfl, rfl, h1, by rw [← r.length]; exact hl, f g _ (Ext.refl g) (R.wr hc (RN.lst (r.append (.cons ry .nil)))) _ .non⟩
        · exact f.elim
      · exact f.elim
  · exact f.elim⟩
def fDClear : TV → FM := fun x ts C => match x, ts with
  | .cel j, [] => match C[j]? with
    | some (.own (.dct xs)) => .ok .non (C.set j (.own (.dct [])))
    | _ => .stuck
  | _, _ => .stuck
theorem ms_dclear : MtS X Y "dict" rDClear tyD fDClear := ⟨fun g C H x v R r h => tyD_ok R r h, fun g C H W x v xs vs Q R rx rvs f => by
  unfold fDClear at f
  split at f
  · rename_i j
    cases rvs
    cases rx with
    | cel hj =>
      split at f
      · rename_i xs hc
        obtain ⟨o, h1, ⟨ws, rfl, r⟩, _⟩ := R.c j _ hc
        exact ⟨_, ws, rfl, rfl, h1, f g _ (Ext.refl g) (R.wr hc (RN.dct .nil)) _ .non⟩
      · exact f.elim
  · exact f.elim⟩
/-! ### what is never reached -/
def nStk : SM := fun _ _ => .stuck
def mStk : EM TV := fun _ _ => .stuck
theorem ss_stk {st : Stmt} : PS X st (tS Y W nStk) := ⟨fun pins s σ H D I ⟨g, sl, C, rs, R, f⟩ => f.elim⟩
theorem se_stk {e : Expr} : PE X e (tE Y W mStk) := ⟨fun pins s σ H Q I ⟨g, sl, C, rs, R, f⟩ => f.elim⟩
/-! ### a, b = x, y -/
theorem tS_bindA {D : Ends} {ma : EM (List TV)} {σ : L2.St} {H : Hp} {g : Gh} {s : Slots} {C : Tab} {f : List TV → Tab → SR} {Q : List V → Hp → Prop} (rs : RS Y.M g s σ) (R : RH Y.M g C H) (h : SFin Y g W D ((ma s C).sr s f))
    (hq : ∀ t g1 C1 H1 v, Ext g g1 → RS Y.M g1 s σ → RH Y.M g1 C1 H1 → RVs Y.M g1 t v → SFin Y g1 W D (f t C1) → Q v H1) : tA Y W ma σ H Q :=
  ⟨g, s, C, rs, R, (SFin.res (C := C) (H := H) rs h).imp fun t g1 C1 H1 e R1 q v rv => hq t g1 C1 H1 v e (rs.mono e) R1 rv q⟩
def nPar (i j : Nat) (ma : EM (List TV)) : SM := fun s C => (ma s C).sr s fun ts C1 => match ts with
  | [t, u] => .nx ((s.set i (some t)).set j (some u)) C1
  | _ => .stuck
def nPar3 (i j k : Nat) (ma : EM (List TV)) : SM := fun s C => (ma s C).sr s fun ts C1 => match ts with
  | [t, u, v] => .nx (((s.set i (some t)).set j (some u)).set k (some v)) C1
  | _ => .stuck
theorem ss_par (i j : Nat) {ma : EM (List TV)} {x y : Str} {px py pt : Pos} {kt k2 pt2} (hN : X.N.Nodup) (ha : SA X Y W [a, b] ma) (hc : X.calm = true := by rfl) (hi : X.N[i]? = some x := by rfl) (hj : X.N[j]? = some y := by rfl) (hij : i ≠ j := by decide)
    (hx : X.env.scope.names.lookup x = some .local := by rfl) (hy : X.env.scope.names.lookup y = some .local := by rfl)
    (hw : swappedStores [.Tuple [.Name x px, .Name y py] kt pt] (.Tuple [a, b] k2 pt2) X.env = pure (some [x, y]) := by rfl)
    (hs : swapsWithSole [.Tuple [.Name x px, .Name y py] kt pt] (.Tuple [a, b] k2 pt2) pos.line X.env = pure false := by rfl) :
    PS X (.Assign [.Tuple [.Name x px, .Name y py] kt pt] (.Tuple [a, b] k2 pt2) pos) (tS Y W (nPar i j ma)) :=
  PS.imp (ps_par hc hN hi hj hij hx hy ha.pa hw hs) fun D σ H ⟨g, s, C, rs, R, f⟩ => tS_bindA rs R f fun ts g1 C1 H1 vs e1 rs1 R1 rv f1 => by
    split at f1
    · obtain ⟨v, w, rfl, r1, r2⟩ := rv.two
      exact ⟨v, w, rfl, f1 g1 H1 _ (Ext.refl g1) R1 ((rs1.set r1).set r2)⟩
    · exact f1.elim
theorem RVs.three {M : Md} {g : Gh} {x y z : TV} {vs : List V} (r : RVs M g [x, y, z] vs) : ∃ v w u, vs = [v, w, u] ∧ RV M g x v ∧ RV M g y w ∧ RV M g z u := by
  cases r with | cons a b => cases b with | cons b c => cases c with | cons c d => cases d; exact ⟨_, _, _, rfl, a, b, c⟩
theorem ss_par3 (i j l : Nat) {ma : EM (List TV)} {x y z : Str} {px py pz pt : Pos} {kt k2 pt2} (hN : X.N.Nodup) (ha : SA X Y W [a, b, c] ma) (hc : X.calm = true := by rfl) (hi : X.N[i]? = some x := by rfl) (hj : X.N[j]? = some y := by rfl) (hl : X.N[l]? = some z := by rfl)
    (hij : i ≠ j := by decide) (hil : i ≠ l := by decide) (hjl : j ≠ l := by decide)
    (hx : X.env.scope.names.lookup x = some .local := by rfl) (hy : X.env.scope.names.lookup y = some .local := by rfl) (hz : X.env.scope.names.lookup z = some .local := by rfl)
    (hw : swappedStores [.Tuple [.Name x px, .Name y py, .Name z pz] kt pt] (.Tuple [a, b, c] k2 pt2) X.env = pure (some [x, y, z]) := by rfl)
    (hs : swapsWithSole [.Tuple [.Name x px, .Name y py, .Name z pz] kt pt] (.Tuple [a, b, c] k2 pt2) pos.line X.env = pure false := by rfl) :
    PS X (.Assign [.Tuple [.Name x px, .Name y py, .Name z pz] kt pt] (.Tuple [a, b, c] k2 pt2) pos) (tS Y W (nPar3 i j l ma)) :=
  PS.imp (ps_par3 hc hN hi hj hl hij hil hjl hx hy hz ha.pa hw hs) fun D σ H ⟨g, s, C, rs, R, f⟩ => tS_bindA rs R f fun ts g1 C1 H1 vs e1 rs1 R1 rv f1 => by
    split at f1
    · obtain ⟨v, w, u, rfl, r1, r2, r3⟩ := rv.three
      exact ⟨v, w, u, rfl, f1 g1 H1 _ (Ext.refl g1) R1 (((rs1.set r1).set r2).set r3)⟩
    · exact f1.elim
/-- a target of any form -/
def nTgt (gt : TV → Slots → Option Slots) (m : EM TV) : SM := fun s C => (m s C).sr s fun t C1 => match gt t s with
  | some s1 => .nx s1 C1
  | none => .stuck
theorem ss_tgt {tg : Expr} {g : TG} {gt : TV → Slots → Option Slots} {is : List Nat} (hg : PG X tg g) (hgt : GS X Y g gt is) (he : PE X e (tE Y W m)) (hs : swapsWithSole [tg] e pos.line X.env = pure false := by rfl) (hw : swappedStores [tg] e X.env = pure none := by rfl)
    (h1 : (assignEach [tg] X.env).map (·.2) = [assign tg X.env] := by rfl) : PS X (.Assign [tg] e pos) (tS Y W (nTgt gt m)) := by
  refine PS.imp (ps_asg he hg hs hw h1) fun D σ H ⟨gh, s, C, rs, R, f⟩ => tS_bind rs R f fun t g1 C1 H1 v e1 rs1 R1 rv f1 => ?_
  cases hq : gt t s with
  | none => rw [hq] at f1; exact f1.elim
  | some s1 =>
    rw [hq] at f1
    exact hgt g1 C1 H1 t v s s1 σ _ R1 rs1 rv hq fun σ' rs' _ => f1 g1 H1 σ' (Ext.refl g1) R1 rs'
end
end FH
/-! FhR: dict comprehensions, list(d.items()). -/
namespace FH
open PySem L2
open PySem.Spec PyProof.Rows
section
variable {J : It} {n : Nat} {G : Hp → Prop} {Yd : Nat → Hp → V → Hp → Prop}
theorem dc_it (w : Walk J n G Yd) {g : TG} {tt : TT} {tk tv : TE} {vs : List Nat} {σ : L2.St} {H1 : Hp} {D : Addr} {Qd : Hp → Prop} (Pv : Nat → Hp → Prop) (h0 : Pv 0 (upd H1 D (.dK []))) (hG : ∀ i H, i ≤ n → Pv i H → G H)
    (hs : ∀ i x H H', i < n → Pv i H → Yd i H x H' → g x (L2.wipe σ vs) H' fun σ2 H2 => L2.wipe σ2 vs = L2.wipe σ vs ∧ tt σ2 H2 fun b H3 =>
      if b = true then tk σ2 H3 fun y H4 => tv σ2 H4 fun z H5 => ∃ kvs k, y = kV k ∧ H5 D = some (.dK kvs) ∧ kvs.length < sizeLine ∧ Pv (i + 1) (upd H5 D (.dK (putK kvs k z))) else Pv (i + 1) H3) (hd : ∀ H, Pv n H → Qd H) :
    ∃ W : Nat → Nat → Hp → Prop, (∃ m, W 0 m (upd H1 D (.dK []))) ∧ ∀ i m H, W i m H →
      (J.stop i H ∧ Qd H) ∨ (J.go i H ∧ ∃ Nx : Hp → Prop, (∀ H', Nx H' → ∃ m', m' < m ∧ W (i + 1) m' H') ∧ ∀ x H', J.yld i H x H' → g x (L2.wipe σ vs) H' fun σ2 H2 => L2.wipe σ2 vs = L2.wipe σ vs ∧ tt σ2 H2 fun b H3 =>
        if b = true then tk σ2 H3 fun y H4 => tv σ2 H4 fun z H5 => ∃ kvs k, y = kV k ∧ H5 D = some (.dK kvs) ∧ kvs.length < sizeLine ∧ Nx (upd H5 D (.dK (putK kvs k z))) else Nx H3) := by
  refine ⟨fun i m H => m = n - i ∧ i ≤ n ∧ Pv i H, ⟨n, by simp, Nat.zero_le _, h0⟩, ?_⟩
  rintro i m H ⟨rfl, hi, p⟩
  have q := hG i H hi p
  by_cases hlt : i < n
  · refine .inr ⟨w.goes i H hlt q, Pv (i + 1), fun H' p' => ⟨n - (i + 1), by omega, rfl, hlt, p'⟩, fun x H' y => hs i x H H' hlt p (w.yields i H x H' hlt q y)⟩
  · have e : i = n := by omega
    subst e
    exact .inl ⟨w.stops H q, hd H p⟩
end
open Classical in
noncomputable def dcL (gt : TV → Slots → Option Slots) (tt : EM Bool) (mk me : EM TV) (lk : Lk) (C0 : Tab) (s0 : Slots) : List TV → List (Key × TV) → Tab → Res (List (Key × TV))
  | [], acc, C => .ok acc C
  | x :: xs, acc, C => match gt x s0 with
    | none => .stuck
    | some s1 => (tt s1 C).bind fun b C2 => if b = true then (mk s1 C2).bind fun kt C3 => (me s1 C3).bind fun t C4 => match keyOf kt with
          | some k => if acc.length < sizeLine ∧ lkOk lk C0 C4 then dcL gt tt mk me lk C0 s0 xs (putT acc k t) C4 else .stuck
          | none => .stuck
        else if lkOk lk C0 C2 then dcL gt tt mk me lk C0 s0 xs acc C2 else .stuck
noncomputable def mDc (own : Bool) (src : EM (List TV × Lk)) (gt : TV → Slots → Option Slots) (tt : EM Bool) (mk me : EM TV) (ws : List Nat) : EM TV := fun s C => (src s C).bind fun p C1 =>
  (dcL gt tt mk me p.2 C1 (wipeS s ws) p.1 [] C1).nox.bind fun acc C2 => (alc own (.dct acc) C2).unlk p.2
section
variable {X : Cx} {Y : Xd} {W : WX} {kx elt tg iter : Expr} {ifs : List Expr} {scope : Scope} {pos : Pos} {g : TG} {gt : TV → Slots → Option Slots} {is : List Nat} {src : EM (List TV × Lk)} {tt : EM Bool} {mk me : EM TV}
/-- {k: e for .. in .. if ..} -/
theorem se_dc (own : Bool) (names : List (Str × Nat)) (hN : X.N.Nodup) (hi : PI X tg iter (tI X Y W src)) (ok : blkC X.N X.env.scope scope names = true)
    (hg : ∀ (s : Shared) (H : Hp) (C : Addr) (cl : List (Str × Addr)) (fp : List Addr), PG (X.blk s H scope (compEnvC scope cl C X.env) fp) tg g) (hgt : GS X Y g gt is)
    (ht : ∀ (s : Shared) (H : Hp) (C : Addr) (cl : List (Str × Addr)) (fp : List Addr), PTs (X.blk s H scope (compEnvC scope cl C X.env) fp) ifs (tT Y W0 tt))
    (hk : ∀ (s : Shared) (H : Hp) (C : Addr) (cl : List (Str × Addr)) (fp : List Addr), PE (X.blk s H scope (compEnvC scope cl C X.env) fp) kx (tE Y W0 mk))
    (he : ∀ (s : Shared) (H : Hp) (C : Addr) (cl : List (Str × Addr)) (fp : List Addr), PE (X.blk s H scope (compEnvC scope cl C X.env) fp) elt (tE Y W0 me)) (his : ∀ i ∈ is, i ∈ names.map (·.2) := by decide) (hc : X.calm = true := by rfl)
    (hs : ∀ x, foldedSetIterable iter X.env x = pure x := by intro _; rfl) : PE X (.DictComp kx elt [⟨tg, iter, ifs, 0⟩] scope pos) (tE Y W (mDc own src gt tt mk me (names.map (·.2)))) := by
  refine PE.imp (pe_unlk (pe_dc (own := names) hc hN hi (blkOk_by ok) hg ht hk he hs)) fun σ H Q ⟨gh, s, C, rs, R, f⟩ => ?_
  refine ⟨gh, s, C, rs, R, (Fin.bind f).imp fun p g1 C1 H1 e1 R1 fin J g2 H2 hk R2 la ho hx yl D hD => ?_⟩
  obtain ⟨xs, lk⟩ := p
  have rs2 := (rs.mono e1).mono0 hk.ext0
  have rsw := rs2.wipe (names.map (·.2))
  obtain ⟨G, Yd, wk, hG, hY⟩ := yl
  have hL2 : g2.L D = none := R2.Lnone hD
  have fz : ∀ (vs : List (Key × V)) (ob : Obj) (u : HO), HO.dK vs ≠ .frz ob u := fun _ _ _ z => nomatch z
  have gF : ∀ {acc : List (Key × V)} {g3 : Gh}, Ext { g2 with L := upd g2.L D (.dK acc) } g3 → ExtF g2 g3 := fun {acc g3} e => ⟨⟨e.B, e.n, e.A⟩, fun a ob u h => by
    rw [e.L]
    show upd g2.L D _ a = _
    rw [upd_ne (fun z => by rw [z, hL2] at h; cases h)]
    exact h⟩
  refine dc_it wk (fun i H' => ∃ g3 C3 accT accV, Ext { g2 with L := upd g2.L D (.dK accV) } g3 ∧ RH Y.M g3 C3 H' ∧ RKs Y.M g3 accT accV ∧ lkOk lk C1 C3 ∧
      Fin Y g1 (fun cls d H' => W cls d σ H') ((dcL gt tt mk me lk C1 (wipeS s (names.map (·.2))) (xs.drop i) accT C3).nox.bind fun acc C2 => (alc own (.dct acc) C2).unlk lk) (kV' Y Q))
    ⟨_, C1, [], [], Ext.refl _, R2.pin hD, .nil, by cases lk with | none => trivial | some p => rfl, fin⟩ (fun i H' hi' ⟨g3, C3, accT, accV, e3, R3, _, ok3, _⟩ => hG g3 C3 H' (gF e3) R3 ok3)
    (fun i x H' H'' hi' ⟨g3, C3, accT, accV, e3, R3, rva, ok3, f3⟩ hy => ?_) (fun H' ⟨g3, C3, accT, accV, e3, R3, rva, ok3, f3⟩ => ?_)
  · obtain ⟨g4, e4, R4, t, htx, rv⟩ := hY i g3 C3 H' x H'' hi' (gF e3) R3 ok3 hy
    have ed : xs.drop i = t :: xs.drop (i + 1) := by
      have hl : i < xs.length := hi'
      rw [List.drop_eq_getElem_cons hl]
      rw [List.getElem?_eq_getElem hl] at htx
      cases htx; rfl
    rw [ed] at f3
    unfold dcL at f3
    have rs4 : RS Y.M g4 (wipeS s (names.map (·.2))) (L2.wipe σ (names.map (·.2))) := (rsw.mono0 (gF e3).e0).mono e4
    cases hgt' : gt t (wipeS s (names.map (·.2))) with
    | none => rw [hgt'] at f3; exact f3.elim
    | some s1 =>
      rw [hgt'] at f3
      refine hgt g4 C3 H'' t x _ s1 _ _ R4 rs4 rv hgt' fun σ2 rs5 hw => ⟨(hw _ his).trans (wipe_idem _), ?_⟩
      dsimp only at f3
      cases h1 : tt s1 C3 with
      | stuck => rw [h1] at f3; exact f3.elim
      | exc x0 C5 => rw [h1] at f3; exact f3.elim
      | ok b C5 =>
        rw [h1] at f3
        simp only [Res.bind] at f3
        refine ⟨g4, s1, C3, rs5, R4, ?_⟩
        rw [h1]
        intro g5 H5 e5 R5
        have e35 := e3.trans (e4.trans e5)
        cases b with
        | false =>
          simp only [Bool.false_eq_true, if_false] at f3 ⊢
          by_cases hok : lkOk lk C1 C5
          · rw [if_pos hok] at f3
            exact ⟨g5, C5, accT, accV, e35, R5, rva.mono0 (e4.trans e5).e0, hok, f3⟩
          · rw [if_neg hok] at f3; exact f3.elim
        | true =>
          simp only [if_true] at f3 ⊢
          cases h0 : mk s1 C5 with
          | stuck => rw [h0] at f3; exact f3.elim
          | exc x0 C6 => rw [h0] at f3; exact f3.elim
          | ok kt C55 =>
           rw [h0] at f3
           refine ⟨g5, s1, C5, rs5.mono e5, R5, ?_⟩
           rw [h0]
           intro g55 H55 e55 R55 kv rvk
           dsimp only at f3
           cases h2 : me s1 C55 with
           | stuck => rw [h2] at f3; exact f3.elim
           | exc x0 C6 => rw [h2] at f3; exact f3.elim
           | ok u C6 =>
            rw [h2] at f3
            refine ⟨g55, s1, C55, (rs5.mono e5).mono e55, R55, ?_⟩
            rw [h2]
            intro g6 H6 e6 R6 v rvu
            dsimp only at f3
            cases hky : keyOf kt with
            | none => rw [hky] at f3; exact f3.elim
            | some k =>
             rw [hky] at f3
             dsimp only at f3
             obtain rfl := keyOf_rv hky rvk
             by_cases hok : accT.length < sizeLine ∧ lkOk lk C1 C6
             · rw [if_pos hok] at f3
               have e36 := (e35.trans e55).trans e6
               have eL : g6.L = upd g2.L D (.dK accV) := e36.L
               have R7 := R6.repin (o' := .dK (putK accV k v)) eL hL2 (fz _)
               have ex : Ext0 g6 { g6 with L := upd g2.L D (.dK (putK accV k v)) } := ⟨fun _ _ h => h, Nat.le_refl _, fun _ _ => rfl⟩
               refine ⟨accV, k, rfl, R6.l D _ (by rw [eL]; exact upd_same), by rw [← rva.length]; exact hok.1, { g6 with L := upd g2.L D (.dK (putK accV k v)) }, C6, putT accT k u, putK accV k v, ⟨e36.B, rfl, e36.n, e36.A⟩, R7, ?_, hok.2, f3⟩
               exact ((rva.mono0 (((e4.trans e5).trans e55).trans e6).e0).put k rvu).mono0 ex
             · rw [if_neg hok] at f3; exact f3.elim
  · rw [List.drop_length] at f3
    have f4 : Fin Y g1 (fun cls d H' => W cls d σ H') ((alc own (.dct accT) C3).unlk lk) (kV' Y Q) := f3
    obtain ⟨g4, u, C4, ea, e4, R4, rvD, hC⟩ := acc_done own R3 e3.L hL2 (fz _) (RN.dct rva) ⟨e3.B, e3.n, e3.A⟩
    rw [ea] at f4
    obtain ⟨g7, H7, x1, x2, R7, hP⟩ := walk_end hk R1 e4 R4 la (lkOk_more la ok3 hC) ho hx
    exact hP (Q (.ref D)) (f4 g7 H7 x1 R7 (.ref D) (rvD.mono0 x2))
end
/-! ### list(d.items()) -/
section
variable {M : Md} {g : Gh} {C : Tab} {H H' : Hp} {p : Addr} {o : HO}
/-- many new objects, kept for ever -/
theorem RH.addN (R : RH M g C H) (hs : Same H H') (ts : List Addr) (hn : ∀ t ∈ ts, H t = none) : RH M { g with B := fun a => if a ∈ ts then H' a else g.B a } C H' ∧ Ext g { g with B := fun a => if a ∈ ts then H' a else g.B a } := by
  have e : Ext g { g with B := fun a => if a ∈ ts then H' a else g.B a } :=
    ⟨fun a u h => by show (if a ∈ ts then H' a else g.B a) = some u; rw [if_neg (fun z => (Rq.ne_none (R.b a u h)) (hn a z))]; exact h, rfl, Nat.le_refl _, fun _ _ => rfl⟩
  have R' := R.same hs
  refine ⟨⟨fun a u h => ?_, R'.l, R.n, fun j c h => ?_, R.i, fun a u h hf => ?_⟩, e⟩
  · have h' : (if a ∈ ts then H' a else g.B a) = some u := h
    by_cases ha : a ∈ ts
    · rw [if_pos ha] at h'; exact .inl h'
    · rw [if_neg ha] at h'; exact R'.b a u h'
  · have q := R'.c j c h
    have ne : c.live = true → g.A j ∉ ts := fun l z => R.live_some h l (hn _ z)
    cases c with
    | own t =>
      obtain ⟨u, h1, h2, h3, h4⟩ := q
      exact ⟨u, h1, h2.mono0 e.e0, by show (if g.A j ∈ ts then H' (g.A j) else g.B (g.A j)) = none; rw [if_neg (ne rfl)]; exact h3, h4⟩
    | lck t =>
      obtain ⟨u, h1, h2, h3, h4⟩ := q
      exact ⟨u, h1, h2.mono0 e.e0, by show (if g.A j ∈ ts then H' (g.A j) else g.B (g.A j)) = none; rw [if_neg (ne rfl)]; exact h3, h4⟩
    | frz t => exact RV.mono e q
  · show (if a ∈ ts then H' a else g.B a) = none
    rw [if_neg (fun z => by have q := R.l a u h; rw [hn a z] at q; cases q)]
    exact R.d a u h hf
end
section
variable {X : Cx} {Y : Xd} {W : WX} {e : Expr} {te : TE} {m : EM TV} {p apos cpos pos : Pos}
def rItemsR : V → Hp → VK → Prop := fun x H Q => ∃ (d : Addr) (kvs : List (Key × V)), x = .ref d ∧ Rd H d (.dK kvs) ∧
  ∀ (H' : Hp) (p : Addr) (ts : List Addr), (∀ b o, H b = some o → H' b = some o) → H p = none → (∀ t ∈ ts, H t = none) → p ∉ ts → H' p = some (.lst (ts.map V.ref)) → Paired (fun (t : Addr) (q : Key × V) => H' t = some (.tup [kV q.1, q.2])) ts kvs → Q (.ref p) H'
theorem pe_listItemsR (hc : X.calm = true) (he : PE X e te) (hg : Gl X "list") (hm : X.mg "list" = none) (hv : bootBuiltins "list" = some (.type "list")) (hbase : attributeBase e "items" X.env (eval e X.env) = eval e X.env) (hline : (apos.endLine == cpos.line) = true)
    (hs : starEach [.Call (.Attribute e "items" apos) [] [] cpos] X.env = (false, eval (.Call (.Attribute e "items" apos) [] [] cpos) X.env) :: starEach [] X.env) :
    PE X (.Call (.Name "list" p) [.Call (.Attribute e "items" apos) [] [] cpos] [] pos) (fun σ H Q => te σ H fun x H1 => rItemsR x H1 Q) := by
  refine ⟨fun pins s σ H Q I hq => ?_⟩
  refine wpAny_Call_Name_kw (ld_blt I hg hm hv ?_)
  refine PyProof.Rows.callWith_type1 ?_ hs rfl
  rw [hs]
  show wpAny _ _ (spliced ((false, eval (.Call (.Attribute e "items" apos) [] [] cpos) X.env) :: backTo pos (starEach [] X.env))) _ _ s
  refine Calls.spliced_cons ?_
  refine wpAny_Call_method (T := "dict") (id := "dict.items") hbase rfl hline F.plainAttrs_dict F.slot_dict_items F.type_dict_items (thn (he.run pins s σ H _ I hq) fun u s1 ⟨x, H1, I1, rx, d, kvs, ex, hd, q⟩ => ?_)
  subst ex
  obtain rfl : u = Value.ref d := rx
  obtain ⟨hz, hs0, vs, kv, hdo⟩ := dk_rd I1.hok hd
  obtain ⟨ep, hat⟩ := hdo.dictAt
  have lk : kvs.length = vs.length := kv.length
  have I2 : Inv X pins σ H1 { s1 with heap := s1.heap.push { cls := .type "dict_items", data := .fields #[.ref d] } } := I1.kept (t' := s1.toks) fun b ob q => Heap.get?_push_of_some _ q
  refine ⟨hdo.typeIs, hdo.mapOf.noDict, ?_⟩
  show wpAny _ _ (callWith cpos (.builtin "dict.items") [.ref d] [] []) _ X.xe s1
  refine method_meetsIn F.slot_dict_items F.entry_dict_items rfl (PySem.evalArgs_none ⟨rfl, hdo.typeIs, F.args_dict_items_1 _, _, meets_dict_items (mixKind X.prog X.w) d hs0, ⟨vs, hdo⟩, ?_⟩)
  refine Calls.spliced_nil ?_
  refine PySem.W.kdx_call (knd := mixKind X.prog X.w) (kvs := vs) (ep := ep) (I1.ok.hd hc) ⟨_, Heap.get?_push_size _ rfl, rfl, rfl⟩ (hat.push _) (by omega) fun h' tk acc c as hk hS hl hG hacc => ?_
  obtain ⟨H', k1, k2, k3, k4, k5, k6, J⟩ := LiI.items_laid (tk := tk) I2 hz kv hk hS hl hG hacc
  exact ⟨.ref _, H', J, rfl, q H' _ as k1 k2 k3 k4 k5 k6⟩
theorem rvs_pairs {M : Md} {g : Gh} {H' : Hp} {ts0 : List Addr} : ∀ {kvs : List (Key × TV)} {ws : List (Key × V)} {ts : List Addr}, RKs M g kvs ws → Paired (fun (t : Addr) (q : Key × V) => H' t = some (.tup [kV q.1, q.2])) ts ws → (∀ t ∈ ts, g.B t = H' t) →
    RVs M g (kvs.map fun kv => .tup [keyTV kv.1, kv.2]) (ts.map V.ref)
  | _, _, _, .nil, .nil, _ => .nil
  | (k, t) :: kvs, (_, v) :: ws, _, .cons a b, .cons c d, h => .cons (.tup ((h _ List.mem_cons_self).trans c) (.cons (keyTV_rv k) (.cons a .nil))) (rvs_pairs (ts0 := ts0) b d fun t ht => h t (List.mem_cons_of_mem _ ht))
def itemsV (own : Bool) (x : TV) (C : Tab) : Res TV := match rd C x with
  | .dct kvs => alc own (.lst (kvs.map fun kv => .tup [keyTV kv.1, kv.2])) C
  | _ => .stuck
def mItemsL (own : Bool) (m : EM TV) : EM TV := fun s C => (m s C).bind (itemsV own)
theorem se_itemsL (own : Bool) (he : PE X e (tE Y W m)) (hm : X.mg "list" = none) (hv : bootBuiltins "list" = some (.type "list")) (hg : Gl X "list" := by rfl) (hc : X.calm = true := by rfl) (hbase : attributeBase e "items" X.env (eval e X.env) = eval e X.env := by rfl) (hline : (apos.endLine == cpos.line) = true := by rfl)
    (hs : starEach [.Call (.Attribute e "items" apos) [] [] cpos] X.env = (false, eval (.Call (.Attribute e "items" apos) [] [] cpos) X.env) :: starEach [] X.env := by rfl) :
    PE X (.Call (.Name "list" p) [.Call (.Attribute e "items" apos) [] [] cpos] [] pos) (tE Y W (mItemsL own m)) := by
  refine PE.imp (pe_listItemsR hc he hg hm hv hbase hline hs) fun σ H Q ⟨g, s, C, rs, R, f⟩ => tE_bind rs R f fun x g1 C1 H1 v e1 rs1 R1 rv f1 => ?_
  unfold itemsV at f1
  split at f1
  · rename_i kvs ex
    have q := R1.rr rv
    rw [ex] at q
    obtain ⟨a, ws, rfl, ha, r⟩ := q
    refine ⟨a, ws, rfl, ha.rd, fun H' p ts hsm hp hts hpt hP hpr => ?_⟩
    obtain ⟨R2, e2⟩ := R1.addN hsm ts hts
    have rvp := rvs_pairs (ts0 := ts) (r.mono0 e2.e0) hpr fun t ht => by show (if t ∈ ts then H' t else g1.B t) = H' t; rw [if_pos ht]
    have hB : (if p ∈ ts then H' p else g1.B p) = none := by rw [if_neg hpt]; exact R1.Bnone hp
    have hlive : ∀ j c, C1[j]? = some c → c.live = true → g1.A j ≠ p := fun j c h l z => R1.live_some h l (by rw [z]; exact hp)
    cases own with
    | true =>
      obtain ⟨R3, e3⟩ := R2.adoptC hP hB (R1.Lnone hp) hlive (RN.lst rvp)
      refine f1 _ _ (e2.trans e3) R3 _ ?_
      have q : RV Y.M (Gh.cell { g1 with B := fun a => if a ∈ ts then H' a else g1.B a } p) (.cel C1.length) (.ref ((Gh.cell { g1 with B := fun a => if a ∈ ts then H' a else g1.B a } p).A C1.length)) := .cel (by show _ < g1.n + 1; rw [R1.n]; exact Nat.lt_succ_self _)
      have ea : (Gh.cell { g1 with B := fun a => if a ∈ ts then H' a else g1.B a } p).A C1.length = p := by show (if C1.length = g1.n then p else g1.A C1.length) = p; rw [if_pos R1.n.symm]
      rw [ea] at q
      exact q
    | false =>
      obtain ⟨R3, e3⟩ := R2.adoptB hP hB (R1.Lnone hp) hlive
      exact f1 _ _ (e2.trans e3) R3 _ ((RN.lst rvp).rv' hB)
  · exact f1.elim
end
end FH
/-! FhS: repr, ==. -/
namespace FH
open PySem L2
open PySem.Spec PyProof.Rows
/-! ### repr -/
def keyD : Key → PyData
  | .inl i => .int i
  | .inr x => .str x
mutual
def pyd : TV → PyData
  | .bl b => .bool b
  | .int i => .int i
  | .str x => .str x
  | .lst xs => .list (pydL xs)
  | .tup xs => .tuple (pydL xs)
  | .dct kvs => .dict (pydK kvs)
  | _ => .none
def pydL : List TV → List PyData
  | [] => []
  | t :: ts => pyd t :: pydL ts
def pydK : List (Key × TV) → List (PyData × PyData)
  | [] => []
  | (k, t) :: ts => (keyD k, pyd t) :: pydK ts
end
mutual
def okT : TV → Bool
  | .non => true
  | .bl _ => true
  | .int _ => true
  | .str _ => true
  | .lst xs => okTL xs
  | .tup xs => okTL xs
  | .dct kvs => okTK kvs
  | _ => false
def okTL : List TV → Bool
  | [] => true
  | t :: ts => okT t && okTL ts
def okTK : List (Key × TV) → Bool
  | [] => true
  | (k, t) :: ts => okT t && okTK ts
end
mutual
/-- no list within -/
def noL : TV → Bool
  | .lst _ => false
  | .tup xs => noLL xs
  | .dct kvs => noLK kvs
  | _ => true
def noLL : List TV → Bool
  | [] => true
  | t :: ts => noL t && noLL ts
def noLK : List (Key × TV) → Bool
  | [] => true
  | (k, t) :: ts => noL t && noLK ts
end
section
variable {X : Cx} {Y : Xd} {g : Gh} {C : Tab} {H : Hp} {pins : List (Addr × Obj)} {σ : L2.St} {s : Shared}
mutual
theorem reads_rr (hK : X.K = Y.M.K) (R : RH Y.M g C H) (I : Inv X pins σ H s) : ∀ (t : TV) {v : V} {u : Value}, RR Y.M g H t v → RelV v u → okT t = true → ∃ as, Reads s.heap u (pyd t) as ∧ (noL t = true → sysModules ∉ as)
  | .non, v, u, q, r, _ => by obtain rfl : v = .non := q; cases r; exact ⟨[], by simp only [pyd]; exact .none, fun _ => by simp⟩
  | .bl b, v, u, q, r, _ => by obtain rfl : v = .bl b := q; cases r; exact ⟨[], by simp only [pyd]; exact .bool b, fun _ => by simp⟩
  | .int i, v, u, q, r, _ => by obtain rfl : v = .int i := q; obtain ⟨k, rfl⟩ := r; exact ⟨[], by simp only [pyd]; exact .int i k, fun _ => by simp⟩
  | .str x, v, u, q, r, _ => by obtain rfl : v = .str x := q; obtain ⟨k, rfl⟩ := r; exact ⟨[], by simp only [pyd]; exact .str x k, fun _ => by simp⟩
  | .lst xs, v, u, q, r, h => by
    obtain ⟨a, vs, rfl, ha, rv⟩ := q
    cases r
    simp only [okT] at h
    obtain ⟨its, ri, ⟨o, n, h1, h2, _, h3⟩, _⟩ := I.list (X := X) (xs := vs) (.of ha)
    obtain ⟨as, q1, q2⟩ := readsL_rr hK R I xs rv ri h
    exact ⟨a :: as, by simp only [pyd]; exact .list h1 h2 h3 q1, fun z => by simp [noL] at z⟩
  | .tup xs, v, u, q, r, h => by
    obtain ⟨a, vs, rfl, ha, rv⟩ := q
    cases r
    simp only [okT] at h
    obtain ⟨its, ri, ⟨o, h1, h2, n, h3⟩, _⟩ := I.tuple (X := X) (hK ▸ ha)
    obtain ⟨as, q1, q2⟩ := readsL_rr hK R I xs rv ri h
    exact ⟨as, by simp only [pyd]; exact .tuple h1 h2 h3 q1, fun z => q2 (by simpa [noL] using z)⟩
  | .dct kvs, v, u, q, r, h => by
    obtain ⟨a, ws, rfl, ha, rv⟩ := q
    cases r
    simp only [okT] at h
    obtain ⟨_, lo, va, rel, ⟨o, es, ep, h1, h2, h3, _, hp, _⟩⟩ := dk_rd I.hok ha.rd
    obtain ⟨as, bs, q1, q2, q3, q4⟩ := readsK_rr hK R I kvs rv rel hp h
    refine ⟨a :: as ++ bs, by simp only [pyd]; exact .dict h1 h2.1 h3 q1 q2, ?_⟩
    intro z
    have z := show noLK kvs = true by simpa [noL] using z
    simp only [List.cons_append, List.mem_cons, List.mem_append, not_or]
    exact ⟨fun z => by rw [← z] at lo; simp at lo, q3 z, q4 z⟩
  | .dtt _, _, _, _, _, h => by simp [okT] at h
  | .obj _ _, _, _, _, _, h => by simp [okT] at h
  | .cel _, _, _, _, _, h => by simp [okT] at h
  | .con _, _, _, _, _, h => by simp [okT] at h
  | .cls _, _, _, _, _, h => by simp [okT] at h
  | .lsc _, _, _, _, _, h => by simp [okT] at h
theorem readsL_rr (hK : X.K = Y.M.K) (R : RH Y.M g C H) (I : Inv X pins σ H s) : ∀ (ts : List TV) {vs : List V} {us : List Value}, RVs Y.M g ts vs → Vals vs us → okTL ts = true → ∃ as, ReadsAll s.heap us (pydL ts) as ∧ (noLL ts = true → sysModules ∉ as)
  | [], _, _, r, r2, _ => by cases r; cases r2; exact ⟨[], by simp only [pydL]; exact .nil, fun _ => by simp⟩
  | t :: ts, _, _, r, r2, h => by
    cases r with
    | cons a b =>
      cases r2 with
      | cons c d =>
        simp only [okTL, Bool.and_eq_true] at h
        obtain ⟨as, p1, p2⟩ := reads_rr hK R I t (R.rr0 a) c h.1
        obtain ⟨bs, p3, p4⟩ := readsL_rr hK R I ts b d h.2
        exact ⟨as ++ bs, by simp only [pydL]; exact .cons p1 p3, fun z => by simp only [noLL, Bool.and_eq_true] at z; simp [p2 z.1, p4 z.2]⟩
theorem readsK_rr (hK : X.K = Y.M.K) (R : RH Y.M g C H) (I : Inv X pins σ H s) : ∀ (ts : List (Key × TV)) {vs : List (Key × V)} {va : List (Key × Value)} {es : List DictEntry}, RKs Y.M g ts vs → KV vs va → Pairs (mixKind X.prog X.w) es va → okTK ts = true →
    ∃ as bs, ReadsAll s.heap (es.map (·.key)) ((pydK ts).map (·.1)) as ∧ ReadsAll s.heap (es.map (·.val)) ((pydK ts).map (·.2)) bs ∧ (noLK ts = true → sysModules ∉ as) ∧ (noLK ts = true → sysModules ∉ bs)
  | [], _, _, _, r, r2, r3, _ => by
    cases r
    unfold KV at r2
    cases r2
    cases r3
    exact ⟨[], [], by simp only [pydK]; exact .nil, by simp only [pydK]; exact .nil, fun _ => by simp, fun _ => by simp⟩
  | (k, t) :: ts, _, _, _, r, r2, r3, h => by
    cases r with
    | cons a b =>
      unfold KV at r2
      cases r2 with
      | cons c d =>
        cases r3 with
        | cons h1 h2 h3 =>
          rename_i qq qs ent ents
          simp only [okTK, Bool.and_eq_true] at h
          obtain ⟨e1, e2⟩ := c
          obtain ⟨as, p1, p2⟩ := reads_rr hK R I t (R.rr0 a) e2 h.1
          obtain ⟨bs, cs, p3, p4, p5, p6⟩ := readsK_rr hK R I ts b d h3 h.2
          dsimp only at e1
          rw [← e1] at h1
          have hk : ∃ ks, Reads s.heap ent.key (keyD k) ks ∧ sysModules ∉ ks := by
            rcases keyIs_shape h1 with ⟨i, tk, ek, ev⟩ | ⟨i, tk, ek, ev⟩
            · rw [ev, ek]; exact ⟨[], .int i tk, by simp⟩
            · rw [ev, ek]; exact ⟨[], .str i tk, by simp⟩
          obtain ⟨ks, p7, p8⟩ := hk
          rw [← h2] at p1
          exact ⟨ks ++ bs, as ++ cs, by simp only [pydK]; exact .cons p7 p3, by simp only [pydK]; exact .cons p1 p4, fun z => by simp only [noLK, Bool.and_eq_true] at z; simp [p8, p5 z.2], fun z => by simp only [noLK, Bool.and_eq_true] at z; simp [p2 z.1, p6 z.2]⟩
end
/-- the text of a list, a tuple, a dict -/
def nestT : TV → Bool
  | .lst _ => true | .tup _ => true | .dct _ => true
  | _ => false
def bRepr : FM := fun ts C => match ts with
  | [x] => if nestT (rd C x) = true ∧ okT (rd C x) = true ∧ ((pyd (rd C x)).hasDict = true → noL (rd C x) = true) ∧ (pyd (rd C x)).showable = true ∧ (pyd (rd C x)).depth ≤ 40 ∧ (pyd (rd C x)).shown.length ≤ sizeLine then .ok (.str (pyd (rd C x)).shown) C else .stuck
  | _ => .stuck
def rRepr (X : Cx) : List V → Hp → VK → Prop := fun vs H Q => ∃ (x : V) (a : Addr) (d : PyData), vs = [x] ∧ x = .ref a ∧ d.showable = true ∧ d.depth ≤ 40 ∧ d.shown.length ≤ sizeLine ∧
  (∀ pins σ s, Inv X pins σ H s → ∃ as, Reads s.heap (.ref a) d as ∧ (d.hasDict = true → sysModules ∉ as)) ∧ Q (.str d.shown) H
theorem call_repr {k : Nat} (hr : Rm k X.A) : CallR X (.builtin "repr") (rRepr X) := by
  intro pins s σ H xs us Q I r h
  obtain ⟨x, a, d, rfl, rfl, h1, h2, h3, h4, q⟩ := h
  obtain ⟨u, rfl, rx⟩ := vals1 r
  cases rx
  obtain ⟨as, h5, h6⟩ := h4 pins σ s I
  refine repr_of_reads' h5 h1 h6 hr.gd (by have := hr.room.un; omega) (fun b o h => h) (fun h' u tk hk => ?_) h3
  exact ⟨.str d.shown, H, I.kept hk, ⟨u, rfl⟩, q⟩
theorem bRepr_ok (hK : X.K = Y.M.K) : CallS Y (rRepr X) bRepr := by
  intro g C H W xs vs Q R rv f
  unfold bRepr at f
  split at f
  · rename_i x
    obtain ⟨v, rfl, rx⟩ := rv.one
    have q := R.rr rx
    split at f
    · rename_i hc
      obtain ⟨h0, h1, h9, h2, h3, h4⟩ := hc
      have hv : ∃ a, v = .ref a := by
        generalize rd C x = t at h0 q
        cases t <;> first | (cases h0; done) | skip
        · obtain ⟨a, _, e, _⟩ := q; exact ⟨a, e⟩
        · obtain ⟨a, _, e, _⟩ := q; exact ⟨a, e⟩
        · obtain ⟨a, _, e, _⟩ := q; exact ⟨a, e⟩
      obtain ⟨a, rfl⟩ := hv
      exact ⟨_, a, _, rfl, rfl, h2, h3, h4, fun pins σ s I => let ⟨as, r1, r2⟩ := reads_rr hK R I _ q rfl h1; ⟨as, r1, fun z => r2 (h9 z)⟩, val_now R .str f⟩
    · exact f.elim
  · exact f.elim
end
end FH
/-! FhT: == and != of trees. -/
namespace FH
open PySem L2
open PySem.Spec PyProof.Rows
def allO : List (Option Bool) → Option Bool
  | [] => some true
  | some b :: r => (allO r).map (b && ·)
  | none :: _ => none
def eqT : Nat → TV → TV → Option Bool
  | 0, _, _ => none
  | n + 1, x, y => match flatT x, flatT y with
    | some u, some v => some (L2.eqV u v)
    | none, none => match x, y with
      | .lst xs, .lst ys => if xs.length = ys.length then allO (List.zipWith (eqT n) xs ys) else some false
      | .tup xs, .tup ys => (allO (List.zipWith (eqT n) xs ys)).map fun b => b && xs.length == ys.length
      | .dct ks, .dct ls => (allO (ks.map fun kv => match lookT ls kv.1 with
          | some t => eqT n kv.2 t
          | none => some false)).map fun b => ks.length == ls.length && b
      | _, _ => none
    | _, _ => none
theorem eqV_refl : ∀ {v : V}, flatV v = true → L2.eqV v v = true
  | .non, _ => rfl
  | .bl b, _ => by simp [L2.eqV]
  | .int i, _ => by simp [L2.eqV]
  | .str x, _ => by simp [L2.eqV]
  | .byt _, h => by cases h
  | .flt _, h => by cases h
  | .ref _, h => by cases h
  | .ty _, h => by cases h
section
variable {X : Cx} {Y : Xd} {g : Gh} {C : Tab} {H : Hp} {pins : List (Addr × Obj)} {σ : L2.St} {s : Shared}
theorem val_mem {κ : Type} [DecidableEq κ] : ∀ {ws : List (κ × V)} {p : κ × V}, (ws.map (·.1)).Nodup → p ∈ ws → valV ws p.1 = some p.2
  | [], _, _, h => nomatch h
  | q :: ws, p, nd, h => by
    simp only [List.map_cons, List.nodup_cons] at nd
    rcases List.mem_cons.mp h with rfl | h
    · exact valV_pos rfl
    · rw [valV_neg fun z => nd.1 (by rw [z]; exact List.mem_map_of_mem h)]
      exact val_mem nd.2 h
theorem all_cong {α : Type} {f f' : α → Bool} : ∀ {l : List α}, (∀ p ∈ l, f p = f' p) → l.all f = l.all f'
  | [], _ => rfl
  | a :: l, h => by rw [List.all_cons, List.all_cons, h a List.mem_cons_self, all_cong fun p hp => h p (List.mem_cons_of_mem _ hp)]
def EqS (X : Cx) (Y : Xd) (g : Gh) (H : Hp) (s : Shared) (n : Nat) : Prop := ∀ (x y : TV) (v w : V) (u u' : Value) (b : Bool), RR Y.M g H x v → RR Y.M g H y w → RelV v u → RelV w u' → eqT n x y = some b →
  PySem.W.EqTree X.prog X.w s n u u' b ∧ (v = w → b = true)
theorem eq_all (R : RH Y.M g C H) {n : Nat} (ih : EqS X Y g H s n) : ∀ (xs ys : List TV) (vs ws : List V) (us us' : List Value) (b : Bool), RVs Y.M g xs vs → RVs Y.M g ys ws → Vals vs us → Vals ws us' → allO (List.zipWith (eqT n) xs ys) = some b →
    ∃ e : Nat → Bool, (∀ j (h1 : j < us.length) (h2 : j < us'.length), PySem.W.EqTree X.prog X.w s n us[j] us'[j] (e j)) ∧ b = (List.range (min us.length us'.length)).all e ∧ (vs = ws → b = true)
  | [], ys, _, ws, _, us', b, .nil, r2, r3, r4, h => by
    cases r3
    simp only [List.zipWith_nil_left, allO, Option.some.injEq] at h
    subst h
    exact ⟨fun _ => true, fun j h1 _ => absurd h1 (Nat.not_lt_zero j), by simp, fun _ => rfl⟩
  | x :: xs, [], _, _, us, _, b, r1, .nil, r3, r4, h => by
    cases r4
    simp only [List.zipWith_nil_right, allO, Option.some.injEq] at h
    subst h
    exact ⟨fun _ => true, fun j _ h1 => absurd h1 (Nat.not_lt_zero j), by simp, fun _ => rfl⟩
  | x :: xs, y :: ys, v :: vs, w :: ws, u :: us, u' :: us', b, .cons a1 b1, .cons a2 b2, .cons a3 b3, .cons a4 b4, h => by
    simp only [List.zipWith_cons_cons] at h
    cases e0 : eqT n x y with
    | none => rw [e0] at h; cases h
    | some b0 =>
      rw [e0] at h
      simp only [allO, Option.map_eq_some_iff] at h
      obtain ⟨b', h1, rfl⟩ := h
      obtain ⟨e, p1, p2, p3⟩ := eq_all R ih xs ys vs ws us us' b' b1 b2 b3 b4 h1
      obtain ⟨q1, q2⟩ := ih x y v w u u' b0 (R.rr0 a1) (R.rr0 a2) a3 a4 e0
      refine ⟨fun j => match j with | 0 => b0 | j + 1 => e j, fun j h1 h2 => ?_, ?_, fun z => ?_⟩
      · cases j with
        | zero => exact q1
        | succ j => exact p1 j (Nat.lt_of_succ_lt_succ h1) (Nat.lt_of_succ_lt_succ h2)
      · rw [p2]
        simp only [List.length_cons, Nat.succ_min_succ, List.range_succ_eq_map, List.all_cons, List.all_map]
        rfl
      · cases z
        rw [q2 rfl, p3 rfl]; rfl
theorem eq_dall (R : RH Y.M g C H) {n : Nat} (ih : EqS X Y g H s n) {ls : List (Key × TV)} {wl : List (Key × V)} {vb : List (Key × Value)} (rl : RKs Y.M g ls wl) (rb : KV wl vb) :
    ∀ (ks : List (Key × TV)) (ws : List (Key × V)) (va : List (Key × Value)) (b : Bool), RKs Y.M g ks ws → KV ws va → (va.map (·.1)).Nodup → allO (ks.map fun kv => match lookT ls kv.1 with
          | some t => eqT n kv.2 t
          | none => some false) = some b →
    ∃ e : Key → Bool, (∀ k v y, (k, v) ∈ va → valueAt vb k = some y → PySem.W.EqTree X.prog X.w s n v y (e k)) ∧ b = (va.all fun p => (valueAt vb p.1).isSome && e p.1) ∧ ((∀ p ∈ ws, valV wl p.1 = some p.2) → b = true)
  | [], _, _, b, r1, r2, _, h => by
    cases r1
    unfold KV at r2
    cases r2
    simp only [List.map_nil, allO, Option.some.injEq] at h
    subst h
    exact ⟨fun _ => true, (by intro k v y h; cases h), rfl, fun _ => rfl⟩
  | (k, t) :: ks, _, _, b, r1, r2, nd, h => by
    cases r1 with
    | cons a1 b1 =>
      rename_i v0 ws0
      unfold KV at r2
      cases r2 with
      | cons c d =>
        rename_i qq qs
        obtain ⟨k', u⟩ := qq
        obtain ⟨e1, e2⟩ := c
        dsimp only at e1 e2
        subst e1
        simp only [List.map_cons, List.nodup_cons] at nd
        simp only [List.map_cons] at h
        cases e0 : (match lookT ls k with | some t' => eqT n t t' | none => some false) with
        | none => rw [e0] at h; cases h
        | some b0 =>
          rw [e0] at h
          simp only [allO, Option.map_eq_some_iff] at h
          obtain ⟨b', h1, rfl⟩ := h
          obtain ⟨e, p1, p2, p3⟩ := eq_dall R ih rl rb ks ws0 qs b' b1 d nd.2 h1
          have hv : (lookT ls k = none ∧ valueAt vb k = none ∧ valV wl k = none ∧ b0 = false) ∨ ∃ t' w u', lookT ls k = some t' ∧ valueAt vb k = some u' ∧ valV wl k = some w ∧ RelV w u' ∧ RV Y.M g t' w ∧ eqT n t t' = some b0 := by
            rcases rl.look k with ⟨h1, h2⟩ | ⟨t', w, h1, h2, h3⟩
            · have q := rb.val k
              rw [h2] at q
              rw [h1] at e0
              refine .inl ⟨h1, ?_, h2, by simpa using e0.symm⟩
              have q2 := q.isSome_eq
              cases hx : valueAt vb k with
              | none => rfl
              | some y => rw [hx] at q2; cases q2
            · have q := rb.val k
              rw [h2] at q
              obtain ⟨y, hy, ry⟩ := q.some_of
              rw [h1] at e0
              exact .inr ⟨t', w, y, h1, hy, h2, ry, h3, e0⟩
          have key : (∀ y, valueAt vb k = some y → PySem.W.EqTree X.prog X.w s n u y b0) ∧ b0 = ((valueAt vb k).isSome && b0) ∧ (valV wl k = some v0 → b0 = true) := by
            rcases hv with ⟨h1, h2, h3, rfl⟩ | ⟨t', w, u', h1, h2, h3, h4, h5, h6⟩
            · exact ⟨fun y hy => (by rw [h2] at hy; cases hy), by simp, fun z => by rw [h3] at z; cases z⟩
            · obtain ⟨q1, q2⟩ := ih t t' v0 w u u' b0 (R.rr0 a1) (R.rr0 h5) e2 h4 h6
              exact ⟨fun y hy => by rw [h2] at hy; cases hy; exact q1, by simp [h2], fun z => by rw [h3] at z; cases z; exact q2 rfl⟩
          obtain ⟨key1, key2, key3⟩ := key
          have off : ∀ p ∈ qs, (if p.1 = k then b0 else e p.1) = e p.1 := fun p hp => by
            rw [if_neg]
            intro z
            exact nd.1 (by rw [← z]; exact List.mem_map_of_mem hp)
          refine ⟨fun j => if j = k then b0 else e j, fun j v y hm hy => ?_, ?_, fun z => ?_⟩
          · rcases List.mem_cons.mp hm with hm | hm
            · cases hm
              dsimp only
              rw [if_pos rfl]; exact key1 y hy
            · have o := off (j, v) hm
              dsimp only at o ⊢
              rw [o]; exact p1 j v y hm hy
          · have hh : ((valueAt vb (k, u).fst).isSome && (fun j => if j = k then b0 else e j) (k, u).fst) = b0 := by
              dsimp only
              rw [if_pos rfl]; exact key2.symm
            rw [p2, List.all_cons, hh]
            congr 1
            refine all_cong fun p hp => ?_
            dsimp only
            rw [off p hp]
          · rw [key3 (z _ List.mem_cons_self), p3 fun p hp => z p (List.mem_cons_of_mem _ hp)]; rfl
theorem vals_fun : ∀ {vs ws : List V} {us : List Value}, Vals vs us → Vals ws us → vs.length = ws.length := fun r r' => by rw [r.length, r'.length]
theorem relV_fun {v w : V} {u : Value} (r : RelV v u) (r' : RelV w u) : v = w := by
  cases v <;> cases w <;> first
    | rfl
    | (cases r; cases r'; done)
    | (obtain ⟨_, rfl⟩ := r; obtain ⟨_, q⟩ := r'; cases q; rfl)
    | (obtain ⟨_, rfl⟩ := r; obtain ⟨_, q⟩ := r'; cases q; done)
    | (cases r; obtain ⟨_, q⟩ := r'; cases q; done)
    | (obtain ⟨_, rfl⟩ := r; cases r'; done)
    | (cases r; cases r'; rfl)
theorem Vals.func : ∀ {vs ws : List V} {us : List Value}, Vals vs us → Vals ws us → vs = ws
  | [], ws, _, r, r' => by cases r; cases r'; rfl
  | v :: vs, ws, _, r, r' => by
    cases r with
    | cons a b =>
      cases r' with
      | cons c d => rw [relV_fun a c, Vals.func b d]
theorem eqS (hK : X.K = Y.M.K) (R : RH Y.M g C H) (I : Inv X pins σ H s) : ∀ n, EqS X Y g H s n
  | 0, _, _, _, _, _, _, _, _, _, _, _, h => by cases h
  | n + 1, x, y, v, w, u, u', b, qx, qy, ru, ru', h => by
    have ih := eqS hK R I n
    unfold eqT at h
    split at h
    · rename_i f1 f2 h1 h2
      cases h
      have ex : v = f1 ∧ flatV f1 = true := by cases x <;> simp only [flatT, Option.some.injEq, reduceCtorEq] at h1 <;> subst h1 <;> exact ⟨qx, rfl⟩
      have ey : w = f2 ∧ flatV f2 = true := by cases y <;> simp only [flatT, Option.some.injEq, reduceCtorEq] at h2 <;> subst h2 <;> exact ⟨qy, rfl⟩
      obtain ⟨rfl, e1⟩ := ex
      obtain ⟨rfl, e2⟩ := ey
      exact ⟨.leaf fun A _ => eqAt_V ru ru' e1 e2, fun z => by rw [z]; exact eqV_refl e2⟩
    · split at h
      · rename_i xs ys _ _
        obtain ⟨a, vs, rfl, ha, rv⟩ := qx
        obtain ⟨a', ws, rfl, ha', rw'⟩ := qy
        cases ru
        cases ru'
        obtain ⟨us, r1, p1, _⟩ := I.list (X := X) (xs := vs) (.of ha)
        obtain ⟨us', r2, p2, _⟩ := I.list (X := X) (xs := ws) (.of ha')
        have l1 : xs.length = us.length := rv.length.trans r1.length
        have l2 : ys.length = us'.length := rw'.length.trans r2.length
        split at h
        · rename_i hl
          obtain ⟨e, q1, q2, q3⟩ := eq_all R ih xs ys vs ws us us' b rv rw' r1 r2 h
          have hmin : min us.length us'.length = us.toArray.size := by rw [List.size_toArray]; omega
          by_cases ea : a = a'
          · subst ea
            rw [ha] at ha'
            cases ha'
            have hb := q3 rfl
            subst hb
            exact ⟨.same, fun _ => rfl⟩
          · rw [hmin] at q2
            rw [q2]
            refine ⟨.lists ea p1.isList p2.isList (by simp; omega) fun j h1 h2 => by simpa using q1 j (by simpa using h1) (by simpa using h2), fun z => absurd (V.ref.inj z) ea⟩
        · rename_i hl
          cases h
          have ea : a ≠ a' := fun z => by
            subst z
            rw [ha] at ha'
            cases ha'
            exact hl (rv.length.trans rw'.length.symm)
          exact ⟨.listsLen ea p1.isList p2.isList (by simp; omega), fun z => absurd (V.ref.inj z) ea⟩
      · rename_i xs ys _ _
        obtain ⟨a, vs, rfl, ha, rv⟩ := qx
        obtain ⟨a', ws, rfl, ha', rw'⟩ := qy
        cases ru
        cases ru'
        obtain ⟨us, r1, p1, _⟩ := I.tuple (X := X) (hK ▸ ha)
        obtain ⟨us', r2, p2, _⟩ := I.tuple (X := X) (hK ▸ ha')
        have l1 : xs.length = us.length := rv.length.trans r1.length
        have l2 : ys.length = us'.length := rw'.length.trans r2.length
        simp only [Option.map_eq_some_iff] at h
        obtain ⟨b0, h, rfl⟩ := h
        obtain ⟨e, q1, q2, q3⟩ := eq_all R ih xs ys vs ws us us' b0 rv rw' r1 r2 h
        by_cases ea : a = a'
        · subst ea
          obtain ⟨o, h1, _, n1, h2⟩ := p1
          obtain ⟨o', h3, _, n2, h4⟩ := p2
          rw [h1] at h3
          cases h3
          rw [h2] at h4
          have e5 : us = us' := by injection h4 with z _; simpa using z
          subst e5
          have e6 := Vals.func r1 r2
          have hb := q3 e6
          subst hb
          have hl : (xs.length == ys.length) = true := by simp; omega
          rw [hl]
          exact ⟨.same, fun _ => rfl⟩
        · rw [q2]
          have hl : (xs.length == ys.length) = (us.toArray.size == us'.toArray.size) := by simp [l1, l2]
          rw [hl]
          refine ⟨?_, fun z => absurd (V.ref.inj z) ea⟩
          have hm : min us.length us'.length = min us.toArray.size us'.toArray.size := by simp
          rw [hm]
          exact .tuples ea p1 p2 fun j h1 h2 => by simpa using q1 j (by simpa using h1) (by simpa using h2)
      · rename_i ks ls _ _
        obtain ⟨a, ws, rfl, ha, rv⟩ := qx
        obtain ⟨a', wl, rfl, ha', rw'⟩ := qy
        cases ru
        cases ru'
        obtain ⟨_, y1, va, ra, da⟩ := dk_rd I.hok ha.rd
        obtain ⟨_, y2, vb, rb, db⟩ := dk_rd I.hok ha'.rd
        simp only [Option.map_eq_some_iff] at h
        obtain ⟨b0, h, rfl⟩ := h
        have nd : (va.map (·.1)).Nodup := let ⟨_, _, _, _, _, _, _, _, nd⟩ := da; nd
        obtain ⟨e, q1, q2, q3⟩ := eq_dall R ih rw' rb ks ws va b0 rv ra nd h
        have l1 : ks.length = va.length := rv.length.trans ra.length
        have l2 : ls.length = vb.length := rw'.length.trans rb.length
        by_cases ea : a = a'
        · subst ea
          have e5 : ws = wl := by
            rcases ha with ha | ⟨_, o, ha⟩ <;> rcases ha' with ha' | ⟨_, o', ha'⟩ <;> rw [ha] at ha' <;> cases ha' <;> rfl
          subst e5
          have hb : b0 = true := q3 fun p hp => by
            have q := ra.val p.1
            obtain ⟨i, hi⟩ := List.mem_iff_getElem?.mp hp
            have nd' : (ws.map (·.1)).Nodup := by rw [KV.keys ra]; exact nd
            exact val_mem nd' hp
          subst hb
          have hl : (ks.length == ls.length) = true := by
            have := rv.length; have := rw'.length; simp; omega
          rw [hl]
          exact ⟨.same, fun _ => rfl⟩
        · rw [q2]
          have hl : (ks.length == ls.length) = (va.length == vb.length) := by rw [l1, l2]
          rw [hl]
          exact ⟨.dicts ea y1 y2 da db q1, fun z => absurd (V.ref.inj z) ea⟩
      · cases h
    · cases h
end
end FH
/-! FhU: == and != as operators. -/
namespace FH
open PySem L2
open PySem.Spec PyProof.Rows
theorem keq_neIn {K : Type} [DecidableEq K] {prog : Program} {w : World} {knd : KeyKind prog w K} {A : Around} {E : Value → Shared → Prop} {s : Shared} {a b : Addr} {ka kb : List (K × Value)} {r : Bool} {Q : Value → Shared → Prop} (ha : (a == sysModules) = false) (hb : (b == sysModules) = false)
    (da : s.heap.DictOf knd a ka) (db : s.heap.DictOf knd b kb) (hu : A.units < cLine) (hits : ka.length = kb.length → PySem.W.KeqHitsIn prog w A.in1 s kb ka r) (h : Q (.bool (!(ka.length == kb.length && r))) s) :
    wpAny (model prog w) A (compareOp .NotEq (.ref a) (.ref b)) Q E s := by
  refine wpAny_richCompare_same_room (op := .NotEq) da.typeIs db.typeIs PySem.F.slot_dict_ne (wpAny_call_entry PySem.F.slot_dict_ne da.typeIs PySem.F.entry_dict_ne ?_ (PySem.F.args_dict_ne_2 _ _)) hu
  show wpAny _ _ (Builtin.Dict.dictSlotArgs "__ne__" ⟨[.ref a, .ref b], []⟩ >>= _) _ _ s
  refine wpAny_bind ?_
  unfold Builtin.Dict.dictSlotArgs
  refine wpAny_bind (wpAny_notOrdered_dict da.typeIs ?_)
  show wpAny _ _ (pure (Value.ref a, Value.ref b)) _ _ s
  refine wpAny_pure ?_
  refine wpAny_bind (wpAny_isInstance (T := "dict") db.typeIs PySem.F.sub_dict_dict ?_)
  simp only [Bool.not_true, Bool.false_eq_true, if_false]
  refine wpAny_bind (wpAny_pure (wpAny_bind (wpAny_pure ?_)))
  refine wpAny_bind (PySem.W.keq_samePairsIn ha hb da db hits ?_)
  refine wpAny_pure ⟨_, rfl, ?_, ?_⟩
  · exact fun x => nomatch x
  · simpa using h
def rCq (X : Cx) (op : CmpOp) : R2 := fun x y H Q => ∃ b, (∀ (pins : List (Addr × Obj)) (σ : L2.St) (s : Shared) (v u : Value), Inv X pins σ H s → RelV x v → RelV y u → wpAny (model X.prog X.w) X.A (compareOp op v u) (EP X pins σ fun z H' => z = .bl b ∧ H' = H) X.xe s) ∧ Q (.bl b) H
theorem op_cq {X : Cx} {op : CmpOp} : OpR X (compareOp op) (rCq X op) := fun pins s σ H x y v u Q I rx ry ⟨b, h, q⟩ =>
  thn (h pins σ s v u I rx ry) fun c s2 ⟨z, H', I', rz, ez, eH⟩ => by subst ez; subst eH; exact ⟨.bl b, H', I', rz, q⟩
def eqI0 (x y : TV) : Option Bool := match flatT x, flatT y with
  | some u, some v => if scal u v = true then some (decide (u = v)) else none
  | none, none => eqT 30 x y
  | _, _ => none
def neI0 (x y : TV) : Option Bool := match flatT x, flatT y with
  | some u, some v => if scal u v = true then some (!decide (u = v)) else none
  | none, none => match x, y with
    | .lst xs, .lst ys => if xs.length = ys.length then (if okT (.lst xs) = true ∧ okT (.lst ys) = true ∧ SeqAt.shaped (pyd (.lst xs)) = true ∧ SeqAt.shaped (pyd (.lst ys)) = true then some (!PyData.eqv (pyd (.lst xs)) (pyd (.lst ys))) else none) else some true
    | .tup xs, .tup ys => if okT (.tup xs) = true ∧ okT (.tup ys) = true ∧ SeqAt.shaped (pyd (.tup xs)) = true ∧ SeqAt.shaped (pyd (.tup ys)) = true then some (!PyData.eqv (pyd (.tup xs)) (pyd (.tup ys))) else none
    | .dct ks, .dct ls => (eqT 30 (.dct ks) (.dct ls)).map (!·)
    | _, _ => none
  | _, _ => none
def okB (o : Option Bool) (C : Tab) : Res TV := match o with
  | some b => .ok (.bl b) C
  | none => .stuck
def eqI : TV → TV → Tab → Res TV := fun x y C => okB (eqI0 (rd C x) (rd C y)) C
def neI : TV → TV → Tab → Res TV := fun x y C => okB (neI0 (rd C x) (rd C y)) C
section
variable {X : Cx} {Y : Xd}
theorem flat_rr {g : Gh} {H : Hp} {x : TV} {v u : V} (h : flatT x = some u) (q : RR Y.M g H x v) : v = u := by
  cases x <;> simp only [flatT, Option.some.injEq, reduceCtorEq] at h <;> subst h <;> exact q
theorem eqI_ok {k : Nat} (hr : Rm k X.A) (hK : X.K = Y.M.K) : OpS Y (rCq X .Eq) eqI := by
  intro g C H W x y v w Q R rx ry f
  have qx := R.rr rx
  have qy := R.rr ry
  unfold eqI at f
  have hun : X.A.units + 64 < cLine := by have := hr.room.un; omega
  generalize rd C x = s at qx f
  generalize rd C y = t at qy f
  cases hb : eqI0 s t with
  | none => rw [hb] at f; exact f.elim
  | some b =>
    rw [hb] at f
    refine ⟨b, fun pins σ sh va ua I r1 r2 => ?_, val_now R .bl f⟩
    unfold eqI0 at hb
    split at hb
    · rename_i c d h1 h2
      split at hb
      · rename_i hs
        cases hb
        obtain rfl := flat_rr h1 qx
        obtain rfl := flat_rr h2 qy
        exact op_eq pins sh σ H v w va ua _ I r1 r2 ⟨hs, rfl, rfl⟩
      · cases hb
    · rename_i h1 h2
      have eS := eqS hK R I 29
      have hu30 : X.A.units + (29 + 1) < cLine := by omega
      unfold eqT at hb
      rw [h1, h2] at hb
      dsimp only at hb
      split at hb
      · rename_i xs ys
        obtain ⟨a, vs, rfl, ha, rv⟩ := qx
        obtain ⟨a', ws, rfl, ha', rw'⟩ := qy
        cases r1
        cases r2
        obtain ⟨us, q1, p1, _⟩ := I.list (X := X) (xs := vs) (.of ha)
        obtain ⟨us', q2, p2, _⟩ := I.list (X := X) (xs := ws) (.of ha')
        have l1 : xs.length = us.length := rv.length.trans q1.length
        have l2 : ys.length = us'.length := rw'.length.trans q2.length
        split at hb
        · rename_i hl
          obtain ⟨e, e1, e2, _⟩ := eq_all R eS xs ys vs ws us us' b rv rw' q1 q2 hb
          have hmin : min us.length us'.length = us.toArray.size := by rw [List.size_toArray]; omega
          rw [hmin] at e2
          refine PySem.W.eq_listsT (e := e) p1.isList p2.isList (by simp; omega) (fun j h1 h2 => by simpa using e1 j (by simpa using h1) (by simpa using h2)) hu30 ?_
          rw [← e2]
          exact ⟨.bl b, H, I, rfl, rfl, rfl⟩
        · cases hb
          exact SeqAt.RcAt.lists_lengths p1.isList p2.isList (by simp; omega) (by omega) _ _ _ _ ⟨.bl false, H, I, rfl, rfl, rfl⟩
      · rename_i xs ys
        obtain ⟨a, vs, rfl, ha, rv⟩ := qx
        obtain ⟨a', ws, rfl, ha', rw'⟩ := qy
        cases r1
        cases r2
        obtain ⟨us, q1, p1, _⟩ := I.tuple (X := X) (hK ▸ ha)
        obtain ⟨us', q2, p2, _⟩ := I.tuple (X := X) (hK ▸ ha')
        have l1 : xs.length = us.length := rv.length.trans q1.length
        have l2 : ys.length = us'.length := rw'.length.trans q2.length
        simp only [Option.map_eq_some_iff] at hb
        obtain ⟨b0, hb, rfl⟩ := hb
        obtain ⟨e, e1, e2, _⟩ := eq_all R eS xs ys vs ws us us' b0 rv rw' q1 q2 hb
        refine PySem.W.eq_tuplesT (e := e) p1 p2 (fun j h1 h2 => by simpa using e1 j (by simpa using h1) (by simpa using h2)) hu30 ?_
        have hmin : min us.length us'.length = min us.toArray.size us'.toArray.size := by simp
        have hl : (xs.length == ys.length) = (us.toArray.size == us'.toArray.size) := by simp [l1, l2]
        rw [hmin] at e2
        rw [← e2, ← hl]
        exact ⟨.bl _, H, I, rfl, rfl, rfl⟩
      · rename_i ks ls
        obtain ⟨a, ws, rfl, ha, rv⟩ := qx
        obtain ⟨a', wl, rfl, ha', rw'⟩ := qy
        cases r1
        cases r2
        obtain ⟨_, y1, va, ra, da⟩ := dk_rd I.hok ha.rd
        obtain ⟨_, y2, vb, rb, db⟩ := dk_rd I.hok ha'.rd
        simp only [Option.map_eq_some_iff] at hb
        obtain ⟨b0, hb, rfl⟩ := hb
        have nd : (va.map (·.1)).Nodup := let ⟨_, _, _, _, _, _, _, _, nd⟩ := da; nd
        obtain ⟨e, e1, e2, _⟩ := eq_dall R eS rw' rb ks ws va b0 rv ra nd hb
        have l1 : ks.length = va.length := rv.length.trans ra.length
        have l2 : ls.length = vb.length := rw'.length.trans rb.length
        refine PySem.W.eq_dictsT (e := e) y1 y2 da db e1 hu30 ?_
        rw [← e2, ← l1, ← l2]
        exact ⟨.bl _, H, I, rfl, rfl, rfl⟩
      · cases hb
    · cases hb
theorem neI_ok {k : Nat} (hr : Rm k X.A) (hK : X.K = Y.M.K) : OpS Y (rCq X .NotEq) neI := by
  intro g C H W x y v w Q R rx ry f
  have qx := R.rr rx
  have qy := R.rr ry
  unfold neI at f
  have hun : X.A.units + 64 < cLine := by have := hr.room.un; omega
  generalize rd C x = s at qx f
  generalize rd C y = t at qy f
  cases hb : neI0 s t with
  | none => rw [hb] at f; exact f.elim
  | some b =>
    rw [hb] at f
    refine ⟨b, fun pins σ sh va ua I r1 r2 => ?_, val_now R .bl f⟩
    unfold neI0 at hb
    split at hb
    · rename_i c d h1 h2
      split at hb
      · rename_i hs
        cases hb
        obtain rfl := flat_rr h1 qx
        obtain rfl := flat_rr h2 qy
        exact op_ne pins sh σ H v w va ua _ I r1 r2 ⟨hs, rfl, rfl⟩
      · cases hb
    · rename_i h1 h2
      split at hb
      · rename_i xs ys
        split at hb
        · split at hb
          · rename_i hc
            cases hb
            obtain ⟨o1, o2, s1, s2⟩ := hc
            obtain ⟨as, d1, _⟩ := reads_rr hK R I _ qx r1 o1
            obtain ⟨bs, d2, _⟩ := reads_rr hK R I _ qy r2 o2
            exact SeqAt.compareNe_shaped d1 d2 s1 s2 hun ⟨.bl _, H, I, rfl, rfl, rfl⟩
          · cases hb
        · rename_i hl
          cases hb
          obtain ⟨a, vs, rfl, ha, rv⟩ := qx
          obtain ⟨a', ws, rfl, ha', rw'⟩ := qy
          cases r1
          cases r2
          obtain ⟨us, q1, p1, _⟩ := I.list (X := X) (xs := vs) (.of ha)
          obtain ⟨us', q2, p2, _⟩ := I.list (X := X) (xs := ws) (.of ha')
          have l1 : xs.length = us.length := rv.length.trans q1.length
          have l2 : ys.length = us'.length := rw'.length.trans q2.length
          exact SeqAt.RcNeAt.lists_lengths p1.isList p2.isList (by simp; omega) (by omega) _ _ _ _ ⟨.bl true, H, I, rfl, rfl, rfl⟩
      · split at hb
        · rename_i hc
          cases hb
          obtain ⟨o1, o2, s1, s2⟩ := hc
          obtain ⟨as, d1, _⟩ := reads_rr hK R I _ qx r1 o1
          obtain ⟨bs, d2, _⟩ := reads_rr hK R I _ qy r2 o2
          exact SeqAt.compareNe_shaped d1 d2 s1 s2 hun ⟨.bl _, H, I, rfl, rfl, rfl⟩
        · cases hb
      · rename_i ks ls
        have eS := eqS hK R I 29
        simp only [eqT, flatT, Option.map_eq_some_iff] at hb
        obtain ⟨b1, ⟨b0, hb, rfl⟩, rfl⟩ := hb
        obtain ⟨a, ws, rfl, ha, rv⟩ := qx
        obtain ⟨a', wl, rfl, ha', rw'⟩ := qy
        cases r1
        cases r2
        obtain ⟨_, y1, va, ra, da⟩ := dk_rd I.hok ha.rd
        obtain ⟨_, y2, vb, rb, db⟩ := dk_rd I.hok ha'.rd
        have nd : (va.map (·.1)).Nodup := let ⟨_, _, _, _, _, _, _, _, nd⟩ := da; nd
        obtain ⟨e, e1, e2, _⟩ := eq_dall R eS rw' rb ks ws va b0 rv ra nd hb
        have l1 : ks.length = va.length := rv.length.trans ra.length
        have l2 : ls.length = vb.length := rw'.length.trans rb.length
        refine keq_neIn y1 y2 da db (by omega) (fun _ => PySem.W.KeqHitsIn.of (e := e) _ fun k v y hm hv => (e1 k v y hm hv).at X.A.in1 (by show X.A.units + 1 + _ < cLine; omega)) ?_
        rw [← e2, ← l1, ← l2]
        exact ⟨.bl _, H, I, rfl, rfl, rfl⟩
      · cases hb
    · cases hb
end
end FH
/-! FhV: the law's head for a def that is a function on trees; all(..). -/
namespace FH
open PySem L2
open PySem.Spec PyProof.Rows
/-- what stands ahead of the law: nothing but the script -/
theorem head_rh {M : Md} {H : Hp} (hO : Only H) : ∃ g : Gh, RH M g [] H ∧ g.L = (fun _ => none) ∧ g.B = H := by
  refine ⟨⟨H, fun _ => none, fun _ => 0, 0⟩, ⟨fun a o h => .inl h, (fun a o h => nomatch h), rfl, (fun j c h => by simp at h), (fun i j c d h => by simp at h), fun a o h => nomatch h⟩, rfl, rfl⟩
/-- the law's promise -/
def LawOk (F : FM) : Prop := ∀ ns : List Int, ns.length ≤ 63 → ∃ C, F [.lsc ns] [] = .ok (.bl true) C
theorem law_run {P : Program} {w : World} {Y : Xd} {mg mb : Str → Option Value} {k : Nat} {fa a : Addr} {fd : FuncData} {x : Str} {F : FM} {s1 : Shared} {vs : List Value} {ns : List Int} {Bp : Heap → Prop} (hBp : ∀ H : Hp, (∀ b, H b ≠ none → b = a) → Bp (hidT s1.heap H))
    (KX : Y.M.K.In s1.heap) (hns : s1.heap.Ns mainGlobals mg) (hb : s1.heap.Ns builtinsNs mb) (hbb : ∀ x : Str, x ≠ "__name__" → mb x = bootBuiltins x) (hlim : s1.heap.NoLimit) (hg : s1.gens = #[])
    (ha : s1.heap.get? a = some { cls := .type "list", data := .seq vs.toArray }) (hi : IntsAre vs ns) (hl : ns.length ≤ 63) (hr : Rm k callerA)
    (G : ∀ base : Heap, Y.M.K.In base → base.Ns mainGlobals mg → Bp base → FnT P w Y mg base k fa fd [x] F) (hbind : ∀ (s : Shared) (u : Value), BindsTo s fd ⟨[u], []⟩ [(x, u)]) (hF : LawOk F) :
    codeAny (model P w) callerA (.call (.ref fa) ⟨[.ref a], []⟩) (fun r s' => r = .ok (.ret (.bool true)) ∧ OldK s1.heap s'.heap ∧ s'.os = s1.os ∧ AllBare s'.gens) s1 := by
  have rv := vals_ints hi
  have lenV := hi.length
  have hls : ns.length ≤ sizeLine := by rw [sizeLine_eq]; omega
  have core : ∀ H : Hp, Only H → SqL Y.M.K H a (ns.map V.int) → HOk P w H s1.heap → (∀ b, H b ≠ none → b = a) → (H a ≠ none → Y.M.K.lookup a = none) →
      codeAny (model P w) callerA (.call (.ref fa) ⟨[.ref a], []⟩) (fun r s' => r = .ok (.ret (.bool true)) ∧ OldK s1.heap s'.heap ∧ s'.os = s1.os ∧ AllBare s'.gens) s1 := by
    intro H hO hS hok hA hK
    have alone : ∀ {b : Addr}, b ≠ a → H b = none := fun {b} n => by
      cases q : H b with
      | none => rfl
      | some u => exact absurd (hA b (by rw [q]; exact fun z => nomatch z)) n
    have noA : ∀ {b : Addr} {o : Obj} {es : Array DictEntry} {ep : Nat}, s1.heap.get? b = some o → o.data = .dict es ep → H b = none := fun {b o es ep} e d => alone fun z => by
      subst z; rw [ha] at e; cases e; have z2 : Data.seq vs.toArray _ = Data.dict es ep := d; cases z2
    have nsK : ∀ {b : Addr} {m : Str → Option Value}, s1.heap.Ns b m → (hidT s1.heap H).Ns b m := fun {b m} ⟨o, es, ep, e, d, r⟩ => ⟨o, es, ep, hidT_get e (noA e d), d, r⟩
    have hKb : Y.M.K.In (hidT s1.heap H) := fun b o e => hidT_get (KX b o e) (by
      by_cases z : b = a
      · subst z
        cases q : H b with
        | none => rfl
        | some u => rw [hK (by rw [q]; exact fun z => nomatch z)] at e; cases e
      · exact alone z)
    have hM : Mod Y.M.K mg (hidT s1.heap H) := ⟨hKb, nsK hns, ⟨mb, nsK hb, hbb⟩, let ⟨mc, h1, h2⟩ := hlim; ⟨mc, nsK h1, h2⟩⟩
    have e0 : Env0 P w Y.M.K mg (hidT s1.heap H) callerA [] s1 H := ⟨rfl, hM, fun b o e => of_hidT e, Nat.le_of_eq (hidT_size _ _), trivial, (fun b hb => by have z : b ∈ ([] : List Addr) := hb; cases z), hok, .of_eq hg⟩
    have sp : spF Y F [.ref a] H (fun v _ => v = .bl true) fun _ _ _ => False := by
      obtain ⟨g, R, hL, hB⟩ := head_rh (M := Y.M) hO
      obtain ⟨C', hC⟩ := hF ns hl
      refine ⟨g, [], [.lsc ns], R, .cons ?_ .nil, ?_⟩
      · rcases hS with hS | ⟨o, its, n, h1, h2, h3, h4, h5, h6⟩
        · rcases hS with hS | ⟨o, hS⟩
          · rcases hO a with z | ⟨_, _, z⟩ <;> rw [hS] at z <;> cases z
          · exact .lsc (by rw [hB]; exact hS)
        · exact .lscK ⟨o, its, n, h1, h2, h3, h4, h5, h6⟩
      · rw [hC]
        intro g' H' _ _ v r
        cases r; rfl
    refine codeAny_mono ((G _ hKb (nsK hns) (hBp H hA)).run callerA [] s1 H ⟨[.ref a], []⟩ [.ref a] [.ref a] _ _ hr e0 (hbind s1 (.ref a)) (.cons rfl .nil) rfl sp) fun r s' h => ?_
    cases r with
    | error e =>
      have h' : L2.CX P w [] H s1 (fun _ _ _ => False) e s' := h
      obtain ⟨_, _, _, _, _, _, _, _, _, _, _, _, z⟩ := h'
      exact z.elim
    | ok fl =>
      cases fl with
      | next => exact False.elim h
      | brk => exact False.elim h
      | cont => exact False.elim h
      | ret u =>
        obtain ⟨v, H', os, bare, un, hok', r', q⟩ := h
        obtain rfl : v = .bl true := q
        obtain rfl : u = Value.bool true := r'
        refine ⟨rfl, OldK.of_keep fun b o e => ?_, os, bare⟩
        cases q : H b with
        | none => exact un.keep b o e q (by intro z; have z' : b ∈ ([] : List Addr) := z; cases z') (by simp)
        | some u =>
          rcases hO b with z | ⟨ob, xs, z⟩
          · rw [q] at z; cases z
          · obtain ⟨e1, _⟩ := hok b _ z
            obtain ⟨e2, _⟩ := hok' b _ (un.frzs b ob _ z)
            rw [e] at e1; cases e1
            exact e2
  cases hk : Y.M.K.lookup a with
  | some o =>
    have e := KX a o hk
    rw [ha] at e
    cases e
    exact core (fun _ => none) (fun _ => .inl rfl) (.inr ⟨_, vs.toArray, _, hk, rfl, rfl, rfl, by rw [List.size_toArray, lenV]; exact hls, by simpa using rv⟩) (fun b u z => nomatch z) (fun b z => absurd rfl z) fun z => absurd rfl z
  | none =>
    have off : ∀ {b : Addr} {o : HO}, b ≠ a → (if b = a then some o else none) = none := fun h => if_neg h
    refine core (fun b => if b = a then some (.frz { cls := .type "list", data := .seq vs.toArray } (.lst (ns.map V.int))) else none) (fun b => ?_) (.inl (.inr ⟨{ cls := .type "list", data := .seq vs.toArray }, if_pos rfl⟩)) (fun b u z => ?_) (fun b z => ?_) fun _ => hk
    · by_cases hb : b = a
      · exact .inr ⟨_, _, if_pos hb⟩
      · exact .inl (off hb)
    · by_cases hb : b = a
      · cases (if_pos hb).symm.trans z
        subst hb
        exact ⟨ha, by rw [List.length_map]; exact hls, vs, _, rv, ha⟩
      · cases (off hb).symm.trans z
    · by_cases hb : b = a
      · exact hb
      · exact absurd (off hb) z
theorem walk_T {l : PySem.W.OpenLaw} {k : Nat} {q : Program} {loose : List Str} {XP : (Str → Option Value) → Heap → Prop} {YP : World → Heap → Prop} {d : DefRec} {K : Params → PySem.W.Frag} {F : FM} {x : Str} (Y : PySem.W.Frag → Xd) (hYK : ∀ K, (Y K).M.K = K)
    (hn : l.most = some 63) (hdf : d.params.defaults = []) (hr : Rm k callerA) (hY : ∀ (w : World) (h : Heap), YP w h → (K w.params).In h)
    (G : ∀ (w : World) (mg : Str → Option Value) (fa : Addr) (h : Heap), (K w.params).In h → h.Ns mainGlobals mg → mg d.name = some (.ref fa) →
      ∃ fd : FuncData, (∀ (s : Shared) (u : Value), BindsTo s fd ⟨[u], []⟩ [(x, u)]) ∧ ∀ base : Heap, (K w.params).In base → base.Ns mainGlobals mg → FnT l.prog w (Y (K w.params)) mg base k fa fd [x] F)
    (hF : LawOk F) : PySem.W.WalkO q loose XP YP l.row.toRowW d [] (fun f vs => PySem.call f vs) := by
  refine Att.attach_call hn hdf fun w s0 s1 mg mb fa o pm cd doc a vs ns T Z ho hd hcd hmg hobj hints hlen hg => ?_
  have KX := hY w _ Z
  obtain ⟨fd, hb, hG⟩ := G w mg fa _ KX T.T.g hmg
  exact law_run (Y := Y (K w.params)) (Bp := fun _ => True) (fun _ _ => trivial) (by rw [hYK]; exact KX) T.T.g T.T.b T.T.builtins T.T.nolimit hg hobj hints hlen hr (fun base h1 h2 _ => hG base (by rw [← hYK (K w.params)]; exact h1) h2) hb hF
/-! ### all, any -/
def boolL : List TV → Option (List Bool)
  | [] => some []
  | .bl x :: ts => (boolL ts).map (x :: ·)
  | _ :: _ => none
@[simp] theorem boolL_map : ∀ {ys : List Bool}, boolL (ys.map TV.bl) = some ys
  | [] => rfl
  | y :: ys => by simp [boolL, boolL_map (ys := ys)]
theorem boolL_rv {M : Md} {g : Gh} : ∀ {ts : List TV} {ys : List Bool} {vs : List V}, boolL ts = some ys → RVs M g ts vs → vs = ys.map V.bl
  | [], ys, vs, h, r => by cases h; cases r; rfl
  | t :: ts, ys, _, h, .cons a b => by
    cases t <;> first | (cases h; done) | skip
    simp only [boolL, Option.map_eq_some_iff] at h
    obtain ⟨zs, h1, rfl⟩ := h
    cases a
    rw [boolL_rv h1 b]; rfl
def bAA (p : List Bool → Bool) : FM := fun ts C => match ts with
  | [x] => match rd C x with
    | .lst xs => match boolL xs with
      | some bs => .ok (.bl (p bs)) C
      | none => .stuck
    | _ => .stuck
  | _ => .stuck
theorem bAA_ok {X : Cx} {Y : Xd} (p : List Bool → Bool) : CallS Y (fun vs H Q => ∃ (a : Addr) (bs : List Bool), vs = [V.ref a] ∧ SqL X.K H a (bs.map V.bl) ∧ Q (.bl (p bs)) H) (bAA p) := by
  intro g C H W xs vs Q R rv f
  unfold bAA at f
  split at f
  · rename_i x
    obtain ⟨v, rfl, rx⟩ := rv.one
    have q := R.rr rx
    split at f
    · rename_i xs ex
      rw [ex] at q
      obtain ⟨a, vs, rfl, ha, r⟩ := q
      split at f
      · rename_i bs hb
        obtain rfl := boolL_rv hb r
        exact ⟨a, bs, rfl, .of ha, val_now R .bl f⟩
      · exact f.elim
    · exact f.elim
  · exact f.elim
end FH
/-! FhX: a def of the module by the facts of the head. -/
namespace FH
open PySem L2
open PySem.Spec PyProof.Rows
instance : Inhabited (Res TV) := ⟨.stuck⟩
structure DF (K : PySem.W.Frag) (x : Str) (st : Stmt) : Prop where
  ex : ∃ (f : Addr) (oc : Value) (od an : Option Addr) (osl : Array (Option Value)) (kV doc pm cdv ct : Value), PySem.W.nsIn K mainGlobals x = some (some (.ref f)) ∧ K.lookup f = some ⟨oc, od, .func (PySem.W.fnOf x x (defArgs st) (defBody st) (defScope st) .none kV doc pm an cdv ct), osl⟩ ∧
    PySem.W.codeIn K cdv x = true ∧ PySem.W.keepIn K (.ref f) = true
theorem df_mk {K : PySem.W.Frag} {x : Str} {st : Stmt} {f : Addr} {oc : Value} {od an : Option Addr} {osl : Array (Option Value)} {kV doc pm cdv ct : Value} (a : PySem.W.nsIn K mainGlobals x = some (some (.ref f))) (l : K.lookup f = some ⟨oc, od, .func (PySem.W.fnOf x x (defArgs st) (defBody st) (defScope st) .none kV doc pm an cdv ct), osl⟩)
    (c : PySem.W.codeIn K cdv x = true) (k : PySem.W.keepIn K (.ref f) = true) : DF K x st := ⟨f, oc, od, an, osl, kV, doc, pm, cdv, ct, a, l, c, k⟩
/-- the arguments of a def without defaults stand in their order -/
def Pos0 (x : Str) (st : Stmt) (ps : List Str) : Prop := ∀ (kV doc pm : Value) (an : Option Addr) (cdv ct : Value) (us : List Value), us.length = ps.length → bindArgs (PySem.W.fnOf x x (defArgs st) (defBody st) (defScope st) .none kV doc pm an cdv ct) ⟨us, []⟩ = pure (ps.zip us)
section
variable {P : Program} {w : World} {Y : Xd} {mg : Str → Option Value} {base h : Heap} {x : Str} {st : Stmt} {k : Nat} {N ps : List Str} {F : FM} {m : SM}
theorem Def.of (d : DF Y.M.K x st) (X : Y.M.K.In h) (G : h.Ns mainGlobals mg) (S : FnScope N ps (defScope st)) (hb : Pos0 x st ps)
    (ok : ∀ (cdv : Value) (f : Addr) (A : Around) (outer : List Env) (s : Shared) (H : Hp) (E : XK), Rm k (A.deeper (envOfC x (defScope st) s.heap.objs.size f cdv)) →
      PSs (cxOf (L2.CX P w) P w Y.M.K mg base N x (defScope st) f cdv A outer s H E) (defBody st) (tS Y (fun cls d _ H' => E cls d H') m))
    (hF : ∀ ts C, ts.length = ps.length → Lv C (m (st0 N.length ts) C) (F ts C)) : Def P w Y mg base x (k + 1) ps F [] := by
  obtain ⟨f, oc, od, an, osl, kV, doc, pm, cdv, ct, a, l, c, kp⟩ := d.ex
  have Fu := fun_mk (st := st) l c kp
  exact ⟨f, _, [], [], FnT.of Fu S (fun cdv A outer s H E hr => ok cdv f A outer s H E hr) hF, PySem.W.mg_of X G a, kp, Fu.binds hb, .nil, .nil⟩
end
/-- the law's def, for the head -/
theorem law_G {l : PySem.W.OpenLaw} {w : World} {Y : Xd} {mg : Str → Option Value} {h : Heap} {st : Stmt} {k : Nat} {N : List Str} {x p : Str} {F : FM} {m : SM} {fa : Addr} (d : DF Y.M.K x st) (X : Y.M.K.In h) (G : h.Ns mainGlobals mg) (hfa : mg x = some (.ref fa)) (S : FnScope N [p] (defScope st))
    (hb : ∀ (kV doc pm : Value) (an : Option Addr) (cdv ct : Value) (u : Value), bindArgs (PySem.W.fnOf x x (defArgs st) (defBody st) (defScope st) .none kV doc pm an cdv ct) ⟨[u], []⟩ = pure [(p, u)])
    (ok : ∀ (base : Heap), Y.M.K.In base → base.Ns mainGlobals mg → ∀ (cdv : Value) (f : Addr) (A : Around) (outer : List Env) (s : Shared) (H : Hp) (E : XK), Rm k (A.deeper (envOfC x (defScope st) s.heap.objs.size f cdv)) →
      PSs (cxOf (L2.CX l.prog w) l.prog w Y.M.K mg base N x (defScope st) f cdv A outer s H E) (defBody st) (tS Y (fun cls d _ H' => E cls d H') m))
    (hF : ∀ ts C, ts.length = 1 → Lv C (m (st0 N.length ts) C) (F ts C)) :
    ∃ fd : FuncData, (∀ (s : Shared) (u : Value), BindsTo s fd ⟨[u], []⟩ [(p, u)]) ∧ ∀ base : Heap, Y.M.K.In base → base.Ns mainGlobals mg → FnT l.prog w Y mg base (k + 1) fa fd [p] F := by
  obtain ⟨f, oc, od, an, osl, kV, doc, pm, cdv, ct, a, l, c, kp⟩ := d.ex
  have e := hfa.symm.trans (PySem.W.mg_of X G a)
  cases e
  have Fu := fun_mk (st := st) l c kp
  exact ⟨_, fun s u => .of_eq (hb kV doc pm an cdv ct u), fun base h1 h2 => FnT.of Fu S (fun cdv A outer s H E hr => ok base h1 h2 cdv fa A outer s H E hr) hF⟩
end FH
/-! FhY: what a def gives, without the cells that nobody sees any more. -/
namespace FH
open PySem L2
open PySem.Spec PyProof.Rows
def Keep (C C' : Tab) : Prop := C.length ≤ C'.length ∧ ∀ j c, j < C.length → C'[j]? = some c → C[j]? = some c ∨ c.low C.length = true
open Classical in
noncomputable def gcT (C : Tab) (t : TV) (C' : Tab) : Res TV := if Keep C C' then (match t with
  | .cel k => if k < C.length then .ok (.cel k) (C'.take C.length) else match C'[k]? with
    | some c => if c.low C.length = true then .ok (.cel C.length) (C'.take C.length ++ [c]) else .stuck
    | none => .stuck
  | t => if t.low C.length = true then .ok t (C'.take C.length) else .stuck) else .stuck
open Classical in
noncomputable def gcR (C : Tab) : SR → Res TV
  | .rt t C' => gcT C t C'
  | .nx _ C' => gcT C .non C'
  | .exc x _ C' => if Keep C C' ∧ TV.low.lowf C.length x.fs = true then .exc x (C'.take C.length) else .stuck
  | _ => .stuck
theorem cell_ren {n : Nat} {ρ : Nat → Nat} (hρ : ∀ j, j < n → ρ j = j) {c : Cell} (h : c.low n = true) : c.ren ρ = c := Cell.ren_low hρ h
theorem vw_id {C C' : Tab} (k : Keep C C') : Vw id C C' (C'.take C.length) := by
  have hl : (C'.take C.length).length = C.length := by rw [List.length_take]; exact Nat.min_eq_left k.1
  refine ⟨by omega, fun _ _ => rfl, fun _ _ _ _ h => h, fun j c h => ?_⟩
  rw [List.getElem?_take] at h
  split at h
  · rename_i hj
    rcases k.2 j c hj h with q | q
    · exact .inl ⟨q, h⟩
    · refine .inr ⟨?_, by rw [hl]; exact q⟩
      rw [cell_ren (ρ := id) (fun _ _ => rfl) q]; exact h
  · cases h
theorem lv_gcT {C : Tab} {t : TV} {C' : Tab} : Lv C (.rt t C') (gcT C t C') := by
  unfold gcT
  split
  · rename_i k
    have hl : (C'.take C.length).length = C.length := by rw [List.length_take]; exact Nat.min_eq_left k.1
    have plain : ∀ u : TV, t = u → u.low C.length = true → Lv C (.rt t C') (.ok u (C'.take C.length)) := fun u e h => by
      subst e
      exact .inl ⟨t, C', id, rfl, vw_id k, (ren_low (fun _ _ => rfl) t h).symm, by rw [hl]; exact h⟩
    split
    · rename_i j
      split
      · rename_i hj
        exact plain _ rfl (decide_eq_true hj)
      · rename_i hj
        split
        · rename_i c hc
          split
          · rename_i hlow
            have hρ : ∀ i, i < C.length → (if i = C.length then j else i) = i := fun i hi => by
              rw [if_neg (by omega)]
            refine .inl ⟨.cel j, C', fun i => if i = C.length then j else i, rfl, ⟨by rw [List.length_append]; omega, hρ, fun a b ha hb e => ?_, fun i c' h => ?_⟩, by simp [TV.ren], by simp [TV.low, hl]⟩
            · rw [List.length_append, hl] at ha hb
              simp only [List.length_cons, List.length_nil] at ha hb
              have e : (if a = C.length then j else a) = (if b = C.length then j else b) := e
              split at e <;> split at e <;> omega
            · by_cases hi : i < C.length
              · rw [List.getElem?_append_left (by omega)] at h
                rcases (vw_id k).c i c' h with ⟨q1, q2⟩ | ⟨q1, q2⟩
                · exact .inl ⟨q1, by show C'[if i = C.length then j else i]? = _; rw [hρ i hi]; exact q2⟩
                · refine .inr ⟨?_, ?_⟩
                  · rw [hl] at q2
                    rw [cell_ren (ρ := id) (fun _ _ => rfl) q2] at q1
                    show C'[if i = C.length then j else i]? = _
                    rw [hρ i hi, cell_ren (ρ := fun i => if i = C.length then j else i) hρ q2]; exact q1
                  · rw [hl] at q2
                    rw [List.length_append, hl]
                    cases c' <;> exact TV.low_mono (Nat.le_add_right _ _) _ q2
              · rw [List.getElem?_append_right (by omega), hl] at h
                have hi0 : i - C.length = 0 := by
                  rcases Nat.eq_zero_or_pos (i - C.length) with z | z
                  · exact z
                  · rw [List.getElem?_eq_none (by simp; omega)] at h; cases h
                rw [hi0] at h
                cases h
                have ei : i = C.length := by omega
                refine .inr ⟨?_, ?_⟩
                · show C'[if i = C.length then j else i]? = _
                  rw [if_pos ei, cell_ren (ρ := fun i => if i = C.length then j else i) hρ hlow]; exact hc
                · rw [List.length_append, hl]
                  cases c <;> exact TV.low_mono (Nat.le_add_right _ _) _ hlow
          · exact True.intro
        · exact True.intro
    · split
      · rename_i hlow
        exact plain _ rfl hlow
      · exact True.intro
  · exact True.intro
theorem lv_gc {C : Tab} {r : SR} : Lv C r (gcR C r) := by
  cases r with
  | rt t C' => exact lv_gcT
  | nx s C' =>
    have q : Lv C (.rt .non C') (gcT C .non C') := lv_gcT
    show Lv C (.nx s C') (gcT C .non C')
    unfold gcT at q ⊢
    split
    · rename_i k
      have hl : (C'.take C.length).length = C.length := by rw [List.length_take]; exact Nat.min_eq_left k.1
      have z : TV.low C.length .non = true := rfl
      dsimp only
      rw [if_pos z]
      exact .inr ⟨s, C', id, rfl, rfl, vw_id k⟩
    · exact True.intro
  | bk s C' => exact True.intro
  | ct s C' => exact True.intro
  | stuck => exact True.intro
  | exc x s C' =>
    simp only [gcR]
    split
    · rename_i h
      have hl : (C'.take C.length).length = C.length := by rw [List.length_take]; exact Nat.min_eq_left h.1.1
      have e : renf id x.fs = x.fs := renf_low (n := C.length) (fun _ _ => rfl) x.fs h.2
      exact ⟨x, s, C', id, rfl, vw_id h.1, rfl, e.symm, by rw [hl]; exact h.2⟩
    · exact True.intro
/-- the function of a body -/
noncomputable def ofM (n : Nat) (m : SM) : FM := fun ts C => gcR C (m (st0 n ts) C)
theorem lv_of {n : Nat} {m : SM} (ts : List TV) (C : Tab) : Lv C (m (st0 n ts) C) (ofM n m ts C) := lv_gc
end FH
/-! FhZ: what comes later is not looked at before its turn: it is hidden in an instance. -/
namespace FH
open PySem L2
class Lat (α β : Type) where
  f : α → Tab → Res β
def Res.bnd {α β : Type} (r : Res α) [l : Lat α β] : Res β := r.bind l.f
class LatS (α : Type) where
  f : α → Tab → SR
def Res.srd {α : Type} (r : Res α) (s : Slots) [l : LatS α] : SR := r.sr s l.f
class LatN where
  n : SM
def SR.sqd (r : SR) [l : LatN] : SR := r.seq l.n
section
variable {α β : Type} {C : Tab} {s : Slots} {x : Exc}
@[simp ↓] theorem bind_bnd {r : Res α} {f : α → Tab → Res β} : r.bind f = @Res.bnd α β r ⟨f⟩ := rfl
@[simp ↓] theorem sr_srd {r : Res α} {f : α → Tab → SR} : r.sr s f = @Res.srd α r s ⟨f⟩ := rfl
@[simp ↓] theorem seq_sqd {r : SR} {n : SM} : r.seq n = @SR.sqd r ⟨n⟩ := rfl
@[simp] theorem bnd_ok {a : α} {f : α → Tab → Res β} : @Res.bnd α β (.ok a C) ⟨f⟩ = f a C := rfl
@[simp] theorem bnd_exc {f : α → Tab → Res β} : @Res.bnd α β (.exc x C) ⟨f⟩ = .exc x C := rfl
@[simp] theorem bnd_stuck {f : α → Tab → Res β} : @Res.bnd α β .stuck ⟨f⟩ = .stuck := rfl
@[simp] theorem srd_ok {a : α} {f : α → Tab → SR} : @Res.srd α (.ok a C) s ⟨f⟩ = f a C := rfl
@[simp] theorem srd_exc {f : α → Tab → SR} : @Res.srd α (.exc x C) s ⟨f⟩ = .exc x s C := rfl
@[simp] theorem srd_stuck {f : α → Tab → SR} : @Res.srd α .stuck s ⟨f⟩ = .stuck := rfl
@[simp] theorem sqd_nx {n : SM} : @SR.sqd (.nx s C) ⟨n⟩ = n s C := rfl
@[simp] theorem sqd_rt {t : TV} {n : SM} : @SR.sqd (.rt t C) ⟨n⟩ = .rt t C := rfl
@[simp] theorem sqd_bk {n : SM} : @SR.sqd (.bk s C) ⟨n⟩ = .bk s C := rfl
@[simp] theorem sqd_ct {n : SM} : @SR.sqd (.ct s C) ⟨n⟩ = .ct s C := rfl
@[simp] theorem sqd_exc {n : SM} : @SR.sqd (.exc x s C) ⟨n⟩ = .exc x s C := rfl
@[simp] theorem sqd_stuck {n : SM} : @SR.sqd .stuck ⟨n⟩ = .stuck := rfl
end
end FH
/-! GcA: objects of own classes: fields, methods, made. -/
namespace FH
open PySem L2
open PySem.Spec PyProof.Rows
/-! ### fields -/
def putFT (f : Str) (t : TV) : List (Str × TV) → List (Str × TV)
  | [] => [(f, t)]
  | (g, x) :: r => if g = f then (g, t) :: r else (g, x) :: putFT f t r
theorem RFs.len {M : Md} {g : Gh} : ∀ {fs : List (Str × TV)} {ws : List (Str × V)}, RFs M g fs ws → fs.length = ws.length
  | _, _, .nil => rfl
  | _, _, .cons _ r => by simp [RFs.len r]
theorem RFs.look {M : Md} {g : Gh} {f : Str} : ∀ {fs : List (Str × TV)} {ws : List (Str × V)} {t : TV}, RFs M g fs ws → fs.lookup f = some t → ∃ v, ws.lookup f = some v ∧ RV M g t v
  | _, _, t, .nil, h => by cases h
  | _, _, t, .cons (k := k) a r, h => by
    rw [List.lookup_cons] at h
    by_cases e : (f == k) = true
    · rw [e] at h
      cases h
      exact ⟨_, by rw [List.lookup_cons, e], a⟩
    · rw [Bool.not_eq_true] at e
      rw [e] at h
      obtain ⟨v, h1, h2⟩ := RFs.look r h
      exact ⟨v, by rw [List.lookup_cons, e]; exact h1, h2⟩
theorem RFs.lookN {M : Md} {g : Gh} {f : Str} : ∀ {fs : List (Str × TV)} {ws : List (Str × V)}, RFs M g fs ws → fs.lookup f = none → ws.lookup f = none
  | _, _, .nil, h => rfl
  | _, _, .cons (k := k) a r, h => by
    rw [List.lookup_cons] at h
    by_cases e : (f == k) = true
    · rw [e] at h; cases h
    · rw [Bool.not_eq_true] at e
      rw [e] at h
      rw [List.lookup_cons, e]
      exact RFs.lookN r h
theorem RFs.put {M : Md} {g : Gh} {f : Str} {t : TV} {v : V} (rv : RV M g t v) : ∀ {fs : List (Str × TV)} {ws : List (Str × V)}, RFs M g fs ws → RFs M g (putFT f t fs) (putF f v ws)
  | _, _, .nil => .cons rv .nil
  | _, _, .cons (k := k) a r => by
    unfold putFT putF
    by_cases e : k = f
    · rw [if_pos e, if_pos e]; exact .cons rv r
    · rw [if_neg e, if_neg e]; exact .cons a (RFs.put rv r)
/-- what the written part says of the own class c -/
def KCls (Y : Xd) (c : Str) : Prop := ∀ C, Y.M.cl c = some C → Cls Y.M.K C
def KNo (Y : Xd) (c f : Str) : Prop := ∀ C, Y.M.cl c = some C → NoAttr Y.M.K C f
def fldR (c f : Str) (x : TV) (C : Tab) : Res TV := match rd C x with
  | .obj c' fs => if c' = c then (match fs.lookup f with
    | some t => .ok t C
    | none => .stuck) else .stuck
  | _ => .stuck
def mFld (c f : Str) (m : EM TV) : EM TV := fun s C => (m s C).bind (fldR c f)
def stF (j : Nat) (c f : Str) (v : TV) (C : Tab) : Option Cell → Option Tab
  | some (.own (.obj c' fs)) => if c' = c ∧ fs.length < 1000 then some (C.set j (.own (.obj c (putFT f v fs)))) else none
  | _ => none
def putFld (c f : Str) (o v : TV) (C : Tab) : Option Tab := match o with
  | .cel j => stF j c f v C C[j]?
  | _ => none
def nFld (c f : Str) (mv mo : EM TV) : SM := fun s C => (mv s C).sr s fun v C1 => (mo s C1).sr s fun o C2 => putC s (putFld c f o v C2)
/-- o.m(..), o of the own class c -/
def methR (c m : Str) (x : TV) (C : Tab) : Bool := match rd C x with
  | .obj c' fs => decide (c' = c) && (fs.lookup m).isNone
  | _ => false
def mMeth (c m : Str) (F : FM) (dts : List TV) (mo : EM TV) (ma : EM (List TV)) : EM TV := fun s C => (mo s C).bind fun x C1 => if methR c m x C1 = true then (ma s C1).bind fun ts C2 => F (x :: (ts ++ dts)) C2 else .stuck
/-- c(..) -/
def mdR (n : Nat) (r : TV) (C : Tab) : Res TV := match r with
  | .non => .ok (.cel n) C
  | _ => .stuck
def mMake (c : Str) (F : FM) (dts : List TV) (ma : EM (List TV)) : EM TV := fun s C => (ma s C).bind fun ts C1 => (F (.cel C1.length :: (ts ++ dts)) (C1 ++ [.own (.obj c [])])).bind (mdR C1.length)
section
variable {X : Cx} {Y : Xd} {W : WX} {c f m : Str} {o e value : Expr} {es : List Expr} {p pos pos' apos : Pos} {mo mv : EM TV} {ma : EM (List TV)} {k : Nat} {ps : List Str} {F : FM} {dts : List TV} {x : Str}
theorem se_fld (kc : KCls Y c) (kn : KNo Y c f) (ho : PE X o (tE Y W mo)) (hK : X.K = Y.M.K := by rfl) (hb : attributeBase o f X.env (eval o X.env) = eval o X.env := by rfl) : PE X (.Attribute o f pos) (tE Y W (mFld c f mo)) := by
  refine PE.imp (pe_fld ho hb) fun σ H Q ⟨g, s, C, rs, R, f0⟩ => tE_bind rs R f0 fun x g1 C1 H1 v e1 rs1 R1 rv f1 => ?_
  have q := R1.rr rv
  unfold fldR at f1
  split at f1
  · rename_i c' fs hx
    rw [hx] at q
    obtain ⟨a, A, dx, ws, rfl, ha, hc, rf⟩ := q
    split at f1
    · rename_i e
      subst e
      split at f1
      · rename_i t hl
        obtain ⟨v, h1, h2⟩ := rf.look hl
        exact ⟨a, A, dx, ws, v, rfl, ha, hK ▸ kc A hc, hK ▸ kn A hc, h1, val_now R1 h2 f1⟩
      · exact f1.elim
    · exact f1.elim
  · exact f1.elim
theorem ss_fld (kc : KCls Y c) (kn : KNo Y c f) (ho : PE X o (tE Y W mo)) (hv : PE X value (tE Y W mv)) (hK : X.K = Y.M.K := by rfl) (hs : swapsWith value (some (.Attribute o f pos')) pos.line X.env = pure false := by rfl) :
    PS X (.Assign [.Attribute o f pos'] value pos) (tS Y W (nFld c f mv mo)) := by
  refine PS.imp (ps_fld ho hv hs) fun D σ H ⟨g, s, C, rs, R, f0⟩ => ?_
  refine tS_bind rs R f0 fun t g1 C1 H1 v e1 rs1 R1 rv f1 => ?_
  refine tS_bind rs1 R1 f1 fun u g2 C2 H2 w e2 rs2 R2 ru f2 => ?_
  unfold putFld at f2
  split at f2
  · rename_i j
    unfold stF at f2
    split at f2
    · rename_i c' fs hc
      split at f2
      · rename_i hh
        obtain ⟨rfl, hl⟩ := hh
        cases ru with
        | cel hj =>
          obtain ⟨ob, h1, ⟨A, dx, ws, rfl, hcl, rf⟩, _⟩ := R2.c j _ hc
          refine ⟨_, A, dx, ws, rfl, h1, hK ▸ kc A hcl, hK ▸ kn A hcl, by rw [← rf.len]; exact hl, ?_⟩
          exact f2 g2 _ σ (Ext.refl g2) (R2.wr hc (t' := .obj c' (putFT f t fs)) ⟨A, dx, _, rfl, hcl, rf.put (rv.mono e2)⟩) rs2
      · exact f2.elim
    · exact f2.elim
  · exact f2.elim
/-- a method of the own class c -/
structure MDef (P : Program) (w : World) (Y : Xd) (mg : Str → Option Value) (base : Heap) (c m : Str) (k : Nat) (ps : List Str) (F : FM) (dts : List TV) : Prop where
  ex : ∃ (A f : Addr) (fd : FuncData) (ds : List Value) (dvs : List V), Y.M.cl c = some A ∧ Meth Y.M.K A m f ∧ FnT P w Y mg base k f fd ps F ∧ Binds Y.M.K fd ps ds ∧ Paired DV dts dvs ∧ Vals dvs ds
theorem se_meth {pl : Sem Bool} (kc : KCls Y c) (D : MDef X.prog X.w Y X.mg X.base c m k ps F dts) (hr : Rm k X.A) (tk : Takes X W) (ho : PE X o (tE Y W mo)) (ha : SA X Y W (e :: es) ma) (hn : (e :: es).length + dts.length + 1 = ps.length := by rfl) (hK : X.K = Y.M.K := by rfl)
    (hst : starEach (e :: es) X.env = (false, eval e X.env) :: starEach es X.env := by rfl) (hpl : (backTo pos (starEach es X.env)).any (·.1) = false := by rfl)
    (ht : eval (.Call (.Attribute o m apos) (e :: es) [] pos) X.env = (do
      let ov ← eval o X.env
      standAt apos.atName
      let (f, first) ← holding [ov] (getMethod ov m pl)
      callWith pos f first (backTo pos (starEach (e :: es) X.env)) (backToKw pos (keywordEach [] X.env))) := by rfl) : PE X (.Call (.Attribute o m apos) (e :: es) [] pos) (tE Y W (mMeth c m F dts mo ma)) := by
  obtain ⟨A, fa, fd, ds, dvs, hcl, hm, G, hb, hdt, hd⟩ := D.ex
  refine ⟨fun pins s σ H Q I ⟨g, sl, C, rs, R, f0⟩ => ?_⟩
  have h' : tE Y W mo σ H fun v H1 => ∃ a dx fs, v = .ref a ∧ H1 a = some (.ins A dx fs) ∧ fs.lookup m = none ∧ tA Y W ma σ H1 fun vs H2 => vs.length = (e :: es).length ∧ spF Y F (v :: (vs ++ dvs)) H2 Q fun cls d H' => W cls d σ H' := by
    refine tE_bind rs R f0 fun x g1 C1 H1 v e1 rs1 R1 rv f1 => ?_
    have q := R1.rr rv
    split at f1
    · rename_i hh
      unfold methR at hh
      split at hh
      · rename_i c' fs hx
        rw [hx] at q
        obtain ⟨a, A', dx, ws, rfl, ha', hc', rf⟩ := q
        simp only [Bool.and_eq_true, decide_eq_true_eq, Option.isNone_iff_eq_none] at hh
        obtain ⟨rfl, hn'⟩ := hh
        rw [hcl] at hc'
        cases hc'
        refine ⟨a, dx, ws, rfl, ha', rf.lookN hn', ?_⟩
        refine ⟨g1, sl, C1, rs1, R1, ?_⟩
        cases hq : ma sl C1 with
        | stuck => rw [hq] at f1; exact f1.elim
        | exc x0 C2 => rw [hq] at f1; exact f1
        | ok ts C2 =>
          rw [hq] at f1
          intro g2 H2 e2 R2 vs rvs
          refine ⟨by rw [← rvs.length]; exact ha.len _ _ _ _ hq, g2, C2, x :: (ts ++ dts), R2, .cons (rv.mono e2) (rvs.append (dvs_rv hdt)), Fin.ext e2 f1⟩
      · cases hh
    · exact f1.elim
  refine PySem.W.methodCall_KW (pl := pl) (thn (ho.run pins s σ H _ I h') fun u s1 ⟨v, H1, I1, rx, a, dx, fs, ex, ea, l, q⟩ => ?_) ht
  subst ex
  obtain rfl : u = Value.ref a := rx
  refine getmeth_ok I1 ea (hK ▸ kc A hcl) (hK ▸ hm) l ?_
  refine PySem.W.callWith_K (first := [.ref a]) (h₀ := X.base) I1.ok.mod.kin (by rw [hK]; exact hm.kp) (thn (ha.pa.run pos pins s1 σ H1 _ I1 q) fun us s2 ⟨vs, H2, I2, r, q1, q2⟩ => ⟨I2.kIn, ?_⟩) hst hpl
  exact run_T (us := .ref a :: us) (vs := .ref a :: vs) (dvs := dvs) (ds := ds) G hK hr (by rw [hK]; exact hb) tk hd (by rw [List.length_cons, q1, ← hn, ← Paired.len hdt]; omega) I2 (.cons rfl r) q2
theorem se_meth0 {pl : Sem Bool} (kc : KCls Y c) (D : MDef X.prog X.w Y X.mg X.base c m k ps F dts) (hr : Rm k X.A) (tk : Takes X W) (ho : PE X o (tE Y W mo)) (hn : dts.length + 1 = ps.length := by rfl) (hK : X.K = Y.M.K := by rfl)
    (ht : eval (.Call (.Attribute o m apos) [] [] pos) X.env = (do
      let ov ← eval o X.env
      standAt apos.atName
      let (f, first) ← holding [ov] (getMethod ov m pl)
      callWith pos f first (backTo pos (starEach [] X.env)) (backToKw pos (keywordEach [] X.env))) := by rfl) : PE X (.Call (.Attribute o m apos) [] [] pos) (tE Y W (mMeth c m F dts mo mNil)) := by
  obtain ⟨A, fa, fd, ds, dvs, hcl, hm, G, hb, hdt, hd⟩ := D.ex
  refine ⟨fun pins s σ H Q I ⟨g, sl, C, rs, R, f0⟩ => ?_⟩
  have h' : tE Y W mo σ H fun v H1 => ∃ a dx fs, v = .ref a ∧ H1 a = some (.ins A dx fs) ∧ fs.lookup m = none ∧ spF Y F (v :: dvs) H1 Q fun cls d H' => W cls d σ H' := by
    refine tE_bind rs R f0 fun x g1 C1 H1 v e1 rs1 R1 rv f1 => ?_
    have q := R1.rr rv
    split at f1
    · rename_i hh
      unfold methR at hh
      split at hh
      · rename_i c' fs hx
        rw [hx] at q
        obtain ⟨a, A', dx, ws, rfl, ha', hc', rf⟩ := q
        simp only [Bool.and_eq_true, decide_eq_true_eq, Option.isNone_iff_eq_none] at hh
        obtain ⟨rfl, hn'⟩ := hh
        rw [hcl] at hc'
        cases hc'
        exact ⟨a, dx, ws, rfl, ha', rf.lookN hn', g1, C1, x :: dts, R1, .cons rv (dvs_rv hdt), f1⟩
      · cases hh
    · exact f1.elim
  refine PySem.W.methodCall_KW (pl := pl) (thn (ho.run pins s σ H _ I h') fun u s1 ⟨v, H1, I1, rx, a, dx, fs, ex, ea, l, q⟩ => ?_) ht
  subst ex
  obtain rfl : u = Value.ref a := rx
  refine getmeth_ok I1 ea (hK ▸ kc A hcl) (hK ▸ hm) l ?_
  exact PySem.W.callWith_K0 (first := [.ref a]) I1.kIn (by rw [hK]; exact hm.kp) (run_T (us := [.ref a]) (vs := [.ref a]) (dvs := dvs) (ds := ds) G hK hr (by rw [hK]; exact hb) tk hd (by rw [← hn, ← Paired.len hdt]; simp; omega) I1 (.cons rfl .nil) q)
/-- the own class c is made by its __init__ -/
structure CDef (P : Program) (w : World) (Y : Xd) (mg : Str → Option Value) (base : Heap) (c : Str) (k : Nat) (ps : List Str) (F : FM) (dts : List TV) : Prop where
  ex : ∃ (A f : Addr) (fd : FuncData) (ds : List Value) (dvs : List V), Y.M.cl c = some A ∧ mg c = some (.ref A) ∧ Mk Y.M.K A f ∧ FnT P w Y mg base k f fd ps F ∧ Binds Y.M.K fd ps ds ∧ Paired DV dts dvs ∧ Vals dvs ds
theorem run_makeT {A fa : Addr} {fd : FuncData} {ds : List Value} {dvs : List V} {pins : List (Addr × Obj)} {σ : L2.St} {H : Hp} {s : Shared} {Q : VK} {us : List Value} {vs : List V} (M : Mk X.K A fa) (G : FnT X.prog X.w Y X.mg X.base k fa fd ps F) (hK : X.K = Y.M.K) (hr : Rm (k + 1) X.A) (hb : Binds X.K fd ps ds)
    (tk : Takes X W) (hd : Vals dvs ds) (hl : vs.length + dvs.length + 1 = ps.length) (I : Inv X pins σ H s) (r : Vals vs us)
    (h : ∀ x dx, H x = none → H dx = none → dx ≠ x → spF Y F (.ref x :: (vs ++ dvs)) (upd (upd H dx (.own x)) x (.ins A dx [])) (fun v H2 => v = .non ∧ Q (.ref x) H2) fun cls d H' => W cls d σ H') :
    wpAny (model X.prog X.w) X.A (call (.ref A) us) (EP X pins σ Q) X.xe s := by
  have hq := h (s.heap.objs.size + 1) s.heap.objs.size (I.hok.fresh (Nat.le_succ _)) (I.hok.fresh (Nat.le_refl _)) (Nat.ne_of_lt (Nat.lt_succ_self _))
  have I2 := Inv.made (C := A) I
  have r2 : Vals (V.ref (s.heap.objs.size + 1) :: (vs ++ dvs)) (Value.ref (s.heap.objs.size + 1) :: (us ++ ds)) := .cons rfl (r.append hd)
  have hl' : (Value.ref (s.heap.objs.size + 1) :: us ++ ds).length = ps.length := by
    have e := r2.length
    rw [← hl]
    have e2 : (Value.ref (s.heap.objs.size + 1) :: us ++ ds).length = (Value.ref (s.heap.objs.size + 1) :: (us ++ ds)).length := rfl
    rw [e2, ← e]
    simp
  have e0 : Env0 X.prog X.w Y.M.K X.mg X.base X.A X.stack _ _ := hK ▸ I2.env0
  refine wpAny_call (make_map (f := fa) I.kIn M.makes M.init (beq_iff_eq.mp M.fn) (codeAny_mono (G.run _ X.stack _ _ ⟨Value.ref (s.heap.objs.size + 1) :: us, []⟩ (Value.ref (s.heap.objs.size + 1) :: (us ++ ds)) _ _ _ (hr.make A us [])
    (e0.make A us []) (hb _ (Value.ref (s.heap.objs.size + 1) :: us) I2.kIn hl') r2 hl' hq) fun r s' hq' => ?_))
  cases r with
  | error e => exact tk e s' (XE.of_call I2 (fun _ _ _ h => h) hq')
  | ok fl =>
    cases fl with
    | ret u =>
      obtain ⟨v, H', I3, rv, ev, q3⟩ := I2.after hq'
      subst ev
      exact ⟨rv, ⟨V.ref (s.heap.objs.size + 1), H', I3, rfl, q3⟩⟩
    | next => exact False.elim hq'
    | brk => exact False.elim hq'
    | cont => exact False.elim hq'
end
end FH
/-! GcB: an object made; own operators. -/
namespace FH
open PySem L2
open PySem.Spec PyProof.Rows
section
variable {X : Cx} {Y : Xd} {W : WX} {c f m : Str} {o e value : Expr} {es : List Expr} {p pos pos' apos : Pos} {mo mv : EM TV} {ma : EM (List TV)} {k : Nat} {ps : List Str} {F : FM} {dts : List TV} {x : Str}
theorem make_sp {A : Addr} {σ : L2.St} {H : Hp} {Q : VK} {dvs : List V} (hcl : Y.M.cl c = some A) (hd : Paired DV dts dvs) (hlen : ∀ s C ts C', ma s C = .ok ts C' → ts.length = es.length) (h : tE Y W (mMake c F dts ma) σ H Q) :
    tA Y W ma σ H fun vs H1 => vs.length = es.length ∧ ∀ x dx, H1 x = none → H1 dx = none → dx ≠ x → spF Y F (.ref x :: (vs ++ dvs)) (upd (upd H1 dx (.own x)) x (.ins A dx [])) (fun v H2 => v = .non ∧ Q (.ref x) H2) fun cls d H' => W cls d σ H' := by
  obtain ⟨g, sl, C, rs, R, f0⟩ := h
  refine ⟨g, sl, C, rs, R, ?_⟩
  cases hq : ma sl C with
  | stuck => rw [mMake, hq] at f0; exact f0.elim
  | exc x0 C1 => rw [mMake, hq] at f0; exact f0
  | ok ts C1 =>
    rw [mMake, hq] at f0
    have f9 : Fin Y g (fun cls d H' => W cls d σ H') ((F (.cel C1.length :: (ts ++ dts)) (C1 ++ [.own (.obj c [])])).bind (mdR C1.length)) (fun t g' _ H' => ∀ v, RV Y.M g' t v → Q v H') := f0
    intro g1 H1 e1 R1 vs rv
    refine ⟨by rw [← rv.length]; exact hlen _ _ _ _ hq, fun x dx hx hdx ne => ?_⟩
    have sm : Same H1 (upd (upd H1 dx (.own x)) x (.ins A dx [])) := fun b u h => by
      rw [upd_ne (ne_of_none h hx), upd_ne (ne_of_none h hdx)]; exact h
    obtain ⟨R2, e2⟩ := R1.addC (o := .ins A dx []) sm hx upd_same (t := .obj c []) ⟨A, dx, [], rfl, hcl, .nil⟩
    have rx : RV Y.M (g1.cell x) (.cel C1.length) (.ref x) := by
      have q : RV Y.M (g1.cell x) (.cel C1.length) (.ref ((g1.cell x).A C1.length)) := .cel (by show _ < g1.n + 1; rw [R1.n]; exact Nat.lt_succ_self _)
      have ea : (g1.cell x).A C1.length = x := by show (if C1.length = g1.n then x else g1.A C1.length) = x; rw [if_pos R1.n.symm]
      rw [ea] at q
      exact q
    refine ⟨_, _, _, R2, .cons rx ((rv.mono e2).append (dvs_rv hd)), (Fin.bind (Fin.ext (e1.trans e2) f9)).imp fun t g3 C3 H3 e3 R3 f3 v rv3 => ?_⟩
    unfold mdR at f3
    split at f3
    · cases rv3
      exact ⟨rfl, val_now R3 (rx.mono e3) f3⟩
    · exact f3.elim
theorem se_make (D : CDef X.prog X.w Y X.mg X.base c k ps F dts) (hr : Rm (k + 1) X.A) (tk : Takes X W) (ha : SA X Y W (e :: es) ma) (hn : (e :: es).length + dts.length + 1 = ps.length := by rfl) (hK : X.K = Y.M.K := by rfl) (hg : Gl X c := by rfl)
    (hdb : (c == ("__debug__" : Str)) = false := by decide) (he : starEach (e :: es) X.env = (false, eval e X.env) :: starEach es X.env := by rfl) (hpl : (backTo pos (starEach es X.env)).any (·.1) = false := by rfl) :
    PE X (.Call (.Name c p) (e :: es) [] pos) (tE Y W (mMake c F dts ma)) := by
  obtain ⟨A, fa, fd, ds, dvs, hcl, hm, M, G, hb, hdt, hd⟩ := D.ex
  refine ⟨fun pins s σ H Q I h => ?_⟩
  refine wpAny_Call_Name_kw (ld_glob I hg hm ?_ hdb)
  have h' := make_sp (es := e :: es) hcl hdt ha.len h
  refine PySem.W.callWith_K (h₀ := X.base) I.ok.mod.kin (by rw [hK]; exact M.kp) (thn (ha.pa.run pos pins s σ H _ I h') fun us s1 ⟨vs, H1, I1, r, q1, q2⟩ => ⟨I1.kIn, ?_⟩) he hpl
  exact run_makeT (hK ▸ M) G hK hr (by rw [hK]; exact hb) tk hd (by rw [q1, ← hn, ← Paired.len hdt]) I1 r q2
/-! ### operators that may be own: the slots are known -/
def OpW (X : Cx) (f : Value → Value → Sem Value) (r : L2.St → R2) : Prop := ∀ (pins : List (Addr × Obj)) (s : Shared) (σ : L2.St) (H : Hp) (x y : V) (v u : Value) (Q : VK), Inv X pins σ H s → RelV x v → RelV y u → r σ x y H Q →
    wpAny (model X.prog X.w) X.A (f v u) (EP X pins σ Q) X.xe s
def OpSW (Y : Xd) (W : WX) (r : L2.St → R2) (f : TV → TV → Tab → Res TV) : Prop := ∀ (g : Gh) (C : Tab) (H : Hp) (σ : L2.St) (x y : TV) (v w : V) (Q : VK), RH Y.M g C H → RV Y.M g x v → RV Y.M g y w → Fin Y g (fun cls d H' => W cls d σ H') (f x y C) (kV' Y Q) → r σ v w H Q
theorem OpW.of {f : Value → Value → Sem Value} {r : R2} (h : OpR X f r) : OpW X f fun _ => r := fun pins s σ H x y v u Q I rx ry q => h pins s σ H x y v u Q I rx ry q
theorem OpSW.of {r : R2} {f : TV → TV → Tab → Res TV} (h : OpS Y r f) : OpSW Y W (fun _ => r) f := fun g C H σ x y v w Q R rx ry q => h g C H _ x y v w Q R rx ry q
theorem OpW.or {f : Value → Value → Sem Value} {r r' : L2.St → R2} (h : OpW X f r) (h' : OpW X f r') : OpW X f fun σ x y H Q => r σ x y H Q ∨ r' σ x y H Q := fun pins s σ H x y v u Q I rx ry q =>
  q.elim (h pins s σ H x y v u Q I rx ry) (h' pins s σ H x y v u Q I rx ry)
def tOpW (r : L2.St → R2) (ta tb : TE) : TE := fun σ H Q => ta σ H fun x H1 => tb σ H1 fun y H2 => r σ x y H2 Q
variable {a b : Expr} {me mb : EM TV}
theorem tOpW_of {r : L2.St → R2} {f : TV → TV → Tab → Res TV} (hs : OpSW Y W r f) {σ : L2.St} {H : Hp} {Q : VK} (h : tE Y W (mOp f me mb) σ H Q) : tOpW r (tE Y W me) (tE Y W mb) σ H Q := by
  obtain ⟨g, s, C, rs, R, f0⟩ := h
  refine tE_bind rs R f0 fun x g1 C1 H1 v e1 rs1 R1 rv f1 => ?_
  refine tE_bind rs1 R1 f1 fun y g2 C2 H2 w e2 rs2 R2 rw' f2 => ?_
  exact hs g2 C2 H2 _ x y v w Q R2 (rv.mono e2) rw' f2
theorem pe_cmpW {op : CmpOp} {r : L2.St → R2} {ta tb : TE} (ho : OpW X (compareOp op) r) (ha : PE X a ta) (hb : PE X b tb) (hm : behindInMarks op b = false) : PE X (.Compare a [op] [b] pos) (tOpW r ta tb) := by
  refine ⟨fun pins s σ H Q I h => ?_⟩
  exact wpAny_Compare1 (binT ha hb I h fun v u s2 x y H2 I2 rx ry q => ho pins s2 σ H2 x y v u Q I2 rx ry q) hm
theorem pt_cmpW {op : CmpOp} {r : L2.St → R2} {ta tb : TE} (ho : OpW X (compareOp op) r) (ha : PE X a ta) (hb : PE X b tb) (hm : behindInMarks op b = false) : PT X (.Compare a [op] [b] pos) (tTest (tOpW r ta tb)) := by
  refine ⟨fun pins s σ H Q I h => ?_⟩
  refine wpAny_isTrue_Compare1 (thn (ha.run pins s σ H _ I h) fun v s1 ⟨x, H1, I1, r1, q1⟩ => thn (hb.run pins s1 σ H1 _ I1 q1) fun u s2 ⟨y, H2, I2, r2, q2⟩ =>
    thn (ho pins s2 σ H2 x y v u _ I2 r1 r2 q2) fun c s3 ⟨z, H3, I3, r3, k, e, q3⟩ => ?_) hm
  subst e
  cases r3
  exact wpAny_truthy_bool ⟨H3, I3, q3⟩
theorem se_cmpW {op : CmpOp} {r : L2.St → R2} {f : TV → TV → Tab → Res TV} (ho : OpW X (compareOp op) r) (hs : OpSW Y W r f) (ha : PE X a (tE Y W me)) (hb : PE X b (tE Y W mb)) (hm : behindInMarks op b = false) : PE X (.Compare a [op] [b] pos) (tE Y W (mOp f me mb)) :=
  PE.imp (pe_cmpW ho ha hb hm) fun _ _ _ h => tOpW_of hs h
theorem st_cmpW {op : CmpOp} {r : L2.St → R2} {f : TV → TV → Tab → Res TV} (ho : OpW X (compareOp op) r) (hs : OpSW Y W r f) (ha : PE X a (tE Y W me)) (hb : PE X b (tE Y W mb)) (hm : behindInMarks op b = false) : PT X (.Compare a [op] [b] pos) (tT Y W (mB (mOp f me mb))) :=
  PT.imp (pt_cmpW ho ha hb hm) fun _ _ _ h => tOpW_of hs (mB_of h)
theorem se_opW {op : Operator} {r : L2.St → R2} {f : TV → TV → Tab → Res TV} (ho : OpW X (binaryOp op) r) (hs : OpSW Y W r f) (ha : PE X a (tE Y W me)) (hb : PE X b (tE Y W mb)) : PE X (.BinOp a op b pos) (tE Y W (mOp f me mb)) := by
  refine PE.imp (t := tOpW r (tE Y W me) (tE Y W mb)) ⟨fun pins s σ H Q I h => ?_⟩ fun _ _ _ h => tOpW_of hs h
  exact wpAny_BinOp (binT ha hb I h fun v u s2 x y H2 I2 rx ry q => ho pins s2 σ H2 x y v u Q I2 rx ry q)
def IxW (X : Cx) (r : L2.St → R2) : Prop :=
  ∀ (value slice : Expr) (pins : List (Addr × Obj)) (s : Shared) (σ : L2.St) (H : Hp) (x y : V) (v u : Value) (Q : VK), Inv X pins σ H s → RelV x v → RelV y u → r σ x y H Q →
    subscripted slice false v u = operate [v, u] (getItem v u) → subscripted slice true v u = runValue (.builtin "lifetime.subscript" ⟨[v, u], []⟩) → wpAny (model X.prog X.w) X.A (subscriptTail value slice v u) (EP X pins σ Q) X.xe s
theorem IxW.of {r : R2} (h : IxR X r) : IxW X fun _ => r := fun v sl pins s σ H x y u w Q I rx ry q h1 _ => h v sl pins s σ H x y u w Q I rx ry q h1
theorem IxW.or {r r' : L2.St → R2} (h : IxW X r) (h' : IxW X r') : IxW X fun σ x y H Q => r σ x y H Q ∨ r' σ x y H Q := fun v sl pins s σ H x y u w Q I rx ry q h1 h2 =>
  q.elim (fun q => h v sl pins s σ H x y u w Q I rx ry q h1 h2) fun q => h' v sl pins s σ H x y u w Q I rx ry q h1 h2
theorem se_ixW {r : L2.St → R2} {f : TV → TV → Tab → Res TV} (hr : IxW X r) (hs : OpSW Y W r f) (ha : PE X a (tE Y W me)) (hb : PE X b (tE Y W mb)) (h1 : PlainIx b := by intro o i; rfl)
    (h2 : ∀ o i, subscripted b true o i = runValue (.builtin "lifetime.subscript" ⟨[o, i], []⟩) := by intro o i; rfl) : PE X (.Subscript a b pos) (tE Y W (mOp f me mb)) := by
  refine PE.imp (t := tOpW r (tE Y W me) (tE Y W mb)) ⟨fun pins s σ H Q I h => ?_⟩ fun _ _ _ h => tOpW_of hs h
  exact Subscript_ (binT ha hb I h fun v u s2 x y H2 I2 rx ry q => hr a b pins s2 σ H2 x y v u Q I2 rx ry q (h1 _ _) (h2 _ _))
end
end FH
/-! GcC: own o[k], k in o, o == p; isinstance of an own class; constants of a class. -/
namespace FH
open PySem L2
open PySem.Spec PyProof.Rows
theorem Rm.in1 {k : Nat} {A : Around} (r : Rm (k + 1) A) : Rm k A.in1 := ⟨r.room.in1, r.gd⟩
section
variable {X : Cx} {Y : Xd} {W : WX} {c m : Str} {o e : Expr} {es : List Expr} {p pos : Pos} {me mo : EM TV} {k : Nat} {ps : List Str} {F : FM}
/-- what an own operator gives -/
def rOwn (Y : Xd) (W : WX) (c : Str) (F : FM) : L2.St → R2 := fun σ x y H Q => ∃ a A dx ws, x = .ref a ∧ H a = some (.ins A dx ws) ∧ Y.M.cl c = some A ∧ spF Y F [x, y] H Q fun cls d H' => W cls d σ H'
theorem run_in1 {fa : Addr} {fd : FuncData} (G : FnT X.prog X.w Y X.mg X.base k fa fd ps F) (hK : X.K = Y.M.K) (hr : Rm (k + 1) X.A) (hb : Binds X.K fd ps []) (tk : Takes X W) {pins : List (Addr × Obj)} {σ : L2.St} {H : Hp} {s : Shared} {Q : VK} {us : List Value} {vs : List V}
    (hl : vs.length = ps.length) (I : Inv X pins σ H s) (r : Vals vs us) (h : spF Y F vs H Q fun cls d H' => W cls d σ H') : wpAny (model X.prog X.w) X.A.in1 (call (.ref fa) us) (EP X pins σ Q) X.xe s := by
  have hl' : us.length = ps.length := by rw [← r.length]; exact hl
  have e0 : Env0 X.prog X.w Y.M.K X.mg X.base X.A.in1 X.stack s H := hK ▸ I.env0.in1
  refine wpAny_call (codeAny_mono (G.run X.A.in1 X.stack s H ⟨us, []⟩ us vs Q _ hr.in1 e0 (by
    have := hb s us I.kIn (by simpa using hl')
    simpa using this) r hl' h) fun r s' hq => ?_)
  cases r with
  | error e => exact tk e s' (XE.of_call I (fun _ _ _ h => h) hq)
  | ok fl =>
    cases fl with
    | ret u => exact I.after hq
    | next => exact hq.elim
    | brk => exact hq.elim
    | cont => exact hq.elim
/-- o[k] by the own __getitem__ -/
theorem ix_own {a1 a2 : Str} (D : MDef X.prog X.w Y X.mg X.base c "__getitem__" k [a1, a2] F []) (hfn : ∀ A f, Y.M.cl c = some A → PySem.W.findIn Y.M.K (.ref A) "__getitem__" = some (some (.ref f)) → PySem.W.fnIn Y.M.K f = true) (hr : Rm (k + 1) X.A) (tk : Takes X W) (hK : X.K = Y.M.K := by rfl) : IxW X (rOwn Y W c F) := by
  intro value slice pins s σ H x y v u Q I rx ry q h1 h2
  obtain ⟨a, A, dx, ws, rfl, ha, hc, sp⟩ := q
  obtain ⟨A', fa, fd, ds, dvs, hcl, hm, G, hb, hdt, hd⟩ := D.ex
  rw [hc] at hcl
  cases hcl
  cases hdt
  cases hd
  obtain rfl : v = Value.ref a := rx
  obtain ⟨mA, J, _⟩ := ins_get I.hok ha
  obtain ⟨od, J, _⟩ := J.look
  obtain ⟨m0, hF⟩ := I.fr
  refine PySem.W.sub_K hF (K := X.K) I.ok.mod.kin J (by rw [hK]; exact hm.at_) (by rw [hK]; exact hfn _ _ hc hm.at_) (by rw [hK]; exact hm.fn) ?_ h2
  exact run_in1 G hK hr (by rw [hK]; exact hb) tk (vs := [.ref a, y]) (us := [.ref a, u]) rfl I (.cons rfl (.cons ry .nil)) sp
def ixB (c : Str) (F : FM) : TV → TV → Tab → Res TV := fun x y C => match rd C x with
  | .obj c' _ => if c' = c then F [x, y] C else .stuck
  | _ => ixT x y C
theorem rOwn_of {g : Gh} {C : Tab} {H : Hp} {σ : L2.St} {x y : TV} {v w : V} {Q : VK} {fs : List (Str × TV)} (R : RH Y.M g C H) (rx : RV Y.M g x v) (ry : RV Y.M g y w) (hx : rd C x = .obj c fs) (f : Fin Y g (fun cls d H' => W cls d σ H') (F [x, y] C) (kV' Y Q)) : rOwn Y W c F σ v w H Q := by
  have q := R.rr rx
  rw [hx] at q
  obtain ⟨a, A, dx, ws, rfl, ha, hc, rf⟩ := q
  exact ⟨a, A, dx, ws, rfl, ha, hc, g, C, [x, y], R, .cons rx (.cons ry .nil), f⟩
theorem ixB_ok {r : R2} (h : OpS Y r ixT) : OpSW Y W (fun σ x y H Q => r x y H Q ∨ rOwn Y W c F σ x y H Q) (ixB c F) := by
  intro g C H σ x y v w Q R rx ry f
  unfold ixB at f
  split at f
  · rename_i c' fs hx
    split at f
    · rename_i e
      subst e
      exact .inr (rOwn_of R rx ry hx f)
    · exact f.elim
  · exact .inl (h g C H _ x y v w Q R rx ry f)
end
section
variable {X : Cx} {Y : Xd} {W : WX} {c m : Str} {o e : Expr} {es : List Expr} {p pos : Pos} {me mo : EM TV} {k : Nat} {ps : List Str} {F : FM}
/-- a bool that an own operator gives -/
def boolR (neg : Bool) (r : TV) (C : Tab) : Res TV := match r with
  | .bl b => .ok (.bl (if neg then !b else b)) C
  | _ => .stuck
/-- the callee runs, its bool is seen -/
theorem run_bool {fa : Addr} {fd : FuncData} (G : FnT X.prog X.w Y X.mg X.base k fa fd ps F) (hK : X.K = Y.M.K) (hr : Rm k X.A) (hb : Binds X.K fd ps []) (tk : Takes X W) {pins : List (Addr × Obj)} {σ : L2.St} {H : Hp} {s : Shared} {us : List Value} {vs : List V} {Q : VK}
    (hl : vs.length = ps.length) (I : Inv X pins σ H s) (r : Vals vs us) {neg : Bool} (h : spF Y F vs H (fun v H' => ∃ b, v = .bl b ∧ Q (.bl (if neg then !b else b)) H') fun cls d H' => W cls d σ H') :
    wpAny (model X.prog X.w) X.A (call (.ref fa) us) (fun w s' => ∃ b, w = .bool b ∧ EP X pins σ Q (.bool (if neg then !b else b)) s') X.xe s := by
  have q := run_T (ds := []) (dvs := []) G hK hr hb tk .nil (by rw [List.length_nil, Nat.add_zero]; exact hl) I r (by rw [List.append_nil]; exact h)
  refine wpAny_mono q (fun w s' z => ?_) fun _ _ x => x
  obtain ⟨v, H', I', rv, b, rfl, q⟩ := z
  cases rv
  exact ⟨b, rfl, .bl (if neg then !b else b), H', I', rfl, q⟩
def rOwnB (Y : Xd) (W : WX) (c : Str) (F : FM) (neg sw : Bool) : L2.St → R2 := fun σ x y H Q => ∃ a A dx ws, (if sw then y else x) = .ref a ∧ H a = some (.ins A dx ws) ∧ Y.M.cl c = some A ∧
  spF Y F (if sw then [y, x] else [x, y]) H (fun v H' => ∃ b, v = .bl b ∧ Q (.bl (if neg then !b else b)) H') fun cls d H' => W cls d σ H'
theorem bool_fin {g : Gh} {H : Hp} {C : Tab} {σ : L2.St} {xs : List TV} {vs : List V} {neg : Bool} {Q : VK} (R : RH Y.M g C H) (rv : RVs Y.M g xs vs) (f : Fin Y g (fun cls d H' => W cls d σ H') ((F xs C).bind (boolR neg)) (kV' Y Q)) :
    spF Y F vs H (fun v H' => ∃ b, v = .bl b ∧ Q (.bl (if neg then !b else b)) H') fun cls d H' => W cls d σ H' :=
  ⟨g, C, xs, R, rv, (Fin.bind f).imp fun t g1 C1 H1 e1 R1 f1 v rt => by
    unfold boolR at f1
    split at f1
    · rename_i b
      cases rt
      exact ⟨b, rfl, val_now R1 .bl f1⟩
    · exact f1.elim⟩
/-- k in o by the own __contains__ -/
theorem in_own (neg : Bool) {a1 a2 : Str} (D : MDef X.prog X.w Y X.mg X.base c "__contains__" k [a1, a2] F []) (hr : Rm k X.A) (tk : Takes X W) (hK : X.K = Y.M.K := by rfl) : OpW X (compareOp (if neg then .NotIn else .In)) (rOwnB Y W c F neg true) := by
  intro pins s σ H x y v u Q I rx ry q
  obtain ⟨a, A, dx, ws, ey, ha, hc, sp⟩ := q
  simp only [if_true] at ey sp
  subst ey
  obtain ⟨A', fa, fd, ds, dvs, hcl, hm, G, hb, hdt, hd⟩ := D.ex
  rw [hc] at hcl
  cases hcl
  cases hdt
  cases hd
  obtain rfl : u = Value.ref a := ry
  obtain ⟨mA, J, _⟩ := ins_get I.hok ha
  obtain ⟨od, J, _⟩ := J.look
  obtain ⟨m0, hF⟩ := I.fr
  have run := run_bool G hK hr (by rw [hK]; exact hb) tk (vs := [.ref a, x]) (us := [.ref a, v]) rfl I (.cons rfl (.cons rx .nil)) sp
  cases neg with
  | false =>
    refine PySem.W.in_K hF (K := X.K) I.ok.mod.kin J (by rw [hK]; exact hm.at_) (by rw [hK]; exact hm.fn) (wpAny_mono run (fun w s' z => ?_) fun _ _ x => x)
    obtain ⟨b, rfl, q⟩ := z
    exact wpAny_truthy_bool q
  | true =>
    refine PySem.W.notIn_K hF (K := X.K) I.ok.mod.kin J (by rw [hK]; exact hm.at_) (by rw [hK]; exact hm.fn) (wpAny_mono run (fun w s' z => ?_) fun _ _ x => x)
    obtain ⟨b, rfl, q⟩ := z
    exact wpAny_truthy_bool q
def inB (neg : Bool) (c : Str) (F : FM) : TV → TV → Tab → Res TV := fun x y C => match rd C y with
  | .obj c' _ => if c' = c then (F [y, x] C).bind (boolR neg) else .stuck
  | _ => inT neg x y C
theorem inB_ok {r : R2} {neg : Bool} (h : OpS Y r (inT neg)) : OpSW Y W (fun σ x y H Q => r x y H Q ∨ rOwnB Y W c F neg true σ x y H Q) (inB neg c F) := by
  intro g C H σ x y v w Q R rx ry f
  unfold inB at f
  split at f
  · rename_i c' fs hy
    split at f
    · rename_i e
      subst e
      have q := R.rr ry
      rw [hy] at q
      obtain ⟨a, A, dx, ws, rfl, ha, hc, rf⟩ := q
      exact .inr ⟨a, A, dx, ws, rfl, ha, hc, bool_fin R (.cons ry (.cons rx .nil)) f⟩
    · exact f.elim
  · exact .inl (h g C H _ x y v w Q R rx ry f)
end
end FH
/-! GcD: own ==, len(o); isinstance of an own class; constants of a class. -/
namespace FH
open PySem L2
open PySem.Spec PyProof.Rows
open ClX (CRead CVal CMet pe_cval)
section
variable {X : Cx} {Y : Xd} {W : WX} {c m : Str} {o e : Expr} {es : List Expr} {p p2 pos apos : Pos} {me mo : EM TV} {k : Nat} {ps : List Str} {F : FM}
/-- o == p of one own class -/
def rEqO (Y : Xd) (W : WX) (c : Str) (F : FM) : L2.St → R2 := fun σ x y H Q => ∃ a b A dx dy ws zs, x = .ref a ∧ y = .ref b ∧ H a = some (.ins A dx ws) ∧ H b = some (.ins A dy zs) ∧ Y.M.cl c = some A ∧
  spF Y F [x, y] H (fun v H' => ∃ b, v = .bl b ∧ Q (.bl b) H') fun cls d H' => W cls d σ H'
theorem eq_own {a1 a2 : Str} (D : MDef X.prog X.w Y X.mg X.base c "__eq__" k [a1, a2] F []) (hr : Rm k X.A) (tk : Takes X W) (hK : X.K = Y.M.K := by rfl) : OpW X (compareOp .Eq) (rEqO Y W c F) := by
  intro pins s σ H x y v u Q I rx ry q
  obtain ⟨a, b, A, dx, dy, ws, zs, rfl, rfl, ha, hb', hc, sp⟩ := q
  obtain ⟨A', fa, fd, ds, dvs, hcl, hm, G, hb, hdt, hd⟩ := D.ex
  rw [hc] at hcl
  cases hcl
  cases hdt
  cases hd
  obtain rfl : v = Value.ref a := rx
  obtain rfl : u = Value.ref b := ry
  obtain ⟨mA, J, _⟩ := ins_get I.hok ha
  obtain ⟨mB, J', _⟩ := ins_get I.hok hb'
  obtain ⟨od, J, _⟩ := J.look
  obtain ⟨od', J', _⟩ := J'.look
  obtain ⟨m0, hF⟩ := I.fr
  have hu : X.A.units < cLine := by have := hr.room.un; omega
  refine PySem.W.cmp_K (op := .Eq) (tb := .ref A) (K := X.K) hu hF I.ok.mod.kin J J'.type (by simp [PySem.W.notFirst]) (by rw [hK]; exact hm.at_) (by rw [hK]; exact hm.fn) ?_
  have run := run_bool G hK hr (by rw [hK]; exact hb) tk (vs := [.ref a, .ref b]) (us := [.ref a, .ref b]) (neg := false) (Q := Q) rfl I (.cons rfl (.cons rfl .nil)) sp
  refine wpAny_mono run (fun w s' z => ?_) fun _ _ x => x
  obtain ⟨r, rfl, q⟩ := z
  exact q
def eqB (c : Str) (F : FM) : TV → TV → Tab → Res TV := fun x y C => match rd C x with
  | .obj c' _ => if c' = c then (match rd C y with
    | .obj c2 _ => if c2 = c then (F [x, y] C).bind (boolR false) else .stuck
    | _ => .stuck) else .stuck
  | _ => eqI x y C
theorem eqB_ok {r : R2} (h : OpS Y r eqI) : OpSW Y W (fun σ x y H Q => r x y H Q ∨ rEqO Y W c F σ x y H Q) (eqB c F) := by
  intro g C H σ x y v w Q R rx ry f
  unfold eqB at f
  split at f
  · rename_i c' fs hx
    split at f
    · rename_i e
      subst e
      split at f
      · rename_i c2 gs hy
        split at f
        · rename_i e2
          subst e2
          have q := R.rr rx
          rw [hx] at q
          obtain ⟨a, A, dx, ws, rfl, ha, hc, rf⟩ := q
          have q := R.rr ry
          rw [hy] at q
          obtain ⟨b, A', dy, zs, rfl, hb, hc', rf'⟩ := q
          rw [hc] at hc'
          cases hc'
          exact .inr ⟨a, b, A, dx, dy, ws, zs, rfl, rfl, ha, hb, hc, bool_fin R (.cons rx (.cons ry .nil)) f⟩
        · exact f.elim
      · exact f.elim
    · exact f.elim
  · exact .inl (h g C H _ x y v w Q R rx ry f)
/-- isinstance(x, c) for an own class c -/
structure KIs (Y : Xd) (c : Str) : Prop where
  cl : ∀ C, Y.M.cl c = some C → Cls Y.M.K C
  ha : ∀ C, Y.M.cl c = some C → PySem.W.findIn Y.M.K (.ref C) "__class__" = some (some (.builtin "object.__class__"))
  hn : PySem.W.specialIn Y.M.K (.builtin "object.__class__") "__get__" = some (some (.builtin "getset_descriptor.__get__"))
  htk : PySem.W.takesIn Y.M.K (.builtin "object.__class__") = some true
  hm : ∀ C, Y.M.cl c = some C → PySem.W.mroIn Y.M.K C (.type "object") = some true
  no : ∀ C, Y.M.cl c = some C → ∀ n ∈ ["NoneType", "bool", "int", "str", "list", "tuple", "dict"], PySem.W.kitOne Y.M.K (.type n) (.ref C) = some false
def isCR (c : Str) (x : TV) (C : Tab) : Res TV := match rd C x with
  | .obj c' _ => if c' = c then .ok (.bl true) C else .stuck
  | t => match tyName t with
    | some _ => .ok (.bl false) C
    | none => .stuck
def mIsC (c : Str) (m : EM TV) : EM TV := fun s C => (m s C).bind (isCR c)
theorem tyName_in {t : TV} {n : String} (h : tyName t = some n) : n ∈ ["NoneType", "bool", "int", "str", "list", "tuple", "dict"] := by
  cases t <;> simp only [tyName, Option.some.injEq, reduceCtorEq] at h <;> subst h <;> decide
theorem se_isC (ki : KIs Y c) (hC : ∃ A, Y.M.cl c = some A ∧ X.mg c = some (.ref A)) (he : PE X e (tE Y W me)) (hm : X.mg "isinstance" = none) (hv : bootBuiltins "isinstance" = some (.builtin "isinstance")) (hK : X.K = Y.M.K := by rfl) (hg : Gl X "isinstance" := by rfl) (hgc : Gl X c := by rfl)
    (hd : (c == ("__debug__" : Str)) = false := by decide) (hs1 : starEach [e, .Name c p2] X.env = (false, eval e X.env) :: starEach [.Name c p2] X.env := by rfl) (hs2 : starEach [.Name c p2] X.env = (false, eval (.Name c p2) X.env) :: starEach [] X.env := by rfl)
    (hpl : (backTo pos (starEach [.Name c p2] X.env)).any (·.1) = false := by rfl) : PE X (.Call (.Name "isinstance" p) [e, .Name c p2] [] pos) (tE Y W (mIsC c me)) := by
  obtain ⟨A, hA, hmg⟩ := hC
  refine PE.imp (pe_callB call_isi hg hm hv (pa_cons he (pa_cons (pe_glob hgc hmg (v := .ref A) rfl hd) pa_nil hs2) hs1) (by decide) (by decide) hs1 hpl) fun σ H Q ⟨g, s, C, rs, R, f0⟩ => ?_
  refine tE_bind rs R f0 fun x g1 C1 H1 v e1 rs1 R1 rv f1 => ?_
  have q := R1.rr rv
  unfold isCR at f1
  split at f1
  · rename_i c' fs hx
    rw [hx] at q
    obtain ⟨a, A', dx, ws, rfl, ha, hc, rf⟩ := q
    split at f1
    · rename_i e
      subst e
      rw [hA] at hc
      cases hc
      refine ⟨.ref a, .ref A, .ref A, .ref A, true, rfl, .own A, .base (.ins ha (hK ▸ ki.cl A hA) (by rw [hK]; exact ki.ha A hA) (by rw [hK]; exact ki.hn) (by rw [hK]; exact ki.htk) (by rw [hK]; exact ki.hm A hA)), ?_, val_now R1 .bl f1⟩
      unfold PySem.W.kitOne
      rw [if_pos (by simp)]
    · exact f1.elim
  · split at f1
    · rename_i n hn
      have ty : TyX X.K H1 v (.type n) := by
        generalize rd C1 x = t at hn q
        cases t <;> simp only [tyName, Option.some.injEq, reduceCtorEq] at hn <;> subst hn
        · obtain rfl : v = .non := q; exact .base .non
        · obtain rfl : v = .bl _ := q; exact .base (.bl _)
        · obtain rfl : v = .int _ := q; exact .base (.int _)
        · obtain rfl : v = .str _ := q; exact .base (.str _)
        · obtain ⟨a, vs, rfl, ha, r⟩ := q; exact .base (.lst ha)
        · obtain ⟨a, vs, rfl, ha, r⟩ := q; exact SqT.tyx (hK ▸ ha)
        · obtain ⟨a, vs, rfl, ha, r⟩ := q; exact ha.tyd
      exact ⟨v, .ref A, .type n, .ref A, false, rfl, .own A, ty, by rw [hK]; exact ki.no A hA n (tyName_in hn), val_now R1 .bl f1⟩
    · exact f1.elim
/-- c.f, a constant of the own class c -/
structure KCon (Y : Xd) (c f : Str) (t : TV) : Prop where
  ex : ∀ A, Y.M.cl c = some A → ∃ mc v u, CRead Y.M.K A mc ∧ CVal Y.M.K A mc f v u ∧ DV t v
theorem se_ccon {f : Str} {t : TV} (kc : KCon Y c f t) (hC : ∃ A, Y.M.cl c = some A ∧ X.mg c = some (.ref A)) (hK : X.K = Y.M.K := by rfl) (hgc : Gl X c := by rfl) (hd : (c == ("__debug__" : Str)) = false := by decide)
    (hb : attributeBase (.Name c p) f X.env (eval (.Name c p) X.env) = eval (.Name c p) X.env := by rfl) : PE X (.Attribute (.Name c p) f pos) (tE Y W (mC t)) := by
  obtain ⟨A, hA, hmg⟩ := hC
  refine PE.imp (pe_cval (pe_glob hgc hmg (v := .ref A) rfl hd) hb) fun σ H Q ⟨g, s, C, rs, R, f0⟩ => ?_
  obtain ⟨mc, v, u, h1, h2, h3⟩ := kc.ex A hA
  exact ⟨A, mc, v, u, rfl, hK ▸ h1, hK ▸ h2, val_now R h3.rv f0⟩
end
end FH
/-! GcE: *xs, x = a list. -/
namespace FH
open PySem L2
open PySem.Spec PyProof.Rows
theorem vals_snoc {z : V} : ∀ {xs : List V} {its : List Value}, Vals (xs ++ [z]) its → ∃ us w, its = us ++ [w] ∧ Vals xs us ∧ RelV z w
  | [], _, .cons b c => by cases c; exact ⟨[], _, rfl, .nil, b⟩
  | x :: xs, _, .cons b c => by
    obtain ⟨us, w, rfl, q1, q2⟩ := vals_snoc c
    exact ⟨_ :: us, w, rfl, .cons b q1, q2⟩
section
variable {X : Cx} {Y : Xd} {W : WX} {pos : Pos}
/-- what such a target asks: a list with a last item; the ones ahead of it are a new list -/
def gStar (K : PySem.W.Frag) (t : TGs) : TG := fun v σ H Q => ∃ a xs z, v = .ref a ∧ SqL K H a (xs ++ [z]) ∧ ∀ p, H p = none → t [.ref p, z] σ (upd H p (.lst xs)) Q
theorem pg_star {e1 e2 : Expr} {sp : Pos} {k : Nat} {t : TGs} (hc : X.calm = true) (h : PGs X [e1, e2] t) (hn : (assignEach [.Starred e1 sp, e2] X.env).length = 2 := by rfl) (hst : (assignEach [.Starred e1 sp, e2] X.env).findIdx? (·.1) = some 0 := by rfl)
    (hm : (assignEach [.Starred e1 sp, e2] X.env).map (·.2) = (assignEach [e1, e2] X.env).map (·.2) := by rfl) : PG X (.Tuple [.Starred e1 sp, e2] k pos) (gStar X.K t) := by
  refine ⟨fun pins s σ H v u Q I r hw => ?_⟩
  obtain ⟨a, xs, z, rfl, hq, hw⟩ := hw
  cases r
  obtain ⟨its, rv, pl, hz⟩ := I.list hq
  have hl : s.heap.IsList a its.toArray := let ⟨o, m, q1, q2, q3, q4⟩ := pl; ⟨o, q1, q2, m, q4⟩
  have la : a < s.heap.objs.size := let ⟨o, ho, _⟩ := hl; Heap.lt_size ho
  have na : a ≠ s.heap.objs.size := Nat.ne_of_lt la
  obtain ⟨us, w, rfl, rx, rz⟩ := vals_snoc rv
  have lx : xs.length = us.length := rx.length
  rw [List.length_append, List.length_singleton] at hz
  rw [PyProof.Rows.assign_Tuple]
  refine wpAny_bind (wpAny_standAt ?_)
  unfold unpack
  rw [hn, hst, hm]
  refine wpAny_bind (wpAny_holding ?_)
  unfold unpackItems notIterableAtAll
  refine wpAny_bind (wpAny_bind (wpAny_specialOf hl.typeIs PySem.F.slot_list_iter.lookup (wpAny_pure ?_)))
  simp only [Bool.false_eq_true, if_false]
  refine wpAny_bind (wpAny_holding (wpAny_pyIter_list hl (wpAny_bind (wpAny_holding ?_))))
  have hl2 := hl.push (seqObj "list" #[] 0)
  show wpAny _ _ (pure []) _ _ _
  refine wpAny_pure ?_
  rw [if_neg (by simp)]
  refine wpAny_bind (wpAny_holding (PySem.W.kun_collect (k := 0) (T := "list_iterator") (.inr (.inr (.inl rfl))) (Walks.list (A := X.A.in1) (I.ok.hd hc) s.heap.objs.size a na (us ++ [w]).toArray) (fun j u st => st.1.typeIs) (Nat.zero_le _)
    ⟨⟨_, Heap.get?_push_size _ rfl, rfl, rfl⟩, hl.push _⟩ (by rw [Heap.size_push]; exact Nat.lt_succ_self _) (by rw [Heap.size_push]; exact Nat.lt_succ_of_lt la) (fun h2 tk hk => ?_) (by simp; omega)))
  have e3 : ((us ++ [w]).toArray.toList.drop 0).length - (2 - 1 - 0) = us.length := by simp
  show wpAny _ _ (if ((us ++ [w]).toArray.toList.drop 0).length < 2 - 1 - 0 then _ else _) _ _ _
  rw [if_neg (by simp)]
  show wpAny _ _ (newList (((us ++ [w]).toArray.toList.drop 0).take (((us ++ [w]).toArray.toList.drop 0).length - (2 - 1 - 0))) >>= fun d => pure ([] ++ [d] ++ ((us ++ [w]).toArray.toList.drop 0).drop (((us ++ [w]).toArray.toList.drop 0).length - (2 - 1 - 0)))) _ _ _
  rw [e3]
  have keep : ∀ b o, s.heap.get? b = some o → h2.get? b = some o := fun b o e => hk b o (Nat.ne_of_lt (Heap.lt_size e)) (Heap.get?_push_of_some _ e)
  have I2 : Inv X pins σ H { s with heap := h2, toks := tk } := I.kept (t' := tk) keep
  have f1 : ((us ++ [w]).toArray.toList.drop 0).take us.length = us := by simp
  have f2 : ((us ++ [w]).toArray.toList.drop 0).drop us.length = [w] := by simp
  rw [f1, f2]
  refine wpAny_bind (wpAny_newList (wpAny_pure ?_) (by omega))
  have fr : H h2.objs.size = none := I2.hok.fresh (Nat.le_refl _)
  have zl : xs.length ≤ sizeLine := by omega
  have I3 : Inv X pins σ (upd H h2.objs.size (.lst xs)) { s with heap := h2.push (seqObj "list" us.toArray 0), toks := tk } := I2.laid (t' := tk) (fun b u e => Heap.get?_push_of_some _ e) (Nat.le_refl _) ⟨zl, us, 0, rx, Heap.get?_push_size _ rfl⟩
  exact h.run pins _ σ _ [.ref h2.objs.size, z] [.ref h2.objs.size, w] Q I3 (.cons rfl (.cons rz .nil)) (hw _ fr)
end
end FH
namespace FH
open PySem L2
open PySem.Spec PyProof.Rows
theorem RVs.snoc {M : Md} {g : Gh} {z : TV} : ∀ {ts : List TV} {vs : List V}, RVs M g (ts ++ [z]) vs → ∃ us v, vs = us ++ [v] ∧ RVs M g ts us ∧ RV M g z v
  | [], _, .cons b c => by cases c; exact ⟨[], _, rfl, .nil, b⟩
  | x :: xs, _, .cons b c => by
    obtain ⟨us, w, rfl, q1, q2⟩ := RVs.snoc c
    exact ⟨_ :: us, w, rfl, .cons b q1, q2⟩
def starR (i j : Nat) (s : Slots) (C : Tab) : TV → SR
  | .lst ts => match ts.getLast? with
    | some z => .nx ((s.set i (some (.lst ts.dropLast))).set j (some z)) C
    | none => .stuck
  | _ => .stuck
def nStar (i j : Nat) (m : EM TV) : SM := fun s C => (m s C).sr s fun t C1 => starR i j s C1 (rd C1 t)
section
variable {X : Cx} {Y : Xd} {W : WX} {e : Expr} {m : EM TV}
theorem ss_star (i j : Nat) {x y : Str} {px py sp pt pos : Pos} {k : Nat} (hN : X.N.Nodup) (he : PE X e (tE Y W m)) (hc : X.calm = true := by rfl) (hi : X.N[i]? = some x := by rfl) (hj : X.N[j]? = some y := by rfl)
    (hx : Loc X.env.scope x := by first | exact Or.inl rfl | exact Or.inr rfl) (hy : Loc X.env.scope y := by first | exact Or.inl rfl | exact Or.inr rfl)
    (fx : X.fn x = true ∨ X.env.scope.names.lookup x = some .local := by first | exact .inl rfl | exact .inr rfl) (fy : X.fn y = true ∨ X.env.scope.names.lookup y = some .local := by first | exact .inl rfl | exact .inr rfl)
    (hn : (assignEach [.Starred (.Name x px) sp, .Name y py] X.env).length = 2 := by rfl) (hst : (assignEach [.Starred (.Name x px) sp, .Name y py] X.env).findIdx? (·.1) = some 0 := by rfl)
    (hm : (assignEach [.Starred (.Name x px) sp, .Name y py] X.env).map (·.2) = (assignEach [.Name x px, .Name y py] X.env).map (·.2) := by rfl)
    (hs : swapsWithSole [.Tuple [.Starred (.Name x px) sp, .Name y py] k pt] e pos.line X.env = pure false := by rfl) (hw : swappedStores [.Tuple [.Starred (.Name x px) sp, .Name y py] k pt] e X.env = pure none := by rfl)
    (h1 : (assignEach [.Tuple [.Starred (.Name x px) sp, .Name y py] k pt] X.env).map (·.2) = [assign (.Tuple [.Starred (.Name x px) sp, .Name y py] k pt) X.env] := by rfl)
    (hs1 : (assignEach [.Name x px, .Name y py] X.env).map (·.2) = assign (.Name x px) X.env :: (assignEach [.Name y py] X.env).map (·.2) := by rfl) (hs2 : (assignEach [.Name y py] X.env).map (·.2) = assign (.Name y py) X.env :: (assignEach [] X.env).map (·.2) := by rfl)
    (hK : X.K = Y.M.K := by rfl) : PS X (.Assign [.Tuple [.Starred (.Name x px) sp, .Name y py] k pt] e pos) (tS Y W (nStar i j m)) := by
  have hg := pg_star (X := X) (pos := pt) (k := k) (sp := sp) hc (pgs_cons (pg_name (i := i) (pos := px) hN hi hx fx) (pgs_cons (pg_name (i := j) (pos := py) hN hj hy fy) pgs_nil hs2) hs1) hn hst hm
  refine PS.imp (ps_asg he hg hs hw h1) fun D σ H ⟨gh, s, C, rs, R, f⟩ => tS_bind rs R f fun t g1 C1 H1 v e1 rs1 R1 rv f1 => ?_
  have q := R1.rr rv
  unfold starR at f1
  split at f1
  · rename_i ts ht
    rw [ht] at q
    split at f1
    · rename_i z hz
      obtain ⟨us, rfl⟩ : ∃ us, ts = us ++ [z] := by
        rw [List.getLast?_eq_some_iff] at hz
        exact hz
      rw [List.dropLast_concat] at f1
      obtain ⟨a, vs, rfl, ha, r⟩ := q
      obtain ⟨ws, w, rfl, r1, r2⟩ := r.snoc
      refine ⟨a, ws, w, rfl, .of ha, fun p hp => ?_⟩
      obtain ⟨R2, e2⟩ := R1.addB (o := .lst ws) (Same.upd hp) hp upd_same
      have rl : RV Y.M (g1.keep p (.lst ws)) (.lst us) (.ref p) := .lst (by show upd g1.B p _ p = _; exact upd_same) (r1.mono e2)
      exact ⟨.ref p, [w], rfl, w, [], rfl, rfl, f1 _ _ _ e2 R2 (((rs1.mono e2).set rl).set (r2.mono e2))⟩
    · exact f1.elim
  · exact f1.elim
end
end FH
/-! GcF: methods and classes by their bodies; the facts of a head. -/
namespace FH
open PySem L2
open PySem.Spec PyProof.Rows
open ClX (CRead CVal)
/-- where the own classes stand -/
def clOf (K : PySem.W.Frag) (x : Str) : Option Addr := match PySem.W.nsIn K mainGlobals x with
  | some (some (.ref C)) => some C
  | _ => none
theorem clOf_at {K : PySem.W.Frag} {x : Str} {A : Addr} (h : PySem.W.nsIn K mainGlobals x = some (some (.ref A))) : clOf K x = some A := by unfold clOf; rw [h]
/-- the j-th row of the class that stands as the i-th row -/
def clS (st : Stmt) (j : Nat) : Stmt := inClass st j
/-- a method as the head tells it: A its class -/
structure DM (K : PySem.W.Frag) (A : Addr) (m q : Str) (st : Stmt) : Prop where
  ex : ∃ (f : Addr) (oc : Value) (od an : Option Addr) (osl : Array (Option Value)) (kV doc pm cdv ct : Value), PySem.W.findIn K (.ref A) m = some (some (.ref f)) ∧ PySem.W.isFn K (.ref f) = true ∧
    K.lookup f = some ⟨oc, od, .func (PySem.W.fnOf m q (defArgs st) (defBody st) (defScope st) .none kV doc pm an cdv ct), osl⟩ ∧ PySem.W.codeIn K cdv q = true ∧ PySem.W.keepIn K (.ref f) = true
theorem dm_mk {K : PySem.W.Frag} {A : Addr} {m q : Str} {st : Stmt} {f : Addr} {oc : Value} {od an : Option Addr} {osl : Array (Option Value)} {kV doc pm cdv ct : Value} (a : PySem.W.findIn K (.ref A) m = some (some (.ref f))) (i : PySem.W.isFn K (.ref f) = true)
    (l : K.lookup f = some ⟨oc, od, .func (PySem.W.fnOf m q (defArgs st) (defBody st) (defScope st) .none kV doc pm an cdv ct), osl⟩) (c : PySem.W.codeIn K cdv q = true) (k : PySem.W.keepIn K (.ref f) = true) : DM K A m q st :=
  ⟨f, oc, od, an, osl, kV, doc, pm, cdv, ct, a, i, l, c, k⟩
theorem DM.fnIn {K : PySem.W.Frag} {A : Addr} {m q : Str} {st : Stmt} (d : DM K A m q st) : ∀ f, PySem.W.findIn K (.ref A) m = some (some (.ref f)) → PySem.W.fnIn K f = true := fun f h => by
  obtain ⟨f', oc, od, an, osl, kV, doc, pm, cdv, ct, a, i, l, c, kp⟩ := d.ex
  rw [a] at h
  cases h
  unfold PySem.W.fnIn
  rw [l]
/-- arguments of a method without defaults -/
def PosM (x q : Str) (st : Stmt) (ps : List Str) : Prop := ∀ (kV doc pm : Value) (an : Option Addr) (cdv ct : Value) (us : List Value), us.length = ps.length → bindArgs (PySem.W.fnOf x q (defArgs st) (defBody st) (defScope st) .none kV doc pm an cdv ct) ⟨us, []⟩ = pure (ps.zip us)
/-- a class as the head tells it -/
structure DC (K : PySem.W.Frag) (c : Str) (A : Addr) : Prop where
  at_ : PySem.W.nsIn K mainGlobals c = some (some (.ref A))
  cl : Cls K A
  mks : PySem.W.makesIn K A = true
  kp : PySem.W.keepIn K (.ref A) = true
section
variable {P : Program} {w : World} {Y : Xd} {mg : Str → Option Value} {base h : Heap} {c m q : Str} {st : Stmt} {k : Nat} {N ps : List Str} {F : FM} {b : SM} {A : Addr}
theorem MDef.of (hcl : Y.M.cl c = some A) (d : DM Y.M.K A m q st) (S : FnScope N ps (defScope st)) (hb : PosM m q st ps)
    (ok : ∀ (cdv : Value) (f : Addr) (A : Around) (outer : List Env) (s : Shared) (H : Hp) (E : XK), Rm k (A.deeper (envOfC q (defScope st) s.heap.objs.size f cdv)) →
      PSs (cxOf (L2.CX P w) P w Y.M.K mg base N q (defScope st) f cdv A outer s H E) (defBody st) (tS Y (fun cls d _ H' => E cls d H') b))
    (hF : ∀ ts C, ts.length = ps.length → Lv C (b (st0 N.length ts) C) (F ts C)) : MDef P w Y mg base c m (k + 1) ps F [] := by
  obtain ⟨f, oc, od, an, osl, kV, doc, pm, cdv, ct, a, i, l, c', kp⟩ := d.ex
  have Fu := fun_mk (st := st) l c' kp
  exact ⟨A, f, _, [], [], hcl, ⟨a, i, kp⟩, FnT.of Fu S (fun cdv A outer s H E hr => ok cdv f A outer s H E hr) hF, Fu.binds hb, .nil, .nil⟩
theorem CDef.of (hcl : Y.M.cl c = some A) (C : DC Y.M.K c A) (X : Y.M.K.In h) (G : h.Ns mainGlobals mg) (d : DM Y.M.K A "__init__" q st) (S : FnScope N ps (defScope st)) (hb : PosM "__init__" q st ps)
    (ok : ∀ (cdv : Value) (f : Addr) (A : Around) (outer : List Env) (s : Shared) (H : Hp) (E : XK), Rm k (A.deeper (envOfC q (defScope st) s.heap.objs.size f cdv)) →
      PSs (cxOf (L2.CX P w) P w Y.M.K mg base N q (defScope st) f cdv A outer s H E) (defBody st) (tS Y (fun cls d _ H' => E cls d H') b))
    (hF : ∀ ts C, ts.length = ps.length → Lv C (b (st0 N.length ts) C) (F ts C)) : CDef P w Y mg base c (k + 1) ps F [] := by
  obtain ⟨f, oc, od, an, osl, kV, doc, pm, cdv, ct, a, i, l, c', kp⟩ := d.ex
  have Fu := fun_mk (st := st) l c' kp
  exact ⟨A, f, _, [], [], hcl, PySem.W.mg_of X G C.at_, ⟨C.mks, a, i, C.kp⟩, FnT.of Fu S (fun cdv A outer s H E hr => ok cdv f A outer s H E hr) hF, Fu.binds hb, .nil, .nil⟩
theorem kcls_of (hcl : Y.M.cl c = some A) (C : DC Y.M.K c A) : KCls Y c := fun B h => by rw [hcl] at h; cases h; exact C.cl
theorem kno_of {f : Str} (hcl : Y.M.cl c = some A) (n : PySem.W.findIn Y.M.K (.ref A) f = some none) : KNo Y c f := fun B h => by rw [hcl] at h; cases h; exact n
theorem kfn_of (hcl : Y.M.cl c = some A) (d : DM Y.M.K A m q st) : ∀ B f, Y.M.cl c = some B → PySem.W.findIn Y.M.K (.ref B) m = some (some (.ref f)) → PySem.W.fnIn Y.M.K f = true := fun B f h e => by
  rw [hcl] at h; cases h; exact d.fnIn f e
theorem kis_of (hcl : Y.M.cl c = some A) (C : DC Y.M.K c A) (h1 : PySem.W.findIn Y.M.K (.ref A) "__class__" = some (some (.builtin "object.__class__"))) (h2 : PySem.W.specialIn Y.M.K (.builtin "object.__class__") "__get__" = some (some (.builtin "getset_descriptor.__get__")))
    (h3 : PySem.W.takesIn Y.M.K (.builtin "object.__class__") = some true) (h4 : PySem.W.mroIn Y.M.K A (.type "object") = some true)
    (ic : PySem.W.isClsIn Y.M.K A = true) (ty : PySem.W.typeIn Y.M.K (.ref A) = some (.type "type"))
    (n1 : PySem.W.subIn Y.M.K (.type "NoneType") (.ref A) = some false) (n2 : PySem.W.subIn Y.M.K (.type "bool") (.ref A) = some false) (n3 : PySem.W.subIn Y.M.K (.type "int") (.ref A) = some false) (n4 : PySem.W.subIn Y.M.K (.type "str") (.ref A) = some false) (n5 : PySem.W.subIn Y.M.K (.type "list") (.ref A) = some false) (n6 : PySem.W.subIn Y.M.K (.type "tuple") (.ref A) = some false) (n7 : PySem.W.subIn Y.M.K (.type "dict") (.ref A) = some false) : KIs Y c := by
  refine ⟨kcls_of hcl C, fun B h => ?_, h2, h3, fun B h => ?_, fun B h n hn => ?_⟩
  · rw [hcl] at h; cases h; exact h1
  · rw [hcl] at h; cases h; exact h4
  · rw [hcl] at h
    cases h
    have q : ∀ n, PySem.W.kitOne Y.M.K (.type n) (.ref A) = PySem.W.subIn Y.M.K (.type n) (.ref A) := fun n => (if_neg (by simp)).trans (if_pos (by rw [show (PySem.W.clsIn Y.M.K A).isSome = true from ic, ty]; rfl))
    rw [q]
    simp only [List.mem_cons, List.not_mem_nil, or_false] at hn
    rcases hn with rfl | rfl | rfl | rfl | rfl | rfl | rfl <;> assumption
theorem kcon_of {f : Str} {t : TV} {v : V} {u mc : Value} (hcl : Y.M.cl c = some A) (h1 : PySem.W.readsIn Y.M.K A mc = true) (h2 : PySem.W.specialIn Y.M.K (.ref A) "__getattribute__" = some (some (.builtin "type.__getattribute__")))
    (h3 : PySem.W.findCls Y.M.K (.ref A) mc f = some (.val u)) (r : RelV v u) (d : DV t v) : KCon Y c f t := ⟨fun B h => by rw [hcl] at h; cases h; exact ⟨mc, v, u, ⟨h1, h2⟩, ⟨h3, r⟩, d⟩⟩
end
end FH
/-! GcG: own exceptions raised. -/
namespace FH
open PySem L2
open PySem.Spec PyProof.Rows
open ClX (CRead CVal getcval_ok)
/-! ### an own exception without arguments -/
section
variable {C : Addr} {X : Cx} {B newId initId : String} {bmB : List Value}
theorem pmk_own0 {x : Str} {p pos : Pos} (F : ExcBaseFacts B newId initId bmB) (q : PySem.W.excIn X.K C bmB newId = true) (gC : X.mg x = some (.ref C)) (kC : PySem.W.keepIn X.K (.ref C) = true) (r : Raises X (.ref C)) (hg : Gl X x)
    (hdb : (x == ("__debug__" : Str)) = false := by decide) : PMk X (.Call (.Name x p) [] [] pos) (fun _ H Q => Q (.ref C) none H) := by
  intro pins s σ H Q I h
  refine wpAny_Call_Name_kw (ld_glob I hg gC ?_ hdb)
  refine PySem.W.callWith_K0 (first := []) I.kIn kC ?_
  show wpAny _ _ (call (.ref C) []) _ _ _
  obtain ⟨bm, N, nm, qn, bs, hdct, sn, sub, ab, col, dd, k0, k1, k2, k3, k5, mN, hC, hN, hni, T⟩ := exc_obj I.kIn q
  exact wpAny_call_exc_subT F T hC hN hni (fun h' e hm => mk_of I hm r h (I.hok.gone hm.new)) (by simp)
end
/-- an own exception class without own __init__ -/
structure EDef0 (Y : Xd) (mg : Str → Option Value) (c : Str) : Prop where
  ex : ∃ A, Y.cx c = some (.ref A) ∧ mg c = some (.ref A) ∧ PySem.W.excIn Y.M.K A [.type "ValueError", .type "Exception", .type "BaseException", .type "object"] "ValueError.__new__" = true ∧ PySem.W.keepIn Y.M.K (.ref A) = true ∧
    PySem.W.subIn Y.M.K (.ref A) (.type "BaseException") = some true ∧ PySem.W.typeIn Y.M.K (.ref A) = some (.type "type")
def nRaise0 (c : Str) : SM := fun s C => .exc ⟨c, []⟩ s C
section
variable {X : Cx} {Y : Xd} {W : WX} {c f : Str} {e : Expr} {p pos rpos : Pos} {m : EM TV}
theorem ss_raise0 (D : EDef0 Y X.mg c) (tk : Takes X W) (hc : X.calm = true := by rfl) (hK : X.K = Y.M.K := by rfl) (hg : Gl X c := by rfl) (hdb : (c == ("__debug__" : Str)) = false := by decide) :
    PS X (.Raise (some (.Call (.Name c p) [] [] pos)) none rpos) (tS Y W (nRaise0 c)) := by
  obtain ⟨A, hx, hm, he, hk, hs, ht⟩ := D.ex
  refine PS.imp (ps_raise hc tk (pmk_own0 PySem.F.excBase_ValueError (by rw [hK]; exact he) hm (by rw [hK]; exact hk) (raises_own (by rw [hK]; exact hs) (by rw [hK]; exact ht)) hg hdb)) fun D σ H ⟨g, s, C, rs, R, f0⟩ => ?_
  exact f0 g H σ (.ref A) none (Ext.refl g) R rs ⟨hx, .inl ⟨rfl, rfl⟩⟩
end
/-! ### an own exception with a field -/
/-- a text in an f-string: an int of a size that can be told -/
def okErr : Bool → TV → Bool
  | false, _ => true
  | true, .int i => decide (i.natAbs.log2 < 1920)
  | true, _ => false
def spErr (K : PySem.W.Frag) (C : Addr) (f : Str) (b : Bool) : Sp := fun vs H Q _ => ∃ (a : Addr) (v : V), vs = [.ref a, v] ∧ OexC K C ∧ PySem.W.findIn K (.ref C) f = some none ∧ H a = some (exo a C none) ∧ (b = true → ∃ i : Int, v = .int i ∧ i.natAbs.log2 < 1920) ∧
  ∀ dx, H dx = none → dx ≠ a → Q .non (upd (upd H dx (exd dx [(f, v)])) a (exo a C (some dx)))
/-- an own exception class whose __init__ keeps one field -/
structure EDef1 (P : Program) (w : World) (Y : Xd) (mg : Str → Option Value) (base : Heap) (c f : Str) (b : Bool) (p : Str) : Prop where
  ex : ∃ (A fI : Addr) (fd : FuncData), Y.cx c = some (.ref A) ∧ mg c = some (.ref A) ∧ OexC Y.M.K A ∧ PySem.W.findIn Y.M.K (.ref A) f = some none ∧ PySem.W.findIn Y.M.K (.ref A) "__init__" = some (some (.ref fI)) ∧ PySem.W.typeIn Y.M.K (.ref fI) = some (.type "function") ∧
    FnOk P w Y.M.K mg base (L2.CX P w) 1 fI fd ["self", p] (spErr Y.M.K A f b) ∧ Binds Y.M.K fd ["self", p] []
def raR (c f : Str) (b : Bool) (s : Slots) (C : Tab) (t : TV) : SR := if okErr b t = true then .exc ⟨c, [(f, t)]⟩ s C else .stuck
def nRaise1 (c f : Str) (b : Bool) (m : EM TV) : SM := fun s C => (m s C).sr s fun t C1 => raR c f b s C1 t
section
variable {X : Cx} {Y : Xd} {W : WX} {c f : Str} {e : Expr} {p pos rpos : Pos} {m : EM TV} {b : Bool} {pn : Str}
theorem ss_raise1 (D : EDef1 X.prog X.w Y X.mg X.base c f b pn) (hr : Rm 2 X.A) (tk : Takes X W) (he : PE X e (tE Y W m)) (hc : X.calm = true := by rfl) (hK : X.K = Y.M.K := by rfl) (hg : Gl X c := by rfl) (hdb : (c == ("__debug__" : Str)) = false := by decide)
    (hst : starEach (e :: []) X.env = (false, eval e X.env) :: starEach [] X.env := by rfl) (hpl : (backTo pos (starEach [] X.env)).any (·.1) = false := by rfl) :
    PS X (.Raise (some (.Call (.Name c p) [e] [] pos)) none rpos) (tS Y W (nRaise1 c f b m)) := by
  obtain ⟨A, fI, fd, hx, hm, T, hno, hi, ht, F, hb⟩ := D.ex
  refine PS.imp (ps_raise hc tk (pmk_oex (X := X) (p := p) (pos := pos) (hK ▸ T) (by rw [hK]; exact hi) (by rw [hK]; exact ht) (hK ▸ F) hr.room (by rw [hK]; exact hb) .nil (passes_call tk fun _ _ _ _ h => h.elim) hg hm (pa_cons he pa_nil hst) hdb hst hpl)) fun D σ H ⟨g, s, C, rs, R, f0⟩ => ?_
  refine tS_bind rs R f0 fun t g1 C1 H1 v e1 rs1 R1 rv f1 => ?_
  unfold raR at f1
  split at f1
  · rename_i hok
    refine ⟨by simp, fun a ha => ⟨a, v, rfl, hK ▸ T, by rw [hK]; exact hno, upd_same, fun hbt => ?_, fun dx hdx ne => ?_⟩⟩
    · subst hbt
      cases t <;> first | (cases hok; done) | skip
      rename_i i
      cases rv
      exact ⟨i, rfl, of_decide_eq_true hok⟩
    · have hdx1 : H1 dx = none := by rw [upd_ne ne] at hdx; exact hdx
      refine ⟨rfl, dx, [(f, v)], upd_same, by rw [upd_ne ne, upd_same], hdx1, ?_⟩
      have eH : upd (del (upd (upd (upd H1 a (exo a A none)) dx (exd dx [(f, v)])) a (exo a A (some dx))) a) dx (.xd [(f, v)]) = upd H1 dx (.xd [(f, v)]) := by
        funext z
        by_cases h1 : z = dx
        · subst h1; rw [upd_same, upd_same]
        · rw [upd_ne h1, upd_ne h1]
          by_cases h2 : z = a
          · subst h2; rw [del_same]; exact ha.symm
          · rw [del_ne h2, upd_ne h2, upd_ne h1, upd_ne h2]
      rw [eH]
      obtain ⟨R2, e2⟩ := R1.addB (o := .xd [(f, v)]) (Same.upd hdx1) hdx1 upd_same
      exact f1 _ _ σ (.ref A) (some dx) e2 R2 (rs1.mono e2) ⟨hx, .inr ⟨dx, [(f, v)], rfl, by show upd g1.B dx _ dx = _; exact upd_same, .cons (rv.mono e2) .nil⟩⟩
  · exact f1.elim
end
/-! ### HomeError.__init__(self, ..) -/
section
variable {X : Cx} {e : Expr} {es : List Expr} {ta : TA} {x : Str} {p1 p2 pos : Pos} {C : Addr}
theorem pe_heinit {pl : Sem Bool} (hg : Gl X x) (hm : X.mg x = some (.ref C)) (r1 : PySem.W.readsIn X.K C (.type "type") = true) (r2 : PySem.W.specialIn X.K (.ref C) "__getattribute__" = some (some (.builtin "type.__getattribute__")))
    (vV : PySem.W.findCls X.K (.ref C) (.type "type") "__init__" = some (.val (.builtin "ValueError.__init__"))) (ha : PA X (e :: es) ta) (hd : (x == ("__debug__" : Str)) = false := by decide)
    (hc : eval (.Call (.Attribute (.Name x p1) "__init__" p2) (e :: es) [] pos) X.env = (do
      let ov ← eval (.Name x p1) X.env
      standAt p2.atName
      let (fn, fst) ← holding [ov] (getMethod ov "__init__" pl); callWith pos fn fst (backTo pos (starEach (e :: es) X.env)) (backToKw pos (keywordEach [] X.env))) := by rfl)
    (he : starEach (e :: es) X.env = (false, eval e X.env) :: starEach es X.env := by rfl) (hpl : (backTo pos (starEach es X.env)).any (·.1) = false := by rfl) :
    PE X (.Call (.Attribute (.Name x p1) "__init__" p2) (e :: es) [] pos) (tVeI X.K ta) := by
  refine ⟨fun pins s σ H Q I h => ?_⟩
  refine PySem.W.methodCall_KW (pl := pl) (ld_glob I hg hm ?_ hd) hc
  refine PySem.W.method_cls I.kIn r2 (PySem.W.cls_value I.kIn r1 vV rfl ?_)
  have I' := I.tok (s.toks + 1)
  refine PyProof.Rows.callWith_method1 (thn (ha.run pos pins _ σ H _ I' h) fun us s1 ⟨vs, H1, I1, q1, a, A, ws, ev, hl, T, ea, q⟩ => ?_) he hpl
  subst ev
  cases q1 with
  | @cons _ u0 _ ur ra rw' =>
    have eu : u0 = Value.ref a := ra
    subst eu
    have hlen : ur.length ≤ sizeLine := by rw [← Paired.length rw', sizeLine_eq]; omega
    refine oinit_ok T I1 ea hlen ?_
    exact fun s2 J => ⟨.non, H1, J, rfl, q⟩
end
end FH
/-! GcH: try .. except. -/
namespace FH
open PySem L2
open PySem.Spec PyProof.Rows
/-- which exceptions a clause takes -/
abbrev Tk := List (Str × Bool)
structure KTk (Y : Xd) (mg : Str → Option Value) (c : Str) (tb : Tk) : Prop where
  ex : ∃ A, mg c = some (.ref A) ∧ ∀ x b, tb.lookup x = some b → ∀ cls, Y.cx x = some cls → PySem.W.exmOne Y.M.K cls (.ref A) = some b
def noxS : SR → SR
  | .exc _ _ _ => .stuck
  | r => r
/-- try: body / except c: suite -/
def tryR (tb : Tk) (h : SM) : SR → SR
  | .exc x s C => match tb.lookup x.c with
    | some true => noxS (h s C)
    | some false => .exc x s C
    | none => .stuck
  | r => r
def nTry (tb : Tk) (b h : SM) : SM := fun s C => tryR tb h (b s C)
theorem noxS_fin {Y : Xd} {g : Gh} {W W' : WX} {D : Ends} {r : SR} (f : SFin Y g W D (noxS r)) : SFin Y g W' D r := by
  cases r <;> first | exact f | exact f.elim
section
variable {X : Cx} {Y : Xd} {W : WX} {c x n f : Str} {tb : Tk} {body suite : List Stmt} {b0 : Stmt} {np pos pos' : Pos} {b h : SM} {i : Nat}
theorem ss_try (kt : KTk Y X.mg c tb) (tk : Takes X W) (hs : X.stack = X.env :: X.outer) (hf : X.env.frame = some X.env.locals) (hg : Gl X c) (hdb : (c == ("__debug__" : Str)) = false)
    (hb : ∀ (W' : WX) (pn : List (Addr × Obj)) (xe : Value → Shared → Prop), Takes (X.tr pn xe) W' → PassesOwn (model X.prog X.w) X.A X.env xe → PSs (X.tr pn xe) body (tS Y W' b))
    (hh : ∀ (a : Addr) (oe : Obj) (pn : List (Addr × Obj)), PSs (X.suite a ((a, oe) :: pn)) (b0 :: suite) (tS Y W0 h)) (hK : X.K = Y.M.K := by rfl) :
    PS X (.Try body [.ExceptHandler (some (.Name c np)) none (b0 :: suite) pos'] [] [] pos) (tS Y W (nTry tb b h)) := by
  obtain ⟨A, hm, he⟩ := kt.ex
  refine PS.imp (ps_try_only hs hf (c := .ref A) ⟨hg, hdb, .inl hm⟩ tk hb fun a oe cls d pn _ _ => hh a oe pn) fun D σ H ⟨g, s, C, rs, R, f0⟩ => ?_
  refine ⟨g, s, C, rs, R, ?_⟩
  unfold nTry at f0
  cases hq : b s C with
  | exc x0 s1 C1 =>
    rw [hq] at f0
    intro g' H' σ' cls d e R1 rs1 rx
    unfold tryR at f0
    dsimp only at f0
    cases hl : tb.lookup x0.c with
    | none => rw [hl] at f0; exact f0.elim
    | some bb =>
      rw [hl] at f0
      refine ⟨bb, by rw [hK]; exact he _ _ hl _ rx.1, fun hbt a ha => ?_, fun hbf => ?_⟩
      · subst hbt
        exact ⟨g', s1, C1, rs1, R1, SFin.ext e (noxS_fin f0)⟩
      · subst hbf
        exact f0 g' H' σ' cls d e R1 rs1 rx
  | nx s1 C1 => rw [hq] at f0; exact f0
  | rt t C1 => rw [hq] at f0; exact f0
  | bk s1 C1 => rw [hq] at f0; exact f0
  | ct s1 C1 => rw [hq] at f0; exact f0
  | stuck => rw [hq] at f0; exact f0
/-! ### except c as n: one row -/
/-- the row's meaning, by the exception -/
abbrev HM := Exc → SM
def tryF (tb : Tk) (i : Nat) (h : HM) : SR → SR
  | .exc x s C => match tb.lookup x.c with
    | some true => if i < s.length then noxS (h x (s.set i none) C) else .stuck
    | some false => .exc x s C
    | none => .stuck
  | r => r
def nTryF (tb : Tk) (i : Nat) (b : SM) (h : HM) : SM := fun s C => tryF tb i h (b s C)
/-- what the suite of such a clause is to do -/
def tSx (Y : Xd) (i : Nat) (h : HM) (a : Addr) (cls : Value) (d : Option Addr) : TS := fun D σ H => ∃ (x : Exc) (g : Gh) (s : Slots) (C : Tab) (σ0 : L2.St), RX Y g x cls d ∧ σ = σ0.set i (some (.ref a)) ∧ i < σ0.length ∧ RS Y.M g s σ0 ∧ RH Y.M g C H ∧
  SFin Y g W0 D (noxS (h x (s.set i none) C))
theorem RS.wipe1 {M : Md} {g : Gh} {s : Slots} {σ : L2.St} {i : Nat} {v : Option V} (r : RS M g s σ) : RS M g (s.set i none) (σ.set i v) := by
  refine ⟨by simp [r.len], fun j t h => ?_⟩
  by_cases e : i = j
  · subst e
    by_cases hl : i < s.length
    · rw [List.getElem?_set_self hl] at h; cases h
    · rw [List.getElem?_eq_none (by simpa using hl)] at h; cases h
  · rw [List.getElem?_set_ne e] at h ⊢
    exact r.v j t h
/-- the slots behind the suite -/
def unS (i : Nat) : SR → Prop
  | .nx s _ => s[i]? = some none
  | .bk s _ => s[i]? = some none
  | .ct s _ => s[i]? = some none
  | _ => True
theorem RS.behind {M : Md} {g : Gh} {s : Slots} {σ : L2.St} {i : Nat} (r : RS M g s σ) (h : s[i]? = some none) : RS M g s (σ.set i none) := by
  refine ⟨by simp [r.len], fun j t hj => ?_⟩
  have ne : i ≠ j := fun e => by subst e; rw [h] at hj; cases hj
  rw [List.getElem?_set_ne ne]
  exact r.v j t hj
theorem ss_tryF (kt : KTk Y X.mg c tb) (tk : Takes X W) (hs : X.stack = X.env :: X.outer) (hf : X.env.frame = some X.env.locals) (hN : X.N.Nodup) (hi : X.N[i]? = some n) (hln : X.env.kindOf n = some .local) (hg : Gl X c) (hdb : (c == ("__debug__" : Str)) = false) {h : HM}
    (hu : ∀ (x : Exc) (s : Slots) (C : Tab), i < s.length → unS i (h x (s.set i none) C))
    (hb : ∀ (W' : WX) (pn : List (Addr × Obj)) (xe : Value → Shared → Prop), Takes (X.tr pn xe) W' → PassesOwn (model X.prog X.w) X.A X.env xe → PSs (X.tr pn xe) body (tS Y W' b))
    (hh : ∀ (a : Addr) (oe : Obj) (cls : Value) (d : Option Addr) (pn : List (Addr × Obj)), Zc cls d oe → (∃ vs, oe.data = .fields vs) → PSs (X.suite a ((a, oe) :: pn)) (b0 :: suite) (tSx Y i h a cls d)) (hK : X.K = Y.M.K := by rfl) :
    PS X (.Try body [.ExceptHandler (some (.Name c np)) (some n) (b0 :: suite) pos'] [] [] pos) (tS Y W (nTryF tb i b h)) := by
  obtain ⟨A, hm, he⟩ := kt.ex
  refine PS.imp (ps_try_as hs hf hN hi hln (c := .ref A) ⟨hg, hdb, .inl hm⟩ tk hb hh) fun D σ H ⟨g, s, C, rs, R, f0⟩ => ?_
  refine ⟨g, s, C, rs, R, ?_⟩
  unfold nTryF at f0
  cases hq : b s C with
  | exc x0 s1 C1 =>
    rw [hq] at f0
    intro g' H' σ' cls d e R1 rs1 rx
    unfold tryF at f0
    dsimp only at f0
    cases hl : tb.lookup x0.c with
    | none => rw [hl] at f0; exact f0.elim
    | some bb =>
      rw [hl] at f0
      refine ⟨bb, by rw [hK]; exact he _ _ hl _ rx.1, fun hbt a ha => ?_, fun hbf => ?_⟩
      · subst hbt
        dsimp only at f0
        by_cases hil : i < s1.length
        · rw [if_pos hil] at f0
          refine ⟨x0, g', s1, C1, σ', rx, rfl, by rw [← rs1.len]; exact hil, rs1, R1, ?_⟩
          have u := hu x0 s1 C1 hil
          have f1 := SFin.ext e f0
          cases hr : h x0 (s1.set i none) C1 with
          | nx s2 C2 =>
            rw [hr] at f1 u
            exact fun g2 H2 σ2 e2 R2 rs2 => f1 g2 H2 _ e2 R2 (rs2.behind u)
          | rt t C2 => rw [hr] at f1; exact f1
          | bk s2 C2 =>
            rw [hr] at f1 u
            exact fun g2 H2 σ2 e2 R2 rs2 => f1 g2 H2 _ e2 R2 (rs2.behind u)
          | ct s2 C2 =>
            rw [hr] at f1 u
            exact fun g2 H2 σ2 e2 R2 rs2 => f1 g2 H2 _ e2 R2 (rs2.behind u)
          | exc x2 s2 C2 => rw [hr] at f1; exact f1.elim
          | stuck => rw [hr] at f1; exact f1.elim
        · rw [if_neg hil] at f0
          exact f0.elim
      · subst hbf
        exact f0 g' H' σ' cls d e R1 rs1 rx
  | nx s1 C1 => rw [hq] at f0; exact f0
  | rt t C1 => rw [hq] at f0; exact f0
  | bk s1 C1 => rw [hq] at f0; exact f0
  | ct s1 C1 => rw [hq] at f0; exact f0
  | stuck => rw [hq] at f0; exact f0
end
end FH
namespace FH
open PySem L2
open PySem.Spec PyProof.Rows
/-- the field f of a caught c -/
structure EFld (Y : Xd) (c f : Str) : Prop where
  ex : ∀ cls, Y.cx c = some cls → ∃ A, cls = .ref A ∧ XfC Y.M.K A ∧ PySem.W.findIn Y.M.K (.ref A) f = some none
def xfld (c f : Str) (x : Exc) : Option TV := if x.c = c then x.fs.lookup f else none
def appS (k : Nat) (s : Slots) (C : Tab) : Option TV → SR
  | some t => match s[k]? with
    | some (some (.cel j)) => match C[j]? with
      | some (.own (.lst xs)) => if xs.length < sizeLine then .nx s (C.set j (.own (.lst (xs ++ [t])))) else .stuck
      | _ => .stuck
    | _ => .stuck
  | none => .stuck
/-- xs.append(n.f), xs in slot k -/
def hApp (k : Nat) (c f : Str) : HM := fun x s C => appS k s C (xfld c f x)
def setS (k i : Nat) (s : Slots) (C : Tab) : Option TV → SR
  | some t => if k = i then .stuck else .nx (s.set k (some t)) C
  | none => .stuck
/-- x = n.f -/
def hSet (k i : Nat) (c f : Str) : HM := fun x s C => setS k i s C (xfld c f x)
/-- x = ("w", n.f) -/
def hTup (k i : Nat) (w c f : Str) : HM := fun x s C => setS k i s C ((xfld c f x).map fun t => .tup [.str w, t])
theorem get_none {s : Slots} {i : Nat} (h : i < s.length) : (s.set i none)[i]? = some none := List.getElem?_set_self h
theorem un_app {k i : Nat} {c f : Str} : ∀ (x : Exc) (s : Slots) (C : Tab), i < s.length → unS i (hApp k c f x (s.set i none) C) := fun x s C h => by
  unfold hApp appS
  split
  · split
    · split
      · split
        · exact get_none h
        · exact True.intro
      · exact True.intro
    · exact True.intro
  · exact True.intro
theorem un_setS {k i : Nat} {o : Option TV} {s : Slots} {C : Tab} (h : i < s.length) : unS i (setS k i (s.set i none) C o) := by
  unfold setS
  split
  · split
    · exact True.intro
    · rename_i ne
      show ((s.set i none).set k _)[i]? = some none
      rw [List.getElem?_set_ne ne]; exact get_none h
  · exact True.intro
theorem un_set {k i : Nat} {c f : Str} : ∀ (x : Exc) (s : Slots) (C : Tab), i < s.length → unS i (hSet k i c f x (s.set i none) C) := fun _ _ _ h => un_setS h
theorem un_tup {k i : Nat} {w c f : Str} : ∀ (x : Exc) (s : Slots) (C : Tab), i < s.length → unS i (hTup k i w c f x (s.set i none) C) := fun _ _ _ h => un_setS h
section
variable {X : Cx} {Y : Xd} {c f : Str} {i k : Nat} {a : Addr} {oe : Obj} {cls : Value} {d : Option Addr} {pn : List (Addr × Obj)}
/-- what n.f is -/
theorem xf_read {x : Exc} {g : Gh} {C : Tab} {H : Hp} {t : TV} (ef : EFld Y c f) (rx : RX Y g x cls d) (R : RH Y.M g C H) (h : xfld c f x = some t) :
    ∃ A dd ws v, cls = .ref A ∧ XfC Y.M.K A ∧ PySem.W.findIn Y.M.K (.ref A) f = some none ∧ d = some dd ∧ H dd = some (.xd ws) ∧ ws.lookup f = some v ∧ RV Y.M g t v := by
  unfold xfld at h
  split at h
  · rename_i e
    subst e
    obtain ⟨A, rfl, h1, h2⟩ := ef.ex cls rx.1
    rcases rx.2 with ⟨_, q⟩ | ⟨dd, ws, q1, q2, q3⟩
    · rw [q] at h; cases h
    · obtain ⟨v, l, rv⟩ := q3.look h
      exact ⟨A, dd, ws, v, rfl, h1, h2, q1, (R.b dd _ q2).ins rfl, l, rv⟩
  · cases h
/-- n.f in the suite: cls' address is that of its class -/
theorem pe_xfC {n : Str} {np ap : Pos} (hK : X.K = Y.M.K) (hz : Zc cls d oe) (hf : ∃ vs, oe.data = .fields vs) {A : Addr} (T : XfC Y.M.K A) (hno : PySem.W.findIn Y.M.K (.ref A) f = some none) (hi : X.N[i]? = some n) (hv : Vis X.env.scope n)
    (hd : (n == ("__debug__" : Str)) = false) (hcd : (n == ("__classdict__" : Str)) = false) (hb : attributeBase (.Name n np) f X.env (eval (.Name n np) X.env) = eval (.Name n np) X.env) :
    PE (X.suite a ((a, oe) :: pn)) (.Attribute (.Name n np) f ap) (tXf a cls d A f (tVar i)) :=
  pe_xf (hK ▸ T) (by rw [hK]; exact hno) hz hf (pe_var (X := X.suite a ((a, oe) :: pn)) hi hv hd hcd) hb
theorem ss_hApp {n y : Str} {np ap yp bp cp sp : Pos} (ef : EFld Y c f) (hz : Zc cls d oe) (hf : ∃ vs, oe.data = .fields vs) (hi : X.N[i]? = some n) (hv : Vis X.env.scope n) (hk : X.N[k]? = some y) (hvk : Vis X.env.scope y) (hik : i ≠ k) (hK : X.K = Y.M.K := by rfl)
    (hd : (n == ("__debug__" : Str)) = false := by decide) (hcd : (n == ("__classdict__" : Str)) = false := by decide) (hdk : (y == ("__debug__" : Str)) = false := by decide) (hcdk : (y == ("__classdict__" : Str)) = false := by decide)
    (hb : attributeBase (.Name n np) f X.env (eval (.Name n np) X.env) = eval (.Name n np) X.env := by rfl) (hbase : attributeBase (.Name y yp) "append" X.env (eval (.Name y yp) X.env) = eval (.Name y yp) X.env := by rfl)
    (hfew : ((backTo cp (starEach (.Attribute (.Name n np) f ap :: []) X.env)).all (fun x => !x.1) && (backToKw cp (keywordEach [] X.env)).all (fun x => x.1.isSome)
      && decide ((Expr.Attribute (.Name n np) f ap :: []).length + ([] : List Keyword).length + (if ([] : List Keyword).isEmpty then 0 else 1) < 30)) = true := by rfl)
    (hline : (bp.endLine == cp.line) = true := by rfl) (hst : starEach (.Attribute (.Name n np) f ap :: []) X.env = (false, eval (.Attribute (.Name n np) f ap) X.env) :: starEach [] X.env := by rfl) (hpl : (backTo cp (starEach [] X.env)).any (·.1) = false := by rfl)
    (hs : swapsWith (.Call (.Attribute (.Name y yp) "append" bp) [.Attribute (.Name n np) f ap] [] cp) none sp.line X.env = pure false := by rfl) :
    PSs (X.suite a ((a, oe) :: pn)) [.Expr (.Call (.Attribute (.Name y yp) "append" bp) [.Attribute (.Name n np) f ap] [] cp) sp] (tSx Y i (hApp k c f) a cls d) := by
  refine ⟨fun pins s σ H D I q => ?_⟩
  obtain ⟨x, g, sl, C, σ0, rx, eσ, hil, rs, R, f0⟩ := id q
  unfold hApp at f0
  cases hx : xfld c f x with
  | none => rw [hx] at f0; exact f0.elim
  | some t =>
    rw [hx] at f0
    obtain ⟨A, dd, ws, v, rfl, T, hno, rfl, hdd, hl, rv⟩ := xf_read ef rx R hx
    have P := pss_one (ps_expr (pos := sp) (pe_bm (X := X.suite a ((a, oe) :: pn)) (apos := bp) (cpos := cp) F.plainAttrs_list F.slot_list_append F.type_list_append mt_append (pe_var (X := X.suite a ((a, oe) :: pn)) (pos := yp) hk hvk hdk hcdk) (pa_cons (pe_xfC (np := np) (ap := ap) (i := i) hK hz hf T hno hi hv hd hcd hb) pa_nil hst) hbase hfew hline hst hpl) hs)
    refine P.run pins s σ H D I ?_
    unfold appS at f0
    dsimp only at f0
    have ge : (sl.set i none)[k]? = sl[k]? := List.getElem?_set_ne hik
    rw [ge] at f0
    split at f0
    · rename_i j hsk
      split at f0
      · rename_i xs hc
        split at f0
        · rename_i hlen
          obtain ⟨w, hw, rw'⟩ := rs.v k _ hsk
          cases rw' with
          | cel hj =>
            obtain ⟨o, h1, ⟨vs, rfl, r⟩, _⟩ := R.c j _ hc
            subst eσ
            refine ⟨_, by rw [List.getElem?_set_ne hik]; exact hw, tyL_ok (X := X) hK R (.cel hj) (by unfold tyL; rw [rd_cel, hc]; rfl), ⟨.ref a, by rw [List.getElem?_set_self hil], rfl, rfl, dd, ws, v, rfl, hdd, hl, ?_⟩⟩
            exact ⟨_, vs, v, rfl, rfl, h1, by rw [← r.length]; exact hlen, f0 g _ _ (Ext.refl g) (R.wr hc (RN.lst (r.append (.cons rv .nil)))) rs.wipe1⟩
        · exact f0.elim
      · exact f0.elim
    · exact f0.elim
end
end FH
namespace FH
open PySem L2
open PySem.Spec PyProof.Rows
section
variable {X : Cx} {Y : Xd} {c f w : Str} {i k : Nat} {a : Addr} {oe : Obj} {cls : Value} {d : Option Addr} {pn : List (Addr × Obj)}
theorem ss_hSet {n y : Str} {np ap yp sp : Pos} (ef : EFld Y c f) (hz : Zc cls d oe) (hf : ∃ vs, oe.data = .fields vs) (hN : X.N.Nodup) (hi : X.N[i]? = some n) (hv : Vis X.env.scope n) (hk : X.N[k]? = some y) (hvk : Loc X.env.scope y) (hK : X.K = Y.M.K := by rfl)
    (hd : (n == ("__debug__" : Str)) = false := by decide) (hcd : (n == ("__classdict__" : Str)) = false := by decide)
    (hb : attributeBase (.Name n np) f X.env (eval (.Name n np) X.env) = eval (.Name n np) X.env := by rfl) (hs : swapsWith (.Attribute (.Name n np) f ap) (some (.Name y yp)) sp.line X.env = pure false := by rfl)
    (hfn : X.fn y = true ∨ X.env.scope.names.lookup y = some .local := by first | exact .inl rfl | exact .inr rfl) :
    PSs (X.suite a ((a, oe) :: pn)) [.Assign [.Name y yp] (.Attribute (.Name n np) f ap) sp] (tSx Y i (hSet k i c f) a cls d) := by
  refine ⟨fun pins s σ H D I q => ?_⟩
  obtain ⟨x, g, sl, C, σ0, rx, eσ, hil, rs, R, f0⟩ := id q
  unfold hSet at f0
  cases hx : xfld c f x with
  | none => rw [hx] at f0; exact f0.elim
  | some t =>
    rw [hx] at f0
    obtain ⟨A, dd, ws, v, rfl, T, hno, rfl, hdd, hl, rv⟩ := xf_read ef rx R hx
    have P := pss_one (ps_set (X := X.suite a ((a, oe) :: pn)) (pos := sp) (pos' := yp) hN hk hvk (pe_xfC (np := np) (ap := ap) (i := i) hK hz hf T hno hi hv hd hcd hb) hs hfn)
    refine P.run pins s σ H D I ?_
    unfold setS at f0
    dsimp only at f0
    split at f0
    · exact f0.elim
    · rename_i ne
      subst eσ
      refine ⟨.ref a, by rw [List.getElem?_set_self hil], rfl, rfl, dd, ws, v, rfl, hdd, hl, ?_⟩
      exact f0 g H _ (Ext.refl g) R (rs.wipe1.set rv)
theorem ss_hTup {n y : Str} {np ap yp sp tp cp : Pos} {kd : Nat} {ck : Nat} (ef : EFld Y c f) (hz : Zc cls d oe) (hf : ∃ vs, oe.data = .fields vs) (hN : X.N.Nodup) (hi : X.N[i]? = some n) (hv : Vis X.env.scope n) (hk : X.N[k]? = some y) (hvk : Loc X.env.scope y) (hK : X.K = Y.M.K := by rfl)
    (hd : (n == ("__debug__" : Str)) = false := by decide) (hcd : (n == ("__classdict__" : Str)) = false := by decide)
    (hb : attributeBase (.Name n np) f X.env (eval (.Name n np) X.env) = eval (.Name n np) X.env := by rfl) (hs : swapsWith (.Tuple [.Constant (.str w) ck cp, .Attribute (.Name n np) f ap] kd tp) (some (.Name y yp)) sp.line X.env = pure false := by rfl)
    (h1 : starEach [.Constant (.str w) ck cp, .Attribute (.Name n np) f ap] X.env = (false, eval (.Constant (.str w) ck cp) X.env) :: starEach [.Attribute (.Name n np) f ap] X.env := by rfl) (h2 : starEach [.Attribute (.Name n np) f ap] X.env = (false, eval (.Attribute (.Name n np) f ap) X.env) :: starEach [] X.env := by rfl)
    (hfn : X.fn y = true ∨ X.env.scope.names.lookup y = some .local := by first | exact .inl rfl | exact .inr rfl) :
    PSs (X.suite a ((a, oe) :: pn)) [.Assign [.Name y yp] (.Tuple [.Constant (.str w) ck cp, .Attribute (.Name n np) f ap] kd tp) sp] (tSx Y i (hTup k i w c f) a cls d) := by
  refine ⟨fun pins s σ H D I q => ?_⟩
  obtain ⟨x, g, sl, C, σ0, rx, eσ, hil, rs, R, f0⟩ := id q
  unfold hTup at f0
  cases hx : xfld c f x with
  | none => rw [hx] at f0; exact f0.elim
  | some t =>
    rw [hx] at f0
    obtain ⟨A, dd, ws, v, rfl, T, hno, rfl, hdd, hl, rv⟩ := xf_read ef rx R hx
    have P := pss_one (ps_set (X := X.suite a ((a, oe) :: pn)) (pos := sp) (pos' := yp) hN hk hvk (pe_tup (X := X.suite a ((a, oe) :: pn)) (x1 := kd) (pos := tp) (pa_cons pe_str (pa_cons (pe_xfC (np := np) (ap := ap) (i := i) hK hz hf T hno hi hv hd hcd hb) pa_nil h2) h1)) hs hfn)
    refine P.run pins s σ H D I ?_
    unfold setS at f0
    simp only [Option.map_some] at f0
    split at f0
    · exact f0.elim
    · rename_i ne
      subst eσ
      refine ⟨.ref a, by rw [List.getElem?_set_self hil], rfl, rfl, dd, ws, v, rfl, hdd, hl, by rw [sizeLine_eq]; simp, fun p hp => ?_⟩
      obtain ⟨R2, e2⟩ := R.addB (o := .tup [.str w, v]) (Same.upd hp) hp upd_same
      exact f0 _ _ _ e2 R2 ((rs.mono e2).wipe1.set (.tup (by show upd g.B p _ p = _; exact upd_same) (.cons .str (.cons (rv.mono e2) .nil))))
end
end FH
/-! GcI: the head's facts of exceptions. -/
namespace FH
open PySem L2
open PySem.Spec PyProof.Rows
def cxOf' (K : PySem.W.Frag) (x : Str) : Option Value := (clOf K x).map Value.ref
theorem cx_at {K : PySem.W.Frag} {x : Str} {A : Addr} (h : PySem.W.nsIn K mainGlobals x = some (some (.ref A))) : cxOf' K x = some (.ref A) := by unfold cxOf'; rw [clOf_at h]; rfl
/-- an exception class as the head tells it -/
structure DE (K : PySem.W.Frag) (c : Str) (A : Addr) : Prop where
  at_ : PySem.W.nsIn K mainGlobals c = some (some (.ref A))
  kp : PySem.W.keepIn K (.ref A) = true
  sb : PySem.W.subIn K (.ref A) (.type "BaseException") = some true
  ty : PySem.W.typeIn K (.ref A) = some (.type "type")
  ic : PySem.W.isClsIn K A = true
theorem exm_is {K : PySem.W.Frag} {c : Str} {A : Addr} {v : Value} {b : Bool} (d : DE K c A) (h : PySem.W.subIn K v (.ref A) = some b) : PySem.W.exmOne K v (.ref A) = some b := by
  unfold PySem.W.exmOne
  rw [if_pos (by rw [d.sb]; rfl)]
  unfold PySem.W.kitCls
  dsimp only
  rw [if_pos (by rw [show (PySem.W.clsIn K A).isSome = true from d.ic, d.ty]; rfl)]
  exact h
section
variable {P : Program} {w : World} {Y : Xd} {mg : Str → Option Value} {base h : Heap} {c f p : Str} {A fI : Addr} {fd : FuncData} {b : Bool}
theorem edef0_of (hx : Y.cx c = some (.ref A)) (X : Y.M.K.In h) (G : h.Ns mainGlobals mg) (d : DE Y.M.K c A) (e : PySem.W.excIn Y.M.K A [.type "ValueError", .type "Exception", .type "BaseException", .type "object"] "ValueError.__new__" = true) : EDef0 Y mg c :=
  ⟨A, hx, PySem.W.mg_of X G d.at_, e, d.kp, d.sb, d.ty⟩
theorem edef1_of (hx : Y.cx c = some (.ref A)) (X : Y.M.K.In h) (G : h.Ns mainGlobals mg) (d : DE Y.M.K c A) (o : OexC Y.M.K A) (hno : PySem.W.findIn Y.M.K (.ref A) f = some none) (hi : PySem.W.findIn Y.M.K (.ref A) "__init__" = some (some (.ref fI)))
    (ht : PySem.W.typeIn Y.M.K (.ref fI) = some (.type "function")) (F : FnOk P w Y.M.K mg base (L2.CX P w) 1 fI fd ["self", p] (spErr Y.M.K A f b)) (hb : Binds Y.M.K fd ["self", p] []) : EDef1 P w Y mg base c f b p :=
  ⟨A, fI, fd, hx, PySem.W.mg_of X G d.at_, o, hno, hi, ht, F, hb⟩
theorem efld_of (hx : Y.cx c = some (.ref A)) (ga : PySem.W.findIn Y.M.K (.ref A) "__getattribute__" = some (some (.builtin "BaseException.__getattribute__"))) (gg : PySem.W.findIn Y.M.K (.ref A) "__getattr__" = some none) (d : DE Y.M.K c A) (hd : PySem.W.hasDictIn Y.M.K A = true)
    (hno : PySem.W.findIn Y.M.K (.ref A) f = some none) : EFld Y c f := ⟨fun cls h => by rw [hx] at h; cases h; exact ⟨A, rfl, ⟨ga, gg, d.sb, hd⟩, hno⟩⟩
theorem ktk_of {tb : Tk} (X : Y.M.K.In h) (G : h.Ns mainGlobals mg) (d : DE Y.M.K c A) (ht : ∀ x b, tb.lookup x = some b → ∃ v, Y.cx x = some v ∧ PySem.W.subIn Y.M.K v (.ref A) = some b) : KTk Y mg c tb :=
  ⟨A, PySem.W.mg_of X G d.at_, fun x b hl cls hc => by
    obtain ⟨v, hv, hs⟩ := ht x b hl
    rw [hv] at hc
    cases hc
    exact exm_is d hs⟩
theorem tb_nil {A : Addr} : ∀ (x : Str) (b : Bool), ([] : Tk).lookup x = some b → ∃ v, Y.cx x = some v ∧ PySem.W.subIn Y.M.K v (.ref A) = some b := fun x b h => by cases h
theorem tb_cons {A : Addr} {y : Str} {k : Bool} {r : Tk} {v : Value} (hx : Y.cx y = some v) (hs : PySem.W.subIn Y.M.K v (.ref A) = some k) (ht : ∀ x b, r.lookup x = some b → ∃ v, Y.cx x = some v ∧ PySem.W.subIn Y.M.K v (.ref A) = some b) :
    ∀ (x : Str) (b : Bool), (((y, k) :: r) : Tk).lookup x = some b → ∃ v, Y.cx x = some v ∧ PySem.W.subIn Y.M.K v (.ref A) = some b := fun x b h => by
  rw [List.lookup_cons] at h
  by_cases e : (x == y) = true
  · rw [e] at h
    cases h
    rw [beq_iff_eq] at e
    subst e
    exact ⟨v, hx, hs⟩
  · rw [Bool.not_eq_true] at e
    rw [e] at h
    exact ht x b h
end
/-- the message of an error with an int in it -/
theorem msg_fits {a b : Str} {i : Int} (ha : a.length ≤ 100) (hb : b.length ≤ 100) (hi : i.natAbs.log2 < 1920) : (Str.empty ++ a).length ≤ sizeLine ∧ (Str.empty ++ a ++ (toString i : Str)).length ≤ sizeLine ∧ (Str.empty ++ a ++ (toString i : Str) ++ b).length ≤ sizeLine := by
  have h1 := PyProof.Rows.int_text_len_1921 hi
  have h0 : ∀ x y : Str, (x ++ y).length = x.length + y.length := fun x y => by
    show (x.cps ++ y.cps).size = x.cps.size + y.cps.size
    exact Array.size_append
  have h2 : Str.empty.length = 0 := rfl
  refine ⟨?_, ?_, ?_⟩
  · rw [h0, h2, sizeLine_eq]; omega
  · rw [h0, h0, h2, sizeLine_eq]; omega
  · rw [h0, h0, h0, h2, sizeLine_eq]; omega
end FH
/-! GcJ: own >> with a value of another type. -/
namespace FH
open PySem L2
open PySem.Spec PyProof.Rows
theorem noL_T : ∀ T ∈ ["NoneType", "str", "list", "tuple", "dict"], typeLookup (.type T) (dunder "rshift") = pure none := by
  intro T hT
  simp only [List.mem_cons, List.not_mem_nil, or_false] at hT
  rcases hT with rfl | rfl | rfl | rfl | rfl <;> (rw [typeLookup_type, builtinLookup_eq_fast]; kernel_rfl)
theorem noR_T : ∀ T ∈ ["NoneType", "str", "list", "tuple", "dict"], typeLookup (.type T) (dunderR "rshift") = pure none := by
  intro T hT
  simp only [List.mem_cons, List.not_mem_nil, or_false] at hT
  rcases hT with rfl | rfl | rfl | rfl | rfl <;> (rw [typeLookup_type, builtinLookup_eq_fast]; kernel_rfl)
theorem yesL_T : ∀ T ∈ ["int", "bool"], typeLookup (.type T) (dunder "rshift") = pure (some (.builtin "int.__rshift__")) := by
  intro T hT
  simp only [List.mem_cons, List.not_mem_nil, or_false] at hT
  rcases hT with rfl | rfl <;> (rw [typeLookup_type, builtinLookup_eq_fast]; kernel_rfl)
theorem yesR_T : ∀ T ∈ ["int", "bool"], typeLookup (.type T) (dunderR "rshift") = pure (some (.builtin "int.__rrshift__")) := by
  intro T hT
  simp only [List.mem_cons, List.not_mem_nil, or_false] at hT
  rcases hT with rfl | rfl <;> (rw [typeLookup_type, builtinLookup_eq_fast]; kernel_rfl)
theorem fill_no {T : String} (h : T ∈ ["NoneType", "str", "list", "tuple", "dict"]) : fillsNumberSlot (.type T) "rshift" = pure false := by
  unfold fillsNumberSlot
  dsimp only
  rw [noL_T T h, noR_T T h]
  rfl
theorem fill_yes {T : String} (h : T ∈ ["int", "bool"]) : fillsNumberSlot (.type T) "rshift" = pure true := 
  fillsNumberSlot_of (yesL_T T h) (by decide +kernel) (yesR_T T h)
open PySem.W in
theorem pyslot_own {M : Model} {K : Frag} {C f : Addr} {h : Heap} (X : K.In h) (hs : findIn K (.ref C) (PySem.dunder "rshift") = some (some (.ref f))) (hr : findIn K (.ref C) (PySem.dunderR "rshift") = some none) : Looks M h (numberSlotInPython (.ref C) "rshift") true := by
  intro A Q E s k q
  unfold numberSlotInPython
  refine wpAny_bind (looks_findIn X hs A _ E s k ?_)
  refine wpAny_bind (m := calledByName (.ref C) _ (some (.ref f))) (wpAny_pure ?_)
  refine wpAny_bind (looks_findIn X hr A _ E s k ?_)
  refine wpAny_bind (m := calledByName (.ref C) _ none) (wpAny_pure ?_)
  exact wpAny_pure q
/-- the class stands first in its own order -/
theorem own_first {K : PySem.W.Frag} {C : Addr} (h : PySem.W.selfFirst K C = true) : ∃ (cd : ClassData) (mr : List Value), PySem.W.clsIn K C = some cd ∧ cd.mro = .ref C :: mr := by
  unfold PySem.W.selfFirst at h
  generalize PySem.W.clsIn K C = o at h ⊢
  cases o with
  | none => cases h
  | some cd =>
    have h' : (cd.mro.head? == some (.ref C)) = true := h
    rw [beq_iff_eq] at h'
    refine ⟨cd, cd.mro.tail, rfl, ?_⟩
    generalize cd.mro = l at h' ⊢
    cases l with
    | nil => cases h'
    | cons v r => cases h'; rfl
open PySem.W in
theorem shr_other {prog : Program} {w : World} {A : Around} {E : Value → Shared → Prop} {s : Shared} {K : Frag} {x C L f : Addr} {h₀ : Heap} {m : Str → Option Value} {ox : Obj} {od : Option Obj} {b : Value} {T : String} {Q : Value → Shared → Prop}
    (F : Fr h₀ L s.heap m) (X₀ : K.In h₀) (I : InstAt s.heap x ox C od) (hb : Looks (model prog w) s.heap (typeOf b) (.type T)) (hT : T ∈ ["NoneType", "str", "list", "tuple", "dict"] ∨ T ∈ ["int", "bool"])
    (hc : selfFirst K C = true) (hs : findIn K (.ref C) (PySem.dunder "rshift") = some (some (.ref f))) (hr : findIn K (.ref C) (PySem.dunderR "rshift") = some none) (hf : isFn K (.ref f) = true) (hsub : subIn K (.type T) (.ref C) = some false)
    (h : wpAny (model prog w) A (call (.ref f) [.ref x, b]) (PySem.W.CmpBack Q) E s) : wpAny (model prog w) A (binaryOp .RShift (.ref x) b) Q E s := by
  have X := X₀.keeps F.keep
  obtain ⟨cd, mr, hcd, hmro⟩ := own_first hc
  have lf := fills_K (M := model prog w) (nm := "rshift") X hcd hmro hs
  show wpAny (model prog w) A (holding [.ref x, b] _) Q E s
  apply wpAny_holding
  apply wpAny_bind
  unfold binaryOp1
  apply wpAny_bind
  apply I.type.here
  apply wpAny_bind
  apply hb.here
  apply wpAny_bind
  apply lf.here
  have ne : (Value.ref C == Value.type T) = false := by rw [beq_eq_false_iff_ne]; intro z; cases z
  rw [ne]
  simp only [Bool.false_eq_true, if_false]
  have own : wpAny (model prog w) A (tryMethod (.ref x) (PySem.dunder "rshift") b) (fun r s' => ∃ v, r = some v ∧ Q v s') E s := by
    unfold tryMethod
    apply wpAny_bind
    exact special_fn X I hs (beq_iff_eq.mp hf) (wpAny_mono h (fun v s' hv => by cases v <;> first | (exact hv.elim) | (exact wpAny_pure ⟨_, rfl, hv⟩)) fun _ _ z => z)
  rcases hT with hT | hT
  · show wpAny _ _ (fillsNumberSlot (.type T) "rshift" >>= _) _ _ _
    rw [fill_no hT]
    refine wpAny_bind (wpAny_pure ?_)
    simp only [Bool.and_false, Bool.false_eq_true, if_false, Bool.false_and, if_true]
    refine wpAny_bind (wpAny_pure ?_)
    simp only [Bool.false_eq_true, if_false]
    refine wpAny_bind (wpAny_mono own (fun r s' z => ?_) fun _ _ e => e)
    obtain ⟨v, rfl, z⟩ := z
    exact wpAny_pure (wpAny_pure z)
  · show wpAny _ _ (fillsNumberSlot (.type T) "rshift" >>= _) _ _ _
    rw [fill_yes hT]
    refine wpAny_bind (wpAny_pure ?_)
    simp only [Bool.and_true, Bool.and_self, if_true]
    refine wpAny_bind ((looks_subIn X hsub).here ?_)
    simp only [Bool.false_eq_true, if_false, Bool.and_true, Bool.not_false, if_true]
    refine wpAny_bind ((pyslot_own X hs hr).here ?_)
    simp only [if_true]
    refine wpAny_bind (m := numberSlotInPython (.type T) "rshift") (wpAny_pure ?_)
    simp only [Bool.not_false, if_true]
    rw [yesR_T T hT]
    refine wpAny_bind (wpAny_pure ?_)
    refine wpAny_bind (wpAny_mono own (fun r s' z => ?_) fun _ _ e => e)
    obtain ⟨v, rfl, z⟩ := z
    exact wpAny_pure (wpAny_pure z)
/-- the type of a value that is no own object -/
theorem tyx_of {Y : Xd} {g : Gh} {H : Hp} {t : TV} {v : V} {n : String} (q : RR Y.M g H t v) (hn : tyName t = some n) : TyX Y.M.K H v (.type n) := by
  cases t <;> simp only [tyName, Option.some.injEq, reduceCtorEq] at hn <;> subst hn
  · obtain rfl : v = .non := q; exact .base .non
  · obtain rfl : v = .bl _ := q; exact .base (.bl _)
  · obtain rfl : v = .int _ := q; exact .base (.int _)
  · obtain rfl : v = .str _ := q; exact .base (.str _)
  · obtain ⟨a, vs, rfl, ha, r⟩ := q; exact .base (.lst ha)
  · obtain ⟨a, vs, rfl, ha, r⟩ := q; exact SqT.tyx ha
  · obtain ⟨a, vs, rfl, ha, r⟩ := q; exact ha.tyd
theorem tyName_two {t : TV} {n : String} (h : tyName t = some n) : n ∈ ["NoneType", "str", "list", "tuple", "dict"] ∨ n ∈ ["int", "bool"] := by
  cases t <;> simp only [tyName, Option.some.injEq, reduceCtorEq] at h <;> subst h <;> decide
/-- what >> asks of the class -/
structure KShr (Y : Xd) (c : Str) : Prop where
  sf : ∀ C, Y.M.cl c = some C → PySem.W.selfFirst Y.M.K C = true
  rr : ∀ C, Y.M.cl c = some C → PySem.W.findIn Y.M.K (.ref C) "__rrshift__" = some none
  no : ∀ C, Y.M.cl c = some C → ∀ n ∈ ["NoneType", "bool", "int", "str", "list", "tuple", "dict"], PySem.W.subIn Y.M.K (.type n) (.ref C) = some false
section
variable {X : Cx} {Y : Xd} {W : WX} {c : Str} {k : Nat} {F : FM}
def rShr (Y : Xd) (W : WX) (c : Str) (F : FM) : L2.St → R2 := fun σ x y H Q => ∃ a A dx ws T, x = .ref a ∧ H a = some (.ins A dx ws) ∧ Y.M.cl c = some A ∧ TyX Y.M.K H y (.type T) ∧ (T ∈ ["NoneType", "str", "list", "tuple", "dict"] ∨ T ∈ ["int", "bool"]) ∧
  spF Y F [x, y] H (fun v H' => (∃ b, v = .ref b) ∧ Q v H') fun cls d H' => W cls d σ H'
theorem shr_own {a1 a2 : Str} (ks : KShr Y c) (D : MDef X.prog X.w Y X.mg X.base c "__rshift__" k [a1, a2] F []) (hr : Rm k X.A) (tk : Takes X W) (hK : X.K = Y.M.K := by rfl) : OpW X (binaryOp .RShift) (rShr Y W c F) := by
  intro pins s σ H x y v u Q I rx ry q
  obtain ⟨a, A, dx, ws, T, rfl, ha, hc, ty, hT, sp⟩ := q
  obtain ⟨A', fa, fd, ds, dvs, hcl, hm, G, hb, hdt, hd⟩ := D.ex
  rw [hc] at hcl
  cases hcl
  cases hdt
  cases hd
  obtain rfl : v = Value.ref a := rx
  obtain ⟨mA, J, _⟩ := ins_get I.hok ha
  obtain ⟨od, J, _⟩ := J.look
  obtain ⟨m0, hF⟩ := I.fr
  obtain ⟨P, Z, p, _⟩ := kit_of I ry (by rw [hK]; exact ty)
  have mem : T ∈ ["NoneType", "bool", "int", "str", "list", "tuple", "dict"] := by
    simp only [List.mem_cons, List.not_mem_nil, or_false] at hT ⊢
    rcases hT with (h | h | h | h | h) | h | h <;> simp [h]
  refine shr_other hF (K := X.K) I.ok.mod.kin J (Z.ty _ _ I.kIn p) hT (by rw [hK]; exact ks.sf _ hc) (by rw [hK]; exact hm.at_) (by rw [hK]; exact ks.rr _ hc) (by rw [hK]; exact hm.fn) (by rw [hK]; exact ks.no _ hc T mem) ?_
  have run := run_T (ds := []) (dvs := []) (vs := [.ref a, y]) (us := [.ref a, u]) G hK hr (by rw [hK]; exact hb) tk .nil (by rfl) I (.cons rfl (.cons ry .nil)) sp
  refine wpAny_mono run (fun r s' z => ?_) fun _ _ x => x
  obtain ⟨z0, H', I', rz, ⟨b, e⟩, q⟩ := z
  subst e
  obtain rfl : r = Value.ref b := rz
  exact ⟨.ref b, H', I', rfl, q⟩
/-- an object -/
def refR (t : TV) (C : Tab) : Res TV := match t with
  | .cel j => .ok (.cel j) C
  | .obj c fs => .ok (.obj c fs) C
  | _ => .stuck
def shB (c : Str) (F : FM) : TV → TV → Tab → Res TV := fun x y C => match rd C x with
  | .obj c' _ => if c' = c then (match tyName (rd C y) with
    | some _ => (F [x, y] C).bind refR
    | none => .stuck) else .stuck
  | _ => .stuck
theorem shB_ok : OpSW Y W (rShr Y W c F) (shB c F) := by
  intro g C H σ x y v w Q R rx ry f
  unfold shB at f
  split at f
  · rename_i c' fs hx
    split at f
    · rename_i e
      subst e
      split at f
      · rename_i n hn
        have q := R.rr rx
        rw [hx] at q
        obtain ⟨a, A, dx, ws, rfl, ha, hc, rf⟩ := q
        refine ⟨a, A, dx, ws, n, rfl, ha, hc, tyx_of (R.rr ry) hn, tyName_two hn, g, C, [x, y], R, .cons rx (.cons ry .nil), (Fin.bind f).imp fun t g1 C1 H1 e1 R1 f1 z rz => ?_⟩
        unfold refR at f1
        split at f1
        · have rz' := rz
          cases rz
          exact ⟨⟨_, rfl⟩, val_now R1 rz' f1⟩
        · have rz' := rz
          cases rz
          exact ⟨⟨_, rfl⟩, val_now R1 rz' f1⟩
        · exact f1.elim
      · exact f.elim
    · exact f.elim
  · exact f.elim
end
end FH
/-! GcK: dict displays, d.get(k, x). -/
namespace FH
open PySem L2
open PySem.Spec PyProof.Rows
/-- pairs, laid flat -/
def flatP : List (V × V) → List V
  | [] => []
  | p :: r => p.1 :: p.2 :: flatP r
def pairUp : List TV → Option (List (Key × TV))
  | [] => some []
  | [_] => none
  | k :: v :: r => (keyOf k).bind fun k' => (pairUp r).map ((k', v) :: ·)
theorem pairUp_rv {M : Md} {g : Gh} : ∀ {ts : List TV} {kvs : List (Key × TV)} {vs : List V}, pairUp ts = some kvs → RVs M g ts vs → ∃ ws : List (Key × V), vs = flatP (ws.map fun kv => (kV kv.1, kv.2)) ∧ RKs M g kvs ws
  | [], kvs, _, h, .nil => by cases h; exact ⟨[], rfl, .nil⟩
  | [_], kvs, _, h, _ => by cases h
  | k :: v :: r, kvs, _, h, .cons a (.cons b c) => by
    simp only [pairUp, Option.bind_eq_some_iff, Option.map_eq_some_iff] at h
    obtain ⟨k', h1, kvs', h2, rfl⟩ := h
    obtain ⟨ws, rfl, rk⟩ := pairUp_rv h2 c
    have e := keyOf_rv h1 a
    subst e
    exact ⟨(k', _) :: ws, rfl, .cons b rk⟩
section
variable {X : Cx} {Y : Xd} {W : WX} {pos : Pos}
structure SPr (X : Cx) (Y : Xd) (W : WX) (pos : Pos) (keys : List (Option Expr)) (values : List Expr) (ma : EM (List TV)) : Prop where
  ex : ∃ trs, PPs X pos keys values trs ∧ ∀ σ H Q, tA Y W ma σ H (fun vs H2 => ∃ ps, vs = flatP ps ∧ Q ps H2) → tPairs trs σ H Q
theorem spr_nil : SPr X Y W pos [] [] mNil := ⟨[], pps_nil, fun σ H Q ⟨g, s, C, rs, R, f⟩ => by
  obtain ⟨ps, e, q⟩ := f g H (Ext.refl g) R [] .nil
  cases ps with
  | nil => exact q
  | cons a b => cases e⟩
theorem spr_cons {k v : Expr} {ks : List (Option Expr)} {vs : List Expr} {mk mv : EM TV} {ma : EM (List TV)} (hk : PE X k (tE Y W mk)) (hv : PE X v (tE Y W mv)) (hr : SPr X Y W pos ks vs ma) : SPr X Y W pos (some k :: ks) (v :: vs) (mCons mk (mCons mv ma)) := by
  obtain ⟨trs, pp, ih⟩ := hr.ex
  refine ⟨_, pps_cons hk hv pp, fun σ H Q ⟨g, s, C, rs, R, f⟩ => ?_⟩
  refine tE_bind rs R f fun t g1 C1 H1 x e1 rs1 R1 rx f1 => ?_
  refine tE_bind rs1 R1 (Fin.bind f1) fun u g2 C2 H2 y e2 rs2 R2 ry f2 => ?_
  refine ih σ H2 _ ⟨g2, s, C2, rs2, R2, (Fin.bind f2).imp fun ts g3 C3 H3 e3 R3 f3 ws rws => ?_⟩
  have q := f3 g3 H3 (Ext.refl g3) R3
  obtain ⟨ps, e, q⟩ := q g3 H3 (Ext.refl g3) R3 (x :: y :: ws) (.cons ((rx.mono e2).mono e3) (.cons (ry.mono e3) rws))
  cases ps with
  | nil => cases e
  | cons p ps =>
    obtain ⟨a, b⟩ := p
    simp only [flatP, List.cons.injEq] at e
    obtain ⟨rfl, rfl, rfl⟩ := e
    exact ⟨ps, rfl, q⟩
def dispR (n : Nat) (ts : List TV) (C : Tab) : Res TV := match pairUp ts with
  | some kvs => if kvs.length ≤ 15 then (match C[n]? with
    | some (.own (.dct [])) => .ok (.cel n) (C.set n (.own (.dct (mergeT [] kvs))))
    | _ => .stuck) else .stuck
  | none => .stuck
/-- {k: v, ..}: a cell -/
def mDisp (ma : EM (List TV)) : EM TV := fun s C => (ma s (C ++ [.own (.dct [])])).bind (dispR C.length)
theorem se_disp {keys : List (Option Expr)} {values : List Expr} {ma : EM (List TV)} (h : SPr X Y W pos keys values ma) (hall : keys.all (·.isSome) = true := by rfl) (hl : keys.length = values.length := by rfl) (h0 : keys ≠ [] := by simp)
    (h15 : keys.length ≤ 15 := by simp) : PE X (.Dict keys values pos) (tE Y W (mDisp ma)) := by
  obtain ⟨trs, pp, ih⟩ := h.ex
  refine PE.imp (pe_disp pp hall hl h0 h15) fun σ H Q ⟨g, s, C, rs, R, f0⟩ p hp => ?_
  obtain ⟨R2, e2⟩ := R.addC (o := .dK []) (H' := upd H p (.dK [])) (Same.upd hp) hp upd_same (t := .dct []) ⟨[], rfl, .nil⟩
  refine ih σ _ _ ⟨g.cell p, s, _, rs.mono e2, R2, (Fin.bind (Fin.ext e2 f0)).imp fun ts g3 C3 H3 e3 R3 f3 vs rvs => ?_⟩
  unfold dispR at f3
  split at f3
  · rename_i kvs hk
    split at f3
    · rename_i h15'
      split at f3
      · rename_i hc
        obtain ⟨ws, rfl, rk⟩ := pairUp_rv hk rvs
        have ea : g3.A C.length = p := by
          rw [e3.A _ (by show C.length < g.n + 1; rw [R.n]; exact Nat.lt_succ_self _)]
          show (if C.length = g.n then p else g.A C.length) = p
          rw [if_pos R.n.symm]
        obtain ⟨o, h1, ⟨vs0, e0, r0⟩, _⟩ := R3.c _ _ hc
        subst e0
        cases r0
        rw [ea] at h1
        have rc : RV Y.M g3 (.cel C.length) (.ref p) := by
          have q : RV Y.M g3 (.cel C.length) (.ref (g3.A C.length)) := .cel (by
            have := e3.n
            have h2 : (g.cell p).n = g.n + 1 := rfl
            have h3 := R.n
            omega)
          rw [ea] at q
          exact q
        have R4 := R3.wr hc (o := .dK (mergeK [] ws)) (t' := .dct (mergeT [] kvs)) ⟨_, rfl, RKs.merge rk .nil⟩
        rw [ea] at R4
        refine ⟨_, rfl, h1, ws, rfl, by rw [← rk.length]; exact h15', ?_⟩
        exact f3 g3 _ (Ext.refl g3) R4 (.ref p) rc
      · exact f3.elim
    · exact f3.elim
  · exact f3.elim
/-- d.get(k, x) -/
def isDct : TV → Bool
  | .dct _ => true
  | _ => false
def getR (d k z : TV) (C : Tab) : Res TV := match rd C d with
  | .dct kvs => match keyOf k with
    | some k' => .ok ((lookT kvs k').getD z) C
    | none => .stuck
  | _ => .stuck
def mGet (md mk mx : EM TV) : EM TV := fun s C => (md s C).bind fun d C1 => if isDct (rd C1 d) = true then (mk s C1).bind fun k C2 => (mx s C2).bind fun z C3 => getR d k z C3 else .stuck
theorem se_get2 {o e f : Expr} {md mk mx : EM TV} {apos cpos : Pos} {k : Nat} (hr : Rm k X.A) (ho : PE X o (tE Y W md)) (he : PE X e (tE Y W mk)) (hf : PE X f (tE Y W mx))
    (base : attributeBase o "get" X.env (eval o X.env) = eval o X.env := by rfl)
    (few : ((backTo cpos (starEach [e, f] X.env)).all (fun x => !x.1) && (backToKw cpos (keywordEach [] X.env)).all (fun x => x.1.isSome)
      && decide (([e, f] : List Expr).length + ([] : List Keyword).length + (if ([] : List Keyword).isEmpty then 0 else 1) < 30)) = true := by rfl)
    (line : (apos.endLine == cpos.line) = true := by rfl) (trees : backTo cpos (starEach [e, f] X.env) = [(false, eval e X.env), (false, eval f X.env)] := by rfl) :
    PE X (.Call (.Attribute o "get" apos) [e, f] [] cpos) (tE Y W (mGet md mk mx)) := by
  refine PE.imp (pe_dget2 (L2.hu_of hr.room) ho he hf ⟨base, few, line, trees⟩) fun σ H Q ⟨g, s, C, rs, R, f0⟩ => ?_
  refine tE_bind rs R f0 fun t g1 C1 H1 x e1 rs1 R1 rx f1 => ?_
  split at f1
  · rename_i hd
    have q := R1.rr rx
    cases hq : rd C1 t <;> rw [hq] at hd q <;> first | (cases hd; done) | skip
    rename_i kvs
    obtain ⟨a, ws, rfl, ha, r1⟩ := q
    refine ⟨a, rfl, .inl ⟨ws, ha.rd⟩, ?_⟩
    refine tE_bind rs1 R1 f1 fun u g2 C2 H2 y e2 rs2 R2 ry f2 => ?_
    refine tE_bind rs2 R2 f2 fun z g3 C3 H3 zv e3 rs3 R3 rz f3 => ?_
    have q3 := R3.rr ((rx.mono e2).mono e3)
    unfold getR at f3
    split at f3
    · rename_i kvs3 h3
      rw [h3] at q3
      obtain ⟨a3, ws3, ea, ha3, r3⟩ := q3
      cases ea
      split at f3
      · rename_i k' hk
        have ek := keyOf_rv hk (ry.mono e3)
        subst ek
        refine ⟨valV ws3 k', .inl ⟨ws3, k', ha3.rd, rfl, rfl⟩, ?_⟩
        rcases r3.look k' with ⟨h1, h2⟩ | ⟨t', v', h1, h2, hrv⟩
        · rw [h1] at f3
          rw [h2]
          exact val_now R3 rz f3
        · rw [h1] at f3
          rw [h2]
          exact val_now R3 hrv f3
      · exact f3.elim
    · exact f3.elim
  · exact f1.elim
end
end FH
/-! GcL: own errors with an __init__, from the head; xs.clear(). -/
namespace FH
open PySem L2
open PySem.Spec PyProof.Rows
section
variable {P : Program} {w : World} {Y : Xd} {mg : Str → Option Value} {base h : Heap} {c f p q : Str} {A : Addr} {b : Bool} {st : Stmt}
theorem edef1_dm (hx : Y.cx c = some (.ref A)) (X : Y.M.K.In h) (G : h.Ns mainGlobals mg) (d : DE Y.M.K c A) (o : OexC Y.M.K A) (hno : PySem.W.findIn Y.M.K (.ref A) f = some none) (dm : DM Y.M.K A "__init__" q st)
    (fe : ∀ fI fd, Fun Y.M.K "__init__" q st fI fd → FnOk P w Y.M.K mg base (L2.CX P w) 1 fI fd ["self", p] (spErr Y.M.K A f b)) (hb : PosM "__init__" q st ["self", p]) : EDef1 P w Y mg base c f b p := by
  obtain ⟨fI, oc, od, an, osl, kV, doc, pm, cdv, ct, a, i, l, c', kp⟩ := dm.ex
  have Fu := fun_mk (st := st) l c' kp
  exact edef1_of hx X G d o hno a (beq_iff_eq.mp i) (fe _ _ Fu) (Fu.binds hb)
theorem oex_of {K : PySem.W.Frag} {c : Str} {A : Addr} {nm q N bs bm sn sub ab col dd k0 k1 k2 k3 k5} (d : DE K c A) (o : K.lookup A = some (excClassObj nm q A N bs bm true sn sub ab col dd k0 k1 k2 k3 k5 "ValueError.__new__")) (r : PySem.HandSPX.refsVE bm = true)
    (sa : PySem.W.findIn K (.ref A) "__setattr__" = some (some (.builtin "object.__setattr__"))) : OexC K A := ⟨⟨nm, q, N, bs, bm, sn, sub, ab, col, dd, k0, k1, k2, k3, k5, o, r⟩, sa, d.sb, d.ty, d.kp⟩
theorem kshr_of {Y : Xd} {c : Str} {A : Addr} (hB : Y.M.cl c = some A) (sf : PySem.W.selfFirst Y.M.K A = true) (rr : PySem.W.findIn Y.M.K (.ref A) "__rrshift__" = some none)
    (h1 : PySem.W.subIn Y.M.K (.type "NoneType") (.ref A) = some false) (h2 : PySem.W.subIn Y.M.K (.type "bool") (.ref A) = some false) (h3 : PySem.W.subIn Y.M.K (.type "int") (.ref A) = some false) (h4 : PySem.W.subIn Y.M.K (.type "str") (.ref A) = some false)
    (h5 : PySem.W.subIn Y.M.K (.type "list") (.ref A) = some false) (h6 : PySem.W.subIn Y.M.K (.type "tuple") (.ref A) = some false) (h7 : PySem.W.subIn Y.M.K (.type "dict") (.ref A) = some false) : KShr Y c := by
  refine ⟨fun C h => ?_, fun C h => ?_, fun C h n hn => ?_⟩ <;> (rw [hB] at h; cases h)
  · exact sf
  · exact rr
  · simp only [List.mem_cons, List.not_mem_nil, or_false] at hn
    rcases hn with rfl | rfl | rfl | rfl | rfl | rfl | rfl <;> assumption
end
/-! ### xs.clear() -/
def fLClear : TV → FM := fun x ts C => match x, ts with
  | .cel j, [] => match C[j]? with
    | some (.own (.lst xs)) => .ok .non (C.set j (.own (.lst [])))
    | _ => .stuck
  | _, _ => .stuck
theorem ms_lclear {X : Cx} {Y : Xd} (hK : X.K = Y.M.K) : MtS X Y "list" rClear tyL fLClear := ⟨fun g C H x v R r h => tyL_ok hK R r h, fun g C H W x v xs vs Q R rx rvs f => by
  unfold fLClear at f
  split at f
  · rename_i j
    cases rvs
    cases rx with
    | cel hj =>
      split at f
      · rename_i xs hc
        obtain ⟨o, h1, ⟨ws, rfl, r⟩, _⟩ := R.c j _ hc
        exact ⟨_, ws, rfl, rfl, h1, f g _ (Ext.refl g) (R.wr hc (RN.lst .nil)) _ .non⟩
      · exact f.elim
  · exact f.elim⟩
/-! ### repr of a bool -/
def rReprB : List V → Hp → VK → Prop := fun vs H Q => ∃ b : Bool, vs = [.bl b] ∧ Q (.str (if b then "True" else "False")) H
theorem call_reprB {X : Cx} : CallR X (.builtin "repr") rReprB := by
  intro pins s σ H xs us Q I r h
  obtain ⟨b, rfl, q⟩ := h
  obtain ⟨u, rfl, rx⟩ := vals1 r
  cases rx
  exact PySem.P.repr_of_bool ⟨.str _, H, I.tok _, ⟨_, rfl⟩, q⟩
def bReprB : FM := fun ts C => match ts with
  | [.bl b] => .ok (.str (if b then "True" else "False")) C
  | _ => .stuck
theorem bReprB_ok {Y : Xd} : CallS Y rReprB bReprB := by
  intro g C H W xs vs Q R rv f
  unfold bReprB at f
  split at f
  · rename_i b
    obtain ⟨v, rfl, rx⟩ := rv.one
    cases rx
    exact ⟨b, rfl, val_now R .str f⟩
  · exact f.elim
end FH
/-! GcM: own == and != with any value. -/
namespace FH
open PySem L2
open PySem.Spec PyProof.Rows
open PySem.W in
/-- a built-in __ne__ that object has, looked up at an own object, bound and called -/
theorem ne_bound {prog : Program} {w : World} {A : Around} {E : Value → Shared → Prop} {s : Shared} {K : Frag} {x C : Addr} {ox : Obj} {od : Option Obj} {b : Value} {Q : Option Value → Shared → Prop} (X : K.In s.heap) (I : InstAt s.heap x ox C od)
    (hn : findIn K (.ref C) "__ne__" = some (some (.builtin "object.__ne__"))) (h : wpAny (model prog w) A (call (.builtin "object.__ne__") [.ref x, b]) (fun v => Q (some v)) E s) :
    wpAny (model prog w) A (callSpecialIfBound? (.ref x) "__ne__" [b]) Q E s := by
  have bs := F.cmp_object.ne.bind (.ref x)
  simp only [callSpecialIfBound?, bindSpecialIfBound?]
  apply wpAny_holding
  apply wpAny_bind
  apply wpAny_bind
  apply wpAny_bind
  apply I.type.here
  apply (looks_findIn X hn).here
  apply wpAny_bind
  apply wpAny_askSetting
  apply wpAny_ite
  have last : wpAny (model prog w) A (call (.builtin "object.__ne__") ([.ref x] ++ [b]) >>= fun v => pure (some v)) Q E s := wpAny_bind (wpAny_mono h (fun _ _ z => wpAny_pure z) fun _ _ z => z)
  split
  · rw [bs]; exact wpAny_bind (wpAny_pure (wpAny_pure last))
  · rw [bs]; exact wpAny_tryCatch (wpAny_bind (wpAny_pure (wpAny_pure last)))
open PySem.W in
/-- object.__ne__ asks the own __eq__ -/
theorem ne_run {prog : Program} {w : World} {A : Around} {E : Value → Shared → Prop} {s : Shared} {K : Frag} {x C f : Addr} {ox : Obj} {od : Option Obj} {b : Value} {Q : Value → Shared → Prop} (X : K.In s.heap) (I : InstAt s.heap x ox C od) (hu : A.units + 1 < cLine)
    (ho : subIn K (.ref C) (.type "object") = some true) (he : findIn K (.ref C) "__eq__" = some (some (.ref f))) (hf : isFn K (.ref f) = true)
    (h : wpAny (model prog w) A.in1 (call (.ref f) [.ref x, b]) (fun v s' => ∃ c, v = .bool c ∧ Q (.bool (!c)) s') E s) : wpAny (model prog w) A (call (.builtin "object.__ne__") [.ref x, b]) Q E s := by
  have inst : Looks (model prog w) s.heap (isInstance (.ref x) (.type "object")) true := I.type.andThen (looks_subIn X ho)
  have run : Builtin.«object.__ne__» ⟨[.ref x, b], []⟩ = (cRoomFor "comparison" [.ref x, b] >>= fun _ => callSpecialIfBound? (.ref x) "__eq__" [b] >>= fun r => match r with
    | some .notImplemented | none => ret .notImplemented
    | some r => truthy r >>= fun c => ret (.bool (!c))) := by kernel_rfl
  refine wpAny_call (codeAny_call_builtin F.cmp_object.ne.plain F.cmpEntry_ne (check_slot F.cmpKind_ne F.cmpSplit_ne inst (F.cmpArgs_ne _ _) ?_))
  rw [run]
  apply wpAny_bind
  refine wpAny_cRoomFor hu ?_
  apply wpAny_bind
  refine ifBound_K X I he hf (wpAny_mono h (fun v s' z => ?_) fun _ _ z => z)
  obtain ⟨c, rfl, z⟩ := z
  exact wpAny_bind (wpAny_truthy_bool (wpAny_pure z))
open PySem.W in
theorem ne_cmp {prog : Program} {w : World} {A : Around} {E : Value → Shared → Prop} {s : Shared} {K : Frag} {x C f L : Addr} {h₀ : Heap} {m : Str → Option Value} {ox : Obj} {od : Option Obj} {b tb : Value} {Q : Value → Shared → Prop} (hu : A.units + 1 < cLine)
    (F : Fr h₀ L s.heap m) (X₀ : K.In h₀) (I : InstAt s.heap x ox C od) (hb : Looks (model prog w) s.heap (typeOf b) tb) (hn : notFirst K C tb = true) (hne : findIn K (.ref C) "__ne__" = some (some (.builtin "object.__ne__")))
    (ho : subIn K (.ref C) (.type "object") = some true) (he : findIn K (.ref C) "__eq__" = some (some (.ref f))) (hf : isFn K (.ref f) = true)
    (h : wpAny (model prog w) A.in1 (call (.ref f) [.ref x, b]) (fun v s' => ∃ c, v = .bool c ∧ Q (.bool (!c)) s') E s) : wpAny (model prog w) A (richCompare .NotEq (.ref x) b) Q E s := by
  have X := X₀.keeps F.keep
  have tc : wpAny (model prog w) A (tryCompare (.ref x) "__ne__" b) (fun r s' => ∃ c, r = some (.bool c) ∧ Q (.bool c) s') E s := by
    unfold tryCompare
    apply wpAny_bind
    refine ne_bound X I hne (ne_run X I hu ho he hf (wpAny_mono h (fun v s' z => ?_) fun _ _ z => z))
    obtain ⟨c, rfl, z⟩ := z
    exact ⟨c, rfl, wpAny_pure ⟨_, rfl, z⟩⟩
  unfold richCompare
  simp only [oneThing_ref]
  apply wpAny_holding
  apply wpAny_bind
  refine wpAny_cRoomFor (Nat.lt_of_succ_lt hu) ?_
  rw [cmpInfo_NotEq]
  dsimp only
  apply wpAny_bind
  apply I.type.here
  apply wpAny_bind
  apply hb.here
  by_cases e : (Value.ref C != tb) = true
  · rw [if_pos e]
    have sb : subIn K tb (.ref C) = some false := by
      have e' : (tb == Value.ref C) = false := by
        cases q : (tb == Value.ref C) with
        | false => rfl
        | true => rw [beq_iff_eq.mp q] at e; simp at e
      have hn' : (tb == Value.ref C || subIn K tb (.ref C) == some false) = true := hn
      rw [e', Bool.false_or] at hn'
      exact beq_iff_eq.mp hn'
    apply wpAny_bind
    apply (looks_subIn X sb).here
    simp only [Bool.false_eq_true, if_false]
    apply wpAny_bind
    refine wpAny_mono tc (fun r s' z => ?_) fun _ _ z => z
    obtain ⟨c, rfl, z⟩ := z
    exact wpAny_pure z
  · rw [if_neg e]
    apply wpAny_bind
    apply wpAny_pure
    simp only [Bool.false_eq_true, if_false]
    apply wpAny_bind
    refine wpAny_mono tc (fun r s' z => ?_) fun _ _ z => z
    obtain ⟨c, rfl, z⟩ := z
    exact wpAny_pure z
/-- what == and != ask of the class, for any value -/
structure KEq (Y : Xd) (c : Str) : Prop where
  ne : ∀ C, Y.M.cl c = some C → PySem.W.findIn Y.M.K (.ref C) "__ne__" = some (some (.builtin "object.__ne__"))
  ob : ∀ C, Y.M.cl c = some C → PySem.W.subIn Y.M.K (.ref C) (.type "object") = some true
  no : ∀ C, Y.M.cl c = some C → ∀ n ∈ ["NoneType", "bool", "int", "str", "list", "tuple", "dict"], PySem.W.subIn Y.M.K (.type n) (.ref C) = some false
section
variable {X : Cx} {Y : Xd} {W : WX} {c : Str} {k : Nat} {F : FM}
/-- own == or != with a value of this class or of a built-in type -/
def rCmpA (Y : Xd) (W : WX) (c : Str) (F : FM) (neg : Bool) : L2.St → R2 := fun σ x y H Q => ∃ a A dx ws, x = .ref a ∧ H a = some (.ins A dx ws) ∧ Y.M.cl c = some A ∧
  ((∃ b dy zs, y = .ref b ∧ H b = some (.ins A dy zs)) ∨ ∃ T ∈ ["NoneType", "bool", "int", "str", "list", "tuple", "dict"], TyX Y.M.K H y (.type T)) ∧
  spF Y F [x, y] H (fun v H' => ∃ b, v = .bl b ∧ Q (.bl (if neg then !b else b)) H') fun cls d H' => W cls d σ H'
theorem cmp_own (neg : Bool) {a1 a2 : Str} (ke : KEq Y c) (D : MDef X.prog X.w Y X.mg X.base c "__eq__" k [a1, a2] F []) (hr : Rm (k + 1) X.A) (tk : Takes X W) (hK : X.K = Y.M.K := by rfl) : OpW X (compareOp (if neg then .NotEq else .Eq)) (rCmpA Y W c F neg) := by
  intro pins s σ H x y v u Q I rx ry q
  obtain ⟨a, A, dx, ws, rfl, ha, hc, hy, sp⟩ := q
  obtain ⟨A', fa, fd, ds, dvs, hcl, hm, G, hb, hdt, hd⟩ := D.ex
  rw [hc] at hcl
  cases hcl
  cases hdt
  cases hd
  obtain rfl : v = Value.ref a := rx
  obtain ⟨mA, J, _⟩ := ins_get I.hok ha
  obtain ⟨od, J, _⟩ := J.look
  obtain ⟨m0, hF⟩ := I.fr
  have hu : X.A.units + 1 < cLine := by have := hr.room.un; omega
  have look : ∃ tb, PySem.W.Looks (model X.prog X.w) s.heap (typeOf u) tb ∧ PySem.W.notFirst Y.M.K A tb = true := by
    rcases hy with ⟨b, dy, zs, rfl, hb'⟩ | ⟨T, hT, ty⟩
    · obtain rfl : u = Value.ref b := ry
      obtain ⟨mB, J', _⟩ := ins_get I.hok hb'
      obtain ⟨od', J', _⟩ := J'.look
      exact ⟨_, J'.type, by simp [PySem.W.notFirst]⟩
    · obtain ⟨P, Z, p, _⟩ := kit_of I ry (by rw [hK]; exact ty)
      refine ⟨_, Z.ty _ _ I.kIn p, ?_⟩
      unfold PySem.W.notFirst
      rw [ke.no _ hc T hT]
      simp
  obtain ⟨tb, lb, nf⟩ := look
  cases neg with
  | false =>
    refine PySem.W.cmp_K (op := .Eq) (tb := tb) (K := X.K) (Nat.lt_of_succ_lt hu) hF I.ok.mod.kin J lb (by rw [hK]; exact nf) (by rw [hK]; exact hm.at_) (by rw [hK]; exact hm.fn) ?_
    have run := run_bool G hK (hr.mono (Nat.le_succ k)) (by rw [hK]; exact hb) tk (vs := [.ref a, y]) (us := [.ref a, u]) (neg := false) (Q := Q) rfl I (.cons rfl (.cons ry .nil)) sp
    refine wpAny_mono run (fun w s' z => ?_) fun _ _ x => x
    obtain ⟨r, rfl, q⟩ := z
    exact q
  | true =>
    refine ne_cmp (tb := tb) (K := X.K) hu hF I.ok.mod.kin J lb (by rw [hK]; exact nf) (by rw [hK]; exact ke.ne _ hc) (by rw [hK]; exact ke.ob _ hc) (by rw [hK]; exact hm.at_) (by rw [hK]; exact hm.fn) ?_
    have run := run_in1 (Q := fun v H' => ∃ b, v = .bl b ∧ Q (.bl (!b)) H') G hK hr (by rw [hK]; exact hb) tk (vs := [.ref a, y]) (us := [.ref a, u]) rfl I (.cons rfl (.cons ry .nil)) sp
    refine wpAny_mono run (fun r s' z => ?_) fun _ _ x => x
    obtain ⟨v0, H', I', rv, b, e, q⟩ := z
    subst e
    obtain rfl : r = Value.bool b := rv
    exact ⟨b, rfl, .bl (!b), H', I', rfl, q⟩
/-- x == y, x != y, x of the own class c -/
def cmB (neg : Bool) (c : Str) (F : FM) (g : TV → TV → Tab → Res TV) : TV → TV → Tab → Res TV := fun x y C => match rd C x with
  | .obj c' _ => if c' = c then (match rd C y with
    | .obj c2 _ => if c2 = c then (F [x, y] C).bind (boolR neg) else .stuck
    | t => match tyName t with
      | some _ => (F [x, y] C).bind (boolR neg)
      | none => .stuck) else .stuck
  | _ => g x y C
theorem cmB_ok {r : R2} {neg : Bool} {gf : TV → TV → Tab → Res TV} (h : OpS Y r gf) : OpSW Y W (fun σ x y H Q => r x y H Q ∨ rCmpA Y W c F neg σ x y H Q) (cmB neg c F gf) := by
  intro g C H σ x y v w Q R rx ry f
  unfold cmB at f
  split at f
  · rename_i c' fs hx
    split at f
    · rename_i e
      subst e
      have q := R.rr rx
      rw [hx] at q
      obtain ⟨a, A, dx, ws, rfl, ha, hc, rf⟩ := q
      have qy := R.rr ry
      split at f
      · rename_i c2 gs hy
        split at f
        · rename_i e2
          subst e2
          rw [hy] at qy
          obtain ⟨b, A', dy, zs, rfl, hb, hc', rf'⟩ := qy
          rw [hc] at hc'
          cases hc'
          exact .inr ⟨a, A, dx, ws, rfl, ha, hc, .inl ⟨b, dy, zs, rfl, hb⟩, bool_fin R (.cons rx (.cons ry .nil)) f⟩
        · exact f.elim
      · split at f
        · rename_i n hn
          exact .inr ⟨a, A, dx, ws, rfl, ha, hc, .inr ⟨n, tyName_in hn, tyx_of qy hn⟩, bool_fin R (.cons rx (.cons ry .nil)) f⟩
        · exact f.elim
    · exact f.elim
  · exact .inl (h g C H _ x y v w Q R rx ry f)
end
end FH
/-! GcN: classmethods C.m(..), cls(..) in them. -/
namespace FH
open PySem L2
open PySem.Spec PyProof.Rows
/-- a classmethod m of c -/
structure CMDef (P : Program) (w : World) (Y : Xd) (mg : Str → Option Value) (base : Heap) (c m : Str) (k : Nat) (ps : List Str) (F : FM) : Prop where
  ex : ∃ (A p g : Addr) (fd : FuncData), Y.M.cl c = some A ∧ mg c = some (.ref A) ∧ ClX.CRead Y.M.K A (.type "type") ∧ ClX.CMet Y.M.K A (.type "type") m p g ∧ FnT P w Y mg base k g fd ps F ∧ Binds Y.M.K fd ps []
def mCMeth (c : Str) (F : FM) (ma : EM (List TV)) : EM TV := fun s C => (ma s C).bind fun ts C1 => F (.cls c :: ts) C1
section
variable {X : Cx} {Y : Xd} {W : WX} {c m x : Str} {e : Expr} {es : List Expr} {p p1 p2 pos : Pos} {ma : EM (List TV)} {k i : Nat} {ps : List Str} {F : FM}
theorem se_cmeth {pl : Sem Bool} (D : CMDef X.prog X.w Y X.mg X.base c m k ps F) (hr : Rm k X.A) (tk : Takes X W) (ha : SA X Y W (e :: es) ma) (hn : (e :: es).length + 1 = ps.length := by rfl) (hK : X.K = Y.M.K := by rfl) (hg : Gl X c := by rfl)
    (hdb : (c == ("__debug__" : Str)) = false := by decide) (hst : starEach (e :: es) X.env = (false, eval e X.env) :: starEach es X.env := by rfl) (hpl : (backTo pos (starEach es X.env)).any (·.1) = false := by rfl)
    (ht : eval (.Call (.Attribute (.Name c p1) m p2) (e :: es) [] pos) X.env = (do
      let ov ← eval (.Name c p1) X.env
      standAt p2.atName
      let (fn, fst) ← holding [ov] (getMethod ov m pl); callWith pos fn fst (backTo pos (starEach (e :: es) X.env)) (backToKw pos (keywordEach [] X.env))) := by rfl) :
    PE X (.Call (.Attribute (.Name c p1) m p2) (e :: es) [] pos) (tE Y W (mCMeth c F ma)) := by
  obtain ⟨A, q, g, fd, hcl, hm, cr, cm, G, hb⟩ := D.ex
  refine ⟨fun pins s σ H Q I ⟨g0, sl, C, rs, R, f0⟩ => ?_⟩
  have h' : tA Y W ma σ H fun vs H2 => vs.length = (e :: es).length ∧ spF Y F (.ref A :: vs) H2 Q fun cls d H' => W cls d σ H' := by
    refine ⟨g0, sl, C, rs, R, ?_⟩
    cases hq : ma sl C with
    | stuck => rw [mCMeth, hq] at f0; exact f0.elim
    | exc x0 C1 => rw [mCMeth, hq] at f0; exact f0
    | ok ts C1 =>
      rw [mCMeth, hq] at f0
      have f9 : Fin Y g0 (fun cls d H' => W cls d σ H') (F (.cls c :: ts) C1) (kV' Y Q) := f0
      intro g1 H1 e1 R1 vs rv
      exact ⟨by rw [← rv.length]; exact ha.len _ _ _ _ hq, g1, C1, .cls c :: ts, R1, .cons (.cls hcl) rv, Fin.ext e1 f9⟩
  refine PySem.W.methodCall_KW (pl := pl) (ld_glob I hg hm ?_ hdb) ht
  refine ClX.getmethcm_ok I (by rw [hK]; exact cr) (by rw [hK]; exact cm) fun s2 I2 => ?_
  refine ClX.callwith_cm I2 (ClX.base_none I (Nat.le_refl _)) (by rw [hK]; exact cm.fi) (thn (ha.pa.run pos _ s2 σ H _ I2 h') fun us s3 ⟨vs, H2, I3, rv, q1, q2⟩ => ⟨⟨ClX.pin_at I3, I3.kIn⟩, ?_⟩) hst hpl
  have rv' : Vals (.ref A :: vs) (.ref A :: us) := .cons rfl rv
  have hl : (Value.ref A :: us).length = ps.length := by
    rw [← rv'.length, List.length_cons, q1, hn]
  have e0 : Env0 X.prog X.w Y.M.K X.mg X.base X.A X.stack s3 H2 := hK ▸ I3.env0
  have z := wpAny_call (PySem.W.method_call (ClX.pin_at I3) (codeAny_mono (G.run X.A X.stack s3 H2 ⟨.ref A :: us, []⟩ (.ref A :: us) (.ref A :: vs) Q _ hr e0 (by
    have := hb s3 (.ref A :: us) (hK ▸ I3.kIn) (by simpa using hl)
    simpa using this) rv' hl q2) fun r s' hq => by
      cases r with
      | error er => exact tk er s' (XE.of_call I3 (fun _ _ _ h => h) hq)
      | ok fl =>
        cases fl with
        | ret u => exact I3.after hq
        | next => exact hq.elim
        | brk => exact hq.elim
        | cont => exact hq.elim))
  exact thn z fun _ _ y => ClX.unpinE y
/-- cls(e), cls in slot i -/
def mMakeV (i : Nat) (c : Str) (F : FM) (ma : EM (List TV)) : EM TV := fun s C => match s[i]? with
  | some (some (.cls c')) => if c' = c then mMake c F [] ma s C else .stuck
  | _ => .stuck
theorem se_makeV (D : CDef X.prog X.w Y X.mg X.base c k ps F []) (hr : Rm (k + 1) X.A) (tk : Takes X W) (ha : SA X Y W (e :: es) ma) (hk : X.N[i]? = some x) (hv : Vis X.env.scope x) (hn : (e :: es).length + 1 = ps.length := by rfl) (hK : X.K = Y.M.K := by rfl)
    (hd : (x == ("__debug__" : Str)) = false := by decide) (hcd : (x == ("__classdict__" : Str)) = false := by decide) (he : starEach (e :: es) X.env = (false, eval e X.env) :: starEach es X.env := by rfl) (hpl : (backTo pos (starEach es X.env)).any (·.1) = false := by rfl) :
    PE X (.Call (.Name x p) (e :: es) [] pos) (tE Y W (mMakeV i c F ma)) := by
  obtain ⟨A, fa, fd, ds, dvs, hcl, hm, M, G, hb, hdt, hdv⟩ := D.ex
  cases hdt
  cases hdv
  refine ⟨fun pins s σ H Q I ⟨g, sl, C, rs, R, f0⟩ => ?_⟩
  unfold mMakeV at f0
  split at f0
  · rename_i c' hs
    split at f0
    · rename_i ec
      subst ec
      obtain ⟨v, hσ, rv⟩ := rs.v _ _ hs
      cases rv with
      | @cls _ A' hA' =>
        rw [hcl] at hA'
        cases hA'
        have h' := make_sp (es := e :: es) hcl .nil ha.len ⟨g, sl, C, rs, R, f0⟩
        refine wpAny_Call_Name_kw (thn ((pe_var (X := X) (pos := p) hk hv hd hcd).run pins s σ H (fun v H1 => v = .ref A ∧ H1 = H) I ⟨.ref A, hσ, rfl, rfl⟩) fun u s0 ⟨v, H0, I0, r0, e1, e2⟩ => ?_)
        subst e1
        subst e2
        obtain rfl : u = Value.ref A := r0
        refine PySem.W.callWith_K (h₀ := X.base) I0.ok.mod.kin (by rw [hK]; exact M.kp) (thn (ha.pa.run pos pins s0 σ _ _ I0 h') fun us s1 ⟨vs, H1, I1, r, q1, q2⟩ => ⟨I1.kIn, ?_⟩) he hpl
        exact run_makeT (hK ▸ M) G hK hr (by rw [hK]; exact hb) tk .nil (by rw [q1, ← hn]; rfl) I1 r q2
    · exact f0.elim
  · exact f0.elim
end
/-- a classmethod as the head tells it -/
structure DCM (K : PySem.W.Frag) (A : Addr) (m q : Str) (st : Stmt) : Prop where
  ex : ∃ (p f : Addr) (rest : List Value) (oc : Value) (od an : Option Addr) (osl : Array (Option Value)) (kV doc pm cdv ct : Value), PySem.W.findCls K (.ref A) (.type "type") m = some (.get (.builtin "classmethod.__get__") (.ref p) .none (.ref A)) ∧
    PySem.W.recIn K p "classmethod" = some (.ref f :: rest) ∧ PySem.W.fnIn K f = true ∧ K.lookup f = some ⟨oc, od, .func (PySem.W.fnOf m q (defArgs st) (defBody st) (defScope st) .none kV doc pm an cdv ct), osl⟩ ∧ PySem.W.codeIn K cdv q = true ∧ PySem.W.keepIn K (.ref f) = true
theorem dcm_mk {K : PySem.W.Frag} {A : Addr} {m q : Str} {st : Stmt} {p f : Addr} {rest : List Value} {oc : Value} {od an : Option Addr} {osl : Array (Option Value)} {kV doc pm cdv ct : Value}
    (a : PySem.W.findCls K (.ref A) (.type "type") m = some (.get (.builtin "classmethod.__get__") (.ref p) .none (.ref A))) (r : PySem.W.recIn K p "classmethod" = some (.ref f :: rest)) (i : PySem.W.fnIn K f = true)
    (l : K.lookup f = some ⟨oc, od, .func (PySem.W.fnOf m q (defArgs st) (defBody st) (defScope st) .none kV doc pm an cdv ct), osl⟩) (c : PySem.W.codeIn K cdv q = true) (k : PySem.W.keepIn K (.ref f) = true) : DCM K A m q st :=
  ⟨p, f, rest, oc, od, an, osl, kV, doc, pm, cdv, ct, a, r, i, l, c, k⟩
section
variable {P : Program} {w : World} {Y : Xd} {mg : Str → Option Value} {base h : Heap} {c m q : Str} {A : Addr} {st : Stmt} {k : Nat} {N ps : List Str} {F : FM} {b : SM}
theorem CMDef.of (hcl : Y.M.cl c = some A) (X : Y.M.K.In h) (G : h.Ns mainGlobals mg) (at_ : PySem.W.nsIn Y.M.K mainGlobals c = some (some (.ref A))) (rd : PySem.W.readsIn Y.M.K A (.type "type") = true)
    (ga : PySem.W.specialIn Y.M.K (.ref A) "__getattribute__" = some (some (.builtin "type.__getattribute__"))) (d : DCM Y.M.K A m q st) (S : FnScope N ps (defScope st)) (hb : PosM m q st ps)
    (ok : ∀ (cdv : Value) (f : Addr) (A : Around) (outer : List Env) (s : Shared) (H : Hp) (E : XK), Rm k (A.deeper (envOfC q (defScope st) s.heap.objs.size f cdv)) →
      PSs (cxOf (L2.CX P w) P w Y.M.K mg base N q (defScope st) f cdv A outer s H E) (defBody st) (tS Y (fun cls d _ H' => E cls d H') b))
    (hF : ∀ ts C, ts.length = ps.length → Lv C (b (st0 N.length ts) C) (F ts C)) : CMDef P w Y mg base c m (k + 1) ps F := by
  obtain ⟨p, f, rest, oc, od, an, osl, kV, doc, pm, cdv, ct, a, r, i, l, c', kp⟩ := d.ex
  have Fu := fun_mk (st := st) l c' kp
  exact ⟨A, p, f, _, hcl, PySem.W.mg_of X G at_, ⟨rd, ga⟩, ⟨a, ⟨rest, r⟩, i⟩, FnT.of Fu S (fun cdv A outer s H E hr => ok cdv f A outer s H E hr) hF, Fu.binds hb⟩
theorem keq_of (hB : Y.M.cl c = some A) (ne : PySem.W.findIn Y.M.K (.ref A) "__ne__" = some (some (.builtin "object.__ne__"))) (ob : PySem.W.subIn Y.M.K (.ref A) (.type "object") = some true)
    (h1 : PySem.W.subIn Y.M.K (.type "NoneType") (.ref A) = some false) (h2 : PySem.W.subIn Y.M.K (.type "bool") (.ref A) = some false) (h3 : PySem.W.subIn Y.M.K (.type "int") (.ref A) = some false) (h4 : PySem.W.subIn Y.M.K (.type "str") (.ref A) = some false)
    (h5 : PySem.W.subIn Y.M.K (.type "list") (.ref A) = some false) (h6 : PySem.W.subIn Y.M.K (.type "tuple") (.ref A) = some false) (h7 : PySem.W.subIn Y.M.K (.type "dict") (.ref A) = some false) : KEq Y c := by
  refine ⟨fun C h => ?_, fun C h => ?_, fun C h n hn => ?_⟩ <;> (rw [hB] at h; cases h)
  · exact ne
  · exact ob
  · simp only [List.mem_cons, List.not_mem_nil, or_false] at hn
    rcases hn with rfl | rfl | rfl | rfl | rfl | rfl | rfl <;> assumption
end
end FH
/-! GcO: isinstance(x, (T, U)) of two built-in types. -/
namespace FH
open PySem L2
open PySem.Spec PyProof.Rows
def isR2 (n1 n2 : String) (x : TV) (C : Tab) : Res TV := match tyName (rd C x) with
  | some a => match kitB a n1, kitB a n2 with
    | some b1, some b2 => .ok (.bl (b1 || b2)) C
    | _, _ => .stuck
  | none => .stuck
def mIs2 (n1 n2 : String) (m : EM TV) : EM TV := fun s C => (m s C).bind (isR2 n1 n2)
section
variable {X : Cx} {Y : Xd} {W : WX} {e : Expr} {p p1 p2 tpos pos : Pos} {kd : Nat} {me : EM TV} {n1 n2 : String} {x1 x2 : Str}
theorem se_is2 (he : PE X e (tE Y W me)) (hm : X.mg "isinstance" = none) (hv : bootBuiltins "isinstance" = some (.builtin "isinstance")) (m1 : X.mg x1 = none) (v1 : bootBuiltins x1 = some (.type n1)) (m2 : X.mg x2 = none) (v2 : bootBuiltins x2 = some (.type n2)) (hK : X.K = Y.M.K := by rfl)
    (hg : Gl X "isinstance" := by rfl) (g1 : Gl X x1 := by rfl) (g2 : Gl X x2 := by rfl) (k1 : x1 ≠ "__name__" := by decide) (k2 : x2 ≠ "__name__" := by decide) (d1 : (x1 == ("__debug__" : Str)) = false := by decide) (d2 : (x2 == ("__debug__" : Str)) = false := by decide)
    (h1 : starEach [.Name x1 p1, .Name x2 p2] X.env = (false, eval (.Name x1 p1) X.env) :: starEach [.Name x2 p2] X.env := by rfl) (h2 : starEach [.Name x2 p2] X.env = (false, eval (.Name x2 p2) X.env) :: starEach [] X.env := by rfl)
    (hs1 : starEach [e, .Tuple [.Name x1 p1, .Name x2 p2] kd tpos] X.env = (false, eval e X.env) :: starEach [.Tuple [.Name x1 p1, .Name x2 p2] kd tpos] X.env := by rfl)
    (hs2 : starEach [.Tuple [.Name x1 p1, .Name x2 p2] kd tpos] X.env = (false, eval (.Tuple [.Name x1 p1, .Name x2 p2] kd tpos) X.env) :: starEach [] X.env := by rfl)
    (hpl : (backTo pos (starEach [.Tuple [.Name x1 p1, .Name x2 p2] kd tpos] X.env)).any (·.1) = false := by rfl) :
    PE X (.Call (.Name "isinstance" p) [e, .Tuple [.Name x1 p1, .Name x2 p2] kd tpos] [] pos) (tE Y W (mIs2 n1 n2 me)) := by
  have tp : PE X (.Tuple [.Name x1 p1, .Name x2 p2] kd tpos) _ := pe_tup (pa_cons (pe_bltn (pos := p1) g1 m1 v1 (v := .ty n1) rfl k1 d1) (pa_cons (pe_bltn (pos := p2) g2 m2 v2 (v := .ty n2) rfl k2 d2) pa_nil h2) h1)
  refine PE.imp (pe_callB call_isiT hg hm hv (pa_cons he (pa_cons tp pa_nil hs2) hs1) (by decide) (by decide) hs1 hpl) fun σ H Q ⟨g, s, C, rs, R, f0⟩ => ?_
  refine tE_bind rs R f0 fun x g1 C1 H1 v e1 rs1 R1 rv f1 => ?_
  refine ⟨by rw [sizeLine_eq]; simp, fun q hq => ?_⟩
  obtain ⟨R2, e2⟩ := R1.addB (o := .tup [.ty n1, .ty n2]) (Same.upd hq) hq upd_same
  have r2 := R2.rr (rv.mono e2)
  unfold isR2 at f1
  split at f1
  · rename_i a ha
    split at f1
    · rename_i b1 b2 hb1 hb2
      refine ⟨v, q, [.ty n1, .ty n2], .type a, [.type n1, .type n2], b1 || b2, rfl, upd_same, .cons (.ty n1) (.cons (.ty n2) .nil), ?_, ?_, ?_⟩
      · rw [hK]; exact tyx_of r2 ha
      · refine kitAny_cons (kit_ty hb1) (fun z => ?_) (fun z => by rw [z]; rfl)
        subst z
        refine kitAny_cons (kit_ty hb2) (fun z => ?_) (fun z => by rw [z]; rfl)
        subst z
        exact kitAny_nil
      · exact f1 _ _ e2 R2 _ .bl
    · exact f1.elim
  · exact f1.elim
end
end FH
/-! GcP: tuple(d), d a dict. -/
namespace FH
open PySem L2
open PySem.Spec PyProof.Rows
open PySem.W in
theorem collect_src {prog : Program} {w : World} {A : Around} {E : Value → Shared → Prop} {s : Shared} {T : String} {r d : Addr} {n : Nat} {P : Nat → Value → Prop} {OK : Heap → Prop} {Q : List Value → Shared → Prop} (K : KdlSrc prog w T r d n P OK) (hh : A.handled = none) (hok : OK s.heap) (hn : n ≤ sizeLine)
    (hQ : ∀ (h' : Heap) (tk : Nat) (acc : Array Value), (∀ b o, s.heap.get? b = some o → h'.get? b = some o) → ItemsOf P acc n → Q acc.toList { s with heap := h', toks := tk }) : wpAny (model prog w) A (collect (.ref r)) Q E s := by
  unfold collect
  refine wpAny_bind (wpAny_runValue (codeAny_builtin F.entry_proto_collect ?_))
  rw [Around.under_plainId F.plain_proto_collect _]
  show wpAny _ A.in1 (newList [] >>= fun l => again (.builtin "list.__iadd__" ⟨[l, .ref r], []⟩)) _ _ s
  apply wpAny_bind
  refine wpAny_newObj_type ?_
  refine wpAny_pure ⟨plainId_quiet F.plain_list_iadd _, codeAny_builtin F.entry_list_iadd ?_⟩
  rw [Around.under_plainId F.plain_list_iadd _]
  have lt := K.there _ hok
  have hS : (s.heap.push { cls := .type "list", data := .seq ([] : List Value).toArray }).get? s.heap.objs.size = some { cls := .type "list", data := .seq #[] } := Heap.get?_push_size _ rfl
  have up : ∀ b o, s.heap.get? b = some o → (s.heap.push { cls := .type "list", data := .seq ([] : List Value).toArray }).get? b = some o := fun b o e => Heap.get?_push_of_some _ e
  show wpAny _ A.in1 (Builtin.List.listExtendWith (.ref s.heap.objs.size) (.ref r) (.ref s.heap.objs.size)) _ _ _
  refine kdl_extend (A := A) (R := fun r s' => match r with | .ok (.ret v) => wpAny (model prog w) A (match v with | .ref a => do (match (← load a).data with | .seq xs _ => pure xs.toList | _ => unsupported "internal:collect") | _ => unsupported "internal:collect") Q E s' | .ok _ => False | .error e => E e s') (s := { s with heap := s.heap.push { cls := .type "list", data := .seq ([] : List Value).toArray } }) K hh (K.keep _ _ hok fun b _ o e => up b o e) s.heap.objs.size (Nat.ne_of_gt lt.1) (Nat.ne_of_gt lt.2) _ 0 hS (fun h' tk acc c hk hS' hacc => ?_) hn
  show wpAny _ A (load s.heap.objs.size >>= _) _ _ _
  refine wpAny_bind (wpAny_load hS' ?_)
  exact wpAny_pure (hQ h' tk acc (fun b o e => hk b o (Nat.ne_of_lt (Heap.lt_size e)) (up b o e)) hacc)
open PySem.W in
theorem new_tuple_src {prog : Program} {w : World} {A : Around} {E : Value → Shared → Prop} {s : Shared} {r d : Addr} {n : Nat} {P : Nat → Value → Prop} {OK : Heap → Prop} {Q : Value → Shared → Prop} (K : KdlSrc prog w "dict" r d n P OK) (hh : A.handled = none) (hok : OK s.heap) (hn : n ≤ sizeLine)
    (hQ : ∀ (h' : Heap) (tk : Nat) (acc : Array Value), (∀ b o, s.heap.get? b = some o → h'.get? b = some o) → ItemsOf P acc n → Q (.ref h'.objs.size) { s with heap := h'.push { cls := .type "tuple", data := .seq acc }, toks := tk }) :
    codeAny (model prog w) A (.call (.builtin "tuple.__new__") ⟨[.type "tuple", .ref r], []⟩) (wants Q E) s := by
  apply codeAny_of_tree
  show wpAny _ A.in1 (do checkBuiltinCall "tuple.__new__" ⟨[.type "tuple", .ref r], []⟩; again (.builtin "tuple.__new__" ⟨[.type "tuple", .ref r], []⟩)) _ _ s
  refine wpAny_bind (wpAny_of_eq (F.newCall_tuple_1 _) (wpAny_pure ⟨plainId_quiet F.plain_tuple_new _, codeAny_builtin F.entry_tuple_new ?_⟩))
  rw [Around.under_plainId F.plain_tuple_new _]
  have hsub := sub_tuple_self
  have hinit := init_tuple_lookup
  have hmh := madeHere_tuple
  have hTI : s.TypeIs (.ref r) "dict" := K.type s hok
  have hh1 : A.in1.handled = none := hh
  wp_walk using wpAny_typeOf hTI, collect_src (A := A.in1) K hh1 hok hn
  intro h' tk acc hk hacc
  show wpAny _ _ (Builtin.Tuple.tupleExact acc.toList.toArray >>= fun v => ret v) _ _ _
  unfold Builtin.Tuple.tupleExact
  apply wpAny_bind
  refine wpAny_newObj_type ?_ (by show acc.toList.toArray.size ≤ sizeLine; simp only [Array.toArray_toList]; rw [hacc.1]; exact hn)
  apply wpAny_pure
  have e : acc.toList.toArray = acc := by simp
  rw [e]
  exact hQ h' tk acc hk hacc
def rTupD : List V → Hp → VK → Prop := fun xs H Q => ∃ (a : Addr) (kvs : List (Key × V)), xs = [.ref a] ∧ Rd H a (.dK kvs) ∧ ∀ p, H p = none → Q (.ref p) (upd H p (.tup (kvs.map fun kv => kV kv.1)))
theorem call_tupD {X : Cx} (hc : X.calm = true) : CallR X (.type "tuple") rTupD := by
  intro pins s σ H xs us Q I r h
  obtain ⟨a, kvs, rfl, hk, q⟩ := h
  obtain ⟨u, rfl, rx⟩ := vals1 r
  obtain rfl : u = Value.ref a := rx
  obtain ⟨z, lo, vs, rk, hd⟩ := dk_rd I.hok hk
  obtain ⟨ep, hat⟩ := hd.dictAt
  have hl : kvs.length = vs.length := Paired.length rk
  have K := PySem.W.kdl_dict (prog := X.prog) (w := X.w) (knd := mixKind X.prog X.w) (kvs := vs) (ep := ep) lo
  refine callType_codes (Q₁ := fun obj s₁ => s₁.TypeIs obj "tuple" ∧ EP X pins σ Q obj s₁) F.called_tuple (F.typeCall_tuple_1 _) F.entry_object_init
    (new_tuple_src (A := X.A.in1) K (I.ok.hd hc) hat (by rw [← hl]; exact z) fun h' tk acc hkeep hacc => ⟨⟨_, Heap.get?_push_size _ rfl, rfl⟩, ?_⟩) fun obj s₁ h₁ => ⟨h₁.1, F.args_object_init_2 obj _, object_init_meets F.called_tuple.init.lookup F.called_tuple.made (by decide) X.prog X.w X.A.in1 _ s₁ ⟨h₁.1, rfl, h₁.2⟩⟩
  have I1 := I.kept (t' := tk) hkeep
  have vv : Vals (kvs.map fun kv => kV kv.1) acc.toList := vals_of_at (by simp [hacc.1, hl]) fun j x w h1 h2 => by
    obtain ⟨k, y, hky, hi⟩ := hacc.2 j w (by rw [← Array.getElem?_toList]; exact h2)
    have e1 : (kvs.map (·.1))[j]? = some k := by rw [KV.keys rk, List.getElem?_map, hky]; rfl
    rw [List.getElem?_map] at h1 e1
    cases hj : kvs[j]? with
    | none => rw [hj] at e1; cases e1
    | some kv =>
      rw [hj] at e1 h1
      cases e1
      cases h1
      exact keyIs_rel hi
  refine ⟨.ref h'.objs.size, upd H h'.objs.size (.tup (kvs.map fun kv => kV kv.1)), I1.laid (a := h'.objs.size) (t' := tk) (fun _ _ e => Heap.get?_push_of_some _ e) (Nat.le_refl _) ?_, rfl, q _ (I1.hok.fresh (Nat.le_refl _))⟩
  exact ⟨by rw [List.length_map]; exact z, acc.toList, vv, _, Heap.get?_push_size _ rfl, rfl, 0, by simp⟩
def bTuple2 : FM := fun ts C => match ts with
  | [x] => match rd C x with
    | .dct kvs => .ok (.tup (kvs.map fun kv => keyTV kv.1)) C
    | _ => bTuple [x] C
  | _ => .stuck
def rTup4 (K : PySem.W.Frag) : List V → Hp → VK → Prop := fun xs H Q => rTup2 K xs H Q ∨ rTupD xs H Q
theorem call_tup4 {X : Cx} (hc : X.calm = true) : CallR X (.type "tuple") (rTup4 X.K) := call_tuple_of.or (call_tupD hc)
theorem bTuple2_ok {X : Cx} {Y : Xd} (hK : X.K = Y.M.K) : CallS Y (rTup4 X.K) bTuple2 := by
  intro g C H W xs vs Q R rv f
  unfold bTuple2 at f
  split at f
  · rename_i x
    obtain ⟨v, rfl, rx⟩ := rv.one
    have q := R.rr rx
    split at f
    · rename_i kvs hx
      rw [hx] at q
      obtain ⟨a, ws, rfl, ha, r⟩ := q
      exact .inr ⟨a, ws, rfl, ha.rd, tup_new R (rvs_keys r) f⟩
    · exact .inl (bTuple_ok hK g C H W [x] [v] Q R (.cons rx .nil) f)
  · exact f.elim
end FH
/-! GcQ: sorted(set(xs)), xs a list of texts. -/
namespace FH
open PySem L2
open PySem.Spec PyProof.Rows
/-! ### a set of texts in the heap: its entries, up to their order -/
def ent (w : World) (p : Str × Tok) : Int × Value := (hashStr w p.1, .str p.1 p.2)
/-- the parts of the set at a -/
structure SetS (w : World) (h : Heap) (a : Addr) (ts : List (Str × Tok)) (o : Obj) (es : Array (Int × Value)) (ep : Nat) (t : SetTable) : Prop where
  at_ : h.get? a = some o
  exact_ : o.ExactSet
  dat : o.data = .set es ep t
  pm : es.toList.Perm (ts.map (ent w))
  fit : t.fits es.size = true
  ris : Ris t.place.toList
  led : w.params.followText "set-order" = true ∨ t.led = true
def InS (w : World) (h : Heap) (a : Addr) (ts : List (Str × Tok)) : Prop := ∃ o es ep t, SetS w h a ts o es ep t
section
variable {P : Program} {w : World} {A : Around} {E : Value → Shared → Prop} {s : Shared} {a : Addr} {h h' : Heap} {ts : List (Str × Tok)} {o : Obj} {es : Array (Int × Value)} {ep : Nat} {t : SetTable}
theorem InS.keep (R : InS w h a ts) (k : ∀ o, h.get? a = some o → h'.get? a = some o) : InS w h' a ts := by
  obtain ⟨o, es, ep, t, R⟩ := R
  exact ⟨o, es, ep, t, k o R.at_, R.exact_, R.dat, R.pm, R.fit, R.ris, R.led⟩
theorem ent_el (p : Str × Tok) : (∃ k, (PySem.strKind P w).is k (ent w p).2 = true ∧ (ent w p).1 = (PySem.strKind P w).hash k) ∧ (ent w p).2.scannable = true :=
  ⟨⟨p.1, strKind_is P w p.1 p.2, rfl⟩, rfl⟩
theorem els_of {l : List (Int × Value)} (p : l.Perm (ts.map (ent w))) : ElemsOf (PySem.strKind P w) l := fun e he => by
  obtain ⟨q, _, rfl⟩ := List.mem_map.mp (p.mem_iff.mp he)
  exact ent_el q
theorem SetS.size (R : SetS w h a ts o es ep t) : es.size = ts.length := by
  have := R.pm.length_eq
  rwa [Array.length_toList, List.length_map] at this
theorem is_ent (x : Str) (p : Str × Tok) : (PySem.strKind P w).is x (ent w p).2 = true ↔ p.1 = x := by
  show Value.isStrOf x (.str p.1 p.2) = true ↔ p.1 = x
  simp [Value.isStrOf]
/-- what a new entry leaves, laid anew or not -/
theorem lay_tail {x : Str} {tk : Tok} {g : Bool → Sem Unit} (hg : ∀ (b : Bool) (s₁ : Shared) (Q' : Unit → Shared → Prop), Q' () s₁ → wpAny (model P w) A (g b) Q' E s₁) (R : SetS w s.heap a ts o es ep t) (room : ts.length + 1 < scanBound)
    {es1 : Array (Int × Value)} {t2 : SetTable} {wd : Bool} (p1 : es1.toList.Perm (((x, tk) :: ts).map (ent w))) (f1 : t2.fits es1.size = true) (r1 : Ris t2.place.toList) (l1 : w.params.followText "set-order" = true ∨ t2.led = true) {W : Option Bool → Shared → Prop}
    (fin : ∀ h', Heap.SameBut a s.heap h' → InS w h' a ((x, tk) :: ts) → W (some true) { s with heap := h' }) :
    wpAny (model P w) A (do
        storeSet a es1 t2
        if (!wd && t2.tooFull) = true then
            g (relayAll t2 es1 (SetTable.grown es1.size)).2.2
            storeSet a (relayAll t2 es1 (SetTable.grown es1.size)).1 (relayAll t2 es1 (SetTable.grown es1.size)).2.1
            pure (some true)
        else pure (some true)) W E s := by
  have sz : es1.size < scanBound := by
    have := p1.length_eq
    rw [Array.length_toList, List.length_map, List.length_cons] at this
    omega
  have at1 : (s.heap.update a (Obj.putSet es1 t2)).get? a = some { o with data := .set es1 (ep + 1) t2 } := store_at (es' := es1) (t' := t2) R.at_ R.dat
  have b1 : Heap.SameBut a s.heap (s.heap.update a (Obj.putSet es1 t2)) := Heap.SameBut.update s.heap a _
  refine wpAny_bind (wpAny_storeSet_of R.at_ R.dat ?_ (fits_of_scanBound sz))
  by_cases c : (!wd && t2.tooFull) = true
  · rw [if_pos c]
    have p3 := (relayAll_perm t2 es1 (SetTable.grown es1.size)).trans p1
    have f3 := relayAll_fits t2 es1 (SetTable.grown es1.size)
    have r3 := relayAll_ris t2 es1 (SetTable.grown es1.size)
    have l3 : w.params.followText "set-order" = true ∨ (relayAll t2 es1 (SetTable.grown es1.size)).2.1.led = true := by rw [relayAll_led]; exact l1
    revert p3 f3 r3 l3
    generalize relayAll t2 es1 (SetTable.grown es1.size) = Z
    intro p3 f3 r3 l3
    have sz3 : Z.1.size < scanBound := by
      have := p3.length_eq
      rw [Array.length_toList, List.length_map, List.length_cons] at this
      omega
    exact wpAny_bind (hg _ _ _ (wpAny_bind (wpAny_storeSet_of at1 rfl (wpAny_pure (fin _ (b1.trans (Heap.SameBut.update _ a _)) ⟨_, _, _, _, store_at at1 rfl, R.exact_, rfl, p3, f3, r3, l3⟩)) (fits_of_scanBound sz3))))
  · rw [if_neg c]
    exact wpAny_pure (fin _ b1 ⟨_, _, _, _, at1, R.exact_, rfl, p1, f1, r1, l1⟩)
/-- one more text -/
theorem text_in {x : Str} {tk : Tok} {Q : Bool → Shared → Prop} (R0 : InS w s.heap a ts) (room : ts.length + 1 < scanBound) (old : x ∈ ts.map (·.1) → Q false s)
    (new : x ∉ ts.map (·.1) → ∀ h', Heap.SameBut a s.heap h' → InS w h' a ((x, tk) :: ts) → Q true { s with heap := h' }) :
    wpAny (model P w) A (setAddHashed a (.str x tk) (hashStr w x)) Q E s := by
  obtain ⟨o, es, ep, t, R⟩ := R0
  have el : ElemsOf (PySem.strKind P w) es.toList := els_of R.pm
  have sz : es.size < scanBound := by rw [R.size]; omega
  have sc : (Value.str x tk).scannable = true := rfl
  have hk := strKind_is P w x tk
  show wpAny (model P w) A (setAddHashed a (.str x tk) ((PySem.strKind P w).hash x)) Q E s
  unfold setAddHashed setAddHashedIn
  refine wpAny_holding (wpAny_bind (wpAny_setState_of R.at_ R.dat R.fit ?_))
  dsimp only
  rw [byScan_of sc sz el, if_pos rfl]
  unfold setAddByScan
  refine wpAny_bind (wpAny_bind (wpAny_rule (wpAny_bind (wpAny_setScan_of hk R.at_ R.dat R.fit el ?_))))
  cases met : es.toList.findIdx? fun e => (PySem.strKind P w).is x e.2 with
  | some j =>
    dsimp only
    obtain ⟨lt, yes, _⟩ := List.findIdx?_eq_some_iff_getElem.mp met
    obtain ⟨p, hp, e⟩ := List.mem_map.mp (R.pm.mem_iff.mp (List.getElem_mem lt))
    rw [← e] at yes
    exact wpAny_pure (wpAny_pure (old (List.mem_map.mpr ⟨p, hp, (is_ent x p).mp yes⟩)))
  | none =>
    dsimp only
    have no : x ∉ ts.map (·.1) := fun z => by
      obtain ⟨p, hp, e⟩ := List.mem_map.mp z
      have q := List.findIdx?_eq_none_iff.mp met (ent w p) (R.pm.mem_iff.mpr (List.mem_map.mpr ⟨p, hp, rfl⟩))
      rw [(is_ent x p).mpr e] at q
      cases q
    have p1 : (layNew t es ((PySem.strKind P w).hash x) (.str x tk)).1.toList.Perm (((x, tk) :: ts).map (ent w)) := by
      refine (layNew_perm t es _ _).trans ?_
      rw [Array.toList_push]
      exact (List.perm_append_singleton _ _).trans (R.pm.cons _)
    have f1 := layNew_fits t es ((PySem.strKind P w).hash x) (.str x tk)
    have r1 := layNew_ris t es ((PySem.strKind P w).hash x) (.str x tk) R.ris
    have l1 : w.params.followText "set-order" = true ∨ (layNew t es ((PySem.strKind P w).hash x) (.str x tk)).2.1.led = true := by rw [layNew_led]; exact R.led
    revert p1 f1 r1 l1
    generalize layNew t es ((PySem.strKind P w).hash x) (.str x tk) = Z
    obtain ⟨es1, t1, wd, gave⟩ := Z
    intro p1 f1 r1 l1
    dsimp only at p1 f1 r1 l1 ⊢
    have two : ∀ (b : Bool) (s₁ : Shared) (Q' : Unit → Shared → Prop), Q' () s₁ → wpAny (model P w) A (match b with | true => rule "set.scan.the-table-gave-way" | false => pure ()) Q' E s₁ := fun b s₁ Q' q => by
      cases b
      · exact wpAny_pure q
      · exact wpAny_rule q
    refine wpAny_bind (two gave _ _ ?_)
    split
    · rw [hashByValue_scannable 8 sc]
      refine wpAny_bind (wpAny_pure ?_)
      refine lay_tail (x := x) (tk := tk) (fun b s₁ Q' q => ?_) R room p1 ?_ ?_ ?_ fun h' sb r => ?_
      · cases b <;> first | exact wpAny_pure q | exact wpAny_rule q
      · first | exact f1 | (split <;> first | exact f1 | exact SetTable.fits_plain_off f1)
      · first | exact r1 | (split <;> exact r1)
      · first | exact l1 | (split <;> exact l1)
      · dsimp only
        exact wpAny_pure (new no h' sb r)
    · refine wpAny_bind (wpAny_pure ?_)
      simp only [↓reduceIte]
      refine lay_tail (x := x) (tk := tk) (fun b s₁ Q' q => ?_) R room p1 f1 r1 l1 fun h' sb r => ?_
      · cases b <;> first | exact wpAny_pure q | exact wpAny_rule q
      · dsimp only
        exact wpAny_pure (new no h' sb r)
end
end FH
/-! GcR: set(xs), xs a list of texts; the members in a list, sorted. -/
namespace FH
open PySem L2
open PySem.Spec PyProof.Rows
def emptySet (w : World) : Obj := { cls := .type "set", dict := none, data := .set #[] 0 (.fresh 0 0 (!w.params.followText "set-order")) }
/-- what stands in the set when the first ones are in -/
def Met (xs : List Str) (ts : List (Str × Tok)) : Prop := (ts.map (·.1)).Nodup ∧ (∀ x, x ∈ ts.map (·.1) ↔ x ∈ xs) ∧ ts.length ≤ xs.length
theorem Met.more {xs : List Str} {ts : List (Str × Tok)} {x : Str} {tk : Tok} (m : Met xs ts) (no : x ∉ ts.map (·.1)) : Met (xs ++ [x]) ((x, tk) :: ts) := by
  refine ⟨List.nodup_cons.mpr ⟨no, m.1⟩, fun y => ?_, ?_⟩
  · rw [List.map_cons, List.mem_cons, m.2.1, List.mem_append, List.mem_singleton]
    exact Or.comm
  · have := m.2.2
    simp; omega
theorem Met.same {xs : List Str} {ts : List (Str × Tok)} {x : Str} (m : Met xs ts) (yes : x ∈ ts.map (·.1)) : Met (xs ++ [x]) ts := by
  refine ⟨m.1, fun y => ?_, ?_⟩
  · rw [m.2.1, List.mem_append, List.mem_singleton]
    exact ⟨.inl, fun z => z.elim id fun e => e ▸ (m.2.1 x).mp yes⟩
  · have := m.2.2
    simp; omega
section
variable {P : Program} {w : World} {A : Around} {E : Value → Shared → Prop} {s : Shared}
theorem empty_in {h : Heap} {a : Addr} (e : h.get? a = some (emptySet w)) : InS w h a [] :=
  ⟨_, #[], 0, _, e, ⟨rfl, rfl, rfl⟩, rfl, .refl _, rfl, List.Pairwise.nil, by
    show _ ∨ (!w.params.followText "set-order") = true
    cases w.params.followText "set-order" <;> simp⟩
/-- the loop over a list's items: one by one into the set -/
theorem fill_set {I : Addr} {fp wr : List Addr} {G : Array GenState → Array GenState → Prop} {n : Nat} {Pv : Nat → Value → Prop} {St : Nat → Shared → Prop} {R : Result → Shared → Prop} {S : Addr} {xs : List Str}
    (W : WalksS P w A.in1 I fp wr G n Pv St) (ne : S ∉ fp) (hn : xs.length = n) (room : n + 1 < scanBound) (at_ : ∀ i v, Pv i v → ∃ x t, xs[i]? = some x ∧ v = .str x t)
    (out : ∀ s' ts, Moved (S :: wr) G s s' → Met xs ts → InS w s'.heap S ts → R (.ok (.ret .none)) s') :
    ∀ (k i : Nat) (s1 : Shared) (ts : List (Str × Tok)), i + k = n → Moved (S :: wr) G s s1 → St i s1 → Met (xs.take i) ts → InS w s1.heap S ts → codeAny (model P w) A (.builtin "set.update.loop" ⟨[.ref S, .ref I], []⟩) R s1 := by
  have nw : S ∉ wr := fun z => ne (W.sub _ z)
  have wide : ∀ b ∈ wr, b ∈ S :: wr := fun b z => List.mem_cons_of_mem _ z
  intro k
  induction k with
  | zero =>
    intro i s1 ts e mv st mt ins
    have hi : i = n := e
    subst hi
    rw [List.take_of_length_le (Nat.le_of_eq hn)] at mt
    refine codeAny_builtin F.entry_set_update_loop ?_
    rw [Around.under_plainId F.plain_set_update_loop _]
    exact wpAny_bind (m := pyNext (.ref I)) (W.done s1 _ _ st fun s2 m2 => wpAny_pure (out s2 ts (mv.trans W.gtrans (m2.mono wide)) mt (ins.keep fun o q => m2.heap S o nw q)))
  | succ k ih =>
    intro i s1 ts e mv st mt ins
    refine codeAny_builtin F.entry_set_update_loop ?_
    rw [Around.under_plainId F.plain_set_update_loop _]
    refine wpAny_bind (m := pyNext (.ref I)) (W.item i s1 _ _ (by omega) st fun v s2 hv st2 m2 => ?_)
    obtain ⟨x, tk, hx, rfl⟩ := at_ i v hv
    have i2 : InS w s2.heap S ts := ins.keep fun o q => m2.heap S o nw q
    have mv2 := mv.trans W.gtrans (m2.mono wide)
    have tk1 : xs.take (i + 1) = xs.take i ++ [x] := by rw [List.take_add_one, hx]; rfl
    have le := mt.2.2
    rw [List.length_take] at le
    refine wpAny_bind (m := holding [Value.str x tk] (setAdd S (.str x tk))) (wpAny_holding ?_)
    unfold setAdd
    refine wpAny_holding (wpAny_bind ((PySem.strKind P w).pyHash (strKind_is P w x tk) ?_))
    refine text_in (s := { s2 with toks := s2.toks + 1 }) i2 (by omega) (fun yes => ?_) fun no h' sb ins' => ?_
    · refine wpAny_pure ⟨plainId_quiet F.plain_set_update_loop _, ih (i + 1) _ ts (by omega) ?_ ?_ (by rw [tk1]; exact mt.same yes) i2⟩
      · exact mv2.then_heap (Nat.le_succ _) fun b o _ q => q
      · exact W.frame _ s2 _ _ st2 (Nat.le_succ _) fun b _ o q => q
    · refine wpAny_pure ⟨plainId_quiet F.plain_set_update_loop _, ih (i + 1) _ _ (by omega) ?_ ?_ (by rw [tk1]; exact mt.more no) ins'⟩
      · exact mv2.then_heap (Nat.le_succ _) fun b o hb q => by rw [sb.2 b fun z => hb (by rw [z]; exact List.mem_cons_self)]; exact q
      · exact W.frame _ s2 _ _ st2 (Nat.le_succ _) fun b hb o q => by rw [sb.2 b fun z => ne (by rw [← z]; exact hb)]; exact q
end
end FH
/-! GcS: set(xs) as a call; sorted of such a set. -/
namespace FH
open PySem L2
open PySem.Spec PyProof.Rows
section
variable {P : Program} {w : World} {A : Around} {E : Value → Shared → Prop} {s : Shared}
set_option maxHeartbeats 3200000 in
/-- the new set takes the items of a list -/
theorem init_set {l S : Addr} {items : Array Value} {xs : List Str} {R : Result → Shared → Prop} (hh : A.handled = none) (hS : s.heap.get? S = some (emptySet w)) (hl : s.heap.IsList l items) (ne : l ≠ S) (hi : StrsAre items.toList xs) (room : xs.length + 1 < scanBound)
    (out : ∀ (h' : Heap) (tk : Nat) (ts : List (Str × Tok)), Met xs ts → InS w h' S ts → (∀ b o, b ≠ S → s.heap.get? b = some o → h'.get? b = some o) → R (.ok (.ret .none)) { s with heap := h', toks := tk }) :
    wpAny (model P w) A.in1 (Builtin.«set.__init__» ⟨[.ref S, .ref l], []⟩) (fun fin s' => match fin with | .done f => R (.ok f) s' | .again c' => c'.quiet = true ∧ codeAny (model P w) A c' R s') (fun e s' => R (.error e) s') s := by
  obtain ⟨⟨cl, di, da, sl⟩, ho, hcl, nl, hdl⟩ := id hl
  simp only at hcl hdl
  subst hcl hdl
  have a1 := F.sub_list_set
  have a2 := F.sub_list_frozenset
  have a3 : (Value.type "list" == Value.type "dict") = false := by decide
  unfold Builtin.«set.__init__» noKeywords Builtin.Frozenset.updateFrom
  generalize hPI : pyIter = PI
  wp_walk
  subst hPI
  refine wpAny_pyIter_list hl (wpAny_bind (wpAny_runValue ?_))
  have lt : S < s.heap.objs.size := Heap.lt_size hS
  have ll : l < s.heap.objs.size := Heap.lt_size ho
  have len : items.size = xs.length := by rw [← StrsAre.len_eq hi, Array.length_toList]
  have W := (Walks.list (prog := P) (w := w) (A := A.in1.in1) (by simp [hh]) s.heap.objs.size l (Nat.ne_of_lt ll) items).toS
  have grown : ∀ {b o}, s.heap.get? b = some o → (s.heap.push { cls := .type "list_iterator", data := .fields #[.ref l, .int 0 0] }).get? b = some o := fun e => Heap.get?_push_of_some _ e
  refine fill_set (A := A.in1) (s := { s with heap := s.heap.push { cls := .type "list_iterator", data := .fields #[.ref l, .int 0 0] } }) (xs := xs) W (fun z => ?_) len.symm (by omega) (fun i v hv => ?_) (fun s' ts mv mt ins => ?_) items.size 0 _ [] (Nat.zero_add _) ?_ ?_ ?_ ?_
  · rcases List.mem_cons.mp z with e | e
    · exact absurd e (Nat.ne_of_lt lt)
    · exact ne (List.mem_singleton.mp e).symm
  · have hv' : items[i]? = some v := hv
    obtain ⟨t, e⟩ := SS.strs_at hi i v (by rw [Array.getElem?_toList]; exact hv')
    have lx : i < xs.length := by rw [← len]; exact (Array.getElem?_eq_some_iff.mp hv').1
    exact ⟨xs[i], t, List.getElem?_eq_getElem lx, by rw [e, List.getD_eq_getElem?_getD, List.getElem?_eq_getElem lx]; rfl⟩
  · have eg : s'.gens = s.gens := mv.gens
    have ed : s'.drawn = s.drawn := mv.drawn
    have eo : s'.os = s.os := mv.os
    have q := out s'.heap s'.toks ts mt ins fun b o hb e => mv.heap b o (fun z => by
      rcases List.mem_cons.mp z with e' | e'
      · exact hb e'
      · exact absurd (Heap.lt_size e) (by rw [List.mem_singleton.mp e']; exact Nat.lt_irrefl _)) (grown e)
    rw [← eg, ← ed, ← eo] at q
    exact wpAny_pure (wpAny_pure q)
  · exact ⟨fun _ _ _ e => e, rfl, rfl, rfl, Nat.le_refl _⟩
  · exact ⟨⟨_, Heap.get?_push_size _ rfl, rfl, rfl⟩, hl.push _⟩
  · exact ⟨List.nodup_nil, fun x => by simp, Nat.zero_le _⟩
  · exact empty_in (grown hS)
/-- a built-in class called, where __init__'s arguments are looked at in the state -/
theorem call_ty_at {T nw it : String} {B : Builtin} {xs : List Value} {Q Q1 : Value → Shared → Prop} (tc : TypeCalled T nw it) (ck : checkTypeCall T ⟨xs, []⟩ = pure ()) (en : entryFor table it = some B)
    (mk : codeAny (model P w) A.in1 (.call (.builtin nw) ⟨.type T :: xs, []⟩) (wants Q1 E) s)
    (nx : ∀ x s1, Q1 x s1 → s1.TypeIs x T ∧ (∀ (M : Model) (A' : Around) (E' : Value → Shared → Prop) (Q' : Unit → Shared → Prop), Q' () s1 → wpAny M A' (checkBuiltinCall it ⟨x :: xs, []⟩) Q' E' s1) ∧
      wpAny (model P w) A.in1.in1 (B ⟨x :: xs, []⟩) (fun f s2 => match f with | .done f => wants (fun r s3 => r = .none ∧ Q x s3) E (.ok f) s2 | .again c => c.quiet = true ∧ codeAny (model P w) A.in1 c (wants (fun r s3 => r = .none ∧ Q x s3) E) s2)
        (fun e s2 => wants (fun r s3 => r = .none ∧ Q x s3) E (.error e) s2) s1) : wpAny (model P w) A (call (.type T) xs) Q E s := by
  obtain ⟨_, _, m1⟩ := tc.mro
  have m2 := tc.made
  have m3 := tc.sub
  have m4 := tc.notType
  have m5 := tc.canCreate
  refine wpAny_call (codeAny_of_tree (show wpAny _ _ (callAny (.type T) _) _ _ _ from wpAny_pure ⟨Code.quiet_builtin _ (by decide +kernel), codeAny_builtin F.entry_type_call ?_⟩))
  rw [Around.under_plain (weight_type_call_type T xs []) rfl]
  repeat (any_goals (first | assumption | wp_step))
  refine codeAny_mono mk fun r s1 hr => ?_
  match r, hr with
  | .error _, hr => exact hr
  | .ok (.ret x), hr =>
    obtain ⟨ty, chk, ini⟩ := nx _ _ hr
    have i1 := tc.init.lookup
    have i2 := tc.init.bind x
    repeat (any_goals (first | assumption | wp_step))
    refine codeAny_mono (codeAny_call_builtin tc.init.plain en (chk _ _ _ _ ini)) fun r2 s2 h2 => ?_
    match r2, h2 with
    | .error _, h2 => exact h2
    | .ok (.ret r), h2 =>
      obtain ⟨rfl, q⟩ := h2
      repeat (any_goals (first | assumption | wp_step))
/-- set(xs) of a list of texts -/
theorem set_texts {l : Addr} {items : Array Value} {xs : List Str} {Q : Value → Shared → Prop} (hh : A.handled = none) (hl : s.heap.IsList l items) (hi : StrsAre items.toList xs) (room : xs.length + 1 < scanBound)
    (out : ∀ (h' : Heap) (tk : Nat) (ts : List (Str × Tok)), Met xs ts → InS w h' s.heap.objs.size ts → (∀ b o, s.heap.get? b = some o → h'.get? b = some o) → Q (.ref s.heap.objs.size) { s with heap := h', toks := tk }) :
    wpAny (model P w) A (call (.type "set") [.ref l]) Q E s := by
  have ll : l < s.heap.objs.size := by
    obtain ⟨o, ho, _⟩ := hl
    exact Heap.lt_size ho
  refine call_ty_at (Q1 := fun x s1 => x = .ref s.heap.objs.size ∧ s1 = { s with heap := s.heap.push (emptySet w) }) F.called_set (F.typeCall_set_1 (.ref l)) F.entry_set_init (code_set_led1 (.ref l) ⟨rfl, rfl⟩) fun x s1 h1 => ?_
  obtain ⟨rfl, rfl⟩ := h1
  have at_ : (s.heap.push (emptySet w)).get? s.heap.objs.size = some (emptySet w) := Heap.get?_push_size _ rfl
  have ty : Shared.TypeIs { s with heap := s.heap.push (emptySet w) } (.ref s.heap.objs.size) "set" := ⟨_, at_, rfl⟩
  refine ⟨ty, fun M A' E' Q' q => check_set_init_1 ty q, init_set (A := A.in1) (xs := xs) hh at_ (hl.push _) (Nat.ne_of_lt ll) hi room fun h' tk ts mt ins keep => ⟨rfl, out h' tk ts mt ins fun b o e => ?_⟩⟩
  exact keep b o (Nat.ne_of_lt (Heap.lt_size e)) (Heap.get?_push_of_some _ e)
end
end FH
/-! GcT: sorted(set(xs)) as an expression. -/
namespace FH
open PySem L2
open PySem.Spec PyProof.Rows
/-- each text once -/
def ddS : List Str → List Str
  | [] => []
  | x :: xs => if x ∈ xs then ddS xs else x :: ddS xs
theorem mem_ddS {y : Str} : ∀ {xs : List Str}, y ∈ ddS xs ↔ y ∈ xs
  | [] => .rfl
  | x :: xs => by
    unfold ddS
    split
    · rename_i h
      rw [mem_ddS, List.mem_cons]
      exact ⟨.inr, fun z => z.elim (fun e => e ▸ h) id⟩
    · rw [List.mem_cons, List.mem_cons, mem_ddS]
theorem nd_ddS : ∀ {xs : List Str}, (ddS xs).Nodup
  | [] => List.nodup_nil
  | x :: xs => by
    unfold ddS
    split
    · exact nd_ddS
    · rename_i h
      exact List.nodup_cons.mpr ⟨fun z => h (mem_ddS.mp z), nd_ddS⟩
theorem len_ddS : ∀ {xs : List Str}, (ddS xs).length ≤ xs.length
  | [] => Nat.le_refl _
  | x :: xs => by
    have := len_ddS (xs := xs)
    unfold ddS
    split <;> simp <;> omega
theorem ddS_pm {xs ys : List Str} (n : ys.Nodup) (m : ∀ x, x ∈ ys ↔ x ∈ xs) : ys.Perm (ddS xs) :=
  (List.perm_ext_iff_of_nodup n nd_ddS).mpr fun x => (m x).trans mem_ddS.symm
theorem ents_str {w : World} {vs : List Value} {ts : List (Str × Tok)} (p : vs.Perm (ts.map fun q => Value.str q.1 q.2)) : ∃ ss, StrsAre vs ss ∧ ss.Perm (ts.map (·.1)) := by
  refine ⟨vs.map strOf, strsAre_map vs fun v hv => ?_, ?_⟩
  · obtain ⟨q, _, e⟩ := List.mem_map.mp (p.mem_iff.mp hv)
    exact ⟨q.1, q.2, e.symm⟩
  · have := p.map strOf
    rw [List.map_map] at this
    exact this
section
variable {P : Program} {w : World} {A : Around} {E : Value → Shared → Prop} {s : Shared}
set_option maxHeartbeats 2000000 in
/-- sorted of a set of texts -/
theorem sort_texts {a : Addr} {ts : List (Str × Tok)} {Q : Value → Shared → Prop} (hh : A.handled = none) (R : InS w s.heap a ts) (few : ts.length < 64)
    (out : ∀ (s' : Shared) (p : Addr) (vs : Array Value) (c : Nat) (ys : List Str), (∀ b o, s.heap.get? b = some o → s'.heap.get? b = some o) → s'.gens = s.gens → s'.os = s.os → s.heap.objs.size ≤ p → s'.heap.get? p = some (seqObj "list" vs c) →
      StrsAre vs.toList ys → ys.Perm (ts.map (·.1)) → sortedS ys = true → Q (.ref p) s') : wpAny (model P w) A (call (.builtin "sorted") [.ref a]) Q E s := by
  obtain ⟨o, es, ep, t, R⟩ := R
  have n := R.size
  have scan : es.size < scanBound := by rw [n]; exact Nat.lt_trans few (by decide)
  refine Calls.call_function_entry kind_sorted plain_sorted entry_sorted (args_sorted1 _) ?_
  unfold Builtin.«sorted»
  apply wpAny_bind (m := checkCount "sorted" 1 1 _)
  apply wpAny_pure
  refine wpAny_bind (collect_set (A := A.in1) hh ⟨o, R.at_, R.exact_.1, R.dat⟩ R.fit scan R.ris R.led ?_)
  intro s1 vs keep sz eg eo pm
  have pv : vs.Perm (ts.map fun q => Value.str q.1 q.2) := by
    refine pm.trans ((R.pm.map (·.2)).trans ?_)
    rw [List.map_map]
    exact .refl _
  have lv : vs.length = ts.length := by rw [pv.length_eq, List.length_map]
  obtain ⟨ss, sa, ps⟩ := ents_str (w := w) pv
  refine wpAny_bind (wpAny_newList ?_ (by rw [lv, sizeLine_eq]; omega))
  have at_ : (s1.heap.push (seqObj "list" vs.toArray 0)).get? s1.heap.objs.size = some (seqObj "list" vs.toArray 0) := Heap.get?_push_size _ rfl
  refine wpAny_bind (wpAny_holding (wpAny_call_entry slot_list_sort ⟨_, at_, rfl⟩ entry_list_sort
    (list_sort_treeK strKind_oneLt at_ sa.keysOf (fun v1 v2 r e => keyKind_strs (by rw [← e]; exact sa)) (by rw [lv]; exact few) fun st pst sst => ⟨_, rfl, ?_⟩) (args_list_sort _)))
  obtain ⟨ys, y1, y2, y3⟩ := sorted_out_str sa pst sst
  obtain ⟨c, hc⟩ := sortedHeap_at (vs := vs) (out := (arrOf st).map (·.2)) at_
  refine wpAny_pure ⟨_, rfl, out _ s1.heap.objs.size _ c ys (fun b u e => ?_) eg eo sz hc y1 (y2.trans ps) y3⟩
  have e1 := keep b u e
  have lt := Heap.lt_size e1
  refine (sortedHeap_old (Nat.ne_of_lt lt) ?_).trans (Heap.get?_push_of_some _ e1)
  rw [size_push']
  exact Nat.lt_succ_of_lt lt
end
section
variable {X : Cx} {Y : Xd} {W : WX}
def tSortSet (K : PySem.W.Frag) (ta : TE) : TE := fun σ H Q => ta σ H fun x H1 => ∃ (l : Addr) (xs : List Str), x = V.ref l ∧ SqL K H1 l (xs.map V.str) ∧ xs.length < 64 ∧ ∀ p, H1 p = none → Q (.ref p) (upd H1 p (.lst ((srtS (ddS xs)).map V.str)))
theorem pe_sortSet {a : Expr} {ta : TE} {p p2 q pos : Pos} (hc : X.calm = true) (hg : Gl X "sorted") (hm : X.mg "sorted" = none) (hg2 : Gl X "set") (hm2 : X.mg "set" = none) (ha : PE X a ta)
    (na : starEach [a] X.env = (false, eval a X.env) :: starEach [] X.env := by rfl) : PE X (.Call (.Name "sorted" p) [.Call (.Name "set" p2) [a] [] q] [] pos) (tSortSet X.K ta) := by
  refine ⟨fun pins s σ H Q I h => ?_⟩
  refine Call_ (ld_blt I hg hm PyProof.Rows.boot_sorted (PyProof.Rows.callWith_builtin1 (PyProof.Rows.args_cons ?_ rfl) rfl rfl))
  refine Call_ (ld_blt I hg2 hm2 PyProof.Rows.boot_set (PyProof.Rows.callWith_type1 (PyProof.Rows.args_cons (thn (ha.run pins s σ H _ I h) fun v s1 ⟨x, H1, I1, r1, l, xs, ex, hl, few, q1⟩ => PyProof.Rows.args_nil ?_) na) na rfl))
  subst ex
  cases r1
  obtain ⟨its, rv, pl, _⟩ := I1.list hl
  refine set_texts (xs := xs) (I1.ok.hd hc) pl.isList (by simpa using strsAre_of rv) (by unfold scanBound; omega) fun h' tk ts mt ins keep => PyProof.Rows.args_nil ?_
  have I2 : Inv X pins σ H1 { s1 with heap := h', toks := tk } := I1.kept keep
  have few2 : ts.length < 64 := Nat.lt_of_le_of_lt mt.2.2 few
  refine sort_texts (s := { s1 with heap := h', toks := tk }) (I2.ok.hd hc) ins few2 fun s' p vs c ys keep2 eg eo hp at_ sa pm so => ?_
  have ey : ys = srtS (ddS xs) := srtS_unique (pm.trans (ddS_pm mt.1 mt.2.1)) so
  have free : H1 p = none := I2.hok.fresh hp
  have len : (ys.map V.str).length ≤ sizeLine := by rw [List.length_map, pm.length_eq, List.length_map, sizeLine_eq]; omega
  have J : Inv X pins σ (upd H1 p (.lst (ys.map V.str))) { ({ s1 with heap := h', toks := tk } : Shared) with heap := s'.heap, gens := s'.gens, drawn := s'.drawn, toks := s'.toks } :=
    I2.call (ch := []) (Un.laid keep2 hp free) (I2.hok.laid keep2 hp ⟨len, vs.toList, c, vals_of_strs sa, at_⟩) (by rw [eg]; exact I2.bare) (fun _ z => nomatch z)
  have e : s' = { ({ s1 with heap := h', toks := tk } : Shared) with heap := s'.heap, gens := s'.gens, drawn := s'.drawn, toks := s'.toks } := by
    obtain ⟨_, _, _, _, _⟩ := s'
    cases eo
    rfl
  rw [e]
  refine ⟨.ref p, _, J, rfl, ?_⟩
  rw [ey]
  exact q1 p free
end
end FH
/-! GcU: sorted(set(xs)) and list(d.values()) of the tables. -/
namespace FH
open PySem L2
open PySem.Spec PyProof.Rows
def sortSetV (own : Bool) (x : TV) (C : Tab) : Res TV := match rd C x with
  | .lst ts => match strL ts with
    | some ys => if ys.length < 64 then alc own (.lst ((srtS (ddS ys)).map .str)) C else .stuck
    | none => .stuck
  | _ => .stuck
def mSortSet (own : Bool) (m : EM TV) : EM TV := fun s C => (m s C).bind (sortSetV own)
def valsV (own : Bool) (x : TV) (C : Tab) : Res TV := match rd C x with
  | .dct kvs => alc own (.lst (kvs.map (·.2))) C
  | _ => .stuck
def mValsL (own : Bool) (m : EM TV) : EM TV := fun s C => (m s C).bind (valsV own)
theorem rvs_vals {M : Md} {g : Gh} : ∀ {kvs : List (Key × TV)} {ws : List (Key × V)}, RKs M g kvs ws → RVs M g (kvs.map (·.2)) (ws.map (·.2))
  | _, _, .nil => .nil
  | _, _, .cons a b => .cons a (rvs_vals b)
theorem vals_of_kv : ∀ {kvs : List (Key × V)} {vs : List (Key × Value)}, KV kvs vs → Vals (kvs.map (·.2)) (vs.map (·.2))
  | _, _, .nil => .nil
  | _, _, .cons a b => .cons a.2 (vals_of_kv b)
section
variable {X : Cx} {Y : Xd} {W : WX} {e a : Expr} {te : TE} {m : EM TV} {p p2 q apos cpos pos : Pos}
theorem se_sortSet (own : Bool) (he : PE X a (tE Y W m)) (hm : X.mg "sorted" = none) (hm2 : X.mg "set" = none) (hc : X.calm = true := by rfl) (hK : X.K = Y.M.K := by rfl) (hg : Gl X "sorted" := by rfl) (hg2 : Gl X "set" := by rfl)
    (na : starEach [a] X.env = (false, eval a X.env) :: starEach [] X.env := by rfl) : PE X (.Call (.Name "sorted" p) [.Call (.Name "set" p2) [a] [] q] [] pos) (tE Y W (mSortSet own m)) := by
  refine PE.imp (pe_sortSet hc hg hm hg2 hm2 he na) fun σ H Q ⟨g, s, C, rs, R, f⟩ => tE_bind rs R f fun x g1 C1 H1 v e1 rs1 R1 rv f1 => ?_
  unfold sortSetV at f1
  split at f1
  · rename_i ts ex
    split at f1
    · rename_i ys hys
      split at f1
      · rename_i few
        have r := R1.rr rv
        rw [ex] at r
        obtain ⟨l, vs, rfl, hl, rvs⟩ := r
        obtain rfl := strL_rv hys rvs
        refine ⟨l, ys, rfl, hK ▸ .of hl, few, fun p free => ?_⟩
        exact alc_new R1 (RN.lst rvs_strs) f1 p free
      · exact f1.elim
    · exact f1.elim
  · exact f1.elim
def rValsR : V → Hp → VK → Prop := fun x H Q => ∃ (d : Addr) (kvs : List (Key × V)), x = .ref d ∧ Rd H d (.dK kvs) ∧ ∀ p, H p = none → Q (.ref p) (upd H p (.lst (kvs.map (·.2))))
theorem pe_listValsR (hc : X.calm = true) (he : PE X e te) (hg : Gl X "list") (hm : X.mg "list" = none) (hv : bootBuiltins "list" = some (.type "list")) (hbase : attributeBase e "values" X.env (eval e X.env) = eval e X.env) (hline : (apos.endLine == cpos.line) = true)
    (hs : starEach [.Call (.Attribute e "values" apos) [] [] cpos] X.env = (false, eval (.Call (.Attribute e "values" apos) [] [] cpos) X.env) :: starEach [] X.env) :
    PE X (.Call (.Name "list" p) [.Call (.Attribute e "values" apos) [] [] cpos] [] pos) (fun σ H Q => te σ H fun x H1 => rValsR x H1 Q) := by
  refine ⟨fun pins s σ H Q I hq => wpAny_Call_Name_kw (ld_blt I hg hm hv (PyProof.Rows.callWith_type1 ?_ hs rfl))⟩
  rw [hs]
  show wpAny _ _ (spliced ((false, eval (.Call (.Attribute e "values" apos) [] [] cpos) X.env) :: backTo pos (starEach [] X.env))) _ _ s
  refine Calls.spliced_cons ?_
  refine wpAny_Call_method (T := "dict") (id := "dict.values") hbase rfl hline F.plainAttrs_dict F.slot_dict_values F.type_dict_values (thn (he.run pins s σ H _ I hq) fun u s1 ⟨x, H1, I1, rx, d, kvs, ex, hd, q⟩ => ?_)
  subst ex
  obtain rfl : u = Value.ref d := rx
  obtain ⟨z, lo, vs, kv, ob⟩ := dk_rd I1.hok hd
  obtain ⟨ep, hat⟩ := ob.dictAt
  have ln : kvs.length = vs.length := kv.length
  refine ⟨ob.typeIs, ob.mapOf.noDict, ?_⟩
  show wpAny _ _ (callWith cpos (.builtin "dict.values") [.ref d] [] []) _ X.xe s1
  refine method_meetsIn F.slot_dict_values F.entry_dict_values rfl (PySem.evalArgs_none ⟨rfl, ob.typeIs, F.args_dict_values_1 _, _, meets_dict_values (mixKind X.prog X.w) d lo, ⟨vs, ob⟩, Calls.spliced_nil ?_⟩)
  have K := PySem.W.kdl_values (prog := X.prog) (w := X.w) (knd := mixKind X.prog X.w) (d := d) (r := s1.heap.objs.size) (kvs := vs) (ep := ep)
  refine PySem.W.kdl_call (s := { s1 with heap := s1.heap.push { cls := .type "dict_values", data := .fields #[.ref d] } }) K (I1.ok.hd hc) ⟨⟨_, Heap.get?_push_size _ rfl, rfl, rfl⟩, hat.push _⟩ (by rw [← ln]; exact z) fun h' tk acc c keep new its => ?_
  have keep1 : ∀ b o, s1.heap.get? b = some o → h'.get? b = some o := fun b o e => keep b o (Heap.get?_push_of_some _ e)
  have eq : acc.toList = vs.map (·.2) := PySem.W.kdl_vals_eq acc.toList (by rw [Array.length_toList]; exact its.1) fun j v e => its.2 j v (by rw [← Array.getElem?_toList]; exact e)
  have up : s1.heap.objs.size ≤ (s1.heap.push { cls := .type "dict_values", data := .fields #[.ref d] }).objs.size := by rw [Heap.size_push]; exact Nat.le_succ _
  have vl : Vals (kvs.map (·.2)) acc.toList := by rw [eq]; exact vals_of_kv kv
  exact ⟨.ref _, upd H1 _ (.lst (kvs.map (·.2))), I1.laid (t' := tk) keep1 up ⟨by rw [List.length_map]; exact z, acc.toList, c, vl, by simpa [seqObj] using new⟩, rfl, q _ (I1.hok.fresh up)⟩
theorem se_valsL (own : Bool) (he : PE X e (tE Y W m)) (hm : X.mg "list" = none) (hv : bootBuiltins "list" = some (.type "list")) (hg : Gl X "list" := by rfl) (hc : X.calm = true := by rfl) (hbase : attributeBase e "values" X.env (eval e X.env) = eval e X.env := by rfl) (hline : (apos.endLine == cpos.line) = true := by rfl)
    (hs : starEach [.Call (.Attribute e "values" apos) [] [] cpos] X.env = (false, eval (.Call (.Attribute e "values" apos) [] [] cpos) X.env) :: starEach [] X.env := by rfl) :
    PE X (.Call (.Name "list" p) [.Call (.Attribute e "values" apos) [] [] cpos] [] pos) (tE Y W (mValsL own m)) := by
  refine PE.imp (pe_listValsR hc he hg hm hv hbase hline hs) fun σ H Q ⟨g, s, C, rs, R, f⟩ => tE_bind rs R f fun x g1 C1 H1 v e1 rs1 R1 rv f1 => ?_
  unfold valsV at f1
  split at f1
  · rename_i kvs ex
    have q := R1.rr rv
    rw [ex] at q
    obtain ⟨a, ws, rfl, ha, r⟩ := q
    exact ⟨a, ws, rfl, ha.rd, fun p free => alc_new R1 (RN.lst (rvs_vals r)) f1 p free⟩
  · exact f1.elim
end
end FH
/-! GcV: repr of any nest of lists, tuples and dicts (no tracked object is sys.modules). -/
namespace FH
open PySem L2
open PySem.Spec PyProof.Rows
/-- sys.modules stands in the heap behind the module's text -/
def SysB (base : Heap) : Prop := ∃ o, base.get? sysModules = some o
theorem sys_free {X : Cx} {pins : List (Addr × Obj)} {σ : L2.St} {H : Hp} {s : Shared} (I : Inv X pins σ H s) (hs : SysB X.base) : H sysModules = none := by
  obtain ⟨o, e⟩ := hs
  obtain ⟨e0, n0⟩ := I.ok.bs _ _ e
  exact I.base.free _ o e0 n0 (I.ok.noex _ _ e)
theorem not_sys {H : Hp} {a : Addr} {u : HO} (n : H sysModules = none) (h : Rd H a u) : a ≠ sysModules := by
  rintro rfl
  rcases h with h | ⟨o, h⟩ <;> rw [n] at h <;> cases h
section
variable {X : Cx} {Y : Xd} {g : Gh} {C : Tab} {H : Hp} {pins : List (Addr × Obj)} {σ : L2.St} {s : Shared}
mutual
theorem reads_n (hK : X.K = Y.M.K) (n : H sysModules = none) (R : RH Y.M g C H) (I : Inv X pins σ H s) : ∀ (t : TV) {v : V} {u : Value}, RR Y.M g H t v → RelV v u → okT t = true → ∃ as, Reads s.heap u (pyd t) as ∧ sysModules ∉ as
  | .non, v, u, q, r, _ => by obtain rfl : v = .non := q; cases r; exact ⟨[], by simp only [pyd]; exact .none, by simp⟩
  | .bl b, v, u, q, r, _ => by obtain rfl : v = .bl b := q; cases r; exact ⟨[], by simp only [pyd]; exact .bool b, by simp⟩
  | .int i, v, u, q, r, _ => by obtain rfl : v = .int i := q; obtain ⟨k, rfl⟩ := r; exact ⟨[], by simp only [pyd]; exact .int i k, by simp⟩
  | .str x, v, u, q, r, _ => by obtain rfl : v = .str x := q; obtain ⟨k, rfl⟩ := r; exact ⟨[], by simp only [pyd]; exact .str x k, by simp⟩
  | .lst xs, v, u, q, r, h => by
    obtain ⟨a, vs, rfl, ha, rv⟩ := q
    cases r
    simp only [okT] at h
    obtain ⟨its, ri, ⟨o, m, h1, h2, _, h3⟩, _⟩ := I.list (X := X) (xs := vs) (.of ha)
    obtain ⟨as, q1, q2⟩ := readsL_n hK n R I xs rv ri h
    refine ⟨a :: as, by simp only [pyd]; exact .list h1 h2 h3 q1, ?_⟩
    rw [List.mem_cons, not_or]
    exact ⟨fun z => not_sys n (.inl ha) z.symm, q2⟩
  | .tup xs, v, u, q, r, h => by
    obtain ⟨a, vs, rfl, ha, rv⟩ := q
    cases r
    simp only [okT] at h
    obtain ⟨its, ri, ⟨o, h1, h2, m, h3⟩, _⟩ := I.tuple (X := X) (hK ▸ ha)
    obtain ⟨as, q1, q2⟩ := readsL_n hK n R I xs rv ri h
    exact ⟨as, by simp only [pyd]; exact .tuple h1 h2 h3 q1, q2⟩
  | .dct kvs, v, u, q, r, h => by
    obtain ⟨a, ws, rfl, ha, rv⟩ := q
    cases r
    simp only [okT] at h
    obtain ⟨_, _, va, rel, ⟨o, es, ep, h1, h2, h3, _, hp, _⟩⟩ := dk_rd I.hok ha.rd
    obtain ⟨as, bs, q1, q2, q3, q4⟩ := readsK_n hK n R I kvs rv rel hp h
    refine ⟨a :: as ++ bs, by simp only [pyd]; exact .dict h1 h2.1 h3 q1 q2, ?_⟩
    rw [List.cons_append, List.mem_cons, List.mem_append, not_or, not_or]
    exact ⟨fun z => not_sys n ha.rd z.symm, q3, q4⟩
  | .dtt _, _, _, _, _, h => by simp [okT] at h
  | .obj _ _, _, _, _, _, h => by simp [okT] at h
  | .cel _, _, _, _, _, h => by simp [okT] at h
  | .con _, _, _, _, _, h => by simp [okT] at h
  | .cls _, _, _, _, _, h => by simp [okT] at h
  | .lsc _, _, _, _, _, h => by simp [okT] at h
theorem readsL_n (hK : X.K = Y.M.K) (n : H sysModules = none) (R : RH Y.M g C H) (I : Inv X pins σ H s) : ∀ (ts : List TV) {vs : List V} {us : List Value}, RVs Y.M g ts vs → Vals vs us → okTL ts = true → ∃ as, ReadsAll s.heap us (pydL ts) as ∧ sysModules ∉ as
  | [], _, _, r, r2, _ => by cases r; cases r2; exact ⟨[], by simp only [pydL]; exact .nil, by simp⟩
  | t :: ts, _, _, r, r2, h => by
    cases r with
    | cons a b =>
      cases r2 with
      | cons c d =>
        simp only [okTL, Bool.and_eq_true] at h
        obtain ⟨as, p1, p2⟩ := reads_n hK n R I t (R.rr0 a) c h.1
        obtain ⟨bs, p3, p4⟩ := readsL_n hK n R I ts b d h.2
        exact ⟨as ++ bs, by simp only [pydL]; exact .cons p1 p3, by simp [p2, p4]⟩
theorem readsK_n (hK : X.K = Y.M.K) (n : H sysModules = none) (R : RH Y.M g C H) (I : Inv X pins σ H s) : ∀ (ts : List (Key × TV)) {vs : List (Key × V)} {va : List (Key × Value)} {es : List DictEntry}, RKs Y.M g ts vs → KV vs va → Pairs (mixKind X.prog X.w) es va → okTK ts = true →
    ∃ as bs, ReadsAll s.heap (es.map (·.key)) ((pydK ts).map (·.1)) as ∧ ReadsAll s.heap (es.map (·.val)) ((pydK ts).map (·.2)) bs ∧ sysModules ∉ as ∧ sysModules ∉ bs
  | [], _, _, _, r, r2, r3, _ => by
    cases r
    unfold KV at r2
    cases r2
    cases r3
    exact ⟨[], [], by simp only [pydK]; exact .nil, by simp only [pydK]; exact .nil, by simp, by simp⟩
  | (k, t) :: ts, _, _, _, r, r2, r3, h => by
    cases r with
    | cons a b =>
      unfold KV at r2
      cases r2 with
      | cons c d =>
        cases r3 with
        | cons h1 h2 h3 =>
          rename_i qq qs en ens
          simp only [okTK, Bool.and_eq_true] at h
          obtain ⟨e1, e2⟩ := c
          obtain ⟨as, p1, p2⟩ := reads_n hK n R I t (R.rr0 a) e2 h.1
          obtain ⟨bs, cs, p3, p4, p5, p6⟩ := readsK_n hK n R I ts b d h3 h.2
          dsimp only at e1
          rw [← e1] at h1
          have hk : ∃ ks, Reads s.heap en.key (keyD k) ks ∧ sysModules ∉ ks := by
            rcases keyIs_shape h1 with ⟨i, tk, ek, ev⟩ | ⟨i, tk, ek, ev⟩ <;> rw [ev, ek]
            · exact ⟨[], .int i tk, by simp⟩
            · exact ⟨[], .str i tk, by simp⟩
          obtain ⟨ks, p7, p8⟩ := hk
          rw [← h2] at p1
          exact ⟨ks ++ bs, as ++ cs, by simp only [pydK]; exact .cons p7 p3, by simp only [pydK]; exact .cons p1 p4, by simp [p8, p5], by simp [p2, p6]⟩
end
def bReprN : FM := fun ts C => match ts with
  | [x] => if nestT (rd C x) = true ∧ okT (rd C x) = true ∧ (pyd (rd C x)).showable = true ∧ (pyd (rd C x)).depth ≤ 40 ∧ (pyd (rd C x)).shown.length ≤ sizeLine then .ok (.str (pyd (rd C x)).shown) C else .stuck
  | _ => .stuck
def rReprN (X : Cx) : List V → Hp → VK → Prop := fun vs H Q => ∃ (x : V) (a : Addr) (d : PyData), vs = [x] ∧ x = .ref a ∧ d.showable = true ∧ d.depth ≤ 40 ∧ d.shown.length ≤ sizeLine ∧
  (∀ pins σ s, Inv X pins σ H s → H sysModules = none → ∃ as, Reads s.heap (.ref a) d as ∧ sysModules ∉ as) ∧ Q (.str d.shown) H
theorem call_reprN {k : Nat} (hr : Rm k X.A) (hs : SysB X.base) : CallR X (.builtin "repr") (rReprN X) := by
  intro pins s σ H xs us Q I r h
  obtain ⟨x, a, d, rfl, rfl, h1, h2, h3, h4, q⟩ := h
  rw [Vals.ref1 r]
  obtain ⟨as, h5, h6⟩ := h4 pins σ s I (sys_free I hs)
  refine repr_of_reads' h5 h1 (fun _ => h6) hr.gd (by have := hr.room.un; omega) (fun b o e => e) (fun h' u tk hk => ?_) h3
  exact ⟨.str d.shown, H, I.kept hk, ⟨u, rfl⟩, q⟩
theorem bReprN_ok (hK : X.K = Y.M.K) : CallS Y (rReprN X) bReprN := by
  intro g C H W xs vs Q R rv f
  unfold bReprN at f
  split at f
  · rename_i x
    obtain ⟨v, rfl, rx⟩ := rv.one
    have q := R.rr rx
    split at f
    · rename_i hc
      obtain ⟨h0, h1, h2, h3, h4⟩ := hc
      have hv : ∃ a, v = .ref a := by
        generalize rd C x = t at h0 q
        cases t <;> first | (cases h0; done) | (obtain ⟨a, _, e, _⟩ := q; exact ⟨a, e⟩)
      obtain ⟨a, rfl⟩ := hv
      exact ⟨_, a, _, rfl, rfl, h2, h3, h4, fun pins σ s I n => reads_n hK n R I _ q rfl h1, val_now R .str f⟩
    · exact f.elim
  · exact f.elim
theorem bReprN_of {ts : List TV} {C C' : Tab} {t : TV} (h : bRepr ts C = .ok t C') : bReprN ts C = .ok t C' := by
  unfold bRepr at h
  unfold bReprN
  split at h
  · split at h
    · rename_i hc
      obtain ⟨h0, h1, _, h2, h3, h4⟩ := hc
      try dsimp only
      rw [if_pos ⟨h0, h1, h2, h3, h4⟩]
      exact h
    · cases h
  · cases h
end
/-! ### the law's head -/
theorem law_GB {l : PySem.W.OpenLaw} {w : World} {Y : Xd} {mg : Str → Option Value} {h : Heap} {st : Stmt} {k : Nat} {N : List Str} {x p : Str} {F : FM} {m : SM} {fa : Addr} (d : DF Y.M.K x st) (X : Y.M.K.In h) (G : h.Ns mainGlobals mg) (hfa : mg x = some (.ref fa)) (S : FnScope N [p] (defScope st))
    (hb : ∀ (kV doc pm : Value) (an : Option Addr) (cdv ct : Value) (u : Value), bindArgs (PySem.W.fnOf x x (defArgs st) (defBody st) (defScope st) .none kV doc pm an cdv ct) ⟨[u], []⟩ = pure [(p, u)])
    (ok : ∀ (base : Heap), Y.M.K.In base → base.Ns mainGlobals mg → SysB base → ∀ (cdv : Value) (f : Addr) (A : Around) (outer : List Env) (s : Shared) (H : Hp) (E : XK), Rm k (A.deeper (envOfC x (defScope st) s.heap.objs.size f cdv)) →
      PSs (cxOf (L2.CX l.prog w) l.prog w Y.M.K mg base N x (defScope st) f cdv A outer s H E) (defBody st) (tS Y (fun cls d _ H' => E cls d H') m))
    (hF : ∀ ts C, ts.length = 1 → Lv C (m (st0 N.length ts) C) (F ts C)) :
    ∃ fd : FuncData, (∀ (s : Shared) (u : Value), BindsTo s fd ⟨[u], []⟩ [(p, u)]) ∧ ∀ base : Heap, Y.M.K.In base → base.Ns mainGlobals mg → SysB base → FnT l.prog w Y mg base (k + 1) fa fd [p] F := by
  obtain ⟨f, oc, od, an, osl, kV, doc, pm, cdv, ct, a, l, c, kp⟩ := d.ex
  cases hfa.symm.trans (PySem.W.mg_of X G a)
  have Fu := fun_mk (st := st) l c kp
  exact ⟨_, fun s u => .of_eq (hb kV doc pm an cdv ct u), fun base h1 h2 h3 => FnT.of Fu S (fun cdv A outer s H E hr => ok base h1 h2 h3 cdv fa A outer s H E hr) hF⟩
theorem walk_S {l : PySem.W.OpenLaw} {k : Nat} {q : Program} {loose : List Str} {XP : (Str → Option Value) → Heap → Prop} {YP : World → Heap → Prop} {d : DefRec} {K : Params → PySem.W.Frag} {F : FM} {x : Str} (Y : PySem.W.Frag → Xd) (hYK : ∀ K, (Y K).M.K = K) (hi : importsNone q = true)
    (hn : l.most = some 63) (hdf : d.params.defaults = []) (hr : Rm k callerA) (hY : ∀ (w : World) (h : Heap), YP w h → (K w.params).In h)
    (G : ∀ (w : World) (mg : Str → Option Value) (fa : Addr) (h : Heap), (K w.params).In h → h.Ns mainGlobals mg → mg d.name = some (.ref fa) →
      ∃ fd : FuncData, (∀ (s : Shared) (u : Value), BindsTo s fd ⟨[u], []⟩ [(x, u)]) ∧ ∀ base : Heap, (K w.params).In base → base.Ns mainGlobals mg → SysB base → FnT l.prog w (Y (K w.params)) mg base k fa fd [x] F)
    (hF : LawOk F) : PySem.W.WalkO q loose XP YP l.row.toRowW d [] (fun f vs => PySem.call f vs) := by
  refine Att.attach_call hn hdf fun w s0 s1 mg mb fa o pm cd doc a vs ns T Z ho hd hcd hmg hobj hints hlen hg => ?_
  have KX := hY w _ Z
  obtain ⟨fd, hb, hG⟩ := G w mg fa _ KX T.T.g hmg
  refine law_run (Y := Y (K w.params)) (Bp := SysB) (fun H alone => ?_) (by rw [hYK]; exact KX) T.T.g T.T.b T.T.builtins T.T.nolimit hg hobj hints hlen hr (fun base h1 h2 h3 => hG base (by rw [← hYK (K w.params)]; exact h1) h2 h3) hb hF
  obtain ⟨mm, ⟨om, es, ep, e, dm, _⟩, _⟩ := (T.T.seer hi).mods
  refine ⟨om, hidT_get e ?_⟩
  cases z : H sysModules with
  | none => rfl
  | some u =>
    have ea := alone sysModules (by rw [z]; exact fun q => nomatch q)
    rw [ea, hobj] at e
    cases e
    cases dm
end FH
/-! GcW: slices of tuples, min of texts, list.index, sorted tuples of texts. -/
namespace FH
open PySem L2
open PySem.Spec PyProof.Rows
/-! ### t[lo:hi] -/
def sliceA (own : Bool) (x : TV) (lo hi : Option Int) (C : Tab) : Res TV := match x with
  | .tup xs => if HT.sIx xs.length 0 lo = 0 ∧ HT.sIx xs.length xs.length hi = xs.length then .ok (.tup xs) C else .ok (.tup (cutT xs lo hi)) C
  | _ => sliceV own x lo hi C
def mSliceA (own : Bool) (me : EM TV) (lo hi : EM (Option Int)) : EM TV := fun s C => (me s C).bind fun x C1 => (lo s C1).bind fun l C2 => (hi s C2).bind fun h C3 => sliceA own x l h C3
section
variable {X : Cx} {Y : Xd} {W : WX} {e : Expr} {pos : Pos} {m : EM TV}
def rSlAll (K : PySem.W.Frag) : V → Option Int → Option Int → Hp → VK → Prop := fun x lo hi H Q => rSlA K x lo hi H Q ∨ rSl3 K x lo hi H Q
theorem se_sliceA {lo hi : Option Expr} {ml mh : EM (Option Int)} {p2 : Pos} (own : Bool) (he : PE X e (tE Y W m)) (hl : PO X lo (tO Y W ml)) (hh : PO X hi (tO Y W mh)) (hK : X.K = Y.M.K := by rfl) : PE X (.Subscript e (.Slice lo hi none p2) pos) (tE Y W (mSliceA own m ml mh)) := by
  refine PE.imp (pe_slice (sl_tupA.or sl3) he hl hh) fun σ H Q ⟨g, s, C, rs, R, f⟩ => tE_bind rs R f fun x g1 C1 H1 v e1 rs1 R1 rv f1 => ?_
  refine tO_bind rs1 R1 f1 fun l g2 C2 H2 e2 rs2 R2 f2 => tO_bind rs2 R2 f2 fun h g3 C3 H3 e3 rs3 R3 f3 => ?_
  have rv3 := (rv.mono e2).mono e3
  have q := R3.rr rv3
  unfold sliceA at f3
  split at f3
  · rename_i xs
    rw [show rd C3 (.tup xs) = .tup xs from rfl] at q
    obtain ⟨a, vs, rfl, ha, r1⟩ := q
    refine .inl ⟨a, vs, rfl, hK ▸ ha, fun z => ?_, fun z => ?_⟩
    · rw [← r1.length] at z
      rw [if_pos z] at f3
      exact f3 g3 H3 (Ext.refl _) R3 _ rv3
    · rw [← r1.length] at z
      rw [if_neg z] at f3
      exact tup_new R3 (r1.cut l h) f3
  · rename_i hx
    right
    unfold sliceV at f3
    split at f3
    · rename_i xs ex
      rw [ex] at q
      obtain ⟨a, vs, rfl, ha, r1⟩ := q
      exact .inl ⟨a, vs, rfl, .of ha, alc_new R3 (RN.lst (r1.cut l h)) f3⟩
    · rename_i ns ex
      rw [ex] at q
      obtain ⟨a, rfl, ha⟩ := q
      refine .inl ⟨a, _, rfl, hK ▸ ha, alc_new R3 (RN.lst ?_) f3⟩
      rw [cutV_eq, cut_map]
      exact rvs_ints
    · rename_i xs ex
      rw [ex] at q
      obtain ⟨a, vs, rfl, ha, r1⟩ := q
      split at f3
      · exact f3.elim
      · rename_i hne
        exact .inr (.inl ⟨a, vs, rfl, hK ▸ ha, by rw [← r1.length]; exact hne, tup_new R3 (r1.cut l h) f3⟩)
    · rename_i z ex
      rw [ex] at q
      split at f3
      · rename_i hz; exact .inr (.inr ⟨z, q, hz, val_now R3 .str f3⟩)
      · exact f3.elim
    · exact f3.elim
end
/-! ### min(xs) of texts -/
theorem best_str (val : Nat → Str) : ∀ k, argBest (fun i j => decide ((val i).cps.toList < (val j).cps.toList)) k ≤ k ∧ ∀ j, j ≤ k → leS (val (argBest (fun i j => decide ((val i).cps.toList < (val j).cps.toList)) k)) (val j) = true
  | 0 => ⟨Nat.le_refl _, fun j hj => by
    obtain rfl : j = 0 := by omega
    exact leS_iff.mpr (List.le_refl _)⟩
  | k + 1 => by
    obtain ⟨h1, h2⟩ := best_str val k
    unfold argBest
    by_cases c : (val (k + 1)).cps.toList < (val (argBest (fun i j => decide ((val i).cps.toList < (val j).cps.toList)) k)).cps.toList
    · rw [if_pos (by simpa using c)]
      refine ⟨Nat.le_refl _, fun j hj => ?_⟩
      rcases Nat.lt_or_ge j (k + 1) with hl | hg
      · exact leS_trans _ _ _ (leS_iff.mpr (List.le_of_lt c)) (h2 j (by omega))
      · obtain rfl : j = k + 1 := by omega
        exact leS_iff.mpr (List.le_refl _)
    · rw [if_neg (by simpa using c)]
      refine ⟨by omega, fun j hj => ?_⟩
      rcases Nat.lt_or_ge j (k + 1) with hl | hg
      · exact h2 j (by omega)
      · obtain rfl : j = k + 1 := by omega
        exact leS_iff.mpr (List.not_lt.mp c)
theorem cmp_strs {P : Program} {w : World} {A : Around} {Pv : Nat → Value → Prop} (val : Nat → Str) (h : ∀ i v, Pv i v → ∃ t, v = .str (val i) t) : CmpOf P w A .Lt Pv (fun i j => decide ((val i).cps.toList < (val j).cps.toList)) := fun i j vi vj s Q E hi hj q => by
  obtain ⟨t, rfl⟩ := h i vi hi
  obtain ⟨u, rfl⟩ := h j vj hj
  exact richCompare_gives (op := .Lt) (typeIs_str s _ t) (typeIs_str s _ u) F.slot_str_lt F.entry_str_lt (F.args_str_lt_2 _ _) (gives_str_lt _ _ t u) (fun x => nomatch x) q
def minS (xs : List Str) : Str := (srtS xs).headD ""
theorem minS_is {xs : List Str} {m : Str} (hm : m ∈ xs) (h : ∀ x ∈ xs, leS m x = true) : m = minS xs := by
  unfold minS
  cases e : srtS xs with
  | nil => rw [← (srtS_perm xs).mem_iff, e] at hm; cases hm
  | cons a l =>
    have ha : a ∈ xs := (srtS_perm xs).mem_iff.mp (by rw [e]; exact List.mem_cons_self)
    have hp := srtS_pw xs
    rw [e] at hp
    refine leS_anti (h a ha) ?_
    have hm' : m ∈ srtS xs := (srtS_perm xs).mem_iff.mpr hm
    rw [e] at hm'
    rcases List.mem_cons.mp hm' with rfl | hm'
    · exact leS_iff.mpr (List.le_refl _)
    · exact (List.pairwise_cons.mp hp).1 m hm'
section
variable {X : Cx} {Y : Xd}
def rMinS (K : PySem.W.Frag) : List V → Hp → VK → Prop := fun vs H Q => ∃ (a : Addr) (xs : List Str), vs = [V.ref a] ∧ (SqL K H a (xs.map V.str) ∨ SqT K H a (xs.map V.str)) ∧ xs ≠ [] ∧ ∀ m, m ∈ xs → (∀ x ∈ xs, leS m x = true) → Q (.str m) H
theorem val_str {its : List Value} {xs : List Str} (sa : StrsAre its xs) {i : Nat} {v : Value} (h : its.toArray[i]? = some v) : ∃ t, v = .str (xs.getD i Str.empty) t := SS.strs_at sa i v (by rw [← Array.getElem?_toList] at h; simpa using h)
theorem call_minS (hc : X.calm = true) : CallR X (.builtin "min") (rMinS X.K) := by
  intro pins s σ H vs us Q I r h
  obtain ⟨a, xs, rfl, hs, ne, q⟩ := h
  rw [Vals.ref1 r]
  have pos : 0 < xs.length := List.length_pos_iff.mpr ne
  have fin : ∀ (its : List Value), StrsAre its xs → ∀ (v : Value) (h' : Heap) (tk : Nat), its.toArray[argBest (fun i j => decide ((xs.getD i Str.empty).cps.toList < (xs.getD j Str.empty).cps.toList)) (its.toArray.size - 1)]? = some v →
      (∀ b o, s.heap.get? b = some o → h'.get? b = some o) → EP X pins σ Q v { s with heap := h', toks := tk } := fun its sa v h' tk hv hk => by
    obtain ⟨t, rfl⟩ := val_str sa hv
    obtain ⟨b1, b2⟩ := best_str (fun i => xs.getD i Str.empty) (its.toArray.size - 1)
    have ln : its.toArray.size = xs.length := by rw [List.size_toArray]; exact StrsAre.len_eq sa
    have get : ∀ i, i < xs.length → xs.getD i Str.empty ∈ xs := fun i hi => by
      rw [List.getD_eq_getElem?_getD, List.getElem?_eq_getElem hi]; exact List.getElem_mem hi
    refine ⟨.str _, H, I.kept hk, ⟨t, rfl⟩, q _ (get _ (by omega)) fun x hx => ?_⟩
    obtain ⟨i, hi, rfl⟩ := List.mem_iff_getElem.mp hx
    have := b2 i (by omega)
    rwa [List.getD_eq_getElem?_getD (i := i), List.getElem?_eq_getElem hi] at this
  rcases hs with hs | hs
  · obtain ⟨its, rv, hl, _⟩ := I.list hs
    have sa := strsAre_of rv
    have lt : a < s.heap.objs.size := by obtain ⟨o, _, e, _⟩ := hl; exact Heap.lt_size e
    have ln : its.toArray.size = xs.length := by rw [List.size_toArray]; exact StrsAre.len_eq sa
    refine call_min_walk (wpAny_pyIter_list hl.isList ?_)
    refine ⟨_, _, _, _, _, _, _, rfl, Walks.list (A := X.A.in1) (I.ok.hd hc) _ a (Nat.ne_of_lt lt) its.toArray, ⟨⟨_, Heap.get?_push_size _ rfl, rfl, rfl⟩, hl.isList.push _⟩, fun b hb => ?_, by omega, cmp_strs (fun i => xs.getD i Str.empty) (fun _ _ => val_str sa), fun v h' tk hP hk => ?_⟩
    · show b < (s.heap.push _).objs.size
      rw [Heap.size_push]
      rcases List.mem_cons.mp hb with e | hb
      · rw [e]; exact Nat.lt_succ_self _
      · rw [List.mem_singleton.mp hb]; exact Nat.lt_succ_of_lt lt
    · exact fin its sa v h' tk hP fun b o e => hk b o (fun z => by rw [List.mem_singleton.mp z] at e; exact absurd (Heap.lt_size e) (Nat.lt_irrefl _)) (Heap.get?_push_of_some _ e)
  · obtain ⟨its, rv, hl, _⟩ := I.tuple hs
    have sa := strsAre_of rv
    have lt : a < s.heap.objs.size := hl.lt
    have ln : its.toArray.size = xs.length := by rw [List.size_toArray]; exact StrsAre.len_eq sa
    refine call_min_walk (wpAny_pyIter_tuple hl ?_)
    refine ⟨_, _, _, _, _, _, _, rfl, Walks.tuple (A := X.A.in1) (I.ok.hd hc) _ a (Nat.ne_of_lt lt) its.toArray, ⟨⟨_, Heap.get?_push_size _ rfl, rfl, rfl⟩, hl.push _⟩, fun b hb => ?_, by omega, cmp_strs (fun i => xs.getD i Str.empty) (fun _ _ => val_str sa), fun v h' tk hP hk => ?_⟩
    · show b < (s.heap.push _).objs.size
      rw [Heap.size_push]
      rcases List.mem_cons.mp hb with e | hb
      · rw [e]; exact Nat.lt_succ_self _
      · rw [List.mem_singleton.mp hb]; exact Nat.lt_succ_of_lt lt
    · exact fin its sa v h' tk hP fun b o e => hk b o (fun z => by rw [List.mem_singleton.mp z] at e; exact absurd (Heap.lt_size e) (Nat.lt_irrefl _)) (Heap.get?_push_of_some _ e)
def seqT : TV → Option (List TV)
  | .lst xs => some xs
  | .tup xs => some xs
  | _ => none
def bMinS : FM := fun ts C => match ts with
  | [x] => match (seqT (rd C x)).bind strL with
    | some xs => if xs = [] then .stuck else .ok (.str (minS xs)) C
    | none => .stuck
  | _ => .stuck
theorem bMinS_ok (hK : X.K = Y.M.K) : CallS Y (rMinS X.K) bMinS := by
  intro g C H W xs vs Q R rv f
  unfold bMinS at f
  split at f
  · rename_i x
    obtain ⟨v, rfl, rx⟩ := rv.one
    have q := R.rr rx
    split at f
    · rename_i ys hy
      split at f
      · exact f.elim
      · rename_i ne
        have done : ∀ m, m ∈ ys → (∀ x ∈ ys, leS m x = true) → Q (.str m) H := fun m h1 h2 => by
          rw [minS_is h1 h2]
          exact val_now R .str f
        generalize rd C x = t at q hy
        cases t <;> first | (cases hy; done) | skip
        · obtain ⟨a, ws, rfl, ha, r⟩ := q
          obtain rfl := strL_rv hy r
          exact ⟨a, ys, rfl, .inl (.of ha), ne, done⟩
        · obtain ⟨a, ws, rfl, ha, r⟩ := q
          obtain rfl := strL_rv hy r
          exact ⟨a, ys, rfl, .inr (hK ▸ ha), ne, done⟩
    · exact f.elim
  · exact f.elim
/-! ### xs.index(y) -/
def fIndex : TV → FM := fun x ts C => match (seqT (rd C x)).bind strL, ts with
  | some ys, [.str z] => if z ∈ ys then .ok (.int (ys.idxOf z)) C else .stuck
  | _, _ => .stuck
end
end FH
/-! GcX: xs.index(y); sorted(xs), xs a list of tuples of texts. -/
namespace FH
open PySem L2
open PySem.Spec PyProof.Rows
section
variable {X : Cx} {Y : Xd}
/-! ### xs.index(y) -/
def fIdx : TV → FM := fun x ts C => match rd C x, ts with
  | .lst xs, [.str z] => match strL xs with
    | some ys => if z ∈ ys then .ok (.int (ys.idxOf z)) C else .stuck
    | none => .stuck
  | _, _ => .stuck
theorem flat_all (ys : List Str) : (ys.map V.str).all flatV = true := by
  induction ys with
  | nil => rfl
  | cons y ys ih => rw [List.map_cons, List.all_cons, ih]; rfl
theorem ms_idx (hK : X.K = Y.M.K) : MtS X Y "list" (rIndex X.K) tyL fIdx := ⟨fun g C H x v R r h => tyL_ok hK R r h, fun g C H W x v xs vs Q R rx rvs f => by
  have q := R.rr rx
  unfold fIdx at f
  split at f
  · rename_i us z ex
    rw [ex] at q
    obtain ⟨a, ws, rfl, ha, r⟩ := q
    split at f
    · rename_i ys hy
      obtain rfl := strL_rv hy r
      split at f
      · rename_i hz
        obtain ⟨v, rfl, rz⟩ := rvs.one
        cases rz
        have hl := List.idxOf_lt_length_of_mem hz
        refine ⟨a, ys.map V.str, .str z, ys.idxOf z, .str z, rfl, rfl, .of ha, rfl, flat_all ys, ?_, ?_, fun m z' hm hz' => ?_, val_now R .int f⟩
        · rw [List.getElem?_map, List.getElem?_eq_getElem hl, List.getElem_idxOf hl]; rfl
        · exact eqV_refl rfl
        · rw [List.getElem?_map] at hz'
          have hm' : m < ys.length := by omega
          rw [List.getElem?_eq_getElem hm'] at hz'
          cases hz'
          show (ys[m] == z) = false
          exact List.not_of_lt_findIdx (p := (· == z)) hm
      · exact f.elim
    · exact f.elim
  · exact f.elim⟩
end
/-! ### sorted tuples -/
open PyProof.Rows.G in
abbrev tyO : KeyOrd := listOrd itemOrd
def tky (ss : List Str) : List (Int ⊕ List Nat) := ss.map fun s => .inr s.cps.toList
def leT (a b : List Str) : Bool := !(tyO.blt (tky b) (tky a))
theorem leT_iff {a b : List Str} : leT a b = true ↔ tyO.blt (tky b) (tky a) = false := by
  unfold leT
  cases tyO.blt (tky b) (tky a) <;> simp
theorem leT_trans (a b c : List Str) (h : leT a b = true) (h' : leT b c = true) : leT a c = true := by
  rw [leT_iff] at *
  cases e : tyO.blt (tky c) (tky a) with
  | false => rfl
  | true =>
    rcases tyO.negTrans _ (tky b) _ e with z | z
    · rw [z] at h'; cases h'
    · rw [z] at h; cases h
theorem leT_total (a b : List Str) : (leT a b || leT b a) = true := by
  unfold leT
  cases e : tyO.blt (tky b) (tky a) with
  | false => rfl
  | true =>
    cases e2 : tyO.blt (tky a) (tky b) with
    | false => rfl
    | true =>
      have := tyO.trans _ _ _ e e2
      rw [tyO.irrefl] at this; cases this
theorem tky_inj : ∀ {a b : List Str}, tky a = tky b → a = b
  | [], [], _ => rfl
  | [], _ :: _, h => nomatch h
  | _ :: _, [], h => nomatch h
  | x :: a, y :: b, h => by
    obtain ⟨h1, h2⟩ := List.cons.inj h
    have e : x = y := by
      cases x; cases y
      simp only [Sum.inr.injEq] at h1
      congr
      exact Array.toList_inj.mp h1
    rw [e, tky_inj h2]
theorem leT_anti {a b : List Str} (h : leT a b = true) (h' : leT b a = true) : a = b := tky_inj (tyO.total _ _ (leT_iff.mp h') (leT_iff.mp h))
def srtT (xs : List (List Str)) : List (List Str) := xs.mergeSort leT
theorem srtT_perm (xs : List (List Str)) : (srtT xs).Perm xs := List.mergeSort_perm xs leT
theorem srtT_pw (xs : List (List Str)) : (srtT xs).Pairwise fun a b => leT a b = true := List.pairwise_mergeSort (fun a b c h h' => leT_trans a b c h h') (fun a b => leT_total a b) xs
theorem srtT_unique {ys xs : List (List Str)} (p : ys.Perm xs) (h : ys.Pairwise fun a b => leT a b = true) : ys = srtT xs := perm_unique (fun a b => leT_anti) (p.trans (srtT_perm xs).symm) h (srtT_pw xs)
theorem items_strs : ∀ {its : List Value} {ss : List Str} (i : Nat), StrsAre its ss → tupItems (fun _ => true) i its = some (tky ss)
  | _, _, _, .nil => rfl
  | _, _, i, .cons x t r => by
    unfold tupItems
    rw [if_pos rfl, items_strs (i + 1) r]
    rfl
section
variable {X : Cx} {pins : List (Addr × Obj)} {σ : L2.St} {H : Hp} {s : Shared}
def TupS (K : PySem.W.Frag) (H : Hp) (x : V) (ss : List Str) : Prop := ∃ t, x = .ref t ∧ SqT K H t (ss.map V.str)
theorem tup_key (I : Inv X pins σ H s) {t : Addr} {ss : List Str} (h : SqT X.K H t (ss.map V.str)) : PyProof.Rows.G.tupKeyC s.heap (fun _ => true) (.ref t) = some (tky ss) ∧ (ss ≠ [] → ∃ f, TupOf s.heap (fun _ => true) (.ref t) f) := by
  obtain ⟨its, rv, ⟨o, ho, hc, n, hd⟩, _⟩ := I.tuple h
  have sa := strsAre_of rv
  constructor
  · have i1 : PyProof.Rows.G.isTupObj s.heap (.ref t) = true := by simp [PyProof.Rows.G.isTupObj, ho, hc]
    have i2 : tupKey s.heap (fun _ => true) (.ref t) = some (tky ss) := by
      simp only [tupKey, ho, hd]
      exact items_strs 0 sa
    unfold PyProof.Rows.G.tupKeyC
    rw [if_pos i1, i2]
  · intro ne
    cases sa with
    | nil => exact absurd rfl ne
    | @cons x tk us xs r => exact ⟨.str x tk, t, o, _, n, rfl, ho, hc, hd, by simp, (fun z => nomatch z), fun _ => ⟨x, tk, rfl⟩⟩
def rSortTS (K : PySem.W.Frag) : List V → Hp → VK → Prop := fun vs H Q => ∃ (a : Addr) (xs : List V), vs = [V.ref a] ∧ SqL K H a xs ∧ (∀ x ∈ xs, ∃ ss, TupS K H x ss ∧ ss ≠ []) ∧
  ∀ (ys : List V) (p : Addr), ys.Perm xs → ys.Pairwise (fun x y => ∀ n m, TupS K H x n → TupS K H y m → leT n m = true) → H p = none → Q (.ref p) (upd H p (.lst ys))
theorem call_sortTS : CallR X (.builtin "sorted") (rSortTS X.K) := by
  intro pins s σ H vs us Q I r h
  obtain ⟨a, xs, rfl, hs, hx, q⟩ := h
  obtain ⟨its, rv, hl, hz⟩ := I.list hs
  rw [Vals.ref1 r]
  obtain ⟨e1, e2⟩ := bkV_refs rv fun x m => by
    obtain ⟨ss, ⟨t, e, _⟩, _⟩ := hx x m
    exact ⟨t, e⟩
  have mem : ∀ v ∈ its, ∃ t ss, v = .ref t ∧ SqT X.K H t (ss.map V.str) ∧ ss ≠ [] := fun v hv => by
    obtain ⟨t, rfl⟩ := e2 v hv
    obtain ⟨ss, ⟨t', e, ht⟩, ne⟩ := hx (.ref t) (by rw [e1]; exact List.mem_map.mpr ⟨_, hv, rfl⟩)
    cases e
    exact ⟨t, ss, rfl, ht, ne⟩
  have tops : ∀ us : List Value, (∀ v ∈ us, v ∈ its) → ∃ fs, TupsOf s.heap (fun _ => true) us fs := fun us => by
    induction us with
    | nil => intro _; exact ⟨[], .nil⟩
    | cons u us ih =>
      intro hu
      obtain ⟨t, ss, rfl, ht, ne⟩ := mem u (hu _ List.mem_cons_self)
      obtain ⟨f, tf⟩ := (tup_key I ht).2 ne
      obtain ⟨fs, h⟩ := ih fun v hv => hu v (List.mem_cons_of_mem _ hv)
      exact ⟨f :: fs, .cons tf h⟩
  obtain ⟨fs, hfs⟩ := tops its fun v hv => hv
  refine PyProof.Rows.G.sorted_tups (shape := fun _ => true) hl.isList hfs (fun v hv => ?_) (by rw [← rv.length]; exact hz) fun st pm so _ => ?_
  · obtain ⟨t, ss, rfl, ht, _⟩ := mem v hv
    exact ⟨_, (tup_key I ht).1⟩
  have pl : (arrOf st).toList.Perm (its.zip its) := by rw [← pairsOf_toList]; exact Array.perm_iff_toList_perm.mp pm
  have both : ∀ p ∈ (arrOf st).toList, p.1 = p.2 ∧ p.1 ∈ its := fun p hp => mem_zip_self (pl.mem_iff.mp hp)
  have po : (((arrOf st).map (·.2)).toList).Perm its := by
    rw [Array.toList_map]
    have z := pl.map Prod.snd
    rwa [List.map_snd_zip (Nat.le_refl _)] at z
  obtain ⟨ep, he⟩ := PyProof.Rows.sortedAll_at s.heap its ((arrOf st).map (·.2))
  have h3 : ∀ u ∈ ((arrOf st).map (·.2)).toList, ∃ a, u = Value.ref a := fun u hu => e2 u (po.mem_iff.mp hu)
  have hp : (((arrOf st).map (·.2)).toList.map bkV).Perm xs := by
    rw [e1]
    exact po.map bkV
  have hlen : (((arrOf st).map (·.2)).toList.map bkV).length ≤ sizeLine := by rw [hp.length_eq]; exact hz
  refine ⟨.ref _, upd H (s.heap.objs.size + 1) (.lst (((arrOf st).map (·.2)).toList.map bkV)), I.laid (t' := s.toks) (fun _ _ => PyProof.Rows.sortedAll_old) (Nat.le_succ _) ⟨hlen, _, ep, bkV_vals h3, he⟩, rfl, q _ _ hp ?_ (I.hok.fresh (Nat.le_succ _))⟩
  rw [List.pairwise_map, Array.toList_map, List.pairwise_map, List.pairwise_iff_getElem]
  intro i j hi hj hij n m hn hm
  have hi' : i < (arrOf st).size := by simpa using hi
  have hj' : j < (arrOf st).size := by simpa using hj
  have s1 := so i j (Nat.le_of_lt hij) (by rw [← pm.size_eq]; exact hj')
  obtain ⟨t, et, ht⟩ := hn
  obtain ⟨u, eu, hu⟩ := hm
  have b1 := both _ (List.getElem_mem hi)
  have b2 := both _ (List.getElem_mem hj)
  have f1 : (arrOf st).toList[i].2 = .ref t := bkV_ref et
  have f2 : (arrOf st).toList[j].2 = .ref u := bkV_ref eu
  rw [← b1.1] at f1
  rw [← b2.1] at f2
  have k1 : KK (PyProof.Rows.G.tupKindC s.heap fun _ => true) (arrOf st) i = tky n := by
    unfold KK
    rw [Array.getElem?_eq_getElem hi']
    dsimp only
    rw [Array.getElem_toList] at f1
    rw [f1, (tup_key I ht).1]; rfl
  have k2 : KK (PyProof.Rows.G.tupKindC s.heap fun _ => true) (arrOf st) j = tky m := by
    unfold KK
    rw [Array.getElem?_eq_getElem hj']
    dsimp only
    rw [Array.getElem_toList] at f2
    rw [f2, (tup_key I hu).1]; rfl
  rw [k1, k2] at s1
  exact leT_iff.mpr s1
end
section
variable {X : Cx} {Y : Xd} {g : Gh} {C : Tab} {H : Hp}
theorem rvs_perm {M : Md} : ∀ {vs ys : List V}, ys.Perm vs → ∀ {ts : List TV}, RVs M g ts vs → ∃ us, us.Perm ts ∧ RVs M g us ys := by
  intro vs ys p
  induction p with
  | nil => intro ts r; exact ⟨ts, .refl _, r⟩
  | cons x _ ih =>
    intro ts r
    cases r with
    | cons a b =>
      obtain ⟨us, p, r'⟩ := ih b
      exact ⟨_ :: us, p.cons _, .cons a r'⟩
  | swap x y l =>
    intro ts r
    cases r with
    | cons a b =>
      cases b with
      | cons c d => exact ⟨_ :: _ :: _, .swap _ _ _, .cons c (.cons a d)⟩
  | trans _ _ ih1 ih2 =>
    intro ts r
    obtain ⟨us, p1, r1⟩ := ih2 r
    obtain ⟨ws, p2, r2⟩ := ih1 r1
    exact ⟨ws, p2.trans p1, r2⟩
def tupL : List TV → Option (List (List Str))
  | [] => some []
  | .tup us :: ts => match strL us with
    | some [] => none
    | some ys => (tupL ts).map (ys :: ·)
    | none => none
  | _ :: _ => none
def tupS (ys : List Str) : TV := .tup (ys.map .str)
theorem tupL_is : ∀ {ts : List TV} {yss : List (List Str)}, tupL ts = some yss → ts = yss.map tupS ∧ ∀ ys ∈ yss, ys ≠ []
  | [], yss, h => by cases h; exact ⟨rfl, fun _ h => nomatch h⟩
  | t :: ts, yss, h => by
    cases t <;> first | (cases h; done) | skip
    rename_i us
    unfold tupL at h
    split at h
    · cases h
    · rename_i ys hne hy
      obtain ⟨zss, h1, rfl⟩ := Option.map_eq_some_iff.mp h
      obtain ⟨i1, i2⟩ := tupL_is h1
      have eu : us = ys.map .str := by
        clear h i1 i2 hne
        revert ys
        induction us with
        | nil => intro ys hy; cases hy; rfl
        | cons u us ih =>
          intro ys hy
          cases u <;> first | (cases hy; done) | skip
          unfold strL at hy
          obtain ⟨zs, h2, rfl⟩ := Option.map_eq_some_iff.mp hy
          rw [List.map_cons, ← ih _ h2]
      refine ⟨by rw [List.map_cons, ← i1, eu]; rfl, fun z hz => ?_⟩
      rcases List.mem_cons.mp hz with rfl | hz
      · intro e; subst e; exact hne rfl
      · exact i2 z hz
    · cases h
def bSortT (own : Bool) : FM := fun ts C => match ts with
  | [x] => match rd C x with
    | .lst us => match tupL us with
      | some yss => alc own (.lst ((srtT yss).map tupS)) C
      | none => .stuck
    | _ => .stuck
  | _ => .stuck
theorem rv_tupS (hK : X.K = Y.M.K) (R : RH Y.M g C H) {ys : List Str} {v : V} (r : RV Y.M g (tupS ys) v) : TupS X.K H v ys := by
  have q := R.rr r
  rw [show rd C (tupS ys) = tupS ys from rfl] at q
  obtain ⟨a, vs, rfl, ha, rv⟩ := q
  have e : vs = ys.map V.str := strL_rv strL_map rv
  subst e
  exact ⟨a, rfl, hK ▸ ha⟩
theorem rvs_pw (hK : X.K = Y.M.K) (R : RH Y.M g C H) : ∀ {zss : List (List Str)} {ys : List V}, RVs Y.M g (zss.map tupS) ys → ys.Pairwise (fun x y => ∀ n m, TupS X.K H x n → TupS X.K H y m → leT n m = true) → zss.Pairwise fun a b => leT a b = true
  | [], _, _, _ => .nil
  | z :: zss, _, .cons a b, h => by
    obtain ⟨h1, h2⟩ := List.pairwise_cons.mp h
    refine List.pairwise_cons.mpr ⟨fun w hw => ?_, rvs_pw hK R b h2⟩
    have : ∀ {us : List (List Str)} {vs : List V}, RVs Y.M g (us.map tupS) vs → ∀ w ∈ us, ∃ v ∈ vs, RV Y.M g (tupS w) v := by
      intro us
      induction us with
      | nil => intro vs _ w hw; cases hw
      | cons u us ih =>
        intro vs r w hw
        cases r with
        | cons c d =>
          rcases List.mem_cons.mp hw with rfl | hw
          · exact ⟨_, List.mem_cons_self, c⟩
          · obtain ⟨v, hv, rv⟩ := ih d w hw
            exact ⟨v, List.mem_cons_of_mem _ hv, rv⟩
    obtain ⟨v, hv, rv⟩ := this b w hw
    exact h1 v hv _ _ (rv_tupS hK R a) (rv_tupS hK R rv)
theorem perm_tupS {us : List TV} {yss : List (List Str)} (p : us.Perm (yss.map tupS)) : ∃ zss : List (List Str), zss.Perm yss ∧ us = zss.map tupS := by
  have h : ∀ {us ws : List TV}, us.Perm ws → ∀ yss : List (List Str), ws = yss.map tupS → ∃ zss : List (List Str), zss.Perm yss ∧ us = zss.map tupS := by
    intro us ws p
    induction p with
    | nil =>
      intro yss e
      cases yss with
      | nil => exact ⟨[], .refl _, rfl⟩
      | cons a b => cases e
    | cons x _ ih =>
      intro yss e
      cases yss with
      | nil => cases e
      | cons y yss =>
        obtain ⟨e1, e2⟩ := List.cons.inj e
        obtain ⟨zss, p, e3⟩ := ih yss e2
        exact ⟨y :: zss, p.cons _, by rw [List.map_cons, ← e1, ← e3]⟩
    | swap x y l =>
      intro yss e
      cases yss with
      | nil => cases e
      | cons a yss =>
        cases yss with
        | nil => cases (List.cons.inj e).2
        | cons b yss =>
          obtain ⟨e1, e2⟩ := List.cons.inj e
          obtain ⟨e3, e4⟩ := List.cons.inj e2
          exact ⟨b :: a :: yss, .swap _ _ _, by rw [List.map_cons, List.map_cons, ← e1, ← e3, ← e4]⟩
    | trans _ _ ih1 ih2 =>
      intro yss e
      obtain ⟨zss, p1, e1⟩ := ih2 yss e
      obtain ⟨wss, p2, e2⟩ := ih1 zss e1
      exact ⟨wss, p2.trans p1, e2⟩
  exact h p yss rfl
theorem bSortT_ok (hK : X.K = Y.M.K) (own : Bool) : CallS Y (rSortTS X.K) (bSortT own) := by
  intro g C H W xs vs Q R rv f
  unfold bSortT at f
  split at f
  · rename_i x
    obtain ⟨v, rfl, rx⟩ := rv.one
    have q := R.rr rx
    split at f
    · rename_i us ex
      rw [ex] at q
      obtain ⟨a, ws, rfl, ha, r⟩ := q
      split at f
      · rename_i yss hy
        obtain ⟨rfl, ne⟩ := tupL_is hy
        refine ⟨a, ws, rfl, .of ha, fun x hx => ?_, fun zs p pm pw free => ?_⟩
        · have : ∀ {us : List (List Str)} {vs : List V}, RVs Y.M g (us.map tupS) vs → (∀ u ∈ us, u ≠ []) → ∀ x ∈ vs, ∃ ss, TupS X.K H x ss ∧ ss ≠ [] := by
            intro us
            induction us with
            | nil => intro vs r _ x hx; cases r; cases hx
            | cons u us ih =>
              intro vs r hn x hx
              cases r with
              | cons c d =>
                rcases List.mem_cons.mp hx with rfl | hx
                · exact ⟨u, rv_tupS hK R c, hn u List.mem_cons_self⟩
                · exact ih d (fun w hw => hn w (List.mem_cons_of_mem _ hw)) x hx
          exact this r ne x hx
        · obtain ⟨us, pu, ru⟩ := rvs_perm pm r
          obtain ⟨zss, pz, rfl⟩ := perm_tupS pu
          have e := srtT_unique pz (rvs_pw hK R ru pw)
          rw [← e] at f
          exact alc_new R (RN.lst ru) f p free
      · exact f.elim
    · exact f.elim
  · exact f.elim
end
end FH
/-! GcY: enumerate(t), t a tuple. -/
namespace FH
open PySem L2
open PySem.Spec PyProof.Rows
def enumOb (it : Addr) : Obj := { cls := .type "enumerate", data := .fields #[.none, .bool false, .ref it, rawInt 0, .none, .none] }
set_option maxHeartbeats 1000000 in
theorem enum_new1 {v : Value} {o : Obj} {Hb : Heap → Prop} (B : Begins v o Hb) :
    Meets (Builtin.«enumerate.__new__» ⟨[.type "enumerate", v], []⟩) (fun _ R s => Hb s.heap ∧ R (.ok (.ret (.ref (s.heap.push o).objs.size))) { s with heap := (s.heap.push o).push (enumOb s.heap.objs.size) }) :=
  .of_wp fun P w A R s h => by
    obtain ⟨hp, gs, dr, tk, os⟩ := s
    obtain ⟨hb, done⟩ := h
    have sub := sub_enumerate
    have it : ∀ {A' : Around} {E : Value → Shared → Prop} {Q : Value → Shared → Prop}, Q (.ref hp.objs.size) ⟨hp.push o, gs, dr, tk, os⟩ → wpAny (model P w) A' (pyIter v) Q E ⟨hp, gs, dr, tk, os⟩ := fun q => B.iter P w _ _ ⟨hp, gs, dr, tk, os⟩ _ hb q
    wp_walk using it
    refine wpAny_stack_any fun st => wpAny_pure ?_
    split
    · rename_i c _ _ _ _ _
      cases (c == Value.type "enumerate") <;> (wp_walk using it; exact ⟨_, rfl, done⟩)
    · wp_walk using it
      exact ⟨_, rfl, done⟩
section
variable {P : Program} {w : World} {A : Around} {E : Value → Shared → Prop} {s : Shared}
theorem enum_tuple {l : Addr} {items : Array Value} {Q : Value → Shared → Prop} (hl : s.heap.IsTuple l items)
    (out : ∀ h', IsEnum h' (s.heap.objs.size + 1) s.heap.objs.size 0 .none → h'.IsTupleIter s.heap.objs.size l 0 → (∀ b o, s.heap.get? b = some o → h'.get? b = some o) → Q (.ref (s.heap.objs.size + 1)) { s with heap := h' }) :
    wpAny (model P w) A (call (.type "enumerate") [.ref l]) Q E s := by
  refine callType_new F.called_enumerate (by decide) (F.typeCall_enumerate_1 _) (F.newCall_enumerate_1 _) (fun obj => F.args_object_init_2 obj _) F.entry_enumerate_new (enum_new1 (begins_tuple l items)) ⟨hl, ?_⟩
  have sz : (s.heap.push { cls := .type "tuple_iterator", data := .fields #[.ref l, .int 0 0] }).objs.size = s.heap.objs.size + 1 := Heap.size_push ..
  show _ ∧ _
  rw [sz]
  have at_ : IsEnum ((s.heap.push { cls := .type "tuple_iterator", data := .fields #[.ref l, .int 0 0] }).push (enumOb s.heap.objs.size)) (s.heap.objs.size + 1) s.heap.objs.size 0 .none := by
    have q := Heap.get?_push_size (s.heap.push { cls := .type "tuple_iterator", data := .fields #[.ref l, .int 0 0] }) (o := enumOb s.heap.objs.size) rfl
    rwa [sz] at q
  exact ⟨⟨_, at_, rfl⟩, out _ at_ ⟨_, Heap.get?_push_of_some _ (Heap.get?_push_size _ rfl), rfl, rfl⟩ fun b o x => Heap.get?_push_of_some _ (Heap.get?_push_of_some _ x)⟩
end
/-- the tuple at a, item by item, each in a new pair -/
def ItT (K : PySem.W.Frag) (a : Addr) : It :=
  ⟨fun i H => ∃ (xs : List V) (x : V), SqT K H a xs ∧ xs[i]? = some x, fun i H v H' => ∃ T x, v = .ref T ∧ H T = none ∧ H' = upd H T (.tup [.int (i : Nat), x]) ∧ ∀ xs, SqT K H a xs → xs[i]? = some x, fun i H => ∃ xs : List V, SqT K H a xs ∧ xs.length = i⟩
theorem ti_ne {h : Heap} {it a : Addr} {i : Nat} {items : Array Value} (x : h.IsTupleIter it a i) (y : h.IsTuple a items) : a ≠ it := by
  rintro rfl
  obtain ⟨o, ho, hc, _⟩ := x
  obtain ⟨u, hu, hd, _⟩ := y
  rw [ho] at hu
  cases hu
  rw [hc] at hd
  injection hd with hd
  exact absurd hd (by decide)
theorem te_ne {h : Heap} {it a e : Addr} {i : Int} {old : Value} {items : Array Value} (x : IsEnum h e it i old) (y : h.IsTuple a items) : e ≠ a := by
  rintro rfl
  obtain ⟨u, hu, hd, _⟩ := y
  have x' : h.get? e = some _ := x
  rw [hu] at x'
  cases x'
  injection hd with hd
  exact absurd hd (by decide)
theorem turn_enumT {P : Program} {w : World} {K : PySem.W.Frag} {elts : List Expr} {kk : Nat} {tpos : Pos} (a e it : Addr) :
    Turn P w K (.Tuple elts kk tpos) (ItT K a) [e, it] e (fun i h => (∃ old, IsEnum h e it ((i : Nat) : Int) old) ∧ h.IsTupleIter it a i ∧ e ≠ it) where
  mem := List.mem_cons_self
  obj := fun i h ⟨⟨old, he⟩, ⟨o, ho, _, hd⟩, _⟩ b hb => by
    rcases List.mem_cons.mp hb with rfl | hb
    · exact ⟨_, he, fun v q => nomatch q⟩
    · rw [List.mem_singleton.mp hb]
      exact ⟨o, ho, fun v q => by rw [hd] at q; cases q⟩
  keep := fun i h h' ⟨⟨old, he⟩, hi, ne⟩ k => ⟨⟨old, k e List.mem_cons_self _ he⟩, hi.at fun o q => k it (List.mem_cons_of_mem _ List.mem_cons_self) o q, ne⟩
  item := by
    intro X hP hw hK hc i pins s σ H E I hf st hg
    subst hP hw hK
    obtain ⟨⟨old, he⟩, hit, ne⟩ := st
    obtain ⟨xs, x, hq, hx⟩ := hg
    obtain ⟨its, rv, p, _⟩ := I.tuple hq
    obtain ⟨u, hu, ru⟩ := rv.get hx
    have le : e < s.heap.objs.size := Heap.lt_size he
    have li : it < s.heap.objs.size := by obtain ⟨_, q, _⟩ := hit; exact Heap.lt_size q
    have D := Draws.tuple (prog := X.prog) (w := X.w) (A := X.A.in1) (I.ok.hd hc) it a (ti_ne hit p) its.toArray
    have eh : e ∉ [it, a] := fun z => by
      rcases List.mem_cons.mp z with z | z
      · exact ne z
      · exact te_ne he p (List.mem_singleton.mp z)
    have lt : i < its.toArray.size := by
      rw [List.size_toArray]
      exact (List.getElem?_eq_some_iff.mp hu).1
    refine wpAny_pyNext_enum_itemD D he ⟨hit, p⟩ lt ne eh fun y h' tk hy ho st' hT hsz hk => ?_
    have eu : y = u := by
      have hy' : its.toArray[i]? = some y := hy
      rw [← Array.getElem?_toList] at hy'
      exact Option.some.inj (hy'.symm.trans (by simpa using hu))
    subst eu
    refine ⟨_, rfl, wpAny_letOwnedTupleGo_enum (s := { s with heap := h', toks := tk + 1 }) ho fun h2 he2 sb => ?_⟩
    have new : h2.get? s.heap.objs.size = some { cls := .type "tuple", data := .seq #[.int i tk, y] } := (sb.2 _ (Nat.ne_of_gt le)).trans hT
    have ok : ObjOk X.prog X.w (upd H s.heap.objs.size (.tup [.int (i : Nat), x])) h2 s.heap.objs.size (.tup [.int (i : Nat), x]) :=
      ⟨by show 2 ≤ sizeLine; decide, [.int i tk, y], .cons ⟨_, rfl⟩ (.cons ru .nil), ⟨_, new, rfl, _, rfl⟩⟩
    have out : ∀ {b : Addr}, b ∉ [e, it] → b ≠ e ∧ b ≠ it := fun hb => ⟨fun z => hb (by simp [z]), fun z => hb (by simp [z])⟩
    have J : Inv X pins σ (upd H s.heap.objs.size (.tup [.int (i : Nat), x])) { s with heap := h2, toks := tk + 1 } :=
      I.turnedNew (ch := [e, it]) (fun b ob hb q => (sb.2 b (out hb).1).trans (hk b ob (out hb).1 (out hb).2 q)) hf (Nat.le_refl _) ok
    refine ⟨.ref s.heap.objs.size, _, J, rfl, ⟨_, x, rfl, I.hok.fresh (Nat.le_refl _), rfl, fun ys hy => by rw [I.tuple_inj hy hq]; exact hx⟩, ⟨⟨y, ?_⟩, st'.1.at fun o q => (sb.2 it (Ne.symm ne)).trans q, ne⟩, fun b hb => ?_⟩
    · rw [show ((i + 1 : Nat) : Int) = (i : Int) + 1 by omega]
      exact he2
    · have lb : b < s.heap.objs.size := by
        rcases List.mem_cons.mp hb with rfl | hb
        · exact le
        · rw [List.mem_singleton.mp hb]; exact li
      rw [upd_ne (Nat.ne_of_lt lb)]
      exact (hf b hb).1
  done := by
    intro X hP hw hK hc i pins s σ H E I hf st hg
    subst hP hw hK
    obtain ⟨⟨old, he⟩, hit, ne⟩ := st
    obtain ⟨xs, hq, hx⟩ := hg
    obtain ⟨its, rv, p, _⟩ := I.tuple hq
    obtain ⟨f0, f1, f2, f3, f4, f5⟩ := hf it (List.mem_cons_of_mem _ List.mem_cons_self)
    have D := Draws.tuple (prog := X.prog) (w := X.w) (A := X.A.in1) (I.ok.hd hc) it a (ti_ne hit p) its.toArray
    have sz : its.toArray.size = i := by rw [List.size_toArray, ← rv.length]; exact hx
    refine wpAny_pyNext_enum_endD D he ?_ fun h' eb => ⟨rfl, I.turned (t' := s.toks) (fun b o hb q => eb b o hb q) f0 f1 f3 f4 f5⟩
    rw [sz]
    exact ⟨hit, p⟩
  self := fun A i s Q E st h => let ⟨⟨_, he⟩, _⟩ := st; wpAny_pyIter_enum he h
def iEnumT (K : PySem.W.Frag) (ta : TA) : TI := fun σ H R => ta σ H fun vs H1 => ∃ a xs, vs = [.ref a] ∧ SqT K H1 a xs ∧ R (ItT K a) H1
theorem pi_enumT {X : Cx} {e : Expr} {ta : TA} {p pos tpos : Pos} {elts : List Expr} {kk : Nat} (hg : Gl X "enumerate") (hm : X.mg "enumerate" = none) (ha : PA X [e] ta) (hs : starEach [e] X.env = [(false, eval e X.env)] := by rfl) :
    PI X (.Tuple elts kk tpos) (.Call (.Name "enumerate" p) [e] [] pos) (iEnumT X.K ta) := by
  refine ⟨fun pins s σ H R I h => ?_⟩
  refine Call_ (ld_blt I hg hm boot_enumerate (PyProof.Rows.callWith_type1 (thn (ha.run pos pins s σ H _ I h) fun us s1 ⟨vs, H1, I1, r1, a, xs, ex, hq, q⟩ => ?_) hs rfl))
  subst ex
  rw [Vals.ref1 r1]
  obtain ⟨its, rv, p', _⟩ := I1.tuple hq
  refine enum_tuple p' fun h' he hit hk => wpAny_pyIter_enum he ?_
  have J : Inv X pins σ H1 { s1 with heap := h' } := I1.kept (t' := s1.toks) hk
  refine ⟨s1.heap.objs.size + 1, [s1.heap.objs.size + 1, s1.heap.objs.size], _, _, H1, rfl, J, turn_enumT a (s1.heap.objs.size + 1) s1.heap.objs.size, ⟨⟨.none, he⟩, hit, Nat.succ_ne_self _⟩, fun b hb => ?_, q⟩
  have le : s1.heap.objs.size ≤ b := by
    rcases List.mem_cons.mp hb with rfl | hb
    · exact Nat.le_succ _
    · exact Nat.le_of_eq (List.mem_singleton.mp hb).symm
  exact I1.fpOk le (I1.hok.fresh le)
section
variable {X : Cx} {Y : Xd} {W : WX} {e : Expr} {p pos tpos : Pos} {elts : List Expr} {kk : Nat} {ma : EM (List TV)}
theorem yl_enumT {K : PySem.W.Frag} {g : Gh} {C : Tab} {xs : List TV} {a : Addr} (h : ∀ g' C' H', ExtF g g' → RH Y.M g' C' H' → ∃ vs, SqT K H' a vs ∧ RVs Y.M g' xs vs) : Yl Y g C none (enumT xs) (ItT K a) := by
  have hl : (enumT xs).length = xs.length := by simp [enumT]
  refine ⟨fun H => ∃ vs, SqT K H a vs ∧ vs.length = xs.length, fun i H v H' => ∃ T x, v = .ref T ∧ H T = none ∧ H' = upd H T (.tup [.int (i : Nat), x]) ∧ ∀ xs, SqT K H a xs → xs[i]? = some x,
    ⟨fun i H hi ⟨vs, h1, h2⟩ => ⟨vs, vs[i]'(by omega), h1, List.getElem?_eq_getElem _⟩, fun H ⟨vs, h1, h2⟩ => ⟨vs, h1, by omega⟩, fun i H x H2 hi _ y => y⟩,
    fun g' C' H' e R l => let ⟨vs, h1, h2⟩ := h g' C' H' e R; ⟨vs, h1, h2.length.symm⟩, fun i g' C' H' x H2 hi e R l y => ?_⟩
  obtain ⟨vs, h1, h2⟩ := h g' C' H' e R
  obtain ⟨T, w, rfl, hT, rfl, y⟩ := y
  obtain ⟨t, ht, rv⟩ := h2.getV (y vs h1)
  obtain ⟨R', e'⟩ := R.addB (o := .tup [.int (i : Nat), w]) (Same.upd hT) hT upd_same
  exact ⟨_, e', R', _, enumT_get ht, .tup upd_same (.cons .int (.cons (rv.mono e') .nil))⟩
def enumOfT (ts : List TV) (C : Tab) : Res (List TV × Lk) := match ts with
  | [.tup xs] => .ok (enumT xs, none) C
  | _ => .stuck
def mEnumT (ma : EM (List TV)) : EM (List TV × Lk) := fun s C => (ma s C).bind enumOfT
theorem si_enumT (ha : SA X Y W [e] ma) (hm : X.mg "enumerate" = none) (hK : X.K = Y.M.K := by rfl) (hg : Gl X "enumerate" := by rfl) (hs : starEach [e] X.env = [(false, eval e X.env)] := by rfl) : PI X (.Tuple elts kk tpos) (.Call (.Name "enumerate" p) [e] [] pos) (tI X Y W (mEnumT ma)) := by
  refine PI.imp (pi_enumT hg hm ha.pa hs) fun σ H R0 h => tA_src h fun g1 C1 H1 ts vs R1 rv f => ?_
  unfold enumOfT at f
  split at f
  · rename_i xs
    obtain ⟨v, rfl, rx⟩ := rv.one
    have q := R1.rr rx
    rw [show rd C1 (.tup xs) = .tup xs from rfl] at q
    obtain ⟨a, ws, rfl, ha, r⟩ := q
    refine ⟨a, ws, rfl, hK ▸ ha, (f g1 H1 (Ext.refl _) R1).plain R1 lkAt_none (fun j t h => nomatch h) (yl_enumT fun g' C' H' ex R' => ?_)⟩
    have q' := R'.rr (rx.mono0 ex.e0)
    rw [show rd C' (.tup xs) = .tup xs from rfl] at q'
    obtain ⟨a', us, e', ha', r'⟩ := q'
    cases e'
    exact ⟨us, hK ▸ ha', r'⟩
  · exact f.elim
end
end FH
/-! GcZ: x = {k: v for ..} on one row, the name a local. -/
namespace FH
open PySem L2
open PySem.Spec PyProof.Rows
section
variable {X : Cx} {Y : Xd} {W : WX} {kx elt tg iter : Expr} {ifs : List Expr} {scope : Scope} {pos : Pos} {g : TG} {gt : TV → Slots → Option Slots} {is : List Nat} {src : EM (List TV × Lk)} {tt : EM Bool} {mk me : EM TV}
theorem dc_sem (own : Bool) {ws : List Nat} (hgt : GS X Y g gt is) (his : ∀ i ∈ is, i ∈ ws) {σ : L2.St} {H : Hp} {Q : VK} (h : tE Y W (mDc own src gt tt mk me ws) σ H Q) :
    tDc (tI X Y W src) g (tT Y W0 tt) (tE Y W0 mk) (tE Y W0 me) ws σ H fun x H' => OrU X H' (Q x) := by
  obtain ⟨gh, s, C, rs, R, f⟩ := h
  refine ⟨gh, s, C, rs, R, (Fin.bind f).imp fun p g1 C1 H1 e1 R1 fin J g2 H2 hk R2 la ho hx yl D hD => ?_⟩
  obtain ⟨xs, lk⟩ := p
  have rs2 := (rs.mono e1).mono0 hk.ext0
  have rsw := rs2.wipe ws
  obtain ⟨G, Yd, wk, hG, hY⟩ := yl
  have hL2 : g2.L D = none := R2.Lnone hD
  have fz : ∀ (vs : List (Key × V)) (ob : Obj) (u : HO), HO.dK vs ≠ .frz ob u := fun _ _ _ z => nomatch z
  have gF : ∀ {acc : List (Key × V)} {g3 : Gh}, Ext { g2 with L := upd g2.L D (.dK acc) } g3 → ExtF g2 g3 := fun {acc g3} e => ⟨⟨e.B, e.n, e.A⟩, fun a ob u h => by
    rw [e.L]
    show upd g2.L D _ a = _
    rw [upd_ne (fun z => by rw [z, hL2] at h; cases h)]
    exact h⟩
  refine dc_it wk (fun i H' => ∃ g3 C3 accT accV, Ext { g2 with L := upd g2.L D (.dK accV) } g3 ∧ RH Y.M g3 C3 H' ∧ RKs Y.M g3 accT accV ∧ lkOk lk C1 C3 ∧
      Fin Y g1 (fun cls d H' => W cls d σ H') ((dcL gt tt mk me lk C1 (wipeS s ws) (xs.drop i) accT C3).nox.bind fun acc C2 => (alc own (.dct acc) C2).unlk lk) (kV' Y Q))
    ⟨_, C1, [], [], Ext.refl _, R2.pin hD, .nil, by cases lk with | none => trivial | some p => rfl, fin⟩ (fun i H' hi' ⟨g3, C3, accT, accV, e3, R3, _, ok3, _⟩ => hG g3 C3 H' (gF e3) R3 ok3)
    (fun i x H' H'' hi' ⟨g3, C3, accT, accV, e3, R3, rva, ok3, f3⟩ hy => ?_) (fun H' ⟨g3, C3, accT, accV, e3, R3, rva, ok3, f3⟩ => ?_)
  · obtain ⟨g4, e4, R4, t, htx, rv⟩ := hY i g3 C3 H' x H'' hi' (gF e3) R3 ok3 hy
    have ed : xs.drop i = t :: xs.drop (i + 1) := by
      have hl : i < xs.length := hi'
      rw [List.drop_eq_getElem_cons hl]
      rw [List.getElem?_eq_getElem hl] at htx
      cases htx; rfl
    rw [ed] at f3
    unfold dcL at f3
    have rs4 : RS Y.M g4 (wipeS s ws) (L2.wipe σ ws) := (rsw.mono0 (gF e3).e0).mono e4
    cases hgt' : gt t (wipeS s ws) with
    | none => rw [hgt'] at f3; exact f3.elim
    | some s1 =>
      rw [hgt'] at f3
      refine hgt g4 C3 H'' t x _ s1 _ _ R4 rs4 rv hgt' fun σ2 rs5 hw => ⟨(hw _ his).trans (wipe_idem _), ?_⟩
      dsimp only at f3
      cases h1 : tt s1 C3 with
      | stuck => rw [h1] at f3; exact f3.elim
      | exc x0 C5 => rw [h1] at f3; exact f3.elim
      | ok b C5 =>
        rw [h1] at f3
        simp only [Res.bind] at f3
        refine ⟨g4, s1, C3, rs5, R4, ?_⟩
        rw [h1]
        intro g5 H5 e5 R5
        have e35 := e3.trans (e4.trans e5)
        cases b with
        | false =>
          simp only [Bool.false_eq_true, if_false] at f3 ⊢
          by_cases hok : lkOk lk C1 C5
          · rw [if_pos hok] at f3
            exact ⟨g5, C5, accT, accV, e35, R5, rva.mono0 (e4.trans e5).e0, hok, f3⟩
          · rw [if_neg hok] at f3; exact f3.elim
        | true =>
          simp only [if_true] at f3 ⊢
          cases h0 : mk s1 C5 with
          | stuck => rw [h0] at f3; exact f3.elim
          | exc x0 C6 => rw [h0] at f3; exact f3.elim
          | ok kt C55 =>
           rw [h0] at f3
           refine ⟨g5, s1, C5, rs5.mono e5, R5, ?_⟩
           rw [h0]
           intro g55 H55 e55 R55 kv rvk
           dsimp only at f3
           cases h2 : me s1 C55 with
           | stuck => rw [h2] at f3; exact f3.elim
           | exc x0 C6 => rw [h2] at f3; exact f3.elim
           | ok u C6 =>
            rw [h2] at f3
            refine ⟨g55, s1, C55, (rs5.mono e5).mono e55, R55, ?_⟩
            rw [h2]
            intro g6 H6 e6 R6 v rvu
            dsimp only at f3
            cases hky : keyOf kt with
            | none => rw [hky] at f3; exact f3.elim
            | some k =>
             rw [hky] at f3
             dsimp only at f3
             obtain rfl := keyOf_rv hky rvk
             by_cases hok : accT.length < sizeLine ∧ lkOk lk C1 C6
             · rw [if_pos hok] at f3
               have e36 := (e35.trans e55).trans e6
               have eL : g6.L = upd g2.L D (.dK accV) := e36.L
               have R7 := R6.repin (o' := .dK (putK accV k v)) eL hL2 (fz _)
               have ex : Ext0 g6 { g6 with L := upd g2.L D (.dK (putK accV k v)) } := ⟨fun _ _ h => h, Nat.le_refl _, fun _ _ => rfl⟩
               refine ⟨accV, k, rfl, R6.l D _ (by rw [eL]; exact upd_same), by rw [← rva.length]; exact hok.1, { g6 with L := upd g2.L D (.dK (putK accV k v)) }, C6, putT accT k u, putK accV k v, ⟨e36.B, rfl, e36.n, e36.A⟩, R7, ?_, hok.2, f3⟩
               exact ((rva.mono0 (((e4.trans e5).trans e55).trans e6).e0).put k rvu).mono0 ex
             · rw [if_neg hok] at f3; exact f3.elim
  · rw [List.drop_length] at f3
    have f4 : Fin Y g1 (fun cls d H' => W cls d σ H') ((alc own (.dct accT) C3).unlk lk) (kV' Y Q) := f3
    obtain ⟨g4, u, C4, ea, e4, R4, rvD, hC⟩ := acc_done own R3 e3.L hL2 (fz _) (RN.dct rva) ⟨e3.B, e3.n, e3.A⟩
    rw [ea] at f4
    obtain ⟨g7, H7, x1, x2, R7, hP⟩ := walk_end hk R1 e4 R4 la (lkOk_more la ok3 hC) ho hx
    exact hP (Q (.ref D)) (f4 g7 H7 x1 R7 (.ref D) (rvD.mono0 x2))
theorem sw_trueD {gs : List Comprehension} {py : Pos} {y : Str} {l : Nat} {env : Env} (hk : env.scope.kind = .function) (hy : env.scope.names.lookup y = some .local) (hl : (py.line == pos.line) = true)
    (ha : (scope.names.any fun (n, k) => n == y && (k == .local || k == .cell)) = false) : swapsWith (.DictComp kx elt gs scope pos) (some (.Name y py)) l env = pure true := by
  have ky : env.kindOf y = some .local := hy
  have hb : env.blockKind = .function := by unfold Env.blockKind; rw [hk]; rfl
  unfold swapsWith
  simp only [hb, ky, ha, Expr.pos, hl]
  rfl
theorem ps_setDc {i : Nat} {y : Str} {py : Pos} {own : List (Str × Nat)} {spos : Pos} {wi : TI} {tt : TT} {tk tv : TE} (hc : X.calm = true) (hN : X.N.Nodup) (hy : X.N[i]? = some y) (hyl : X.env.scope.names.lookup y = some .local)
    (hsw : swapsWith (.DictComp kx elt [⟨tg, iter, ifs, 0⟩] scope pos) (some (.Name y py)) spos.line X.env = pure true) (hi : PI X tg iter wi) (ok : BlkOk X.N X.env.scope scope own)
    (hg : ∀ (s : Shared) (H : Hp) (C : Addr) (cl : List (Str × Addr)) (fp : List Addr), PG (X.blk s H scope (compEnvC scope cl C X.env) fp) tg g) (ht : ∀ (s : Shared) (H : Hp) (C : Addr) (cl : List (Str × Addr)) (fp : List Addr), PTs (X.blk s H scope (compEnvC scope cl C X.env) fp) ifs tt)
    (hk : ∀ (s : Shared) (H : Hp) (C : Addr) (cl : List (Str × Addr)) (fp : List Addr), PE (X.blk s H scope (compEnvC scope cl C X.env) fp) kx tk)
    (he : ∀ (s : Shared) (H : Hp) (C : Addr) (cl : List (Str × Addr)) (fp : List Addr), PE (X.blk s H scope (compEnvC scope cl C X.env) fp) elt tv) (hs : ∀ x, foldedSetIterable iter X.env x = pure x := by intro _; rfl) :
    PS X (.Assign [.Name y py] (.DictComp kx elt [⟨tg, iter, ifs, 0⟩] scope pos) spos) (tAsg (tDc wi g tt tk tv (own.map (·.2))) (gName i)) := by
  refine ⟨fun pins s σ H D I h => ?_⟩
  rw [exec_Assign_Name_used _ _ _ _ hsw]
  refine wpAny_bind (wpAny_standAt (wpAny_bind ?_))
  show wpAny _ X.A (do let _ ← comprehension (.DictComp kx elt [⟨tg, iter, ifs, 0⟩] scope pos) scope X.env (firstIterPos [⟨tg, iter, ifs, 0⟩] pos) newDict false (eval iter X.env) (some (assign (.Name y py) X.env))) _ _ s
  have h : tDc wi g tt tk tv (own.map (·.2)) σ H (fun x H1 => gName i x σ H1 D.nx) := h
  refine wpAny_bind (thn (dc_core (Qf := fun _ s' => SP X pins D .next s') hc hN I hi ok hg ht hk he hs h fun L C s' m H' I' q hn f => ?_) fun _ s' hq => wpAny_pure (wpAny_pure hq))
  show wpAny _ _ (assign (.Name y py) X.env (.ref L)) _ _ _
  refine wpAny_assign_Name (store_ok2 (v := V.ref L) I' hN hy (.inl hyl) rfl (fun s2 I2 ⟨a, sb, ha⟩ => ?_) (.inr hyl))
  obtain ⟨f0, f1, f2, f3, f4, f5⟩ := f
  have haC : C ≠ a := by
    rcases ha with z | z
    · rw [z]; exact f1
    · exact fun e => f4 y a z e.symm
  refine ⟨m, hn.sameBut sb haC, fun h3 sb3 => ?_⟩
  exact ⟨_, H', I2.turned (t' := s2.toks) (fun b o hb e => (sb3.2 b hb).trans e) f0 f1 f3 f4 f5, q⟩
/-- x = {k: v for .. in .. if ..} on one row -/
theorem ss_dc (i : Nat) (own : Bool) (names : List (Str × Nat)) {y : Str} {py spos : Pos} (hN : X.N.Nodup) (hi : PI X tg iter (tI X Y W src)) (ok : blkC X.N X.env.scope scope names = true)
    (hg : ∀ (s : Shared) (H : Hp) (C : Addr) (cl : List (Str × Addr)) (fp : List Addr), PG (X.blk s H scope (compEnvC scope cl C X.env) fp) tg g) (hgt : GS X Y g gt is)
    (ht : ∀ (s : Shared) (H : Hp) (C : Addr) (cl : List (Str × Addr)) (fp : List Addr), PTs (X.blk s H scope (compEnvC scope cl C X.env) fp) ifs (tT Y W0 tt))
    (hk : ∀ (s : Shared) (H : Hp) (C : Addr) (cl : List (Str × Addr)) (fp : List Addr), PE (X.blk s H scope (compEnvC scope cl C X.env) fp) kx (tE Y W0 mk))
    (he : ∀ (s : Shared) (H : Hp) (C : Addr) (cl : List (Str × Addr)) (fp : List Addr), PE (X.blk s H scope (compEnvC scope cl C X.env) fp) elt (tE Y W0 me)) (his : ∀ i ∈ is, i ∈ names.map (·.2) := by decide) (hc : X.calm = true := by rfl)
    (hs : ∀ x, foldedSetIterable iter X.env x = pure x := by intro _; rfl) (hy : X.N[i]? = some y := by rfl) (hyl : X.env.scope.names.lookup y = some .local := by rfl)
    (hkf : X.env.scope.kind = .function := by rfl) (hl : (py.line == pos.line) = true := by rfl) (ha : (scope.names.any fun (n, k) => n == y && (k == .local || k == .cell)) = false := by decide +kernel) :
    PS X (.Assign [.Name y py] (.DictComp kx elt [⟨tg, iter, ifs, 0⟩] scope pos) spos) (tS Y W (nSet i (mDc own src gt tt mk me (names.map (·.2))))) := by
  refine PS.imp (ps_unlk (ps_setDc (own := names) hc hN hy hyl (sw_trueD hkf hyl hl ha) hi (blkOk_by ok) hg ht hk he hs)) fun D σ H ⟨gh, s, C, rs, R, f⟩ => ?_
  exact dc_sem (Q := fun x H1 => D.nx (σ.set i (some x)) H1) own hgt his (tS_bind rs R f fun t g1 C1 H1 v e1 rs1 R1 rv f1 => f1 g1 H1 _ (Ext.refl g1) R1 (rs1.set rv))
end
end FH
/-! GdA: x op= e at a local name: numbers, own classes. -/
namespace FH
open PySem L2
open PySem.Spec PyProof.Rows
section
variable {X : Cx} {Y : Xd} {W : WX} {e : Expr} {pos pn : Pos} {m : EM TV} {c : Str} {k : Nat} {F : FM} {op : Operator}
theorem ps_augO {i : Nat} {y : Str} {te : TE} {r : L2.St → R2} (hN : X.N.Nodup) (hi : X.N[i]? = some y) (hy : Loc X.env.scope y) (he : PE X e te) (ho : OpW X (inplaceOp op) r) (hf : X.fn y = true ∨ X.env.scope.names.lookup y = some .local) :
    PS X (.AugAssign (.Name y pn) op e pos) fun D σ H => ∃ v, σ[i]? = some (some v) ∧ te σ H fun w H1 => r σ v w H1 fun z H2 => D.nx (σ.set i (some z)) H2 := by
  refine ⟨fun pins s σ H D I ⟨v, ev, h⟩ => ?_⟩
  obtain ⟨mm, hn, hl⟩ := I.loc
  obtain ⟨u, ru, l⟩ := hl i y v hi ev (hy.elim .inl fun z => .inr (.inl z))
  have rest : wpAny (model X.prog X.w) X.A (eval e X.env) (fun b sb => wpAny (model X.prog X.w) X.A (inplaceOp op u b) (fun q sq => wpAny (model X.prog X.w) X.A (storeName X.env y q) (fun _ => SP X pins D .next) X.xe sq) X.xe sb) X.xe s := by
    refine thn (he.run pins s σ H _ I h) fun b sb ⟨w, Hb, Ib, rb, qb⟩ => ?_
    refine thn (ho pins sb σ Hb v w u b _ Ib ru rb qb) fun q sq ⟨z, Hq, Iq, rq, qq⟩ => ?_
    exact store_ok Iq hN hi hy rq (fun st It => ⟨_, Hq, It, qq⟩) hf
  refine wpAny_AugAssign_Name ?_
  rcases l with ⟨kn, km⟩ | ⟨kn, cl, kc, kl⟩
  · exact wpAny_loadName_local I.ok.kind kn hn km rest
  · rcases kn with kn | kn
    · exact wpAny_loadName_cell I.ok.kind kn kc kl rest
    · exfalso
      have fr : X.env.scope.names.lookup y = some .free := kn
      rcases hy with z | z <;> (rw [fr] at z; cases z)
theorem var_of {i : Nat} {σ : L2.St} {H : Hp} {Q : VK} (h : tE Y W (mVar i) σ H Q) : ∃ v, σ[i]? = some (some v) ∧ Q v H := by
  obtain ⟨g, s, C, rs, R, f⟩ := h
  unfold mVar at f
  split at f
  · rename_i t ht
    obtain ⟨v, h1, h2⟩ := rs.v i t ht
    exact ⟨v, h1, val_now R h2 f⟩
  · exact f.elim
theorem ss_aug (i : Nat) {y : Str} {r : L2.St → R2} {f : TV → TV → Tab → Res TV} (hN : X.N.Nodup) (ho : OpW X (inplaceOp op) r) (hs : OpSW Y W r f) (he : PE X e (tE Y W m)) (hi : X.N[i]? = some y := by rfl) (hy : Loc X.env.scope y := by first | exact Or.inl rfl | exact Or.inr rfl)
    (hf : X.fn y = true ∨ X.env.scope.names.lookup y = some .local := by first | exact .inl rfl | exact .inr rfl) : PS X (.AugAssign (.Name y pn) op e pos) (tS Y W (nSet i (mOp f (mVar i) m))) :=
  PS.imp (ps_augO hN hi hy he ho hf) fun D σ H ⟨g, s, C, rs, R, f0⟩ =>
    var_of (tOpW_of hs (tS_bind rs R f0 fun t g1 C1 H1 v e1 rs1 R1 rv f1 => f1 g1 H1 _ (Ext.refl g1) R1 (rs1.set rv) : tE Y W (mOp f (mVar i) m) σ H fun v H1 => D.nx (σ.set i (some v)) H1))
/-! ### numbers -/
def addN : TV → TV → Tab → Res TV := fun x y C => match x, y with
  | .int i, .int j => .ok (.int (i + j)) C
  | _, _ => .stuck
theorem addN_ok : OpS Y (rI0 fun i j => .int (i + j)) addN := by
  intro g C H W x y v w Q R rx ry f
  unfold addN at f
  split at f
  · cases rx; cases ry; exact ⟨_, _, rfl, rfl, val_now R .int f⟩
  · exact f.elim
/-! ### own classes -/
structure KInp (Y : Xd) (c : Str) : Prop where
  sf : ∀ C, Y.M.cl c = some C → PySem.W.selfFirst Y.M.K C = true
def rInp (Y : Xd) (W : WX) (c : Str) (F : FM) : L2.St → R2 := fun σ x y H Q => ∃ a A dx ws, x = .ref a ∧ H a = some (.ins A dx ws) ∧ Y.M.cl c = some A ∧ spF Y F [x, y] H (fun v H' => (∃ b, v = .ref b) ∧ Q v H') fun cls d H' => W cls d σ H'
theorem inp_own {a1 a2 nm : Str} (hnm : PySem.dunderI op.info.2 = nm) (ks : KInp Y c) (D : MDef X.prog X.w Y X.mg X.base c nm k [a1, a2] F []) (hr : Rm k X.A) (tk : Takes X W) (hK : X.K = Y.M.K := by rfl) : OpW X (inplaceOp op) (rInp Y W c F) := by
  intro pins s σ H x y v u Q I rx ry q
  obtain ⟨a, A, dx, ws, rfl, ha, hc, sp⟩ := q
  obtain ⟨A', fa, fd, ds, dvs, hcl, hm, G, hb, hdt, hd⟩ := D.ex
  rw [hc] at hcl
  cases hcl
  cases hdt
  cases hd
  obtain rfl : v = Value.ref a := rx
  obtain ⟨mA, J, _⟩ := ins_get I.hok ha
  obtain ⟨od, J, _⟩ := J.look
  obtain ⟨m0, hF⟩ := I.fr
  refine PySem.W.ksp_inplace hF (K := X.K) I.ok.mod.kin J (by rw [hK]; exact ks.sf _ hc) (by rw [hK, hnm]; exact hm.at_) (by rw [hK]; exact hm.fn) ?_
  have run := run_T (ds := []) (dvs := []) (vs := [.ref a, y]) (us := [.ref a, u]) G hK hr (by rw [hK]; exact hb) tk .nil (by rfl) I (.cons rfl (.cons ry .nil)) sp
  refine wpAny_mono run (fun r s' z => ?_) fun _ _ x => x
  obtain ⟨z0, H', I', rz, ⟨b, e⟩, q⟩ := z
  subst e
  obtain rfl : r = Value.ref b := rz
  exact ⟨.ref b, H', I', rfl, q⟩
def inpB (c : Str) (F : FM) : TV → TV → Tab → Res TV := fun x y C => match rd C x with
  | .obj c' _ => if c' = c then (F [x, y] C).bind refR else .stuck
  | _ => .stuck
theorem inpB_ok : OpSW Y W (rInp Y W c F) (inpB c F) := by
  intro g C H σ x y v w Q R rx ry f
  unfold inpB at f
  split at f
  · rename_i c' fs hx
    split at f
    · rename_i e
      subst e
      have q := R.rr rx
      rw [hx] at q
      obtain ⟨a, A, dx, ws, rfl, ha, hc, rf⟩ := q
      refine ⟨a, A, dx, ws, rfl, ha, hc, g, C, [x, y], R, .cons rx (.cons ry .nil), (Fin.bind f).imp fun t g1 C1 H1 e1 R1 f1 z rz => ?_⟩
      unfold refR at f1
      split at f1
      · have rz' := rz
        cases rz
        exact ⟨⟨_, rfl⟩, val_now R1 rz' f1⟩
      · have rz' := rz
        cases rz
        exact ⟨⟨_, rfl⟩, val_now R1 rz' f1⟩
      · exact f1.elim
    · exact f.elim
  · exact f.elim
/-! ### o[i], p[j] = x, y -/
def nSub2 (mv mo1 mi1 mo2 mi2 : EM TV) : SM := fun s C => (mv s C).sr s fun t C1 => match t with
  | .tup [v1, v2] => (mo1 s C1).sr s fun o1 C2 => (mi1 s C2).sr s fun i1 C3 => match setSub o1 i1 v1 C3 with
    | some C4 => (mo2 s C4).sr s fun o2 C5 => (mi2 s C5).sr s fun i2 C6 => match setSub o2 i2 v2 C6 with
      | some C7 => .nx s C7
      | none => .stuck
    | none => .stuck
  | _ => .stuck
theorem ss_sub2 {o i o2 i2 v : Expr} {mv mo1 mi1 mo2 mi2 : EM TV} {tp tp2 tpos : Pos} {kk : Nat} (hr : Rm k X.A) (hv : PE X v (tE Y W mv)) (ho : PE X o (tE Y W mo1)) (hi : PE X i (tE Y W mi1)) (ho2 : PE X o2 (tE Y W mo2)) (hi2 : PE X i2 (tE Y W mi2)) (hc : X.calm = true := by rfl) (hK : X.K = Y.M.K := by rfl)
    (ha : ∀ u, assign (.Subscript o i tp) X.env u = (do
      let ov ← holding [u] (eval o X.env)
      let iv ← holding [u, ov] (eval i X.env)
      standAt tp
      holding [u, ov, iv] (setItem ov iv u)
      release [u, ov, iv] []) := by intro _; rfl)
    (ha2 : ∀ u, assign (.Subscript o2 i2 tp2) X.env u = (do
      let ov ← holding [u] (eval o2 X.env)
      let iv ← holding [u, ov] (eval i2 X.env)
      standAt tp2
      holding [u, ov, iv] (setItem ov iv u)
      release [u, ov, iv] []) := by intro _; rfl)
    (e1 : ∀ {ts : TG} {us : TGs}, PG X (.Subscript o i tp) ts → PGs X [.Subscript o2 i2 tp2] us → PGs X [.Subscript o i tp, .Subscript o2 i2 tp2] (gCons ts us) := by intro _ _ a b; exact pgs_cons a b)
    (e2 : ∀ {ts : TG}, PG X (.Subscript o2 i2 tp2) ts → PGs X [.Subscript o2 i2 tp2] (gCons ts gNil) := by intro _ a; exact pgs_cons a pgs_nil)
    (hn : (assignEach [.Subscript o i tp, .Subscript o2 i2 tp2] X.env).length = 2 := by rfl) (hst : (assignEach [.Subscript o i tp, .Subscript o2 i2 tp2] X.env).findIdx? (·.1) = none := by rfl)
    (hs : swapsWithSole [.Tuple [.Subscript o i tp, .Subscript o2 i2 tp2] kk tpos] v pos.line X.env = pure false := by rfl) (hw : swappedStores [.Tuple [.Subscript o i tp, .Subscript o2 i2 tp2] kk tpos] v X.env = pure none := by rfl)
    (h1 : (assignEach [.Tuple [.Subscript o i tp, .Subscript o2 i2 tp2] kk tpos] X.env).map (·.2) = [assign (.Tuple [.Subscript o i tp, .Subscript o2 i2 tp2] kk tpos) X.env] := by rfl) : PS X (.Assign [.Tuple [.Subscript o i tp, .Subscript o2 i2 tp2] kk tpos] v pos) (tS Y W (nSub2 mv mo1 mi1 mo2 mi2)) := by
  refine PS.imp (ps_asg hv (pg_tup hc (e1 (pg_sub ho hi (PSet.or set_list (set_dict hr)) ha) (e2 (pg_sub ho2 hi2 (PSet.or set_list (set_dict hr)) ha2))) hn hst) hs hw h1) fun D σ H ⟨g, s, C, rs, R, f⟩ => ?_
  refine tS_bind rs R f fun t g1 C1 H1 tv x1 rs1 R1 rt f1 => ?_
  split at f1
  · rename_i v1 v2
    have q := R1.rr rt
    rw [show rd C1 (.tup [v1, v2]) = .tup [v1, v2] from rfl] at q
    obtain ⟨a, ws, rfl, sq, r⟩ := q
    cases r with
    | cons r1 r =>
      cases r with
      | cons r2 r =>
        cases r
        refine ⟨a, _, rfl, hK ▸ sq, rfl, _, _, rfl, ?_⟩
        refine tS_bind rs1 R1 f1 fun oT g2 C2 H2 ov x2 rs2 R2 ro f2 => ?_
        refine tS_bind rs2 R2 f2 fun iT g3 C3 H3 iv x3 rs3 R3 ri f3 => ?_
        split at f3
        · rename_i C4 hC
          refine setSub_ok R3 (ro.mono x3) ri ((r1.mono x2).mono x3) hC fun H4 R4 => ?_
          refine ⟨_, _, rfl, ?_⟩
          refine tS_bind rs3 R4 f3 fun oT2 g5 C5 H5 ov2 x5 rs5 R5 ro2 f5 => ?_
          refine tS_bind rs5 R5 f5 fun iT2 g6 C6 H6 iv2 x6 rs6 R6 ri2 f6 => ?_
          split at f6
          · rename_i C7 hC7
            exact setSub_ok R6 (ro2.mono x6) ri2 ((((r2.mono x2).mono x3).mono x5).mono x6) hC7 fun H7 R7 => ⟨rfl, f6 g6 H7 σ (Ext.refl g6) R7 rs6⟩
          · exact f6.elim
        · exact f3.elim
  · exact f1.elim
/-! ### a property -/
structure PDef (P : Program) (w : World) (Y : Xd) (mg : Str → Option Value) (base : Heap) (c nm : Str) (k : Nat) (F : FM) : Prop where
  ex : ∃ (A p f : Addr) (fd : FuncData), Y.M.cl c = some A ∧ PropOf Y.M.K A nm p f ∧ FnT P w Y mg base k f fd ["self"] F ∧ Binds Y.M.K fd ["self"] []
def mProp (c : Str) (F : FM) (mo : EM TV) : EM TV := fun s C => (mo s C).bind fun x C1 => match rd C1 x with
  | .obj c' _ => if c' = c then (F [x] C1).nox else .stuck
  | _ => .stuck
theorem se_prop {o : Expr} {nm : Str} {mo : EM TV} (kc : KCls Y c) (D : PDef X.prog X.w Y X.mg X.base c nm k F) (hr : Rm (k + 1) X.A) (ho : PE X o (tE Y W mo)) (hK : X.K = Y.M.K := by rfl) (hab : attributeBase o nm X.env (eval o X.env) = eval o X.env := by rfl) :
    PE X (.Attribute o nm pos) (tE Y W (mProp c F mo)) := by
  obtain ⟨A, p, fa, fd, hcl, hp, G, hb⟩ := D.ex
  refine ⟨fun pins s σ H Q I ⟨g, sl, C, rs, R, f0⟩ => ?_⟩
  have h' : tE Y W mo σ H fun v H1 => ∃ a dx fs, v = .ref a ∧ H1 a = some (.ins A dx fs) ∧ spF Y F [v] H1 Q fun _ _ _ => False := by
    refine tE_bind rs R f0 fun x g1 C1 H1 v e1 rs1 R1 rv f1 => ?_
    have q := R1.rr rv
    split at f1
    · rename_i c' fs hx
      rw [hx] at q
      obtain ⟨a, A', dx, ws, rfl, ha', hc', rf⟩ := q
      split at f1
      · rename_i e
        subst e
        rw [hcl] at hc'
        cases hc'
        exact ⟨a, dx, ws, rfl, ha', g1, C1, [x], R1, .cons rv .nil, nox_fin f1⟩
      · exact f1.elim
    · exact f1.elim
  refine attr_of hab (thn (ho.run pins s σ H _ I h') fun u s1 ⟨x, H1, I1, rx, a, dx, fs, ex, ea, q⟩ => ?_)
  subst ex
  obtain rfl : u = Value.ref a := rx
  obtain ⟨mA, O, _⟩ := ins_get I1.hok ea
  obtain ⟨od, J, _⟩ := O.look
  obtain ⟨rest, hrec⟩ := hp.rec_
  have I2 := I1.tok (s1.toks + 1)
  have e0 : Env0 X.prog X.w Y.M.K X.mg X.base X.A.in1 X.stack _ H1 := hK ▸ I2.env0.in1
  have cK := kc A hcl
  have cs : (PySem.W.clsIn X.K A).isSome = true := by
    obtain ⟨cd, h, _⟩ := PySem.W.any_some cK.hd
    rw [hK, h]; rfl
  have pg := PySem.W.plainGet_of (cK.get nm)
  rw [← hK] at pg hp hb hrec
  refine PySem.W.get_bind I1.kIn J pg.1 (PySem.W.findObj_data cs hp.at_ hp.get hp.tak) pg.2 (wpAny_call (PySem.W.prop_get (s := { s1 with toks := s1.toks + 1 }) I1.kIn hrec ?_))
  refine codeAny_mono (G.run X.A.in1 X.stack { s1 with toks := s1.toks + 1 } H1 ⟨[.ref a], []⟩ [.ref a] [.ref a] Q (fun _ _ _ => False) hr.in1 e0 (hb _ [.ref a] I2.kIn rfl) (.cons rfl .nil) rfl q) fun r s' hq => ?_
  cases r with
  | error er =>
    obtain ⟨_, _, _, _, _, _, _, _, _, _, _, _, z⟩ := hq
    exact z.elim
  | ok fl =>
    cases fl with
    | ret b =>
      obtain ⟨v, H', I3, rv, q3⟩ := I2.after hq
      show wpAny _ _ (handedOut b) _ _ _
      rw [PySem.W.handedOut_of (handed_of rv)]
      exact wpAny_pure ⟨v, H', I3, rv, q3⟩
    | next => exact hq.elim
    | brk => exact hq.elim
    | cont => exact hq.elim
end
end FH
/-! GdB: tuples put together; properties and in-place operators from the head. -/
namespace FH
open PySem L2
open PySem.Spec PyProof.Rows
section
variable {Y : Xd}
def catT : TV → TV → Tab → Res TV := fun x y C => match x, y with
  | .tup xs, .tup ys => if xs.length + ys.length ≤ sizeLine then .ok (.tup (xs ++ ys)) C else .stuck
  | _, _ => .stuck
theorem catT_ok {K : PySem.W.Frag} (hK : K = Y.M.K) : OpS Y (rCatA K) catT := by
  subst hK
  intro g C H W x y v w Q R rx ry f
  unfold catT at f
  split at f
  · rename_i xs ys
    split at f
    · rename_i hl
      have q1 := R.rr rx
      have q2 := R.rr ry
      rw [show rd C (.tup xs) = .tup xs from rfl] at q1
      rw [show rd C (.tup ys) = .tup ys from rfl] at q2
      obtain ⟨a, vs, rfl, ha, r1⟩ := q1
      obtain ⟨b, ws, rfl, hb, r2⟩ := q2
      refine ⟨a, b, vs, ws, rfl, rfl, ha, hb, by rw [← r1.length, ← r2.length]; exact hl, fun h => ?_, fun _ h => ?_, fun _ _ => tup_new R (r1.append r2) f⟩
      · subst h
        cases r1
        exact val_now R ry f
      · subst h
        cases r2
        rw [List.append_nil] at f
        exact val_now R rx f
    · exact f.elim
  · exact f.elim
end
/-- a property as the head tells it -/
structure DP (K : PySem.W.Frag) (A : Addr) (m q : Str) (st : Stmt) : Prop where
  ex : ∃ (p f : Addr) (rest : List Value) (oc : Value) (od an : Option Addr) (osl : Array (Option Value)) (kV doc pm cdv ct : Value), PropOf K A m p f ∧
    K.lookup f = some ⟨oc, od, .func (PySem.W.fnOf m q (defArgs st) (defBody st) (defScope st) .none kV doc pm an cdv ct), osl⟩ ∧ PySem.W.codeIn K cdv q = true ∧ PySem.W.keepIn K (.ref f) = true
theorem dp_mk {K : PySem.W.Frag} {A : Addr} {m q : Str} {st : Stmt} {p f : Addr} {rest : List Value} {oc : Value} {od an : Option Addr} {osl : Array (Option Value)} {kV doc pm cdv ct : Value}
    (a : PySem.W.findIn K (.ref A) m = some (some (.ref p))) (g : PySem.W.specialIn K (.ref p) "__get__" = some (some (.builtin "property.__get__"))) (t : PySem.W.takesIn K (.ref p) = some true) (r : PySem.W.recIn K p "property" = some (.ref f :: rest))
    (l : K.lookup f = some ⟨oc, od, .func (PySem.W.fnOf m q (defArgs st) (defBody st) (defScope st) .none kV doc pm an cdv ct), osl⟩) (c : PySem.W.codeIn K cdv q = true) (k : PySem.W.keepIn K (.ref f) = true) : DP K A m q st :=
  ⟨p, f, rest, oc, od, an, osl, kV, doc, pm, cdv, ct, ⟨a, g, t, ⟨rest, r⟩⟩, l, c, k⟩
section
variable {P : Program} {w : World} {Y : Xd} {mg : Str → Option Value} {base : Heap} {c m q : Str} {A : Addr} {st : Stmt} {k : Nat} {N : List Str} {F : FM} {b : SM}
theorem PDef.of (hcl : Y.M.cl c = some A) (d : DP Y.M.K A m q st) (S : FnScope N ["self"] (defScope st)) (hb : PosM m q st ["self"])
    (ok : ∀ (cdv : Value) (f : Addr) (A : Around) (outer : List Env) (s : Shared) (H : Hp) (E : XK), Rm k (A.deeper (envOfC q (defScope st) s.heap.objs.size f cdv)) →
      PSs (cxOf (L2.CX P w) P w Y.M.K mg base N q (defScope st) f cdv A outer s H E) (defBody st) (tS Y (fun cls d _ H' => E cls d H') b))
    (hF : ∀ ts C, ts.length = ["self"].length → Lv C (b (st0 N.length ts) C) (F ts C)) : PDef P w Y mg base c m (k + 1) F := by
  obtain ⟨p, f, rest, oc, od, an, osl, kV, doc, pm, cdv, ct, pr, l, c', kp⟩ := d.ex
  have Fu := fun_mk (st := st) l c' kp
  exact ⟨A, p, f, _, hcl, pr, FnT.of Fu S (fun cdv A outer s H E hr => ok cdv f A outer s H E hr) hF, Fu.binds hb⟩
end
theorem kinp_of {Y : Xd} {c : Str} {A : Addr} (hB : Y.M.cl c = some A) (sf : PySem.W.selfFirst Y.M.K A = true) : KInp Y c := ⟨fun C h => by rw [hB] at h; cases h; exact sf⟩
end FH
/-! GdC: x is True. -/
namespace FH
open PySem L2
open PySem.Spec PyProof.Rows
section
variable {Y : Xd}
def isB (neg : Bool) : TV → TV → Tab → Res TV := fun x y C => match x, y with
  | .bl a, .bl b => .ok (.bl (if neg then !decide (a = b) else decide (a = b))) C
  | _, _ => .stuck
theorem isB_ok : OpS Y (fun x y H Q => ∃ a b, x = .bl a ∧ y = .bl b ∧ Q (.bl (decide (a = b))) H) (isB false) := by
  intro g C H W x y v w Q R rx ry f
  unfold isB at f
  split at f
  · cases rx; cases ry; exact ⟨_, _, rfl, rfl, val_now R .bl f⟩
  · exact f.elim
theorem isntB_ok : OpS Y (fun x y H Q => ∃ a b, x = .bl a ∧ y = .bl b ∧ Q (.bl (!decide (a = b))) H) (isB true) := by
  intro g C H W x y v w Q R rx ry f
  unfold isB at f
  split at f
  · cases rx; cases ry; exact ⟨_, _, rfl, rfl, val_now R .bl f⟩
  · exact f.elim
end
end FH
/-! GdD: len(o) by the own __len__. -/
namespace FH
open PySem L2
open PySem.Spec PyProof.Rows
section
variable {X : Cx} {Y : Xd} {W : WX} {c : Str} {k : Nat} {F : FM}
def rLenO (Y : Xd) (c : Str) (F : FM) : List V → Hp → VK → Prop := fun xs H Q => ∃ a A dx ws, xs = [.ref a] ∧ H a = some (.ins A dx ws) ∧ Y.M.cl c = some A ∧
  spF Y F [.ref a] H (fun v H' => ∃ n : Int, v = .int n ∧ 0 ≤ n ∧ n ≤ 1000000 ∧ Q (.int n) H') fun _ _ _ => False
theorem call_lenO {a1 : Str} (D : MDef X.prog X.w Y X.mg X.base c "__len__" k [a1] F []) (hr : Rm (k + 1) X.A) (tk0 : Takes X W0) (hK : X.K = Y.M.K := by rfl) : CallR X (.builtin "len") (rLenO Y c F) := by
  intro pins s σ H xs us Q I r q
  obtain ⟨a, A, dx, ws, rfl, ha, hc, sp⟩ := q
  obtain ⟨u, rfl, ru⟩ := vals1 r
  obtain ⟨A', fa, fd, ds, dvs, hcl, hm, G, hb, hdt, hd⟩ := D.ex
  rw [hc] at hcl
  cases hcl
  cases hdt
  cases hd
  obtain rfl : u = Value.ref a := ru
  obtain ⟨mA, J, _⟩ := ins_get I.hok ha
  obtain ⟨od, J, _⟩ := J.look
  obtain ⟨m0, hF⟩ := I.fr
  refine PySem.W.len_K hF (K := X.K) I.ok.mod.kin J (by rw [hK]; exact hm.at_) (by rw [hK]; exact hm.fn) ?_
  have run := run_in1 G hK hr (by rw [hK]; exact hb) tk0 (vs := [.ref a]) (us := [.ref a]) rfl I (.cons rfl .nil) sp
  refine wpAny_mono run (fun v s' z => ?_) fun _ _ x => x
  obtain ⟨z0, H', I', rz, n, e, n0, n1, q⟩ := z
  subst e
  obtain ⟨t, rfl⟩ := rz
  exact ⟨⟨n0, by omega⟩, .int n, H', I'.tok _, ⟨_, rfl⟩, q⟩
def bLenO (c : Str) (F : FM) : FM := fun ts C => match ts with
  | [x] => match rd C x with
    | .obj c' _ => if c' = c then (match F [x] C with
      | .ok (.int n) C1 => if 0 ≤ n ∧ n ≤ 1000000 then .ok (.int n) C1 else .stuck
      | _ => .stuck) else .stuck
    | _ => .stuck
  | _ => .stuck
theorem bLenO_ok : CallS Y (rLenO Y c F) (bLenO c F) := by
  intro g C H W xs vs Q R rv f
  unfold bLenO at f
  split at f
  · rename_i x
    obtain ⟨v, rfl, rx⟩ := rv.one
    split at f
    · rename_i c' fs hx
      split at f
      · rename_i e
        subst e
        have q := R.rr rx
        rw [hx] at q
        obtain ⟨a, A, dx, ws, rfl, ha, hc, rf⟩ := q
        split at f
        · rename_i n C1 hF
          split at f
          · rename_i hn
            refine ⟨a, A, dx, ws, rfl, ha, hc, g, C, [x], R, .cons rx .nil, ?_⟩
            rw [hF]
            intro g1 H1 e1 R1 v rv
            cases rv
            exact ⟨n, rfl, hn.1, hn.2, f g1 H1 e1 R1 _ .int⟩
          · exact f.elim
        · exact f.elim
      · exact f.elim
    · exact f.elim
  · exact f.elim
/-! ### enumerate of a list or a tuple -/
def enumOfB (ts : List TV) (C : Tab) : Res (List TV × Lk) := match ts with
  | [.tup xs] => enumOfT [.tup xs] C
  | ts => enumOf ts C
def mEnumB (ma : EM (List TV)) : EM (List TV × Lk) := fun s C => (ma s C).bind enumOfB
theorem si_enumB {e : Expr} {ma : EM (List TV)} {p pos tpos : Pos} {elts : List Expr} {kk : Nat} (ha : SA X Y W [e] ma) (hm : X.mg "enumerate" = none) (hK : X.K = Y.M.K := by rfl) (hg : Gl X "enumerate" := by rfl) (hs : starEach [e] X.env = [(false, eval e X.env)] := by rfl) :
    PI X (.Tuple elts kk tpos) (.Call (.Name "enumerate" p) [e] [] pos) (tI X Y W (mEnumB ma)) := by
  have h1 : PI X (.Tuple elts kk tpos) (.Call (.Name "enumerate" p) [e] [] pos) (tI X Y W (mEnum ma)) := si_enum ha hm hK hg hs
  have h2 : PI X (.Tuple elts kk tpos) (.Call (.Name "enumerate" p) [e] [] pos) (tI X Y W (mEnumT ma)) := si_enumT ha hm hK hg hs
  refine ⟨fun pins s σ H R I ⟨g, sl, C, rs, RH, f⟩ => ?_⟩
  unfold mEnumB at f
  cases hma : ma sl C with
  | stuck => rw [hma] at f; exact f.elim
  | exc x C1 => exact h1.run pins s σ H R I ⟨g, sl, C, rs, RH, by unfold mEnum; rw [hma] at f ⊢; exact f⟩
  | ok ts C1 =>
    by_cases ht : ∃ xs, ts = [.tup xs]
    · obtain ⟨xs, rfl⟩ := ht
      exact h2.run pins s σ H R I ⟨g, sl, C, rs, RH, by unfold mEnumT; rw [hma] at f ⊢; exact f⟩
    · have e : enumOfB ts C1 = enumOf ts C1 := by
        unfold enumOfB
        split
        · rename_i xs; exact absurd ⟨xs, rfl⟩ ht
        · rfl
      refine h1.run pins s σ H R I ⟨g, sl, C, rs, RH, ?_⟩
      unfold mEnum
      rw [hma] at f ⊢
      have f' : Fin Y g _ (enumOfB ts C1) _ := f
      rw [e] at f'
      exact f'
end
end FH
namespace FH
open PySem L2
open PySem.Spec PyProof.Rows
def Yx (K : PySem.W.Frag) : Xd := ⟨⟨K, clOf K⟩, cxOf' K⟩
/-- _law_begin ['_law_cell', '_law_turn'] -/
noncomputable def m_law_begin : SM := (nRet (mLst true (mCons (mB1 bMax2 (mCons (mC (.int 0)) (mCons (mOp subI (mVar 0) (mOp powI (mC (.int 10)) (mC (.int 18)))) mNil))) (mCons (mOp (addI false) (mVar 0) (mOp (mulI false) (mC (.int 977)) (mVar 1))) (mCons (mC (.int 0)) mNil)))))
noncomputable def F_law_begin : FM := ofM 2 m_law_begin
abbrev own_law_begin : Bool := true
/-- _law_draw ['_law_state', '_law_size', '_law_found'] -/
noncomputable def m_law_draw : SM := (nSeq (nIf (mB (mOp gtI (mOp ixT (mVar 0) (mC (.int 0))) (mC (.int 0)))) (nSeq (nSet 2 (mOp modI (mB1 bInt (mCons (mOp ixT (mVar 0) (mC (.int 0))) mNil)) (mVar 1)))
  (nSeq (nSub (mOp fdivI (mOp ixT (mVar 0) (mC (.int 0))) (mVar 1)) (mVar 0) (mC (.int 0)))
  (nRet (mVar 2)))) nNil)
  (nSeq (nSub (mOp (addI false) (mOp ixT (mVar 0) (mC (.int 2))) (mC (.int 1))) (mVar 0) (mC (.int 2)))
  (nSeq (nSet 2 (mOp (addI false) (mOp modI (mB1 bInt (mCons (mOp ixT (mVar 0) (mC (.int 1))) mNil)) (mC (.int 2147483629))) (mOp (mulI false) (mC (.int 104729)) (mOp ixT (mVar 0) (mC (.int 2))))))
  (nSeq (nSet 2 (mOp (mulI false) (mVar 2) (mOp (addI false) (mOp (addI false) (mOp modI (mB1 bInt (mCons (mOp ixT (mVar 0) (mC (.int 1))) mNil)) (mC (.int 2147483587))) (mOp (mulI false) (mOp (mulI false) (mC (.int 7919)) (mOp ixT (mVar 0) (mC (.int 2)))) (mOp ixT (mVar 0) (mC (.int 2))))) (mC (.int 11)))))
  (nRet (mOp modI (mB1 bInt (mCons (mOp fdivI (mOp modI (mB1 bInt (mCons (mOp powI (mVar 2) (mC (.int 3))) mNil)) (mC (.int 2147483647))) (mC (.int 11))) mNil)) (mVar 1)))))))
noncomputable def F_law_draw : FM := ofM 3 m_law_draw
abbrev own_law_draw : Bool := false
/-- _law_pick ['_law_state', '_law_some'] -/
noncomputable def m_law_pick : SM := (nRet (mOp ixT (mVar 1) (mCall F_law_draw [] (mCons (mVar 0) (mCons (mB1 bLen (mCons (mVar 1) mNil)) mNil)))))
noncomputable def F_law_pick : FM := ofM 2 m_law_pick
abbrev own_law_pick : Bool := false
/-- _law_names ['_law_state', '_law_many', '_law_signs', '_law_first', '_law_found', '_law_at', '_law_last', '_law_name', '_law_sign'] -/
noncomputable def m_law_names : SM := (nSeq (nTgt (gtT [(gtN 2), (gtN 3)]) (mTup (mCons (mC (.str "qjxzetaoinshrdlcumwfgypbvk")) (mCons (mCall F_law_draw [] (mCons (mVar 0) (mCons (mC (.int 26)) mNil))) mNil))))
  (nSeq (nSet 4 (mLst true mNil))
  (nSeq (nFor (mRange (mCons (mVar 1) mNil)) (gtN 5) (nSeq (nSet 6 (mOp ixT (mVar 2) (mOp modI (mB1 bInt (mCons (mOp (addI false) (mVar 3) (mOp (mulI false) (mC (.int 7)) (mVar 5))) mNil)) (mC (.int 26)))))
  (nSeq (nIf (mB (mOp gtI (mVar 1) (mC (.int 26)))) (nSet 6 (mOp (addI false) (mOp ixT (mVar 2) (mOp fdivI (mVar 5) (mC (.int 26)))) (mVar 6))) nNil)
  (nSeq (nSet 7 (mBM tyS fJoin (mC (.str "")) (mCons (mLc false (mRange (mCons (mCall F_law_draw [] (mCons (mVar 0) (mCons (mOp subI (mC (.int 7)) (mB1 bLen (mCons (mVar 6) mNil))) mNil))) mNil)) (gtN 8) mYes (mCall F_law_pick [] (mCons (mVar 0) (mCons (mVar 2) mNil))) [8]) mNil)))
  (nExpr (mBM tyL fAppend (mVar 4) (mCons (mOp (addI false) (mVar 7) (mVar 6)) mNil)))))))
  (nRet (mFz (mVar 4))))))
noncomputable def F_law_names : FM := ofM 9 m_law_names
abbrev own_law_names : Bool := false
/-- _law_mixed ['_law_state', '_law_some', '_law_left', '_law_found', '_law_at'] -/
noncomputable def m_law_mixed : SM := (nSeq (nPar 2 3 (mCons (mB1 (bList false) (mCons (mVar 1) mNil)) (mCons (mLst true mNil) mNil)))
  (nSeq (nWh (mB (mOp neI (mVar 2) (mLst false mNil))) (nSeq (nSet 4 (mCall F_law_draw [] (mCons (mVar 0) (mCons (mB1 bLen (mCons (mVar 2) mNil)) mNil))))
  (nSeq (nExpr (mBM tyL fAppend (mVar 3) (mCons (mOp ixT (mVar 2) (mVar 4)) mNil)))
  (nSet 2 (mOp (addI false) (mSlice false (mVar 2) mNo (mSo (mVar 4))) (mSlice false (mVar 2) (mSo (mOp (addI false) (mVar 4) (mC (.int 1)))) mNo))))) 100000)
  (nRet (mFz (mVar 3)))))
noncomputable def F_law_mixed : FM := ofM 5 m_law_mixed
abbrev own_law_mixed : Bool := false
/-- _law_labels ['_law_state', '_law_most', '_law_way', '_law_many', '_law_some', '_law_names_here', '_law_found', '_law_at', '_law_name'] -/
noncomputable def m_law_labels : SM := (nSeq (nPar 2 3 (mCons (mCall F_law_draw [] (mCons (mVar 0) (mCons (mC (.int 5)) mNil))) (mCons (mOp (addI false) (mC (.int 1)) (mCall F_law_draw [] (mCons (mVar 0) (mCons (mVar 1) mNil)))) mNil)))
  (nSeq (nPar3 4 5 6 (mCons (mOp (addI false) (mC (.int 1)) (mCall F_law_draw [] (mCons (mVar 0) (mCons (mVar 3) mNil)))) (mCons (mCall F_law_mixed [] (mCons (mVar 0) (mCons (mCall F_law_names [] (mCons (mVar 0) (mCons (mVar 3) mNil))) mNil))) (mCons (mDic0 true) mNil))))
  (nSeq (nFor (mEnum (mCons (mVar 5) mNil)) (gtT [(gtN 7), (gtN 8)]) (nSeq (nSub (mCall F_law_pick [] (mCons (mVar 0) (mCons (mVar 5) mNil))) (mVar 6) (mVar 8))
  (nIf (mB (mOp eqI (mVar 2) (mC (.int 1)))) (nSub (mOp ixT (mVar 5) (mCall F_law_draw [] (mCons (mVar 0) (mCons (mOp (addI false) (mVar 7) (mC (.int 1))) mNil)))) (mVar 6) (mVar 8)) (nIf (mAnd (mB (mOp eqI (mVar 2) (mC (.int 2)))) (mB (mOp ltI (mVar 7) (mVar 4)))) (nSub (mOp ixT (mVar 5) (mOp modI (mB1 bInt (mCons (mOp (addI false) (mVar 7) (mC (.int 1))) mNil)) (mVar 4))) (mVar 6) (mVar 8)) (nIf (mB (mOp eqI (mVar 2) (mC (.int 2)))) (nSub (mOp ixT (mVar 5) (mCall F_law_draw [] (mCons (mVar 0) (mCons (mB1 bMin2 (mCons (mVar 7) (mCons (mOp (addI false) (mVar 4) (mC (.int 3))) mNil))) mNil)))) (mVar 6) (mVar 8)) (nIf (mB (mOp eqI (mVar 2) (mC (.int 3)))) (nSub (mOp ixT (mVar 5) (mCall F_law_draw [] (mCons (mVar 0) (mCons (mVar 4) mNil)))) (mVar 6) (mVar 8)) (nIf (mAnd (mB (mOp eqI (mVar 2) (mC (.int 4)))) (mB (mOp gtI (mCall F_law_draw [] (mCons (mVar 0) (mCons (mC (.int 4)) mNil))) (mC (.int 0))))) (nSub (mOp ixT (mVar 5) (mOp modI (mB1 bInt (mCons (mOp (addI false) (mVar 7) (mVar 4)) mNil)) (mVar 3))) (mVar 6) (mVar 8)) nNil)))))))
  (nRet (mFz (mVar 6))))))
noncomputable def F_law_labels : FM := ofM 9 m_law_labels
abbrev own_law_labels : Bool := false
/-- is_name ['value'] -/
noncomputable def m_is_name : SM := (nSeq (nIf (mOr (mNot (mB (mB1 bIsi (mCons (mVar 0) (mCons (mC (.con (.ty "str"))) mNil))))) (mNot (mB (mChain leI leI (mC (.int 1)) (mB1 bLen (mCons (mVar 0) mNil)) (mC (.int 6)))))) (nRet (mC (.bl false))) nNil)
  (nRet (mAndV (mBM tyS (fStr0 fun a => .bl (Txt.isascii a)) (mVar 0) mNil) (mAndV (mBM tyS (fStr0 fun a => .bl (Txt.isalpha a)) (mVar 0) mNil) (mBM tyS (fStr0 fun a => .bl (Txt.islower a)) (mVar 0) mNil)))))
noncomputable def F_is_name : FM := ofM 1 m_is_name
abbrev own_is_name : Bool := false
/-- are_labels ['value', 'most', 'box', 'label'] -/
noncomputable def m_are_labels : SM := (nSeq (nIf (mOr (mNot (mB (mB1 bIsi (mCons (mVar 0) (mCons (mC (.con (.ty "dict"))) mNil))))) (mNot (mB (mChain leI leI (mC (.int 1)) (mB1 bLen (mCons (mVar 0) mNil)) (mVar 1))))) (nRet (mC (.bl false))) nNil)
  (nSeq (nIf (mNot (mB (mB1 (bAA fun bs => bs.all id) (mCons (mLc false (mSeq (mVar 0)) (gtN 2) mYes (mCall F_is_name [] (mCons (mVar 2) mNil)) [2]) mNil)))) (nRet (mC (.bl false))) nNil)
  (nRet (mB1 (bAA fun bs => bs.all id) (mCons (mLc false (mVals (mVar 0)) (gtN 3) mYes (mAndV (mCall F_is_name [] (mCons (mVar 3) mNil)) (mOp (inT false) (mVar 3) (mVar 0))) [3]) mNil)))))
noncomputable def F_are_labels : FM := ofM 4 m_are_labels
abbrev own_are_labels : Bool := false
/-- Board.__init__ ['self', 'labels', 'box'] -/
noncomputable def m_Board__init : SM := (nSeq (nIf (mNot (mB (mCall F_are_labels [] (mCons (mVar 1) (mCons (mC (.int 60)) mNil))))) nStk nNil)
  (nFld "Board" "homes" (mDc false (mSeq (mB1 (bSort false) (mCons (mB1 (bList false) (mCons (mVar 1) mNil)) mNil))) (gtN 2) mYes (mVar 2) (mOp ixT (mVar 1) (mVar 2)) [2]) (mVar 0)))
noncomputable def F_Board__init : FM := ofM 3 m_Board__init
abbrev own_Board__init : Bool := false
/-- Play.__init__ ['self', 'board'] -/
noncomputable def m_Play__init : SM := (nSeq (nFld "Play" "start" (mVar 1) (mVar 0))
  (nSeq (nFld "Play" "here" (mVar 1) (mVar 0))
  (nFld "Play" "made" (mTup mNil) (mVar 0))))
noncomputable def F_Play__init : FM := ofM 2 m_Play__init
abbrev own_Play__init : Bool := false
/-- _law_after ['_law_labels_here', '_law_box', '_law_found'] -/
noncomputable def m_law_after : SM := (nSeq (nSet 2 (mB1 (bDict true) (mCons (mVar 0) mNil)))
  (nSeq (nSub (mOp ixT (mVar 0) (mOp ixT (mVar 0) (mVar 1))) (mVar 2) (mVar 1))
  (nSeq (nSub (mOp ixT (mVar 0) (mVar 1)) (mVar 2) (mOp ixT (mVar 0) (mVar 1)))
  (nRet (mFz (mVar 2))))))
noncomputable def F_law_after : FM := ofM 3 m_law_after
abbrev own_law_after : Bool := false
/-- _law_here ['_law_labels_here', '_law_moves', '_law_box'] -/
noncomputable def m_law_here : SM := (nSeq (nFor (mSeq (mVar 1)) (gtN 2) (nSet 0 (mCall F_law_after [] (mCons (mVar 0) (mCons (mVar 2) mNil)))))
  (nRet (mVar 0)))
noncomputable def F_law_here : FM := ofM 3 m_law_here
abbrev own_law_here : Bool := false
/-- _law_movable ['_law_labels_here', '_law_box'] -/
noncomputable def m_law_movable : SM := (nRet (mB1 (bSort false) (mCons (mLc false (mSeq (mVar 0)) (gtN 1) (mAnd (mB (mOp neI (mOp ixT (mVar 0) (mVar 1)) (mVar 1))) (mB (mOp neI (mOp ixT (mVar 0) (mOp ixT (mVar 0) (mVar 1))) (mOp ixT (mVar 0) (mVar 1))))) (mVar 1) [1]) mNil)))
noncomputable def F_law_movable : FM := ofM 2 m_law_movable
abbrev own_law_movable : Bool := false
/-- Board.movable ['self', 'found', 'box', 'home'] -/
noncomputable def m_Board_movable : SM := (nSeq (nSet 1 (mLst true mNil))
  (nSeq (nFor (mItems (mFld "Board" "homes" (mVar 0))) (gtT [(gtN 2), (gtN 3)]) (nIf (mAnd (mB (mOp neI (mVar 3) (mVar 2))) (mB (mOp neI (mOp ixT (mFld "Board" "homes" (mVar 0)) (mVar 3)) (mVar 3)))) (nExpr (mBM tyL fAppend (mVar 1) (mCons (mVar 2) mNil))) nNil))
  (nRet (mFz (mVar 1)))))
noncomputable def F_Board_movable : FM := ofM 4 m_Board_movable
abbrev own_Board_movable : Bool := false
/-- Board.__contains__ ['self', 'name'] -/
noncomputable def m_Board__contains : SM := (nRet (mAndV (mB1 bIsi (mCons (mVar 1) (mCons (mC (.con (.ty "str"))) mNil))) (mOp (inT false) (mVar 1) (mFld "Board" "homes" (mVar 0)))))
noncomputable def F_Board__contains : FM := ofM 2 m_Board__contains
abbrev own_Board__contains : Bool := false
/-- Board.__rshift__ ['self', 'box', 'home', 'changed', 'name'] -/
noncomputable def m_Board__rshift : SM := (nSeq (nIf (mOr (mNot (mB (mB1 bIsi (mCons (mVar 1) (mCons (mC (.con (.ty "str"))) mNil))))) (mB (mOp (inT true) (mVar 1) (mMeth "Board" "movable" F_Board_movable [] (mVar 0) mNil)))) nStk nNil)
  (nSeq (nSet 2 (mOp ixT (mFld "Board" "homes" (mVar 0)) (mVar 1)))
  (nSeq (nSet 3 (mFz (mDisp (mCons (mVar 1) (mCons (mOp ixT (mFld "Board" "homes" (mVar 0)) (mVar 2)) (mCons (mVar 2) (mCons (mVar 2) mNil)))))))
  (nRet (mFz (mMake "Board" F_Board__init [] (mCons (mDc false (mSeq (mFld "Board" "homes" (mVar 0))) (gtN 4) mYes (mVar 4) (mGet (mVar 3) (mVar 4) (mOp ixT (mFld "Board" "homes" (mVar 0)) (mVar 4))) [4]) mNil)))))))
noncomputable def F_Board__rshift : FM := ofM 5 m_Board__rshift
abbrev own_Board__rshift : Bool := false
/-- Play.move ['self', 'box'] -/
noncomputable def m_Play_move : SM := (nSeq (nIf (mOr (mB (mOp (inB true "Board" F_Board__contains) (mVar 1) (mFld "Play" "here" (mVar 0)))) (mB (mOp (inT true) (mVar 1) (mMeth "Board" "movable" F_Board_movable [] (mFld "Play" "here" (mVar 0)) mNil)))) nStk nNil)
  (nSeq (nFld "Play" "here" (mOp (shB "Board" F_Board__rshift) (mFld "Play" "here" (mVar 0)) (mVar 1)) (mVar 0))
  (nFld "Play" "made" (mOp catT (mFld "Play" "made" (mVar 0)) (mTup (mCons (mVar 1) mNil))) (mVar 0))))
noncomputable def F_Play_move : FM := ofM 2 m_Play_move
abbrev own_Play_move : Bool := false
/-- _law_play ['_law_state', '_law_labels_here', '_law_found', '_law_here_here', '_law_box'] -/
noncomputable def m_law_play : SM := (nSeq (nPar 2 3 (mCons (mLst true mNil) (mCons (mVar 1) mNil)))
  (nSeq (nWh (mB (mOp neI (mCall F_law_movable [] (mCons (mVar 3) mNil)) (mLst false mNil))) (nSeq (nSet 4 (mCall F_law_pick [] (mCons (mVar 0) (mCons (mCall F_law_movable [] (mCons (mVar 3) mNil)) mNil))))
  (nSeq (nExpr (mBM tyL fAppend (mVar 2) (mCons (mVar 4) mNil)))
  (nSet 3 (mCall F_law_after [] (mCons (mVar 3) (mCons (mVar 4) mNil)))))) 100000)
  (nRet (mFz (mVar 2)))))
noncomputable def F_law_play : FM := ofM 5 m_law_play
abbrev own_law_play : Bool := false
/-- Play.__iadd__ ['self', 'boxes', 'here', 'at', 'box'] -/
noncomputable def m_Play__iadd : SM := (nSeq (nIf (mNot (mB (mIs2 "list" "tuple" (mVar 1)))) nStk nNil)
  (nSeq (nSet 2 (mFld "Play" "here" (mVar 0)))
  (nSeq (nFor (mEnumB (mCons (mVar 1) mNil)) (gtT [(gtN 3), (gtN 4)]) (nSeq (nIf (mOr (mB (mOp (inB true "Board" F_Board__contains) (mVar 4) (mVar 2))) (mB (mOp (inT true) (mVar 4) (mMeth "Board" "movable" F_Board_movable [] (mVar 2) mNil)))) nStk nNil)
  (nSet 2 (mOp (shB "Board" F_Board__rshift) (mVar 2) (mVar 4)))))
  (nSeq (nFld "Play" "made" (mOp catT (mFld "Play" "made" (mVar 0)) (mB1 bTuple2 (mCons (mVar 1) mNil))) (mVar 0))
  (nSeq (nFld "Play" "here" (mVar 2) (mVar 0))
  (nRet (mVar 0)))))))
noncomputable def F_Play__iadd : FM := ofM 5 m_Play__iadd
abbrev own_Play__iadd : Bool := false
/-- Play.__isub__ ['self', 'many', 'box'] -/
noncomputable def m_Play__isub : SM := (nSeq (nIf (mOr (mNot (mB (mB1 bIsi (mCons (mVar 1) (mCons (mC (.con (.ty "int"))) mNil))))) (mOr (mB (mB1 bIsi (mCons (mVar 1) (mCons (mC (.con (.ty "bool"))) mNil)))) (mNot (mB (mChain leI leI (mC (.int 0)) (mVar 1) (mB1 bLen (mCons (mFld "Play" "made" (mVar 0)) mNil))))))) nStk nNil)
  (nSeq (nFld "Play" "made" (mSliceA false (mFld "Play" "made" (mVar 0)) mNo (mSo (mOp subI (mB1 bLen (mCons (mFld "Play" "made" (mVar 0)) mNil)) (mVar 1)))) (mVar 0))
  (nSeq (nFld "Play" "here" (mFld "Play" "start" (mVar 0)) (mVar 0))
  (nSeq (nFor (mSeq (mFld "Play" "made" (mVar 0))) (gtN 2) (nFld "Play" "here" (mOp (shB "Board" F_Board__rshift) (mFld "Play" "here" (mVar 0)) (mVar 2)) (mVar 0)))
  (nRet (mVar 0))))))
noncomputable def F_Play__isub : FM := ofM 3 m_Play__isub
abbrev own_Play__isub : Bool := false
/-- Play.moves ['self'] -/
noncomputable def m_Play_moves : SM := (nRet (mB1 (bList true) (mCons (mFld "Play" "made" (mVar 0)) mNil)))
noncomputable def F_Play_moves : FM := ofM 1 m_Play_moves
abbrev own_Play_moves : Bool := true
/-- Board.__eq__ ['self', 'other'] -/
noncomputable def m_Board__eq : SM := (nRet (mAndV (mIsC "Board" (mVar 1)) (mOp eqI (mFld "Board" "homes" (mVar 0)) (mFld "Board" "homes" (mVar 1)))))
noncomputable def F_Board__eq : FM := ofM 2 m_Board__eq
abbrev own_Board__eq : Bool := false
/-- Play.__len__ ['self'] -/
noncomputable def m_Play__len : SM := (nRet (mB1 bLen (mCons (mFld "Play" "made" (mVar 0)) mNil)))
noncomputable def F_Play__len : FM := ofM 1 m_Play__len
abbrev own_Play__len : Bool := false
/-- Play.board ['self'] -/
noncomputable def m_Play_board : SM := (nRet (mFld "Play" "here" (mVar 0)))
noncomputable def F_Play_board : FM := ofM 1 m_Play_board
abbrev own_Play_board : Bool := false
/-- _law_is ['_law_play_here', '_law_labels_here', '_law_moves'] -/
noncomputable def m_law_is : SM := (nSeq (nIf (mOr (mB (mOp neI (mB1 bReprN (mCons (mMeth "Play" "moves" F_Play_moves [] (mVar 0) mNil) mNil)) (mB1 bReprN (mCons (mVar 2) mNil)))) (mOr (mB (mOp neI (mB1 (bLenO "Play" F_Play__len) (mCons (mVar 0) mNil)) (mB1 bLen (mCons (mVar 2) mNil)))) (mNot (mB (mOp (eqB "Board" F_Board__eq) (mFld "Play" "start" (mVar 0)) (mFz (mMake "Board" F_Board__init [] (mCons (mVar 1) mNil)))))))) (nRet (mC (.bl false))) nNil)
  (nRet (mOp (eqB "Board" F_Board__eq) (mProp "Play" F_Play_board (mVar 0)) (mFz (mMake "Board" F_Board__init [] (mCons (mCall F_law_here [] (mCons (mVar 1) (mCons (mVar 2) mNil))) mNil))))))
noncomputable def F_law_is : FM := ofM 3 m_law_is
abbrev own_law_is : Bool := false
/-- law ['_law_script', '_law_turn', '_law_cell', '_law_state', '_law_labels_here', '_law_moves', '_law_board', '_law_play_here', '_law_other', '_law_deed', '_law_way', '_law_here_here', '_law_box', '_law_more', '_law_handed', '_law_many'] -/
noncomputable def m_law : SM := (nSeq (nFor (mEnum (mCons (mSlice false (mOrT (mVar 0) (mLst false (mCons (mC (.int 5)) mNil))) mNo (mSo (mC (.int 10)))) mNil)) (gtT [(gtN 1), (gtN 2)]) (nSeq (nSet 3 (mCall F_law_begin [] (mCons (mVar 2) (mCons (mVar 1) mNil))))
  (nSeq (nPar 4 5 (mCons (mCall F_law_labels [] (mCons (mVar 3) (mCons (mC (.int 9)) mNil))) (mCons (mLst false mNil) mNil)))
  (nSeq (nSet 6 (mFz (mMake "Board" F_Board__init [] (mCons (mVar 4) mNil))))
  (nSeq (nSet 7 (mMake "Play" F_Play__init [] (mCons (mVar 6) mNil)))
  (nSeq (nSet 8 (mVar 7))
  (nFor (mRange (mCons (mC (.int 14)) mNil)) (gtN 9) (nSeq (nPar 10 11 (mCons (mCall F_law_draw [] (mCons (mVar 3) (mCons (mC (.int 5)) mNil))) (mCons (mCall F_law_here [] (mCons (mVar 4) (mCons (mVar 5) mNil))) mNil)))
  (nSeq (nIf (mAnd (mB (mOp eqI (mVar 10) (mC (.int 0)))) (mB (mOp neI (mCall F_law_movable [] (mCons (mVar 11) mNil)) (mLst false mNil)))) (nSeq (nSet 12 (mCall F_law_pick [] (mCons (mVar 3) (mCons (mCall F_law_movable [] (mCons (mVar 11) mNil)) mNil))))
  (nSeq (nIf (mB (mOp (isN true) (mMeth "Play" "move" F_Play_move [] (mVar 7) (mCons (mVar 12) mNil)) (mC .non))) (nRet (mC (.bl false))) nNil)
  (nSet 5 (mOp (addI false) (mVar 5) (mLst false (mCons (mVar 12) mNil)))))) (nIf (mB (mOp ltI (mVar 10) (mC (.int 3)))) (nSeq (nSet 13 (mCall F_law_play [] (mCons (mVar 3) (mCons (mVar 11) mNil))))
  (nSeq (nSet 13 (mSlice false (mVar 13) mNo (mSo (mCall F_law_draw [] (mCons (mVar 3) (mCons (mOp (addI false) (mB1 bLen (mCons (mVar 13) mNil)) (mC (.int 1))) mNil))))))
  (nSeq (nSet 14 (mB1 (bList true) (mCons (mVar 13) mNil)))
  (nSeq (nSet 7 (mOp (inpB "Play" F_Play__iadd) (mVar 7) (mIf (mB (mOp eqI (mVar 10) (mC (.int 1)))) (mB1 bTuple2 (mCons (mVar 13) mNil)) (mVar 14))))
  (nSeq (nExpr (mBM tyL fAppend (mVar 14) (mCons (mC (.str "q")) mNil)))
  (nSet 5 (mOp (addI false) (mVar 5) (mVar 13)))))))) (nSeq (nSet 15 (mCall F_law_draw [] (mCons (mVar 3) (mCons (mOp (addI false) (mB1 bLen (mCons (mVar 5) mNil)) (mC (.int 1))) mNil))))
  (nSeq (nSet 7 (mOp (inpB "Play" F_Play__isub) (mVar 7) (mVar 15)))
  (nSet 5 (mSlice false (mVar 5) mNo (mSo (mOp subI (mB1 bLen (mCons (mVar 5) mNil)) (mVar 15)))))))))
  (nSeq (nExpr (mBM tyL fAppend (mMeth "Play" "moves" F_Play_moves [] (mVar 7) mNil) (mCons (mC (.str "q")) mNil)))
  (nIf (mOr (mNot (mB (mCall F_law_is [] (mCons (mVar 7) (mCons (mVar 4) (mCons (mVar 5) mNil)))))) (mOr (mNot (mB (mCall F_law_is [] (mCons (mVar 8) (mCons (mVar 4) (mCons (mVar 5) mNil)))))) (mB (mOp (cmB true "Board" F_Board__eq neI) (mVar 6) (mFz (mMake "Board" F_Board__init [] (mCons (mVar 4) mNil))))))) (nRet (mC (.bl false))) nNil)))))))))))
  (nRet (mC (.bl true))))
noncomputable def F_law : FM := ofM 16 m_law
end FH
/-! SpA: what the laws' drawing helpers give. -/
namespace FH
open PySem L2
/-! ### the state of the draws -/
structure Dr where
  a : Int
  b : Int
  c : Int
def Dr.tv (d : Dr) : TV := .lst [.int d.a, .int d.b, .int d.c]
/-- so many draws are left -/
def Dr.bd (d : Dr) (k : Nat) : Prop := 0 ≤ d.c ∧ d.c + k ≤ 1000001
def Dr.num (d : Dr) : Int :=
  let c := d.c + 1
  (d.b.fmod 2147483629 + 104729 * c) * (d.b.fmod 2147483587 + 7919 * c * c + 11)
def Dr.val (d : Dr) (n : Int) : Int := if d.a > 0 then d.a.fmod n else (((d.num ^ 3).fmod 2147483647).fdiv 11).fmod n
def Dr.nxt (d : Dr) (n : Int) : Dr := if d.a > 0 then ⟨d.a.fdiv n, d.b, d.c⟩ else ⟨d.a, d.b, d.c + 1⟩
theorem fmod_bd (b : Int) {m : Int} (h : 0 < m) : 0 ≤ b.fmod m ∧ b.fmod m < m := ⟨Int.fmod_nonneg_of_pos b h, Int.fmod_lt_of_pos b h⟩
theorem sq_bd {c : Int} (h : 0 ≤ c) (h' : c ≤ 1000001) : 0 ≤ c * c ∧ c * c ≤ 1000002000001 := by
  have h1 : c * c ≤ 1000001 * 1000001 := Int.mul_le_mul h' h' h (by omega)
  exact ⟨Int.mul_nonneg h h, by omega⟩
theorem mulOk_of {i j : Int} (h : 0 ≤ i) (h' : i < 2 ^ 64) : mulOk i j = true := by
  simp only [mulOk, Bool.or_eq_true, decide_eq_true_eq]
  exact .inl ⟨by omega, h'⟩
theorem Dr.facts {d : Dr} (h3 : 0 ≤ d.c) (h4 : d.c ≤ 1000000) : mulOk (7919 * (d.c + 1)) (d.c + 1) = true ∧ mulOk (d.b.fmod 2147483629 + 104729 * (d.c + 1)) (d.b.fmod 2147483587 + 7919 * (d.c + 1) * (d.c + 1) + 11) = true ∧ d.num.natAbs < 2 ^ 128 := by
  obtain ⟨p1, p2⟩ := fmod_bd d.b (m := 2147483629) (by decide)
  obtain ⟨q1, q2⟩ := fmod_bd d.b (m := 2147483587) (by decide)
  obtain ⟨r1, r2⟩ := sq_bd (c := d.c + 1) (by omega) (by omega)
  have e : 7919 * (d.c + 1) * (d.c + 1) = 7919 * ((d.c + 1) * (d.c + 1)) := Int.mul_assoc _ _ _
  refine ⟨mulOk_of (by omega) (by omega), mulOk_of (by omega) (by omega), ?_⟩
  have a1 : 0 ≤ d.b.fmod 2147483629 + 104729 * (d.c + 1) := by omega
  have a2 : d.b.fmod 2147483629 + 104729 * (d.c + 1) ≤ 110000000000 := by omega
  have b1 : 0 ≤ d.b.fmod 2147483587 + 7919 * (d.c + 1) * (d.c + 1) + 11 := by omega
  have b2 : d.b.fmod 2147483587 + 7919 * (d.c + 1) * (d.c + 1) + 11 ≤ 8000000000000000 := by omega
  have m1 := Int.mul_nonneg a1 b1
  have m2 := Int.mul_le_mul a2 b2 b1 (by omega)
  have en : d.num = (d.b.fmod 2147483629 + 104729 * (d.c + 1)) * (d.b.fmod 2147483587 + 7919 * (d.c + 1) * (d.c + 1) + 11) := rfl
  rw [en]
  omega
theorem ev_draw {C : Tab} {j : Nat} {d : Dr} {n : Int} (h : C[j]? = some (.own d.tv)) (h1 : 0 < n) (h2 : n < 1000000) (h3 : 0 ≤ d.c) (h4 : d.c ≤ 1000000) :
    m_law_draw [some (.cel j), some (.int n), none] C = .rt (.int (d.val n)) (C.set j (.own (d.nxt n).tv)) := by
  obtain ⟨f1, f2, f3⟩ := Dr.facts h3 h4
  have hn : n ≠ 0 := by omega
  have hn2 : n.natAbs < 1073741824 := by omega
  unfold Dr.tv at h
  by_cases ha : d.a > 0
  · simp [m_law_draw, h, ha, hn, hn2, fdivI_int, Dr.tv, Dr.val, Dr.nxt]
  · have e1 : mulOk 104729 (d.c + 1) = true := by simp [mulOk]
    have e2 : mulOk 7919 (d.c + 1) = true := by simp [mulOk]
    have en : d.num = (d.b.fmod 2147483629 + 104729 * (d.c + 1)) * (d.b.fmod 2147483587 + 7919 * (d.c + 1) * (d.c + 1) + 11) := rfl
    rw [en] at f3
    simp [m_law_draw, h, ha, hn, hn2, fdivI_int, powI_int, Dr.tv, Dr.val, Dr.nxt, e1, e2, f1, f2, f3, en]
/-! ### what a def leaves -/
/-- a value without cells -/
def TV.pl (t : TV) : Bool := t.low 0
theorem pl_low {t : TV} (h : t.pl = true) (n : Nat) : t.low n = true := TV.low_mono (Nat.zero_le n) t h
theorem gcT_pl {C C1 G : Tab} {t : TV} (ht : t.pl = true) (hl : C1.length = C.length) (hk : ∀ (j : Nat) (c : Cell), C1[j]? = some c → C[j]? = some c ∨ c.low C.length = true) : gcT C t (C1 ++ G) = .ok t C1 := by
  have kp : Keep C (C1 ++ G) := ⟨by rw [List.length_append]; omega, fun j c hj h => by
    rw [List.getElem?_append_left (by omega)] at h
    exact hk j c h⟩
  have tk : (C1 ++ G).take C.length = C1 := by rw [← hl]; simp
  unfold gcT
  rw [if_pos kp, tk]
  cases t <;> first | (simp [TV.pl, TV.low] at ht; done) | (dsimp only; rw [if_pos (pl_low ht _)])
theorem gcT_set {C G : Tab} {t u : TV} {j : Nat} (ht : t.pl = true) (hu : u.pl = true) : gcT C t (C.set j (.own u) ++ G) = .ok t (C.set j (.own u)) := by
  refine gcT_pl ht (by simp) fun i c h => ?_
  by_cases e : j = i
  · subst e
    by_cases hl : j < C.length
    · rw [List.getElem?_set_self hl] at h
      cases h
      exact .inr (pl_low hu _)
    · rw [List.getElem?_eq_none (by simpa using hl)] at h; cases h
  · rw [List.getElem?_set_ne e] at h; exact .inl h
theorem gcT_id {C G : Tab} {t : TV} (ht : t.pl = true) : gcT C t (C ++ G) = .ok t C := gcT_pl ht rfl fun _ _ h => .inl h
theorem Dr.tv_pl (d : Dr) : d.tv.pl = true := rfl
/-! ### a draw, a pick -/
theorem sp_draw {C : Tab} {j : Nat} {d : Dr} {n : Int} {k : Nat} (h : C[j]? = some (.own d.tv)) (h1 : 0 < n) (h2 : n < 1000000) (b : d.bd (k + 1)) :
    ∃ (v : Int) (d' : Dr), F_law_draw [.cel j, .int n] C = .ok (.int v) (C.set j (.own d'.tv)) ∧ 0 ≤ v ∧ v < n ∧ d'.bd k := by
  obtain ⟨b1, b2⟩ := b
  have e := ev_draw (n := n) h h1 h2 b1 (by omega)
  have s0 : st0 3 [TV.cel j, .int n] = [some (.cel j), some (.int n), none] := rfl
  refine ⟨d.val n, d.nxt n, ?_, ?_, ?_, ?_⟩
  · unfold F_law_draw ofM
    rw [s0, e]
    have q := gcT_set (C := C) (G := []) (t := .int (d.val n)) (j := j) rfl (Dr.tv_pl (d.nxt n))
    rw [List.append_nil] at q
    exact q
  · unfold Dr.val; split <;> exact (fmod_bd _ h1).1
  · unfold Dr.val; split <;> exact (fmod_bd _ h1).2
  · unfold Dr.nxt Dr.bd; split <;> dsimp only <;> omega
/-- an item of a list or of a text -/
theorem sp_pick {C : Tab} {j : Nat} {d : Dr} {k : Nat} {xs : List TV} (h : C[j]? = some (.own d.tv)) (b : d.bd (k + 1)) (h0 : xs ≠ []) (hl : xs.length < 1000000) (hp : ∀ x ∈ xs, x.pl = true) :
    ∃ (x : TV) (d' : Dr), F_law_pick [.cel j, .lst xs] C = .ok x (C.set j (.own d'.tv)) ∧ x ∈ xs ∧ d'.bd k := by
  have hl0 : 0 < xs.length := List.length_pos_iff.mpr h0
  obtain ⟨v, d', e, v0, v1, b'⟩ := sp_draw (n := (xs.length : Int)) h (by omega) (by omega) b
  have hv : v.toNat < xs.length := by omega
  have ha : atI xs v = some xs[v.toNat] := by
    have : v < (xs.length : Int) := v1
    simp [atI, ixN, v0, this, hv]
  refine ⟨xs[v.toNat], d', ?_, List.getElem_mem hv, b'⟩
  have s0 : st0 2 [TV.cel j, .lst xs] = [some (.cel j), some (.lst xs)] := rfl
  unfold F_law_pick ofM
  rw [s0]
  have ev : m_law_pick [some (.cel j), some (.lst xs)] C = .rt xs[v.toNat] (C.set j (.own d'.tv)) := by
    simp [m_law_pick, bLen, lenR, itT, e, ha]
  rw [ev]
  have q := gcT_set (C := C) (G := []) (t := xs[v.toNat]) (j := j) (hp _ (List.getElem_mem hv)) (Dr.tv_pl d')
  rw [List.append_nil] at q
  exact q
end FH
/-! SpB: loops by invariants; evaluation of the later constructs. -/
namespace FH
open PySem L2
/-! ### loops by an invariant -/
theorem loop_inv {gt : TV → Slots → Option Slots} {body : SM} {C0 : Tab} {I : List TV → Slots → Tab → Prop}
    (step : ∀ x xs s C, I (x :: xs) s C → ∃ s1 s2 C2, gt x s = some s1 ∧ body s1 C = .nx s2 C2 ∧ I xs s2 C2) :
    ∀ (xs : List TV) (s : Slots) (C : Tab), I xs s C → ∃ s' C', loop gt body none C0 xs s C = .nx s' C' ∧ I [] s' C'
  | [], s, C, h => ⟨s, C, rfl, h⟩
  | x :: xs, s, C, h => by
    obtain ⟨s1, s2, C2, h1, h2, h3⟩ := step x xs s C h
    obtain ⟨s', C', h4, h5⟩ := loop_inv (C0 := C0) step xs s2 C2 h3
    refine ⟨s', C', ?_, h5⟩
    unfold loop
    rw [h1]
    dsimp only
    rw [h2]
    dsimp only
    rw [if_pos (show lkOk none C0 C2 from True.intro)]
    exact h4
theorem lc_inv {gt : TV → Slots → Option Slots} {tt : EM Bool} {me : EM TV} {C0 : Tab} {s0 : Slots} {I : List TV → List TV → Tab → Prop}
    (step : ∀ x xs acc C, I (x :: xs) acc C → ∃ s1 b C2, gt x s0 = some s1 ∧ tt s1 C = .ok b C2 ∧ ((b = true ∧ ∃ t C3, me s1 C2 = .ok t C3 ∧ acc.length < sizeLine ∧ I xs (acc ++ [t]) C3) ∨ (b = false ∧ I xs acc C2))) :
    ∀ (xs acc : List TV) (C : Tab), I xs acc C → ∃ acc' C', lcL gt tt me none C0 s0 xs acc C = .ok acc' C' ∧ I [] acc' C'
  | [], acc, C, h => ⟨acc, C, rfl, h⟩
  | x :: xs, acc, C, h => by
    obtain ⟨s1, b, C2, h1, h2, h3⟩ := step x xs acc C h
    rcases h3 with ⟨rfl, t, C3, h3, hl, h4⟩ | ⟨rfl, h4⟩
    · obtain ⟨acc', C', h5, h6⟩ := lc_inv (C0 := C0) step xs (acc ++ [t]) C3 h4
      refine ⟨acc', C', ?_, h6⟩
      unfold lcL
      rw [h1]
      dsimp only
      rw [h2]
      simp only [↓bind_bnd, ↓sr_srd, ↓seq_sqd, bnd_ok, srd_ok, sqd_nx, sqd_rt, bind_ok, if_true, h3]
      rw [if_pos ⟨hl, (True.intro : lkOk none C0 C3)⟩]
      exact h5
    · obtain ⟨acc', C', h5, h6⟩ := lc_inv (C0 := C0) step xs acc C2 h4
      refine ⟨acc', C', ?_, h6⟩
      unfold lcL
      rw [h1]
      dsimp only
      rw [h2]
      simp only [↓bind_bnd, ↓sr_srd, ↓seq_sqd, bnd_ok, srd_ok, sqd_nx, sqd_rt, bind_ok, Bool.false_eq_true, if_false]
      rw [if_pos (show lkOk none C0 C2 from True.intro)]
      exact h5
theorem wh_inv {t : EM Bool} {body : SM} {I : Nat → Slots → Tab → Prop} (step : ∀ m s C, I m s C → ∃ b C1, t s C = .ok b C1 ∧ ((b = true ∧ ∃ s2 C2 m', body s C1 = .nx s2 C2 ∧ m' < m ∧ I m' s2 C2) ∨ (b = false ∧ I 0 s C1))) :
    ∀ (n m : Nat) (s : Slots) (C : Tab), m < n → I m s C → ∃ s' C', nWh t body n s C = .nx s' C' ∧ I 0 s' C' ∧ ∃ C2, t s' C2 = .ok false C'
  | 0, m, s, C, h, _ => absurd h (Nat.not_lt_zero m)
  | n + 1, m, s, C, h, i => by
    obtain ⟨b, C1, h1, h2⟩ := step m s C i
    rcases h2 with ⟨rfl, s2, C2, m', h3, h4, h5⟩ | ⟨rfl, h3⟩
    · obtain ⟨s', C', h6, h7⟩ := wh_inv step n m' s2 C2 (by omega) h5
      refine ⟨s', C', ?_, h7⟩
      unfold nWh
      rw [h1]
      simp only [↓bind_bnd, ↓sr_srd, ↓seq_sqd, bnd_ok, srd_ok, sqd_nx, sqd_rt, sr_ok, if_true, h3]
      exact h6
    · refine ⟨s, C1, ?_, h3, C, h1⟩
      unfold nWh
      rw [h1]
      simp only [↓bind_bnd, ↓sr_srd, ↓seq_sqd, bnd_ok, srd_ok, sqd_nx, sqd_rt, sr_ok, Bool.false_eq_true, if_false]
/-! ### evaluation -/
section
variable {s : Slots} {C : Tab}
@[simp] theorem mLst_ev {own : Bool} {ma : EM (List TV)} : mLst own ma s C = (ma s C).bind (lstV own) := rfl
theorem lstV_ok {own : Bool} {ts : List TV} (h : ts.length ≤ sizeLine) : lstV own ts C = alc own (.lst ts) C := by simp [lstV, h]
@[simp] theorem lstV_nil {own : Bool} : lstV own [] C = alc own (.lst []) C := lstV_ok (by simp)
@[simp] theorem mTup_ev {ma : EM (List TV)} : mTup ma s C = (ma s C).bind tupV := rfl
theorem tupV_ok {ts : List TV} (h : ts.length ≤ sizeLine) : tupV ts C = .ok (.tup ts) C := by simp [tupV, h]
@[simp] theorem mDic0_ev {own : Bool} : mDic0 own s C = alc own (.dct []) C := rfl
@[simp] theorem mFz_ev {m : EM TV} : mFz m s C = (m s C).bind fzv := rfl
@[simp] theorem mBM_ev {ty : TV → Tab → Bool} {f : TV → FM} {mo : EM TV} {ma : EM (List TV)} : mBM ty f mo ma s C = (mo s C).bind fun x C1 => if ty x C1 = true then (ma s C1).bind fun xs C2 => f x xs C2 else .stuck := rfl
@[simp] theorem nPar_ev {i j : Nat} {ma : EM (List TV)} : nPar i j ma s C = (ma s C).sr s fun ts C1 => match ts with
  | [t, u] => .nx ((s.set i (some t)).set j (some u)) C1
  | _ => .stuck := rfl
@[simp] theorem nPar3_ev {i j k : Nat} {ma : EM (List TV)} : nPar3 i j k ma s C = (ma s C).sr s fun ts C1 => match ts with
  | [t, u, v] => .nx (((s.set i (some t)).set j (some u)).set k (some v)) C1
  | _ => .stuck := rfl
@[simp] theorem nTgt_ev {gt : TV → Slots → Option Slots} {m : EM TV} : nTgt gt m s C = (m s C).sr s fun t C1 => match gt t s with
  | some s1 => .nx s1 C1
  | none => .stuck := rfl
@[simp] theorem nFor_ev {m : EM (List TV × Lk)} {gt : TV → Slots → Option Slots} {body : SM} : nFor m gt body s C = (m s C).sr s fun p C1 => (loop gt body p.2 C1 p.1 s C1).unlk p.2 := rfl
@[simp] theorem mLc_ev {own : Bool} {src : EM (List TV × Lk)} {gt : TV → Slots → Option Slots} {tt : EM Bool} {me : EM TV} {ws : List Nat} : mLc own src gt tt me ws s C = (src s C).bind fun p C1 =>
  (lcL gt tt me p.2 C1 (wipeS s ws) p.1 [] C1).nox.bind fun acc C2 => (alc own (.lst acc) C2).unlk p.2 := rfl
@[simp] theorem nox_ok {α : Type} {a : α} : (Res.ok a C).nox = .ok a C := rfl
@[simp] theorem unlk_ok0 {α : Type} {a : α} : (Res.ok a C).unlk none = .ok a C := rfl
@[simp] theorem srunlk_nx0 : (SR.nx s C).unlk none = .nx s C := rfl
@[simp] theorem srunlk_rt0 {t : TV} : (SR.rt t C).unlk none = .rt t C := rfl
@[simp] theorem mRange_ev {ma : EM (List TV)} : mRange ma s C = (ma s C).bind rangeOf := rfl
@[simp] theorem mSeq_ev {m : EM TV} : mSeq m s C = (m s C).bind seqOf := rfl
@[simp] theorem mEnum_ev {ma : EM (List TV)} : mEnum ma s C = (ma s C).bind enumOf := rfl
@[simp] theorem seqOf_lst {xs : List TV} : seqOf (.lst xs) C = .ok (xs, none) C := rfl
@[simp] theorem seqOf_tup {xs : List TV} : seqOf (.tup xs) C = .ok (xs, none) C := rfl
@[simp] theorem seqOf_dctV {kvs : List (Key × TV)} : seqOf (.dct kvs) C = .ok (kvs.map fun kv => keyTV kv.1, none) C := rfl
@[simp] theorem gtN_ev {i : Nat} {t : TV} : gtN i t s = some (s.set i (some t)) := rfl
@[simp] theorem mYes_ev : mYes s C = .ok true C := rfl
end
end FH
/-! SpC: the names that are drawn. -/
namespace FH
open PySem L2
section
variable {C : Tab} {j : Nat} {x y z : Cell}
theorem tj_get (hj : j < C.length) : (C.set j x ++ [y])[j]? = some x := by
  rw [List.getElem?_append_left (by simpa using hj), List.getElem?_set_self hj]
theorem tj_set (hj : j < C.length) : (C.set j x ++ [y]).set j z = C.set j z ++ [y] := by
  rw [List.set_append_left _ _ (by simpa using hj), List.set_set]
theorem tn_get : (C.set j x ++ [y])[C.length]? = some y := by
  rw [List.getElem?_append_right (by simp)]; simp
theorem tn_set : (C.set j x ++ [y]).set C.length z = C.set j x ++ [z] := by
  rw [List.set_append_right _ _ (by simp)]; simp
theorem get_lt (h : C[j]? = some x) : j < C.length := (List.getElem?_eq_some_iff.mp h).1
end
abbrev abc : Str := "qjxzetaoinshrdlcumwfgypbvk"
theorem abc_len : abc.length = 26 := by decide +kernel
theorem abc_small : ∀ c ∈ abc.cps.toList, 97 ≤ c ∧ c ≤ 122 := by decide +kernel
theorem abc_size : abc.length ≤ sizeLine := by rw [abc_len, sizeLine_eq]; decide
/-- one of the letters -/
theorem abc_at {i : Int} (h0 : 0 ≤ i) (h1 : i < 26) : ∃ c : Nat, ixR (.str abc) (.int i) = some (.str ⟨#[c]⟩) ∧ 97 ≤ c ∧ c ≤ 122 := by
  have hl : abc.cps.toList.length = 26 := abc_len
  have hv : i.toNat < abc.cps.toList.length := by omega
  have h1' : i < (abc.cps.toList.length : Int) := by omega
  have ha : atI abc.cps.toList i = some abc.cps.toList[i.toNat] := by
    unfold L2.atI ixN
    simp only [if_pos h0, if_pos h1', Option.bind_some]
    exact List.getElem?_eq_getElem hv
  refine ⟨abc.cps.toList[i.toNat], ?_, abc_small _ (List.getElem_mem hv)⟩
  show (atI abc.cps.toList i).bind _ = _
  rw [ha]
  simp only [Option.bind_some]
  rw [if_pos abc_size]
theorem sp_pickS {C : Tab} {j : Nat} {d : Dr} {k : Nat} (h : C[j]? = some (.own d.tv)) (b : d.bd (k + 1)) :
    ∃ (c : Nat) (d' : Dr), F_law_pick [.cel j, .str abc] C = .ok (.str ⟨#[c]⟩) (C.set j (.own d'.tv)) ∧ 97 ≤ c ∧ c ≤ 122 ∧ d'.bd k := by
  obtain ⟨v, d', e, v0, v1, b'⟩ := sp_draw (n := 26) h (by decide) (by decide) b
  obtain ⟨c, hc, c0, c1⟩ := abc_at v0 v1
  refine ⟨c, d', ?_, c0, c1, b'⟩
  have s0 : st0 2 [TV.cel j, .str abc] = [some (.cel j), some (.str abc)] := rfl
  have hb : bLen [.str abc] C = .ok (.int 26) C := by
    simp only [bLen, rd_str, lenR, if_pos abc_size, abc_len]; rfl
  unfold F_law_pick ofM
  rw [s0]
  have ev : m_law_pick [some (.cel j), some (.str abc)] C = .rt (.str ⟨#[c]⟩) (C.set j (.own d'.tv)) := by
    simp [m_law_pick, hb, e, hc]
  rw [ev]
  have q := gcT_set (C := C) (G := []) (t := .str ⟨#[c]⟩) (j := j) rfl (Dr.tv_pl d')
  rw [List.append_nil] at q
  exact q
/-- a name: one to six small letters -/
def gname (x : Str) : Prop := 1 ≤ x.length ∧ x.length ≤ 6 ∧ ∀ c ∈ x.cps.toList, 97 ≤ c ∧ c ≤ 122
/-- letters only -/
def lets (n : Nat) (x : Str) : Prop := x.length = n ∧ ∀ c ∈ x.cps.toList, 97 ≤ c ∧ c ≤ 122
theorem lets_one {c : Nat} (h : 97 ≤ c ∧ c ≤ 122) : lets 1 ⟨#[c]⟩ := ⟨rfl, fun e he => by simp at he; subst he; exact h⟩
theorem lets_app {n m : Nat} {x y : Str} (h : lets n x) (h' : lets m y) : lets (n + m) (x ++ y) := by
  have e : (x ++ y).cps = x.cps ++ y.cps := rfl
  refine ⟨?_, fun c hc => ?_⟩
  · show (x ++ y).cps.size = _
    rw [e, Array.size_append, ← h.1, ← h'.1]; rfl
  · rw [e, Array.toList_append] at hc
    rcases List.mem_append.mp hc with q | q
    · exact h.2 c q
    · exact h'.2 c q
/-- letters one by one -/
theorem sp_letters {C : Tab} {j : Nat} {y : Cell} {s0 : Slots} {i : Nat} (hj : j < C.length) (h0 : s0[0]? = some (some (.cel j))) (h2 : s0[2]? = some (some (.str abc))) (hi : i ≠ 0 ∧ i ≠ 2) {k : Nat} :
    ∀ (xs : List TV) (d : Dr) (C0 : Tab), xs.length ≤ 6 → d.bd (xs.length + k) → ∃ (cs : List Str) (d' : Dr), lcL (gtN i) mYes (mCall F_law_pick [] (mCons (mVar 0) (mCons (mVar 2) mNil))) none C0 s0 xs [] (C.set j (.own d.tv) ++ [y]) = .ok (cs.map .str) (C.set j (.own d'.tv) ++ [y]) ∧
      cs.length = xs.length ∧ (∀ c ∈ cs, lets 1 c) ∧ d'.bd k := by
  intro xs d C0 hx hb
  obtain ⟨acc, C', e, cs, d', rfl, rfl, h3, h4, h5⟩ := lc_inv (C0 := C0) (gt := gtN i) (tt := mYes) (me := mCall F_law_pick [] (mCons (mVar 0) (mCons (mVar 2) mNil))) (s0 := s0)
    (I := fun ys acc C1 => ∃ (cs : List Str) (d' : Dr), acc = cs.map .str ∧ C1 = C.set j (.own d'.tv) ++ [y] ∧ cs.length + ys.length = xs.length ∧ (∀ c ∈ cs, lets 1 c) ∧ d'.bd (ys.length + k))
    (fun x ys acc C1 ⟨cs, d1, ea, eC, hl, hc, hb1⟩ => by
      subst ea; subst eC
      have hg : (C.set j (.own d1.tv) ++ [y])[j]? = some (.own d1.tv) := tj_get hj
      obtain ⟨c, d2, e, c0, c1, b2⟩ := sp_pickS (k := ys.length + k) hg (by
        have : (x :: ys).length + k = ys.length + k + 1 := by simp; omega
        rw [this] at hb1; exact hb1)
      rw [tj_set hj] at e
      refine ⟨s0.set i (some x), true, _, rfl, rfl, .inl ⟨rfl, .str ⟨#[c]⟩, _, ?_, ?_, cs ++ [⟨#[c]⟩], d2, by simp, rfl, ?_, ?_, b2⟩⟩
      · have g0 : (s0.set i (some x))[0]? = some (some (.cel j)) := by rw [List.getElem?_set_ne hi.1]; exact h0
        have g2 : (s0.set i (some x))[2]? = some (some (.str abc)) := by rw [List.getElem?_set_ne hi.2]; exact h2
        simp only [↓bind_bnd, ↓sr_srd, ↓seq_sqd, bnd_ok, srd_ok, sqd_nx, sqd_rt, mCall_ev, mCons_ev, mVar_ev, mNil_ev, g0, g2, rdS_some, bind_ok, List.append_nil, e]
      · rw [List.length_map, sizeLine_eq]; simp at hl; omega
      · simp at hl ⊢; omega
      · intro z hz
        rcases List.mem_append.mp hz with q | q
        · exact hc z q
        · simp at q; subst q; exact lets_one ⟨c0, c1⟩)
    xs [] _ ⟨[], d, rfl, rfl, by simp, by simp, hb⟩
  exact ⟨cs, d', e, by simpa using h3, h4, by simpa using h5⟩
end FH
/-! SpD: a row of names. -/
namespace FH
open PySem L2
theorem tyS_str {x : Str} {C : Tab} : tyS (.str x) C = true := rfl
theorem glue_fold : ∀ (ps : List Str) (acc : Array Nat), (ps.foldl (fun acc p => acc ++ (Str.ofString "").cps ++ p.cps) acc).toList = acc.toList ++ (ps.map fun p => p.cps.toList).flatten
  | [], acc => by simp
  | p :: ps, acc => by
    rw [List.foldl_cons, glue_fold ps]
    have e : (Str.ofString "").cps = #[] := rfl
    simp [e]
theorem join_cps (cs : List Str) : (Txt.join "" cs).cps.toList = (cs.map fun p => p.cps.toList).flatten := by
  show ((cs.drop 1).foldl (fun acc p => acc ++ (Str.ofString "").cps ++ p.cps) (cs.headD Str.empty).cps).toList = _
  rw [glue_fold]
  cases cs with
  | nil => rfl
  | cons c cs => simp
theorem join_lets {cs : List Str} (h : ∀ c ∈ cs, lets 1 c) : lets cs.length (Txt.join "" cs) := by
  have e := join_cps cs
  refine ⟨?_, fun c hc => ?_⟩
  · show (Txt.join "" cs).cps.size = _
    rw [← Array.length_toList, e]
    clear e
    induction cs with
    | nil => rfl
    | cons c cs ih =>
      have h1 : c.cps.toList.length = 1 := by rw [Array.length_toList]; exact (h c List.mem_cons_self).1
      rw [List.map_cons, List.flatten_cons, List.length_append, ih fun x hx => h x (List.mem_cons_of_mem _ hx), h1]
      simp; omega
  · rw [e] at hc
    obtain ⟨l, hl, hcl⟩ := List.mem_flatten.mp hc
    obtain ⟨p, hp, rfl⟩ := List.mem_map.mp hl
    exact (h p hp).2 c hcl
theorem lets_sum {cs : List Str} (h : ∀ c ∈ cs, lets 1 c) : (cs.map (·.length)).sum = cs.length := by
  induction cs with
  | nil => rfl
  | cons c cs ih =>
    rw [List.map_cons, List.sum_cons, ih fun x hx => h x (List.mem_cons_of_mem _ hx), (h c List.mem_cons_self).1]
    simp; omega
theorem fJoin_ok {C : Tab} {cs : List Str} (h : ∀ c ∈ cs, lets 1 c) (hl : cs.length ≤ 1000) : fJoin (.str "") [.lst (cs.map .str)] C = .ok (.str (Txt.join "" cs)) C := by
  have e : (itT (rd C (.lst (cs.map .str)))).bind strL = some cs := by simp [itT]
  unfold fJoin
  dsimp only
  rw [e]
  dsimp only
  rw [if_pos]
  rw [lets_sum h, show (Str.ofString "").length = 0 from rfl]
  omega
/-- the last letters of a name -/
theorem sp_last {C : Tab} {many first at' : Int} {s0 : Slots} (h1 : s0[1]? = some (some (.int many))) (h2 : s0[2]? = some (some (.str abc))) (h3 : s0[3]? = some (some (.int first))) (h5 : s0[5]? = some (some (.int at'))) (h6 : 6 < s0.length) (ha : 0 ≤ at') (ha2 : at' < 600) (rest : SM) :
    ∃ (last : Str) (n : Nat), (nSeq (nSet 6 (mOp ixT (mVar 2) (mOp modI (mB1 bInt (mCons (mOp (addI false) (mVar 3) (mOp (mulI false) (mC (.int 7)) (mVar 5))) mNil)) (mC (.int 26)))))
  (nSeq (nIf (mB (mOp gtI (mVar 1) (mC (.int 26)))) (nSet 6 (mOp (addI false) (mOp ixT (mVar 2) (mOp fdivI (mVar 5) (mC (.int 26)))) (mVar 6))) nNil) rest)) s0 C = rest (s0.set 6 (some (.str last))) C ∧ lets n last ∧ 1 ≤ n ∧ n ≤ 2 := by
  obtain ⟨q0, q1⟩ := fmod_bd (first + 7 * at') (m := 26) (by decide)
  obtain ⟨l, hl, l0, l1⟩ := abc_at q0 q1
  have m7 : mulOk 7 at' = true := by simp [mulOk]
  have e1 : (nSet 6 (mOp ixT (mVar 2) (mOp modI (mB1 bInt (mCons (mOp (addI false) (mVar 3) (mOp (mulI false) (mC (.int 7)) (mVar 5))) mNil)) (mC (.int 26))))) s0 C = .nx (s0.set 6 (some (.str ⟨#[l]⟩))) C := by
    simp [h2, h3, h5, m7, hl]
  have g1 : (s0.set 6 (some (TV.str ⟨#[l]⟩)))[1]? = some (some (.int many)) := by rw [List.getElem?_set_ne (by decide)]; exact h1
  have g2 : (s0.set 6 (some (TV.str ⟨#[l]⟩)))[2]? = some (some (.str abc)) := by rw [List.getElem?_set_ne (by decide)]; exact h2
  have g5 : (s0.set 6 (some (TV.str ⟨#[l]⟩)))[5]? = some (some (.int at')) := by rw [List.getElem?_set_ne (by decide)]; exact h5
  have g6 : (s0.set 6 (some (TV.str ⟨#[l]⟩)))[6]? = some (some (.str ⟨#[l]⟩)) := List.getElem?_set_self h6
  by_cases ng : 26 < many
  · have d0 : 0 ≤ at'.fdiv 26 := Int.fdiv_nonneg ha (by decide)
    have d1 : at'.fdiv 26 < 26 := by
      rw [Int.fdiv_eq_ediv_of_nonneg _ (by decide)]
      omega
    obtain ⟨l', hl', l0', l1'⟩ := abc_at d0 d1
    have hz : (⟨#[l']⟩ : Str).length + (⟨#[l]⟩ : Str).length ≤ sizeLine := by
      have z : (⟨#[l']⟩ : Str).length = 1 := rfl
      have z2 : (⟨#[l]⟩ : Str).length = 1 := rfl
      rw [z, z2, sizeLine_eq]; decide
    refine ⟨⟨#[l']⟩ ++ ⟨#[l]⟩, 2, ?_, lets_app (lets_one ⟨l0', l1'⟩) (lets_one ⟨l0, l1⟩), by decide, by decide⟩
    have f26 : fdivI (.int at') (.int 26) C = .ok (.int (at'.fdiv 26)) C := fdivI_int (by decide) (by decide)
    have e2 : (nIf (mB (mOp gtI (mVar 1) (mC (.int 26)))) (nSet 6 (mOp (addI false) (mOp ixT (mVar 2) (mOp fdivI (mVar 5) (mC (.int 26)))) (mVar 6))) nNil) (s0.set 6 (some (.str ⟨#[l]⟩))) C = .nx (s0.set 6 (some (.str (⟨#[l']⟩ ++ ⟨#[l]⟩)))) C := by
      rw [nIf_ev]
      simp [g1, g2, g5, g6, ng, f26, hl', addR_str hz, List.set_set]
    rw [nSeq_ev, e1, seq_nx, nSeq_ev, e2, seq_nx]
  · refine ⟨⟨#[l]⟩, 1, ?_, lets_one ⟨l0, l1⟩, by decide, by decide⟩
    have e2 : (nIf (mB (mOp gtI (mVar 1) (mC (.int 26)))) (nSet 6 (mOp (addI false) (mOp ixT (mVar 2) (mOp fdivI (mVar 5) (mC (.int 26)))) (mVar 6))) nNil) (s0.set 6 (some (.str ⟨#[l]⟩))) C = .nx (s0.set 6 (some (.str ⟨#[l]⟩))) C := by
      rw [nIf_ev]
      simp [g1, ng]
    rw [nSeq_ev, e1, seq_nx, nSeq_ev, e2, seq_nx]
/-- one name behind the others -/
theorem sp_name {C : Tab} {j : Nat} {d : Dr} {k : Nat} {names : List Str} {many first at' : Int} {a b c e : Option TV} (hj : j < C.length) (hb : d.bd (6 + k + 1)) (hn : names.length < 1000) (hf : 0 ≤ first ∧ first < 26) (ha : 0 ≤ at') (ha2 : at' < 600) (body : SM)
    (hbody : body = (nSeq (nSet 6 (mOp ixT (mVar 2) (mOp modI (mB1 bInt (mCons (mOp (addI false) (mVar 3) (mOp (mulI false) (mC (.int 7)) (mVar 5))) mNil)) (mC (.int 26)))))
  (nSeq (nIf (mB (mOp gtI (mVar 1) (mC (.int 26)))) (nSet 6 (mOp (addI false) (mOp ixT (mVar 2) (mOp fdivI (mVar 5) (mC (.int 26)))) (mVar 6))) nNil)
  (nSeq (nSet 7 (mBM tyS fJoin (mC (.str "")) (mCons (mLc false (mRange (mCons (mCall F_law_draw [] (mCons (mVar 0) (mCons (mOp subI (mC (.int 7)) (mB1 bLen (mCons (mVar 6) mNil))) mNil))) mNil)) (gtN 8) mYes (mCall F_law_pick [] (mCons (mVar 0) (mCons (mVar 2) mNil))) [8]) mNil)))
  (nExpr (mBM tyL fAppend (mVar 4) (mCons (mOp (addI false) (mVar 7) (mVar 6)) mNil))))))) :
    ∃ (x : Str) (d' : Dr) (b' c' e' : Option TV), body [some (.cel j), some (.int many), some (.str abc), some (.int first), some (.cel C.length), some (.int at'), b, c, e] (C.set j (.own d.tv) ++ [.own (.lst (names.map .str))]) =
      .nx [some (.cel j), some (.int many), some (.str abc), some (.int first), some (.cel C.length), some (.int at'), b', c', e'] (C.set j (.own d'.tv) ++ [.own (.lst ((names ++ [x]).map .str))]) ∧ gname x ∧ d'.bd k := by
  subst hbody
  have hg : (C.set j (.own d.tv) ++ [.own (.lst (names.map .str))])[j]? = some (.own d.tv) := tj_get hj
  obtain ⟨last, nl, el, hla, n1, n2⟩ := sp_last (C := C.set j (.own d.tv) ++ [.own (.lst (names.map .str))]) (s0 := [some (.cel j), some (.int many), some (.str abc), some (.int first), some (.cel C.length), some (.int at'), b, c, e]) rfl rfl rfl rfl (by simp) ha ha2
    (nSeq (nSet 7 (mBM tyS fJoin (mC (.str "")) (mCons (mLc false (mRange (mCons (mCall F_law_draw [] (mCons (mVar 0) (mCons (mOp subI (mC (.int 7)) (mB1 bLen (mCons (mVar 6) mNil))) mNil))) mNil)) (gtN 8) mYes (mCall F_law_pick [] (mCons (mVar 0) (mCons (mVar 2) mNil))) [8]) mNil)))
  (nExpr (mBM tyL fAppend (mVar 4) (mCons (mOp (addI false) (mVar 7) (mVar 6)) mNil))))
  have hlast : last.length = nl := hla.1
  obtain ⟨v, d1, e1, v0, v1, b1⟩ := sp_draw (n := 7 - (nl : Int)) (k := 6 + k) hg (by omega) (by omega) hb
  rw [tj_set hj] at e1
  have blen : ∀ C, bLen [.str last] C = .ok (.int nl) C := fun C => by
    have z2 : last.length ≤ sizeLine := by rw [hlast, sizeLine_eq]; omega
    simp only [bLen, rd_str, lenR]
    rw [if_pos z2, hlast]
  have rng : ∀ C, rangeOf [.int v] C = .ok (rngL 0 1 v.toNat, none) C := fun C => by
    have z : rngOk v = true := by simp [rngOk]; omega
    simp [rangeOf, z]
  have rl : (rngL 0 1 v.toNat).length = v.toNat := by simp [rngL]
  obtain ⟨cs, d2, e2, c1, c2, c3⟩ := sp_letters (C := C) (j := j) (y := .own (.lst (names.map .str))) (i := 8) (k := k) (s0 := [some (.cel j), some (.int many), some (.str abc), some (.int first), some (.cel C.length), some (.int at'), some (.str last), c, none]) hj rfl rfl (by decide) (rngL 0 1 v.toNat) d1
    (C.set j (.own d1.tv) ++ [.own (.lst (names.map .str))]) (by rw [rl]; omega) (by rw [rl]; unfold Dr.bd at b1 ⊢; omega)
  have hcs : cs.length ≤ 5 := by rw [c1, rl]; omega
  have hj1 := join_lets c2
  have hx := lets_app hj1 hla
  have hadd : (Txt.join "" cs).length + last.length ≤ sizeLine := by
    rw [hj1.1, hlast, sizeLine_eq]; omega
  have g0 := fJoin_ok (C := C.set j (.own d2.tv) ++ [.own (.lst (names.map .str))]) c2 (by omega)
  have g1 : tyL (.cel C.length) (C.set j (.own d2.tv) ++ [.own (.lst (names.map .str))]) = true := by
    unfold tyL
    rw [rd_cel, tn_get]; rfl
  have g2 : fAppend (.cel C.length) [.str (Txt.join "" cs ++ last)] (C.set j (.own d2.tv) ++ [.own (.lst (names.map .str))]) = .ok .non (C.set j (.own d2.tv) ++ [.own (.lst (names.map .str ++ [.str (Txt.join "" cs ++ last)]))]) := by
    unfold fAppend
    dsimp only
    rw [tn_get]
    dsimp only
    rw [if_pos (by rw [List.length_map, sizeLine_eq]; omega), tn_set]
  refine ⟨Txt.join "" cs ++ last, d2, some (.str last), some (.str (Txt.join "" cs)), e, ?_, ⟨by rw [hx.1]; omega, by rw [hx.1]; omega, hx.2⟩, c3⟩
  rw [el]
  simp [blen, e1, rng, e2, wipeS, tyS_str, g0, g1, g2, addR_str hadd]
end FH
/-! SpE: names; a mixed row. -/
namespace FH
open PySem L2
theorem pl_strs {xs : List Str} : (TV.lst (xs.map .str)).pl = true := by
  show TV.low.lows 0 (xs.map .str) = true
  induction xs with
  | nil => rfl
  | cons x xs ih => simp [TV.low.lows, TV.low, ih]
theorem fzv_own {C : Tab} {n : Nat} {u : TV} (h : C[n]? = some (.own u)) : fzv (.cel n) C = .ok u (C.set n (.frz u)) := by
  unfold fzv; dsimp only; rw [h]
theorem rng_mem {n : Nat} {x : TV} (h : x ∈ rngL 0 1 n) : ∃ i : Nat, x = .int i ∧ i < n := by
  simp only [rngL, List.mem_map, List.mem_range] at h
  obtain ⟨i, hi, rfl⟩ := h
  exact ⟨i, by simp, hi⟩
theorem sp_names {C : Tab} {j : Nat} {d : Dr} {k many : Nat} {M : Int} (hM : M = many) (h : C[j]? = some (.own d.tv)) (hm : many ≤ 60) (hb : d.bd (7 * many + k + 1)) :
    ∃ (names : List Str) (d' : Dr), F_law_names [.cel j, .int M] C = .ok (.lst (names.map .str)) (C.set j (.own d'.tv)) ∧ names.length = many ∧ (∀ x ∈ names, gname x) ∧ d'.bd k := by
  have hj := get_lt h
  obtain ⟨f, d1, e1, f0, f1, b1⟩ := sp_draw (n := 26) (k := 7 * many + k) h (by decide) (by decide) hb
  have rng : ∀ C, rangeOf [.int M] C = .ok (rngL 0 1 many, none) C := fun C => by
    have z : rngOk M = true := by simp [rngOk]; omega
    have z2 : M.toNat = many := by omega
    simp [rangeOf, z, z2]
  have rl : (rngL 0 1 many).length = many := by simp [rngL]
  have g1 : (C.set j (.own d1.tv)).length = C.length := by simp
  obtain ⟨s', C', e2, names, d2, b, c, e, a, rfl, rfl, hl, hg, hb2, _⟩ := loop_inv (gt := gtN 5) (C0 := C.set j (.own d1.tv) ++ [.own (.lst [])])
    (body := (nSeq (nSet 6 (mOp ixT (mVar 2) (mOp modI (mB1 bInt (mCons (mOp (addI false) (mVar 3) (mOp (mulI false) (mC (.int 7)) (mVar 5))) mNil)) (mC (.int 26)))))
  (nSeq (nIf (mB (mOp gtI (mVar 1) (mC (.int 26)))) (nSet 6 (mOp (addI false) (mOp ixT (mVar 2) (mOp fdivI (mVar 5) (mC (.int 26)))) (mVar 6))) nNil)
  (nSeq (nSet 7 (mBM tyS fJoin (mC (.str "")) (mCons (mLc false (mRange (mCons (mCall F_law_draw [] (mCons (mVar 0) (mCons (mOp subI (mC (.int 7)) (mB1 bLen (mCons (mVar 6) mNil))) mNil))) mNil)) (gtN 8) mYes (mCall F_law_pick [] (mCons (mVar 0) (mCons (mVar 2) mNil))) [8]) mNil)))
  (nExpr (mBM tyL fAppend (mVar 4) (mCons (mOp (addI false) (mVar 7) (mVar 6)) mNil)))))))
    (I := fun xs s C1 => ∃ (names : List Str) (d2 : Dr) (b c e a : Option TV), s = [some (.cel j), some (.int M), some (.str abc), some (.int f), some (.cel C.length), a, b, c, e] ∧ C1 = C.set j (.own d2.tv) ++ [.own (.lst (names.map .str))] ∧
      names.length + xs.length = many ∧ (∀ x ∈ names, gname x) ∧ d2.bd (7 * xs.length + k) ∧ ∀ x ∈ xs, ∃ i : Nat, x = .int i ∧ i < many)
    (fun x xs s C1 ⟨names, d2, b, c, e, a, es, eC, hl, hg, hb, hx⟩ => by
      subst es; subst eC
      obtain ⟨i, rfl, hi⟩ := hx _ List.mem_cons_self
      simp only [List.length_cons] at hl hb
      obtain ⟨y, d3, b', c', e', q, gy, b3⟩ := sp_name (C := C) (j := j) (d := d2) (k := 7 * xs.length + k) (names := names) (many := M) (first := f) (at' := i) (a := a) (b := b) (c := c) (e := e) hj (by
        have : 7 * (xs.length + 1) + k = 6 + (7 * xs.length + k) + 1 := by omega
        rw [← this]; exact hb) (by omega) ⟨f0, f1⟩ (by omega) (by omega) _ rfl
      refine ⟨_, _, _, rfl, q, names ++ [y], d3, b', c', e', _, rfl, rfl, by simp; omega, ?_, b3, fun z hz => hx z (List.mem_cons_of_mem _ hz)⟩
      intro z hz
      rcases List.mem_append.mp hz with q | q
      · exact hg z q
      · simp at q; subst q; exact gy)
    (rngL 0 1 many) [some (.cel j), some (.int M), some (.str abc), some (.int f), some (.cel C.length), none, none, none, none] (C.set j (.own d1.tv) ++ [.own (.lst [])])
    ⟨[], d1, none, none, none, none, rfl, rfl, by simp [rl], by simp, by rw [rl]; exact b1, fun x hx => rng_mem hx⟩
  refine ⟨names, d2, ?_, by simpa using hl, hg, by simpa using hb2⟩
  have s0 : st0 9 [TV.cel j, .int M] = [some (.cel j), some (.int M), none, none, none, none, none, none, none] := rfl
  have gt2 : ∀ s : Slots, gtT [gtN 2, gtN 3] (.tup [.str abc, .int f]) s = some ((s.set 2 (some (.str abc))).set 3 (some (.int f))) := fun s => rfl
  have tv2 : ∀ C, tupV [.str abc, .int f] C = .ok (.tup [.str abc, .int f]) C := fun C => tupV_ok (by rw [sizeLine_eq]; simp)
  have fz := fzv_own (C := C.set j (.own d2.tv) ++ [.own (.lst (names.map .str))]) (n := C.length) (u := .lst (names.map .str)) tn_get
  unfold F_law_names ofM
  rw [s0]
  have ev : m_law_names [some (.cel j), some (.int M), none, none, none, none, none, none, none] C = .rt (.lst (names.map .str)) ((C.set j (Cell.own d2.tv) ++ [Cell.own (.lst (names.map .str))]).set C.length (Cell.frz (.lst (names.map .str)))) := by
    have n1 : (nTgt (gtT [(gtN 2), (gtN 3)]) (mTup (mCons (mC (.str abc)) (mCons (mCall F_law_draw [] (mCons (mVar 0) (mCons (mC (.int 26)) mNil))) mNil)))) [some (.cel j), some (.int M), none, none, none, none, none, none, none] C =
        .nx [some (.cel j), some (.int M), some (.str abc), some (.int f), none, none, none, none, none] (C.set j (.own d1.tv)) := by
      simp only [↓bind_bnd, ↓sr_srd, ↓seq_sqd, bnd_ok, srd_ok, sqd_nx, sqd_rt, nTgt_ev, mTup_ev, mCons_ev, mC_ev, mCall_ev, mVar_ev, mNil_ev, bind_ok, List.getElem?_cons_zero, rdS_some, List.append_nil, e1, tv2, sr_ok, gt2]
      rfl
    have n2 : (nSet 4 (mLst true mNil)) [some (.cel j), some (.int M), some (.str abc), some (.int f), none, none, none, none, none] (C.set j (.own d1.tv)) =
        .nx [some (.cel j), some (.int M), some (.str abc), some (.int f), some (.cel C.length), none, none, none, none] (C.set j (Cell.own d1.tv) ++ [Cell.own (.lst [])]) := by
      simp only [↓bind_bnd, ↓sr_srd, ↓seq_sqd, bnd_ok, srd_ok, sqd_nx, sqd_rt, nSet_ev, mLst_ev, mNil_ev, bind_ok, lstV_nil, alc_own, sr_ok, g1]
      rfl
    have n3 : (nRet (mFz (mVar 4))) [some (.cel j), some (.int M), some (.str abc), some (.int f), some (.cel C.length), a, b, c, e] (C.set j (Cell.own d2.tv) ++ [Cell.own (.lst (names.map .str))]) =
        .rt (.lst (names.map .str)) ((C.set j (Cell.own d2.tv) ++ [Cell.own (.lst (names.map .str))]).set C.length (.frz (.lst (names.map .str)))) := by
      simp only [↓bind_bnd, ↓sr_srd, ↓seq_sqd, bnd_ok, srd_ok, sqd_nx, sqd_rt, nRet_ev, mFz_ev, mVar_ev, List.getElem?_cons_succ, List.getElem?_cons_zero, rdS_some, bind_ok, fz, sr_ok]
    have hr : (mRange (mCons (mVar 1) mNil)) [some (.cel j), some (.int M), some (.str abc), some (.int f), some (.cel C.length), none, none, none, none] (C.set j (Cell.own d1.tv) ++ [Cell.own (.lst [])]) = .ok (rngL 0 1 many, none) (C.set j (Cell.own d1.tv) ++ [Cell.own (.lst [])]) := by
      simp only [↓bind_bnd, ↓sr_srd, ↓seq_sqd, bnd_ok, srd_ok, sqd_nx, sqd_rt, mRange_ev, mCons_ev, mVar_ev, mNil_ev, List.getElem?_cons_succ, List.getElem?_cons_zero, rdS_some, bind_ok, rng]
    generalize hB : (nSeq (nSet 6 (mOp ixT (mVar 2) (mOp modI (mB1 bInt (mCons (mOp (addI false) (mVar 3) (mOp (mulI false) (mC (.int 7)) (mVar 5))) mNil)) (mC (.int 26)))))
  (nSeq (nIf (mB (mOp gtI (mVar 1) (mC (.int 26)))) (nSet 6 (mOp (addI false) (mOp ixT (mVar 2) (mOp fdivI (mVar 5) (mC (.int 26)))) (mVar 6))) nNil)
  (nSeq (nSet 7 (mBM tyS fJoin (mC (.str "")) (mCons (mLc false (mRange (mCons (mCall F_law_draw [] (mCons (mVar 0) (mCons (mOp subI (mC (.int 7)) (mB1 bLen (mCons (mVar 6) mNil))) mNil))) mNil)) (gtN 8) mYes (mCall F_law_pick [] (mCons (mVar 0) (mCons (mVar 2) mNil))) [8]) mNil)))
  (nExpr (mBM tyL fAppend (mVar 4) (mCons (mOp (addI false) (mVar 7) (mVar 6)) mNil)))))) = B at e2
    have n4 : nFor (mRange (mCons (mVar 1) mNil)) (gtN 5) B [some (.cel j), some (.int M), some (.str abc), some (.int f), some (.cel C.length), none, none, none, none] (C.set j (Cell.own d1.tv) ++ [Cell.own (.lst [])]) = .nx [some (.cel j), some (.int M), some (.str abc), some (.int f), some (.cel C.length), a, b, c, e] (C.set j (Cell.own d2.tv) ++ [Cell.own (.lst (names.map .str))]) := by
      rw [nFor_ev, hr, sr_ok]
      dsimp only
      rw [e2]; rfl
    have nn : m_law_names = nSeq (nTgt (gtT [(gtN 2), (gtN 3)]) (mTup (mCons (mC (.str abc)) (mCons (mCall F_law_draw [] (mCons (mVar 0) (mCons (mC (.int 26)) mNil))) mNil)))) (nSeq (nSet 4 (mLst true mNil)) (nSeq (nFor (mRange (mCons (mVar 1) mNil)) (gtN 5) B) (nRet (mFz (mVar 4))))) := by
      rw [← hB]; rfl
    rw [nn, nSeq_ev, n1, seq_nx, nSeq_ev, n2, seq_nx, nSeq_ev, n4, seq_nx, n3]
  rw [ev, tn_set]
  exact gcT_set pl_strs (Dr.tv_pl d2)
end FH
/-! SpF: a mixed row. -/
namespace FH
open PySem L2
theorem neI_empty {left : List TV} {C : Tab} : neI (.lst left) (.lst []) C = .ok (.bl (!left.isEmpty)) C := by
  unfold neI neI0
  simp only [rd_lst, flatT]
  cases left with
  | nil =>
    have h1 : okT (.lst []) = true := rfl
    have h2 : SeqAt.shaped (pyd (.lst [])) = true := by decide +kernel
    have h3 : PyData.eqv (pyd (.lst [])) (pyd (.lst [])) = true := by decide +kernel
    simp [h1, h2, h3, okB]
  | cons x xs => simp [okB]
theorem cut_to {xs : List TV} {v : Int} (h0 : 0 ≤ v) (h1 : v < xs.length) : cutT xs none (some v) = xs.take v.toNat := by
  unfold cutT
  simp only [HT.sIx]
  rw [if_neg (by omega), List.drop_zero, Nat.sub_zero, Nat.min_eq_left (by omega)]
theorem cut_from {xs : List TV} {v : Int} (h0 : 0 ≤ v) (h1 : v < xs.length) : cutT xs (some (v + 1)) none = xs.drop (v.toNat + 1) := by
  unfold cutT
  simp only [HT.sIx]
  have e : min (v + 1).toNat xs.length = v.toNat + 1 := by omega
  rw [if_neg (by omega), e, List.take_of_length_le (by rw [List.length_drop]; omega)]
theorem take_perm {xs : List TV} {n : Nat} (h : n < xs.length) : xs.Perm (xs[n] :: (xs.take n ++ xs.drop (n + 1))) := by
  have e : xs = xs.take n ++ xs[n] :: xs.drop (n + 1) := by
    rw [List.getElem_cons_drop, List.take_append_drop]
  exact (List.Perm.of_eq e).trans List.perm_middle
theorem pl_lst {xs : List TV} (h : ∀ x ∈ xs, x.pl = true) : (TV.lst xs).pl = true := by
  show TV.low.lows 0 xs = true
  induction xs with
  | nil => rfl
  | cons x xs ih =>
    have h1 : x.low 0 = true := h x List.mem_cons_self
    simp [TV.low.lows, h1, ih fun y hy => h y (List.mem_cons_of_mem _ hy)]
theorem bLen_lst {xs : List TV} {C : Tab} : bLen [.lst xs] C = .ok (.int xs.length) C := rfl
theorem atI_in {xs : List TV} {v : Int} (h0 : 0 ≤ v) (h1 : v < xs.length) : ∃ h : v.toNat < xs.length, atI xs v = some xs[v.toNat] := by
  have hv : v.toNat < xs.length := by omega
  refine ⟨hv, ?_⟩
  unfold L2.atI ixN
  simp only [if_pos h0, if_pos h1, Option.bind_some]
  exact List.getElem?_eq_getElem hv
/-- one turn: an item goes over -/
theorem sp_turn {C : Tab} {j : Nat} {d : Dr} {k : Nat} {left acc : List TV} {a e : Option TV} (hj : j < C.length) (hb : d.bd (k + 1)) (hl : left ≠ []) (hs : left.length + acc.length < 10000) (body : SM)
    (hbody : body = (nSeq (nSet 4 (mCall F_law_draw [] (mCons (mVar 0) (mCons (mB1 bLen (mCons (mVar 2) mNil)) mNil))))
  (nSeq (nExpr (mBM tyL fAppend (mVar 3) (mCons (mOp ixT (mVar 2) (mVar 4)) mNil)))
  (nSet 2 (mOp (addI false) (mSlice false (mVar 2) mNo (mSo (mVar 4))) (mSlice false (mVar 2) (mSo (mOp (addI false) (mVar 4) (mC (.int 1)))) mNo)))))) :
    ∃ (x : TV) (rest : List TV) (d' : Dr) (e' : Option TV), body [some (.cel j), a, some (.lst left), some (.cel C.length), e] (C.set j (.own d.tv) ++ [.own (.lst acc)]) =
      .nx [some (.cel j), a, some (.lst rest), some (.cel C.length), e'] (C.set j (.own d'.tv) ++ [.own (.lst (acc ++ [x]))]) ∧ left.Perm (x :: rest) ∧ d'.bd k := by
  subst hbody
  have hl0 : 0 < left.length := List.length_pos_iff.mpr hl
  have hg : (C.set j (.own d.tv) ++ [.own (.lst acc)])[j]? = some (.own d.tv) := tj_get hj
  obtain ⟨v, d1, e1, v0, v1, b1⟩ := sp_draw (n := (left.length : Int)) (k := k) hg (by omega) (by omega) hb
  rw [tj_set hj] at e1
  obtain ⟨hv, hat⟩ := atI_in v0 v1
  have g1 : tyL (.cel C.length) (C.set j (.own d1.tv) ++ [.own (.lst acc)]) = true := by
    unfold tyL
    rw [rd_cel, tn_get]; rfl
  have g2 : fAppend (.cel C.length) [left[v.toNat]] (C.set j (.own d1.tv) ++ [.own (.lst acc)]) = .ok .non (C.set j (.own d1.tv) ++ [.own (.lst (acc ++ [left[v.toNat]]))]) := by
    unfold fAppend
    dsimp only
    rw [tn_get]
    dsimp only
    rw [if_pos (by rw [sizeLine_eq]; omega), tn_set]
  have s1 : ∀ C, sliceV false (.lst left) none (some v) C = .ok (.lst (left.take v.toNat)) C := fun C => by
    unfold sliceV
    rw [rd_lst]
    dsimp only
    rw [cut_to v0 v1]; rfl
  have s2 : ∀ C, sliceV false (.lst left) (some (v + 1)) none C = .ok (.lst (left.drop (v.toNat + 1))) C := fun C => by
    unfold sliceV
    rw [rd_lst]
    dsimp only
    rw [cut_from v0 v1]; rfl
  have ad : (left.take v.toNat).length + (left.drop (v.toNat + 1)).length ≤ sizeLine := by
    rw [List.length_take, List.length_drop, sizeLine_eq]; omega
  refine ⟨left[v.toNat], left.take v.toNat ++ left.drop (v.toNat + 1), d1, some (.int v), ?_, take_perm hv, b1⟩
  simp [bLen_lst, e1, hat, g1, g2, mSlice, mNo, mSo, s1, s2, addR_lst ad]
end FH
/-! SpG: a mixed row, whole. -/
namespace FH
open PySem L2
theorem set_same {C : Tab} {j : Nat} {x : Cell} (h : C[j]? = some x) : C.set j x = C := by
  refine List.ext_getElem? fun i => ?_
  by_cases e : j = i
  · subst e; rw [List.getElem?_set_self (get_lt h), h]
  · rw [List.getElem?_set_ne e]
theorem bList_lst {own : Bool} {xs : List TV} {C : Tab} : bList own [.lst xs] C = alc own (.lst xs) C := rfl
theorem sp_mixed {C : Tab} {j : Nat} {d : Dr} {k : Nat} {xs : List TV} (h : C[j]? = some (.own d.tv)) (hb : d.bd (xs.length + k)) (hl : xs.length < 5000) (hp : ∀ x ∈ xs, x.pl = true) :
    ∃ (ys : List TV) (d' : Dr), F_law_mixed [.cel j, .lst xs] C = .ok (.lst ys) (C.set j (.own d'.tv)) ∧ ys.Perm xs ∧ d'.bd k := by
  have hj := get_lt h
  have hset := set_same h
  obtain ⟨s', C', e2, ⟨left, acc, d2, a, e, rfl, rfl, hm, hperm, hb2⟩, _⟩ := wh_inv (t := mB (mOp neI (mVar 2) (mLst false mNil)))
    (body := (nSeq (nSet 4 (mCall F_law_draw [] (mCons (mVar 0) (mCons (mB1 bLen (mCons (mVar 2) mNil)) mNil))))
  (nSeq (nExpr (mBM tyL fAppend (mVar 3) (mCons (mOp ixT (mVar 2) (mVar 4)) mNil)))
  (nSet 2 (mOp (addI false) (mSlice false (mVar 2) mNo (mSo (mVar 4))) (mSlice false (mVar 2) (mSo (mOp (addI false) (mVar 4) (mC (.int 1)))) mNo))))))
    (I := fun m s C1 => ∃ (left acc : List TV) (d2 : Dr) (a e : Option TV), s = [some (.cel j), a, some (.lst left), some (.cel C.length), e] ∧ C1 = C.set j (.own d2.tv) ++ [.own (.lst acc)] ∧
      m = left.length ∧ (acc ++ left).Perm xs ∧ d2.bd (left.length + k))
    (fun m s C1 ⟨left, acc, d2, a, e, es, eC, hm, hperm, hb⟩ => by
      subst es; subst eC; subst hm
      have hlen := hperm.length_eq
      rw [List.length_append] at hlen
      have ht : (mB (mOp neI (mVar 2) (mLst false mNil))) [some (.cel j), a, some (.lst left), some (.cel C.length), e] (C.set j (Cell.own d2.tv) ++ [Cell.own (.lst acc)]) = .ok (!left.isEmpty) (C.set j (Cell.own d2.tv) ++ [Cell.own (.lst acc)]) := by
        simp [neI_empty]
      refine ⟨_, _, ht, ?_⟩
      cases left with
      | nil => exact .inr ⟨rfl, [], acc, d2, a, e, rfl, rfl, rfl, hperm, hb⟩
      | cons y ys =>
        obtain ⟨x, rest, d3, e3, q, pm, b3⟩ := sp_turn (C := C) (j := j) (d := d2) (k := ys.length + k) (left := y :: ys) (acc := acc) (a := a) (e := e) hj (by
          have z : (y :: ys).length + k = ys.length + k + 1 := by simp; omega
          rw [z] at hb; exact hb) (by simp) (by omega) _ rfl
        have hr : rest.length = ys.length := by have := pm.length_eq; simp at this; omega
        refine .inl ⟨rfl, _, _, rest.length, q, by simp; omega, rest, acc ++ [x], d3, a, e3, rfl, rfl, rfl, ?_, by rw [hr]; exact b3⟩
        rw [List.append_assoc]
        exact (List.Perm.append_left acc pm.symm).trans hperm)
    100000 xs.length [some (.cel j), some (.lst xs), some (.lst xs), some (.cel C.length), none] (C.set j (.own d.tv) ++ [.own (.lst [])]) (by omega)
    ⟨xs, [], d, some (.lst xs), none, rfl, rfl, rfl, List.Perm.refl _, hb⟩
  have hnil : left = [] := List.length_eq_zero_iff.mp hm.symm
  subst hnil
  rw [List.append_nil] at hperm
  refine ⟨acc, d2, ?_, hperm, by simpa using hb2⟩
  have s0 : st0 5 [TV.cel j, .lst xs] = [some (.cel j), some (.lst xs), none, none, none] := rfl
  have fz := fzv_own (C := C.set j (.own d2.tv) ++ [.own (.lst acc)]) (n := C.length) (u := .lst acc) tn_get
  have hpl : (TV.lst acc).pl = true := pl_lst fun x hx => hp x (hperm.subset hx)
  unfold F_law_mixed ofM
  rw [s0]
  have n1 : (nPar 2 3 (mCons (mB1 (bList false) (mCons (mVar 1) mNil)) (mCons (mLst true mNil) mNil))) [some (.cel j), some (.lst xs), none, none, none] C = .nx [some (.cel j), some (.lst xs), some (.lst xs), some (.cel C.length), none] (C.set j (Cell.own d.tv) ++ [Cell.own (.lst [])]) := by
    rw [hset]
    simp [bList_lst]
  have n3 : (nRet (mFz (mVar 3))) [some (.cel j), a, some (.lst []), some (.cel C.length), e] (C.set j (Cell.own d2.tv) ++ [Cell.own (.lst acc)]) = .rt (.lst acc) ((C.set j (Cell.own d2.tv) ++ [Cell.own (.lst acc)]).set C.length (.frz (.lst acc))) := by
    simp only [↓bind_bnd, ↓sr_srd, ↓seq_sqd, bnd_ok, srd_ok, sqd_nx, sqd_rt, nRet_ev, mFz_ev, mVar_ev, List.getElem?_cons_succ, List.getElem?_cons_zero, rdS_some, bind_ok, fz, sr_ok]
  have ev : m_law_mixed [some (.cel j), some (.lst xs), none, none, none] C = .rt (.lst acc) ((C.set j (Cell.own d2.tv) ++ [Cell.own (.lst acc)]).set C.length (.frz (.lst acc))) := by
    unfold m_law_mixed
    rw [nSeq_ev, n1, seq_nx, nSeq_ev, e2, seq_nx, n3]
  rw [ev, tn_set]
  exact gcT_set hpl (Dr.tv_pl d2)
end FH
/-! SpH: labels. -/
namespace FH
open PySem L2
theorem putT_mem {D : List (Key × TV)} {k : Key} {v : TV} {kv : Key × TV} (h : kv ∈ putT D k v) : kv ∈ D ∨ kv = (k, v) := by
  unfold putT at h
  split at h
  · obtain ⟨p, hp, rfl⟩ := List.mem_map.mp h
    by_cases e : p.1 = k
    · rw [if_pos e]; exact .inr (by rw [e])
    · rw [if_neg e]; exact .inl hp
  · rcases List.mem_append.mp h with h | h
    · exact .inl h
    · exact .inr (by simpa using h)
theorem putT_keys (D : List (Key × TV)) (k : Key) (v : TV) : (k ∈ D.map (·.1) ∧ (putT D k v).map (·.1) = D.map (·.1)) ∨ (k ∉ D.map (·.1) ∧ (putT D k v).map (·.1) = D.map (·.1) ++ [k]) := by
  unfold putT
  by_cases h : k ∈ D.map (·.1)
  · have e : (D.any fun kv => decide (kv.1 = k)) = true := by
      obtain ⟨p, hp, e⟩ := List.mem_map.mp h
      exact List.any_eq_true.mpr ⟨p, hp, decide_eq_true e⟩
    refine .inl ⟨h, ?_⟩
    rw [if_pos e, List.map_map]
    refine List.map_congr_left fun kv _ => ?_
    show (if kv.1 = k then (kv.1, v) else kv).1 = kv.1
    split <;> rfl
  · have e : ¬ (D.any fun kv => decide (kv.1 = k)) = true := fun z => by
      obtain ⟨p, hp, e⟩ := List.any_eq_true.mp z
      exact h (List.mem_map.mpr ⟨p, hp, of_decide_eq_true e⟩)
    refine .inr ⟨h, ?_⟩
    rw [if_neg e]; simp
theorem putT_nodup {D : List (Key × TV)} {k : Key} {v : TV} (h : (D.map (·.1)).Nodup) : ((putT D k v).map (·.1)).Nodup := by
  rcases putT_keys D k v with ⟨_, e⟩ | ⟨hk, e⟩ <;> rw [e]
  · exact h
  · exact List.nodup_append.mpr ⟨h, by simp, fun a ha b hb eq => by simp at hb; subst hb; exact hk (eq ▸ ha)⟩
theorem putT_len {D : List (Key × TV)} {k : Key} {v : TV} : (putT D k v).length ≤ D.length + 1 := by
  unfold putT; split <;> simp
/-- a dict of labels: texts to texts of ns, no key twice -/
structure LD (ns : List Str) (D : List (Key × TV)) : Prop where
  m : ∀ kv ∈ D, ∃ a b : Str, kv = (.inr a, .str b) ∧ a ∈ ns ∧ b ∈ ns
  nd : (D.map (·.1)).Nodup
theorem LD.put {ns : List Str} {D : List (Key × TV)} (h : LD ns D) {a b : Str} (ha : a ∈ ns) (hb : b ∈ ns) : LD ns (putT D (.inr a) (.str b)) :=
  ⟨fun kv hkv => (putT_mem hkv).elim (h.m kv) fun e => ⟨a, b, e, ha, hb⟩, putT_nodup h.nd⟩
theorem key_put {D : List (Key × TV)} {k : Key} {v : TV} : k ∈ (putT D k v).map (·.1) := by
  rcases putT_keys D k v with ⟨hk, e⟩ | ⟨hk, e⟩ <;> rw [e]
  · exact hk
  · simp
theorem key_keep {D : List (Key × TV)} {k k' : Key} {v : TV} (h : k' ∈ D.map (·.1)) : k' ∈ (putT D k v).map (·.1) := by
  rcases putT_keys D k v with ⟨hk, e⟩ | ⟨hk, e⟩ <;> rw [e]
  · exact h
  · exact List.mem_append_left _ h
end FH
/-! SpI: one label. -/
namespace FH
open PySem L2
/-- what a row of the loop does: one more label for the name, or none; so many draws at most -/
def LabStep (C : Tab) (j : Nat) (ns : List Str) (nm : Str) (n : SM) (c : Nat) : Prop := ∀ (k : Nat) (d : Dr) (D : List (Key × TV)) (s : Slots), s[0]? = some (some (.cel j)) → s[5]? = some (some (.lst (ns.map .str))) → s[6]? = some (some (.cel C.length)) → s[8]? = some (some (.str nm)) → d.bd (k + c) → LD ns D → D.length < 5000 →
  ∃ (d' : Dr) (D' : List (Key × TV)), n s (C.set j (.own d.tv) ++ [.own (.dct D)]) = .nx s (C.set j (.own d'.tv) ++ [.own (.dct D')]) ∧ d'.bd k ∧ LD ns D' ∧ D'.length ≤ D.length + 1 ∧ (∀ a ∈ D.map (·.1), a ∈ D'.map (·.1)) ∧ (D' = D ∨ Sum.inr nm ∈ D'.map (·.1))
/-- the value of a row: a name, after at most c draws -/
def LabVal (C : Tab) (j : Nat) (ns : List Str) (m : EM TV) (c : Nat) (s : Slots) : Prop := ∀ (k : Nat) (d : Dr) (y : Cell), d.bd (k + c) → ∃ (d' : Dr) (b : Str), m s (C.set j (.own d.tv) ++ [y]) = .ok (.str b) (C.set j (.own d'.tv) ++ [y]) ∧ b ∈ ns ∧ d'.bd k
theorem lab_put {C : Tab} {j : Nat} {ns : List Str} {nm : Str} {m : EM TV} {c k : Nat} {d : Dr} {D : List (Key × TV)} {s : Slots} (hn : nm ∈ ns) (h6 : s[6]? = some (some (.cel C.length))) (h8 : s[8]? = some (some (.str nm))) (hb : d.bd (k + c)) (hD : LD ns D) (hl : D.length < 5000) (hv : LabVal C j ns m c s) :
    ∃ (d' : Dr) (D' : List (Key × TV)), nSub m (mVar 6) (mVar 8) s (C.set j (.own d.tv) ++ [.own (.dct D)]) = .nx s (C.set j (.own d'.tv) ++ [.own (.dct D')]) ∧ d'.bd k ∧ LD ns D' ∧ D'.length ≤ D.length + 1 ∧ (∀ a ∈ D.map (·.1), a ∈ D'.map (·.1)) ∧ Sum.inr nm ∈ D'.map (·.1) := by
  obtain ⟨d', b, e, hbn, b'⟩ := hv k d (.own (.dct D)) hb
  refine ⟨d', putT D (.inr nm) (.str b), ?_, b', hD.put hn hbn, putT_len, fun a h => key_keep h, key_put⟩
  have hs : D.length < sizeLine := by rw [sizeLine_eq]; omega
  have g : setSub (.cel C.length) (.str nm) (.str b) (C.set j (Cell.own d'.tv) ++ [Cell.own (.dct D)]) = some (C.set j (Cell.own d'.tv) ++ [Cell.own (.dct (putT D (.inr nm) (.str b)))]) := by
    rw [setSub_ev, tn_get, setR_dcts hs, tn_set]
  rw [nSub_ev, e, sr_ok, mVar_ev, h6, rdS_some, sr_ok, mVar_ev, h8, rdS_some, sr_ok, g, putC_some]
/-- a name by a number within -/
theorem str_at {ns : List Str} {v : Int} (h0 : 0 ≤ v) (h1 : v < ns.length) : ∃ b ∈ ns, ∀ C, ixT (.lst (ns.map .str)) (.int v) C = .ok (.str b) C := by
  obtain ⟨hv, e⟩ := atI_in (xs := ns.map TV.str) (v := v) h0 (by rw [List.length_map]; exact h1)
  rw [List.length_map] at hv
  refine ⟨ns[v.toNat], List.getElem_mem hv, fun C => ?_⟩
  rw [ixT_ev, rd_lst, ixR_lst, e, List.getElem_map]; rfl
/-- a drawn name -/
theorem lab_draw {C : Tab} {j : Nat} {ns : List Str} {mn : EM TV} {n : Int} {s : Slots} (hj : j < C.length) (h0 : s[0]? = some (some (.cel j))) (h5 : s[5]? = some (some (.lst (ns.map .str)))) (hn : ∀ C, mn s C = .ok (.int n) C) (n0 : 0 < n) (n1 : n ≤ ns.length) (hns : ns.length < 5000) :
    LabVal C j ns (mOp ixT (mVar 5) (mCall F_law_draw [] (mCons (mVar 0) (mCons mn mNil)))) 1 s := by
  intro k d y hb
  obtain ⟨v, d1, e1, v0, v1, b1⟩ := sp_draw (n := n) (k := k) (C := C.set j (.own d.tv) ++ [y]) (tj_get hj) n0 (by omega) hb
  rw [tj_set hj] at e1
  obtain ⟨b, hb, hx⟩ := str_at (ns := ns) v0 (by omega)
  refine ⟨d1, b, ?_, hb, b1⟩
  rw [mOp_ev, mVar_ev, h5, rdS_some, bind_ok, mCall_ev, mCons_ev, mVar_ev, h0, rdS_some, bind_ok, mCons_ev, hn, bind_ok, mNil_ev, bind_ok, bind_ok, bind_ok, List.append_nil, e1, bind_ok, hx]
/-- a picked name -/
theorem lab_pick {C : Tab} {j : Nat} {ns : List Str} {s : Slots} (hj : j < C.length) (h0 : s[0]? = some (some (.cel j))) (h5 : s[5]? = some (some (.lst (ns.map .str)))) (hne : ns ≠ []) (hns : ns.length < 5000) :
    LabVal C j ns (mCall F_law_pick [] (mCons (mVar 0) (mCons (mVar 5) mNil))) 1 s := by
  intro k d y hb
  obtain ⟨x, d1, e1, hx, b1⟩ := sp_pick (k := k) (C := C.set j (.own d.tv) ++ [y]) (xs := ns.map TV.str) (tj_get hj) hb (by simpa using hne) (by rw [List.length_map]; omega) (fun x hx => by
    obtain ⟨b, _, rfl⟩ := List.mem_map.mp hx; rfl)
  rw [tj_set hj] at e1
  obtain ⟨b, hb, rfl⟩ := List.mem_map.mp hx
  refine ⟨d1, b, ?_, hb, b1⟩
  rw [mCall_ev, mCons_ev, mVar_ev, h0, rdS_some, bind_ok, mCons_ev, mVar_ev, h5, rdS_some, bind_ok, mNil_ev, bind_ok, bind_ok, bind_ok, List.append_nil, e1]
/-- a name by its number -/
theorem lab_at {C : Tab} {j : Nat} {ns : List Str} {mn : EM TV} {n : Int} {s : Slots} (h5 : s[5]? = some (some (.lst (ns.map .str)))) (hn : ∀ C, mn s C = .ok (.int n) C) (n0 : 0 ≤ n) (n1 : n < ns.length) : LabVal C j ns (mOp ixT (mVar 5) mn) 0 s := by
  intro k d y hb
  obtain ⟨b, hb', hx⟩ := str_at (ns := ns) n0 n1
  exact ⟨d, b, by rw [mOp_ev, mVar_ev, h5, rdS_some, bind_ok, hn, bind_ok, hx], hb', hb⟩
end FH
/-! SpJ: the turn of the labels' loop. -/
namespace FH
open PySem L2
theorem eqI_int {a b : Int} {C : Tab} : eqI (.int a) (.int b) C = .ok (.bl (decide (a = b))) C := by
  unfold eqI eqI0
  simp only [rd_int, flatT, scal, if_true]
  have e : decide (V.int a = V.int b) = decide (a = b) := by simp
  rw [e]; rfl
theorem bd_less {d : Dr} {k : Nat} (h : d.bd (k + 1)) : d.bd k := by unfold Dr.bd at h ⊢; omega
noncomputable def labRest : SM := (nIf (mB (mOp eqI (mVar 2) (mC (.int 1)))) (nSub (mOp ixT (mVar 5) (mCall F_law_draw [] (mCons (mVar 0) (mCons (mOp (addI false) (mVar 7) (mC (.int 1))) mNil)))) (mVar 6) (mVar 8)) (nIf (mAnd (mB (mOp eqI (mVar 2) (mC (.int 2)))) (mB (mOp ltI (mVar 7) (mVar 4)))) (nSub (mOp ixT (mVar 5) (mOp modI (mB1 bInt (mCons (mOp (addI false) (mVar 7) (mC (.int 1))) mNil)) (mVar 4))) (mVar 6) (mVar 8)) (nIf (mB (mOp eqI (mVar 2) (mC (.int 2)))) (nSub (mOp ixT (mVar 5) (mCall F_law_draw [] (mCons (mVar 0) (mCons (mB1 bMin2 (mCons (mVar 7) (mCons (mOp (addI false) (mVar 4) (mC (.int 3))) mNil))) mNil)))) (mVar 6) (mVar 8)) (nIf (mB (mOp eqI (mVar 2) (mC (.int 3)))) (nSub (mOp ixT (mVar 5) (mCall F_law_draw [] (mCons (mVar 0) (mCons (mVar 4) mNil)))) (mVar 6) (mVar 8)) (nIf (mAnd (mB (mOp eqI (mVar 2) (mC (.int 4)))) (mB (mOp gtI (mCall F_law_draw [] (mCons (mVar 0) (mCons (mC (.int 4)) mNil))) (mC (.int 0))))) (nSub (mOp ixT (mVar 5) (mOp modI (mB1 bInt (mCons (mOp (addI false) (mVar 7) (mVar 4)) mNil)) (mVar 3))) (mVar 6) (mVar 8)) nNil)))))
theorem lab_rest {C : Tab} {j : Nat} {ns : List Str} {nm : Str} {k : Nat} {d : Dr} {D : List (Key × TV)} {s : Slots} {way many som at' : Int} (hj : j < C.length) (hn : nm ∈ ns) (h0 : s[0]? = some (some (.cel j))) (h2 : s[2]? = some (some (.int way))) (h3 : s[3]? = some (some (.int many)))
    (h4 : s[4]? = some (some (.int som))) (h5 : s[5]? = some (some (.lst (ns.map .str)))) (h6 : s[6]? = some (some (.cel C.length))) (h7 : s[7]? = some (some (.int at'))) (h8 : s[8]? = some (some (.str nm)))
    (a0 : 0 ≤ at') (a1 : at' < many) (m1 : many = ns.length) (s0 : 1 ≤ som) (s1 : som ≤ many) (hns : ns.length < 5000) (hb : d.bd (k + 1)) (hD : LD ns D) (hl : D.length < 5000) :
    ∃ (d' : Dr) (D' : List (Key × TV)), labRest s (C.set j (.own d.tv) ++ [.own (.dct D)]) = .nx s (C.set j (.own d'.tv) ++ [.own (.dct D')]) ∧ d'.bd k ∧ LD ns D' ∧ D'.length ≤ D.length + 1 ∧ (∀ a ∈ D.map (·.1), a ∈ D'.map (·.1)) := by
  have way_eq : ∀ (i : Int) C, mB (mOp eqI (mVar 2) (mC (.int i))) s C = .ok (decide (way = i)) C := fun i C => by
    rw [mB_ev, mOp_ev, mVar_ev, h2, rdS_some, bind_ok, mC_ev, bind_ok, eqI_int, bind_ok, blOf_bl]
  have add1 : ∀ C, mOp (addI false) (mVar 7) (mC (.int 1)) s C = .ok (.int (at' + 1)) C := fun C => by
    rw [mOp_ev, mVar_ev, h7, rdS_some, bind_ok, mC_ev, bind_ok, addI_ev, rd_int, rd_int, addR_int]
  have add3 : ∀ C, mOp (addI false) (mVar 4) (mC (.int 3)) s C = .ok (.int (som + 3)) C := fun C => by
    rw [mOp_ev, mVar_ev, h4, rdS_some, bind_ok, mC_ev, bind_ok, addI_ev, rd_int, rd_int, addR_int]
  have adds : ∀ C, mOp (addI false) (mVar 7) (mVar 4) s C = .ok (.int (at' + som)) C := fun C => by
    rw [mOp_ev, mVar_ev, h7, rdS_some, bind_ok, mVar_ev, h4, rdS_some, bind_ok, addI_ev, rd_int, rd_int, addR_int]
  have lt : ∀ C, mB (mOp ltI (mVar 7) (mVar 4)) s C = .ok (decide (at' < som)) C := fun C => by
    rw [mB_ev, mOp_ev, mVar_ev, h7, rdS_some, bind_ok, mVar_ev, h4, rdS_some, bind_ok, ltI_int, bind_ok, blOf_bl]
  have fin : ∀ {n : SM}, (∃ (d' : Dr) (D' : List (Key × TV)), n s (C.set j (.own d.tv) ++ [.own (.dct D)]) = .nx s (C.set j (.own d'.tv) ++ [.own (.dct D')]) ∧ d'.bd k ∧ LD ns D' ∧ D'.length ≤ D.length + 1 ∧ (∀ a ∈ D.map (·.1), a ∈ D'.map (·.1)) ∧ Sum.inr nm ∈ D'.map (·.1)) →
      ∃ (d' : Dr) (D' : List (Key × TV)), n s (C.set j (.own d.tv) ++ [.own (.dct D)]) = .nx s (C.set j (.own d'.tv) ++ [.own (.dct D')]) ∧ d'.bd k ∧ LD ns D' ∧ D'.length ≤ D.length + 1 ∧ (∀ a ∈ D.map (·.1), a ∈ D'.map (·.1)) := fun ⟨d', D', e, q1, q2, q3, q4, _⟩ => ⟨d', D', e, q1, q2, q3, q4⟩
  unfold labRest
  rw [nIf_ev, way_eq, sr_ok]
  by_cases w1 : way = 1
  · rw [if_pos (decide_eq_true w1)]
    exact fin (lab_put hn h6 h8 hb hD hl (lab_draw hj h0 h5 add1 (by omega) (by omega) hns))
  · rw [if_neg (by simpa using w1), nIf_ev, mAnd_ev, way_eq, bind_ok]
    by_cases w2 : way = 2
    · rw [if_pos (decide_eq_true w2), lt, sr_ok]
      by_cases ha : at' < som
      · rw [if_pos (decide_eq_true ha)]
        obtain ⟨q0, q1⟩ := fmod_bd (at' + 1) (m := som) (by omega)
        refine fin (lab_put (c := 0) hn h6 h8 (bd_less hb) hD hl (lab_at h5 (n := (at' + 1).fmod som) (fun C => ?_) q0 (by omega)))
        rw [mOp_ev, mB1_ev, mCons_ev, add1, bind_ok, mNil_ev, bind_ok, bind_ok, bInt_int, bind_ok, mVar_ev, h4, rdS_some, bind_ok, modI_int (by omega)]
      · rw [if_neg (by simpa using ha), nIf_ev, way_eq, sr_ok, if_pos (decide_eq_true w2)]
        refine fin (lab_put hn h6 h8 hb hD hl (lab_draw hj h0 h5 (n := if som + 3 < at' then som + 3 else at') (fun C => ?_) (by split <;> omega) (by split <;> omega) hns))
        rw [mB1_ev, mCons_ev, mVar_ev, h7, rdS_some, bind_ok, mCons_ev, add3, bind_ok, mNil_ev, bind_ok, bind_ok, bind_ok, bMin2_int]
    · rw [if_neg (by simpa using w2), sr_ok, if_neg (by decide), nIf_ev, way_eq, sr_ok, if_neg (by simpa using w2), nIf_ev, way_eq, sr_ok]
      by_cases w3 : way = 3
      · rw [if_pos (decide_eq_true w3)]
        refine fin (lab_put hn h6 h8 hb hD hl (lab_draw hj h0 h5 (n := som) (fun C => ?_) (by omega) (by omega) hns))
        rw [mVar_ev, h4, rdS_some]
      · rw [if_neg (by simpa using w3), nIf_ev, mAnd_ev, way_eq, bind_ok]
        by_cases w4 : way = 4
        · rw [if_pos (decide_eq_true w4)]
          obtain ⟨v, d1, e1, v0, v1, b1⟩ := sp_draw (n := 4) (k := k) (C := C.set j (.own d.tv) ++ [.own (.dct D)]) (tj_get hj) (by decide) (by decide) hb
          rw [tj_set hj] at e1
          rw [mB_ev, mOp_ev, mCall_ev, mCons_ev, mVar_ev, h0, rdS_some, bind_ok, mCons_ev, mC_ev, bind_ok, mNil_ev, bind_ok, bind_ok, bind_ok, List.append_nil, e1, bind_ok, mC_ev, bind_ok, gtI_int, bind_ok, blOf_bl, sr_ok]
          by_cases hv : 0 < v
          · rw [if_pos (decide_eq_true hv)]
            obtain ⟨q0, q1⟩ := fmod_bd (at' + som) (m := many) (by omega)
            obtain ⟨d', D', e, r1, r2, r3, r4, _⟩ := lab_put (c := 0) (d := d1) hn h6 h8 b1 hD hl (lab_at (j := j) (C := C) h5 (mn := mOp modI (mB1 bInt (mCons (mOp (addI false) (mVar 7) (mVar 4)) mNil)) (mVar 3)) (n := (at' + som).fmod many) (fun C => by
              rw [mOp_ev, mB1_ev, mCons_ev, adds, bind_ok, mNil_ev, bind_ok, bind_ok, bInt_int, bind_ok, mVar_ev, h3, rdS_some, bind_ok, modI_int (by omega)]) q0 (by omega))
            exact ⟨d', D', e, r1, r2, r3, r4⟩
          · rw [if_neg (by simpa using hv)]
            exact ⟨d1, D, rfl, b1, hD, by omega, fun a h => h⟩
        · rw [if_neg (by simpa using w4), sr_ok, if_neg (by decide)]
          exact ⟨d, D, rfl, bd_less hb, hD, by omega, fun a h => h⟩
end FH
/-! SpK: labels, whole. -/
namespace FH
open PySem L2
theorem bd_le {d : Dr} {a b : Nat} (h : d.bd b) (l : a ≤ b) : d.bd a := by unfold Dr.bd at h ⊢; omega
theorem enum_at {ns : List Str} {i : Nat} {x : TV} {xs : List TV} (h : x :: xs = (enumT (ns.map .str)).drop i) : ∃ hi : i < ns.length, x = .tup [.int (i : Nat), .str ns[i]] ∧ xs = (enumT (ns.map .str)).drop (i + 1) := by
  have hl : (enumT (ns.map TV.str)).length = ns.length := by simp [enumT]
  have hi : i < (enumT (ns.map TV.str)).length := by
    rcases Nat.lt_or_ge i (enumT (ns.map TV.str)).length with z | z
    · exact z
    · rw [List.drop_eq_nil_of_le z] at h; cases h
  rw [List.drop_eq_getElem_cons hi] at h
  have hi' : i < ns.length := by omega
  refine ⟨hi', ?_, (List.cons.inj h).2⟩
  rw [(List.cons.inj h).1]
  have e := enumT_get (xs := ns.map TV.str) (i := i) (t := .str ns[i]) (by simp [hi'])
  rw [List.getElem?_eq_getElem hi] at e
  exact Option.some.inj e
/-- the loop over the names -/
theorem lab_loop {C C0 : Tab} {j : Nat} {ns : List Str} {k : Nat} {d : Dr} {way many som : Int} {a1 : Option TV} (hj : j < C.length) (m1 : many = ns.length) (s0 : 1 ≤ som) (s1 : som ≤ many) (hns : ns.length < 2000) (hb : d.bd (2 * ns.length + k)) :
    ∃ (s' : Slots) (d' : Dr) (D : List (Key × TV)), loop (gtT [gtN 7, gtN 8]) (nSeq (nSub (mCall F_law_pick [] (mCons (mVar 0) (mCons (mVar 5) mNil))) (mVar 6) (mVar 8)) labRest) none C0 (enumT (ns.map .str)) [some (.cel j), a1, some (.int way), some (.int many), some (.int som), some (.lst (ns.map .str)), some (.cel C.length), none, none] (C.set j (.own d.tv) ++ [.own (.dct [])]) =
      .nx s' (C.set j (.own d'.tv) ++ [.own (.dct D)]) ∧ s'[6]? = some (some (.cel C.length)) ∧ d'.bd k ∧ LD ns D ∧ (∀ a ∈ ns, Sum.inr a ∈ D.map (·.1)) ∧ D.length ≤ 2 * ns.length := by
  obtain ⟨s', C', e, i, D, d2, a, b, hx, hi, rfl, rfl, hD, hl, hk, hb2⟩ := loop_inv (C0 := C0) (gt := gtT [gtN 7, gtN 8]) (body := nSeq (nSub (mCall F_law_pick [] (mCons (mVar 0) (mCons (mVar 5) mNil))) (mVar 6) (mVar 8)) labRest)
    (I := fun xs s C1 => ∃ (i : Nat) (D : List (Key × TV)) (d2 : Dr) (a b : Option TV), xs = (enumT (ns.map .str)).drop i ∧ i ≤ ns.length ∧ s = [some (.cel j), a1, some (.int way), some (.int many), some (.int som), some (.lst (ns.map .str)), some (.cel C.length), a, b] ∧
      C1 = C.set j (.own d2.tv) ++ [.own (.dct D)] ∧ LD ns D ∧ D.length ≤ 2 * i ∧ (∀ q (hq : q < ns.length), q < i → Sum.inr ns[q] ∈ D.map (·.1)) ∧ d2.bd (2 * (ns.length - i) + k))
    (fun x xs s C1 ⟨i, D, d2, a, b, hx, hi, es, eC, hD, hl, hk, hb⟩ => by
      subst es; subst eC
      obtain ⟨hi', ex, exs⟩ := enum_at hx
      subst ex
      have hnm : ns[i] ∈ ns := List.getElem_mem hi'
      have hne : ns ≠ [] := fun z => by rw [z] at hi'; cases hi'
      refine ⟨[some (.cel j), a1, some (.int way), some (.int many), some (.int som), some (.lst (ns.map .str)), some (.cel C.length), some (.int (i : Nat)), some (.str ns[i])], ?_⟩
      generalize hI : ((i : Nat) : Int) = I
      obtain ⟨d3, D3, e3, b3, L3, l3, k3, n3⟩ := lab_put (C := C) (j := j) (ns := ns) (nm := ns[i]) (c := 1) (k := 2 * (ns.length - (i + 1)) + k + 1) (d := d2) (D := D) (s := [some (.cel j), a1, some (.int way), some (.int many), some (.int som), some (.lst (ns.map .str)), some (.cel C.length), some (.int I), some (.str ns[i])]) hnm rfl rfl
        (bd_le hb (by omega)) hD (by omega) (lab_pick hj rfl rfl hne (by omega))
      obtain ⟨d4, D4, e4, b4, L4, l4, k4⟩ := lab_rest (C := C) (j := j) (ns := ns) (nm := ns[i]) (k := 2 * (ns.length - (i + 1)) + k) (d := d3) (D := D3) (s := [some (.cel j), a1, some (.int way), some (.int many), some (.int som), some (.lst (ns.map .str)), some (.cel C.length), some (.int I), some (.str ns[i])]) (way := way) (many := many) (som := som) (at' := I) hj hnm rfl rfl rfl rfl rfl rfl rfl rfl
        (by omega) (by omega) m1 s0 s1 (by omega) b3 L3 (by omega)
      refine ⟨[some (.cel j), a1, some (.int way), some (.int many), some (.int som), some (.lst (ns.map .str)), some (.cel C.length), some (.int I), some (.str ns[i])], C.set j (.own d4.tv) ++ [.own (.dct D4)], rfl, ?_, i + 1, D4, d4, some (.int I), some (.str ns[i]), exs, hi', rfl, rfl, L4, by omega, fun q hq hqi => ?_, b4⟩
      · rw [nSeq_ev, e3, seq_nx, e4]
      · by_cases z : q = i
        · subst z; exact k4 _ n3
        · exact k4 _ (k3 _ (hk q hq (by omega))))
    (enumT (ns.map .str)) [some (.cel j), a1, some (.int way), some (.int many), some (.int som), some (.lst (ns.map .str)), some (.cel C.length), none, none] (C.set j (.own d.tv) ++ [.own (.dct [])])
    ⟨0, [], d, none, none, rfl, Nat.zero_le _, rfl, rfl, ⟨(by intro kv h; cases h), List.nodup_nil⟩, by simp, fun q _ h => absurd h (Nat.not_lt_zero q), by simpa using hb⟩
  have hfull : ns.length ≤ i := by
    rcases Nat.lt_or_ge i ns.length with z | z
    · have hl2 : (enumT (ns.map TV.str)).length = ns.length := by simp [enumT]
      have := congrArg List.length hx
      rw [List.length_drop, hl2] at this
      simp at this; omega
    · exact z
  refine ⟨_, d2, D, e, rfl, bd_le hb2 (by omega), hD, fun a ha => ?_, by omega⟩
  obtain ⟨q, hq, rfl⟩ := List.getElem_of_mem ha
  exact hk q hq (by omega)
end FH
/-! SpL: labels, the def. -/
namespace FH
open PySem L2
theorem pl_ld {ns : List Str} {D : List (Key × TV)} (h : LD ns D) : (TV.dct D).pl = true := by
  have m := h.m
  clear h
  show TV.low.lowk 0 D = true
  induction D with
  | nil => rfl
  | cons kv D ih =>
    obtain ⟨a, b, rfl, _, _⟩ := m _ List.mem_cons_self
    simp [TV.low.lowk, TV.low, ih fun z hz => m z (List.mem_cons_of_mem _ hz)]
theorem sp_labels {C : Tab} {j : Nat} {d : Dr} {k most : Nat} {M : Int} (hM : M = most) (h : C[j]? = some (.own d.tv)) (m0 : 1 ≤ most) (m1 : most ≤ 60) (hb : d.bd (10 * most + 4 + k)) :
    ∃ (ns : List Str) (D : List (Key × TV)) (d' : Dr), F_law_labels [.cel j, .int M] C = .ok (.dct D) (C.set j (.own d'.tv)) ∧ LD ns D ∧ (∀ x ∈ ns, gname x) ∧ (∀ a ∈ ns, Sum.inr a ∈ D.map (·.1)) ∧ ns ≠ [] ∧ ns.length ≤ most ∧ D.length ≤ 2 * ns.length ∧ d'.bd k := by
  have hj := get_lt h
  have gs : ∀ d : Dr, (C.set j (.own d.tv))[j]? = some (.own d.tv) := fun d => List.getElem?_set_self hj
  have ss : ∀ (d e : Dr), (C.set j (.own d.tv)).set j (.own e.tv) = C.set j (.own e.tv) := fun d e => List.set_set _
  obtain ⟨way, d1, e1, w0, w1, b1⟩ := sp_draw (n := 5) (k := 10 * most + 3 + k) h (by decide) (by decide) (bd_le hb (by omega))
  obtain ⟨v, d2, e2, v0, v1, b2⟩ := sp_draw (n := M) (k := 10 * most + 2 + k) (gs d1) (by omega) (by omega) (bd_le b1 (by omega))
  rw [ss] at e2
  obtain ⟨u, d3, e3, u0, u1, b3⟩ := sp_draw (n := 1 + v) (k := 10 * most + 1 + k) (gs d2) (by omega) (by omega) (bd_le b2 (by omega))
  rw [ss] at e3
  obtain ⟨names, d4, e4, nl, ng, b4⟩ := sp_names (many := (1 + v).toNat) (M := 1 + v) (k := 3 * (1 + v).toNat + k) (by omega) (gs d3) (by omega) (bd_le b3 (by omega))
  rw [ss] at e4
  obtain ⟨ys, d5, e5, pm, b5⟩ := sp_mixed (xs := names.map .str) (k := 2 * (1 + v).toNat + k) (gs d4) (bd_le b4 (by rw [List.length_map]; omega)) (by rw [List.length_map]; omega) (fun x hx => by obtain ⟨b, _, rfl⟩ := List.mem_map.mp hx; rfl)
  rw [ss] at e5
  obtain ⟨ns, pn, ey⟩ : ∃ ns : List Str, ns.Perm names ∧ ys = ns.map .str := by
    have all : ∀ y ∈ ys, ∃ b : Str, y = .str b := fun y hy => by obtain ⟨b, _, e⟩ := List.mem_map.mp (pm.subset hy); exact ⟨b, e.symm⟩
    obtain ⟨ns, e⟩ : ∃ ns : List Str, ys = ns.map .str := by
      clear pm e5
      induction ys with
      | nil => exact ⟨[], rfl⟩
      | cons y ys ih =>
        obtain ⟨b, rfl⟩ := all y List.mem_cons_self
        obtain ⟨ns, rfl⟩ := ih fun z hz => all z (List.mem_cons_of_mem _ hz)
        exact ⟨b :: ns, rfl⟩
    subst e
    refine ⟨ns, ?_, rfl⟩
    have q := pm.filterMap (fun t => match t with | .str x => some x | _ => none)
    rw [List.filterMap_map, List.filterMap_map] at q
    have idm : ∀ l : List Str, List.filterMap ((fun t => match t with | TV.str x => some x | _ => none) ∘ TV.str) l = l := fun l => by
      induction l with
      | nil => rfl
      | cons a l ih => rw [List.filterMap_cons]; simp only [Function.comp]; rw [show List.filterMap _ l = l from ih]
    rw [idm, idm] at q
    exact q
  subst ey
  have hnl : ns.length = (1 + v).toNat := pn.length_eq.trans nl
  have g1 : (C.set j (.own d5.tv)).length = C.length := by simp
  obtain ⟨s', d6, D, e6, s6, b6, L6, k6, l6⟩ := lab_loop (C := C) (C0 := C.set j (.own d5.tv) ++ [.own (.dct [])]) (j := j) (ns := ns) (k := k) (d := d5) (way := way) (many := 1 + v) (som := 1 + u) (a1 := some (.int M)) hj (by omega) (by omega) (by omega) (by omega) (bd_le b5 (by omega))
  refine ⟨ns, D, d6, ?_, L6, fun x hx => ng x (pn.subset hx), k6, fun z => by rw [z] at hnl; simp at hnl; omega, by omega, l6, b6⟩
  have s0 : st0 9 [TV.cel j, .int M] = [some (.cel j), some (.int M), none, none, none, none, none, none, none] := rfl
  have fz := fzv_own (C := C.set j (.own d6.tv) ++ [.own (.dct D)]) (n := C.length) (u := .dct D) tn_get
  have nn : m_law_labels = nSeq (nPar 2 3 (mCons (mCall F_law_draw [] (mCons (mVar 0) (mCons (mC (.int 5)) mNil))) (mCons (mOp (addI false) (mC (.int 1)) (mCall F_law_draw [] (mCons (mVar 0) (mCons (mVar 1) mNil)))) mNil)))
    (nSeq (nPar3 4 5 6 (mCons (mOp (addI false) (mC (.int 1)) (mCall F_law_draw [] (mCons (mVar 0) (mCons (mVar 3) mNil)))) (mCons (mCall F_law_mixed [] (mCons (mVar 0) (mCons (mCall F_law_names [] (mCons (mVar 0) (mCons (mVar 3) mNil))) mNil))) (mCons (mDic0 true) mNil))))
    (nSeq (nFor (mEnum (mCons (mVar 5) mNil)) (gtT [(gtN 7), (gtN 8)]) (nSeq (nSub (mCall F_law_pick [] (mCons (mVar 0) (mCons (mVar 5) mNil))) (mVar 6) (mVar 8)) labRest)) (nRet (mFz (mVar 6))))) := rfl
  have n1 : (nPar 2 3 (mCons (mCall F_law_draw [] (mCons (mVar 0) (mCons (mC (.int 5)) mNil))) (mCons (mOp (addI false) (mC (.int 1)) (mCall F_law_draw [] (mCons (mVar 0) (mCons (mVar 1) mNil)))) mNil))) [some (.cel j), some (.int M), none, none, none, none, none, none, none] C =
      .nx [some (.cel j), some (.int M), some (.int way), some (.int (1 + v)), none, none, none, none, none] (C.set j (Cell.own d2.tv)) := by
    simp [e1, e2]
  have n2 : (nPar3 4 5 6 (mCons (mOp (addI false) (mC (.int 1)) (mCall F_law_draw [] (mCons (mVar 0) (mCons (mVar 3) mNil)))) (mCons (mCall F_law_mixed [] (mCons (mVar 0) (mCons (mCall F_law_names [] (mCons (mVar 0) (mCons (mVar 3) mNil))) mNil))) (mCons (mDic0 true) mNil)))) [some (.cel j), some (.int M), some (.int way), some (.int (1 + v)), none, none, none, none, none] (C.set j (Cell.own d2.tv)) =
      .nx [some (.cel j), some (.int M), some (.int way), some (.int (1 + v)), some (.int (1 + u)), some (.lst (ns.map .str)), some (.cel C.length), none, none] (C.set j (Cell.own d5.tv) ++ [Cell.own (.dct [])]) := by
    simp [e3, e4, e5, g1]
  have n3 : nFor (mEnum (mCons (mVar 5) mNil)) (gtT [(gtN 7), (gtN 8)]) (nSeq (nSub (mCall F_law_pick [] (mCons (mVar 0) (mCons (mVar 5) mNil))) (mVar 6) (mVar 8)) labRest) [some (.cel j), some (.int M), some (.int way), some (.int (1 + v)), some (.int (1 + u)), some (.lst (ns.map .str)), some (.cel C.length), none, none] (C.set j (Cell.own d5.tv) ++ [Cell.own (.dct [])]) = .nx s' (C.set j (Cell.own d6.tv) ++ [Cell.own (.dct D)]) := by
    have he : (mEnum (mCons (mVar 5) mNil)) [some (.cel j), some (.int M), some (.int way), some (.int (1 + v)), some (.int (1 + u)), some (.lst (ns.map .str)), some (.cel C.length), none, none] (C.set j (Cell.own d5.tv) ++ [Cell.own (.dct [])]) = .ok (enumT (ns.map .str), none) (C.set j (Cell.own d5.tv) ++ [Cell.own (.dct [])]) := rfl
    rw [nFor_ev, he, sr_ok]
    dsimp only
    rw [e6]; rfl
  have n4 : (nRet (mFz (mVar 6))) s' (C.set j (Cell.own d6.tv) ++ [Cell.own (.dct D)]) = .rt (.dct D) ((C.set j (Cell.own d6.tv) ++ [Cell.own (.dct D)]).set C.length (.frz (.dct D))) := by
    simp only [↓bind_bnd, ↓sr_srd, ↓seq_sqd, bnd_ok, srd_ok, sqd_nx, sqd_rt, nRet_ev, mFz_ev, mVar_ev, s6, rdS_some, bind_ok, fz, sr_ok]
  have ev : m_law_labels [some (.cel j), some (.int M), none, none, none, none, none, none, none] C = .rt (.dct D) ((C.set j (Cell.own d6.tv) ++ [Cell.own (.dct D)]).set C.length (.frz (.dct D))) := by
    rw [nn, nSeq_ev, n1, seq_nx, nSeq_ev, n2, seq_nx, nSeq_ev, n3, seq_nx, n4]
  unfold F_law_labels ofM
  rw [s0, ev, tn_set]
  exact gcT_set (pl_ld L6) (Dr.tv_pl d6)
end FH
/-! SpM: dicts of texts as lists of pairs; the state at the beginning. -/
namespace FH
open PySem L2
def toD (ps : List (Str × Str)) : List (Key × TV) := ps.map fun p => (.inr p.1, .str p.2)
theorem LD.pairs {ns : List Str} : ∀ {D : List (Key × TV)}, (∀ kv ∈ D, ∃ a b : Str, kv = (.inr a, .str b) ∧ a ∈ ns ∧ b ∈ ns) → ∃ ps, D = toD ps ∧ ∀ p ∈ ps, p.1 ∈ ns ∧ p.2 ∈ ns
  | [], _ => ⟨[], rfl, fun _ h => nomatch h⟩
  | kv :: D, h => by
    obtain ⟨a, b, rfl, ha, hb⟩ := h _ List.mem_cons_self
    obtain ⟨ps, rfl, hp⟩ := LD.pairs fun z hz => h z (List.mem_cons_of_mem _ hz)
    exact ⟨(a, b) :: ps, rfl, fun p hpm => by
      rcases List.mem_cons.mp hpm with rfl | q
      · exact ⟨ha, hb⟩
      · exact hp p q⟩
theorem toD_keys (ps : List (Str × Str)) : (toD ps).map (·.1) = (ps.map (·.1)).map Sum.inr := by simp [toD, List.map_map, Function.comp]
theorem toD_nodup {ps : List (Str × Str)} (h : ((toD ps).map (·.1)).Nodup) : (ps.map (·.1)).Nodup := by
  rw [toD_keys] at h
  exact List.Pairwise.of_map _ (fun a b hab e => hab (congrArg Sum.inr e)) h
theorem toD_look : ∀ {ps : List (Str × Str)} {p : Str × Str}, (ps.map (·.1)).Nodup → p ∈ ps → lookT (toD ps) (.inr p.1) = some (.str p.2)
  | [], _, _, h => nomatch h
  | q :: ps, p, nd, h => by
    simp only [List.map_cons, List.nodup_cons] at nd
    rcases List.mem_cons.mp h with rfl | h
    · simp [toD, lookT]
    · have ne : ¬ (Sum.inr q.1 : Key) = .inr p.1 := fun z => nd.1 (by rw [Sum.inr.inj z]; exact List.mem_map_of_mem h)
      have ih := toD_look nd.2 h
      unfold lookT at ih ⊢
      simp only [toD, List.map_cons, List.find?_cons, decide_eq_false ne] at ih ⊢
      exact ih
end FH
/-! SpN: the state at the beginning. -/
namespace FH
open PySem L2
theorem gcT_new {C : Tab} {u : TV} (h : u.pl = true) : gcT C (.cel C.length) (C ++ [.own u]) = .ok (.cel C.length) (C ++ [.own u]) := by
  have kp : Keep C (C ++ [.own u]) := ⟨by simp, fun j c hj hc => by rw [List.getElem?_append_left hj] at hc; exact .inl hc⟩
  have tk : (C ++ [Cell.own u]).take C.length = C := by simp
  have ge : (C ++ [Cell.own u])[C.length]? = some (.own u) := by simp
  have lo : (Cell.own u).low C.length = true := pl_low h _
  unfold gcT
  rw [if_pos kp]
  dsimp only
  rw [if_neg (Nat.lt_irrefl _), ge]
  dsimp only
  rw [if_pos lo, tk]
theorem sp_begin {C : Tab} {cell turn : Int} : ∃ d : Dr, F_law_begin [.int cell, .int turn] C = .ok (.cel C.length) (C ++ [.own d.tv]) ∧ d.bd 1000001 := by
  have p1 : powI (.int 10) (.int 18) C = .ok (.int (10 ^ (18 : Int).toNat)) C := powI_int (by decide) (by decide) (by decide)
  have mk : mulOk 977 turn = true := by simp [mulOk]
  generalize hP : (10 : Int) ^ (18 : Int).toNat = P at p1
  have sz : ([TV.int (if cell - P > 0 then cell - P else 0), .int (cell + 977 * turn), .int 0] : List TV).length ≤ sizeLine := by rw [sizeLine_eq]; simp
  refine ⟨⟨if cell - P > 0 then cell - P else 0, cell + 977 * turn, 0⟩, ?_, by unfold Dr.bd; dsimp only; omega⟩
  have s0 : st0 2 [TV.int cell, .int turn] = [some (.int cell), some (.int turn)] := rfl
  have ev : m_law_begin [some (.int cell), some (.int turn)] C = .rt (.cel C.length) (C ++ [.own (.lst [.int (if cell - P > 0 then cell - P else 0), .int (cell + 977 * turn), .int 0])]) := by
    unfold m_law_begin
    simp only [↓bind_bnd, ↓sr_srd, ↓seq_sqd, bnd_ok, srd_ok, sqd_nx, sqd_rt, nRet_ev, mLst_ev, mCons_ev, mB1_ev, mC_ev, mOp_ev, mVar_ev, mNil_ev, List.getElem?_cons_zero, List.getElem?_cons_succ, rdS_some, bind_ok, p1, subI_int, bMax2_int, mulI_ev, rd_int, mulR_int mk, addI_ev, addR_int, lstV_ok sz, alc_own, sr_ok]
  unfold F_law_begin ofM
  rw [s0, ev]
  exact gcT_new rfl
end FH
/-! SgA: what many laws lean on: texts, dicts of texts, rows of names. -/
namespace FH
open PySem L2
open TL (tl split_join)
open PySem.Spec PyProof.Rows
theorem eqI_str {a b : Str} {C : Tab} : eqI (.str a) (.str b) C = .ok (.bl (decide (a = b))) C := by
  unfold eqI eqI0
  simp only [rd_str, flatT, scal, if_true]
  have e : decide (V.str a = V.str b) = decide (a = b) := by simp
  rw [e]; rfl
theorem sort_strs {C : Tab} {ys : List Str} (h : ys.length < 64) : bSort false [.lst (ys.map .str)] C = .ok (.lst ((srtS ys).map .str)) C := by
  have e : notTup (.lst (ys.map TV.str)) = true := rfl
  unfold bSort bSorted
  simp only [rd_lst, e, if_true, itT, strL_map, if_pos h]
  rfl
theorem lc_filter {C C0 : Tab} {s0 : Slots} {i : Nat} {tt : EM Bool} {f : Str → Bool} (hi : i < s0.length) : ∀ (ks : List Str) (acc : List TV), (∀ a ∈ ks, tt (s0.set i (some (.str a))) C = .ok (f a) C) → acc.length + ks.length < sizeLine →
    lcL (gtN i) tt (mVar i) none C0 s0 (ks.map .str) acc C = .ok (acc ++ (ks.filter f).map .str) C
  | [], acc, _, _ => by simp [lcL]
  | a :: ks, acc, ht, hl => by
    simp only [List.length_cons] at hl
    rw [List.map_cons]
    unfold lcL
    rw [gtN_ev]
    dsimp only
    rw [ht a List.mem_cons_self, bind_ok]
    cases hf : f a with
    | true =>
      rw [if_pos rfl, mVar_ev, List.getElem?_set_self hi, rdS_some, bind_ok, if_pos ⟨by omega, (True.intro : lkOk none C0 C)⟩, lc_filter hi ks _ (fun b hb => ht b (List.mem_cons_of_mem _ hb)) (by simp; omega)]
      simp [List.filter_cons, hf]
    | false =>
      rw [if_neg (by decide), if_pos (show lkOk none C0 C from True.intro), lc_filter hi ks _ (fun b hb => ht b (List.mem_cons_of_mem _ hb)) (by omega)]
      simp [List.filter_cons, hf]
theorem srt_empty {xs : List Str} : ((srtS xs).map TV.str).isEmpty = xs.isEmpty := by
  have h := (srtS_perm xs).length_eq
  cases e : srtS xs with
  | nil => rw [e] at h; cases xs with | nil => rfl | cons a b => cases h
  | cons a b => rw [e] at h; cases xs with | nil => cases h | cons c d => rfl
theorem eqI_empty {left : List TV} {C : Tab} : eqI (.lst left) (.lst []) C = .ok (.bl left.isEmpty) C := by
  unfold eqI eqI0
  simp only [rd_lst, flatT]
  cases left with
  | nil => rfl
  | cons x xs => simp [eqT, flatT, okB]
theorem sp_pickN {C : Tab} {j : Nat} {d : Dr} {k : Nat} {xs : List Str} (h : C[j]? = some (.own d.tv)) (b : d.bd (k + 1)) (h0 : xs ≠ []) (hl : xs.length < 1000000) :
    ∃ (x : Str) (d' : Dr), F_law_pick [.cel j, .lst (xs.map .str)] C = .ok (.str x) (C.set j (.own d'.tv)) ∧ x ∈ xs ∧ d'.bd k := by
  obtain ⟨t, d', e, ht, b'⟩ := sp_pick (xs := xs.map TV.str) h b (by simpa using h0) (by rw [List.length_map]; exact hl) (fun x hx => by obtain ⟨b, _, rfl⟩ := List.mem_map.mp hx; rfl)
  obtain ⟨x, hx, rfl⟩ := List.mem_map.mp ht
  exact ⟨x, d', e, hx, b'⟩
theorem putT_new {ps : List (Str × Str)} {a b : Str} (h : a ∉ ps.map (·.1)) : putT (toD ps) (.inr a) (.str b) = toD (ps ++ [(a, b)]) := by
  unfold putT
  have e : ¬ ((toD ps).any fun kv => decide (kv.1 = Sum.inr a)) = true := fun z => by
    obtain ⟨p, hp, e⟩ := List.any_eq_true.mp z
    have e := of_decide_eq_true e
    obtain ⟨q, hq, rfl⟩ := List.mem_map.mp hp
    exact h (List.mem_map.mpr ⟨q, hq, Sum.inr.inj e⟩)
  rw [if_neg e]; simp [toD]
theorem pl_toD {ps : List (Str × Str)} : (TV.dct (toD ps)).pl = true := by
  show TV.low.lowk 0 (toD ps) = true
  induction ps with
  | nil => rfl
  | cons x xs ih => simp [toD, TV.low.lowk, TV.low]; exact ih
theorem set_id {C : Tab} {j : Nat} {c : Cell} (h : C[j]? = some c) : C.set j c = C := by
  obtain ⟨hj, rfl⟩ := List.getElem?_eq_some_iff.mp h
  exact List.set_getElem_self hj
/-- keys and values of a dict that is well made -/
structure Lab (ps : List (Str × Str)) : Prop where
  nd : (ps.map (·.1)).Nodup
  cl : ∀ p ∈ ps, p.2 ∈ ps.map (·.1)
  nm : ∀ p ∈ ps, gname p.1
  le : ps.length ≤ 60
theorem srtS_nodup {xs : List Str} (h : xs.Nodup) : (srtS xs).Nodup := (srtS_perm xs).nodup_iff.mpr h
theorem wh_inv2 {t : EM Bool} {body : SM} {I : Nat → Slots → Tab → Prop} {J : Slots → Tab → Prop} (step : ∀ m s C, I m s C → ∃ b C1, t s C = .ok b C1 ∧ ((b = true ∧ ∃ s2 C2 m', body s C1 = .nx s2 C2 ∧ m' < m ∧ I m' s2 C2) ∨ (b = false ∧ J s C1))) :
    ∀ (n m : Nat) (s : Slots) (C : Tab), m < n → I m s C → ∃ s' C', nWh t body n s C = .nx s' C' ∧ J s' C'
  | 0, m, s, C, h, _ => absurd h (Nat.not_lt_zero m)
  | n + 1, m, s, C, h, i => by
    obtain ⟨b, C1, h1, h2⟩ := step m s C i
    rcases h2 with ⟨rfl, s2, C2, m', h3, h4, h5⟩ | ⟨rfl, h3⟩
    · obtain ⟨s', C', h6, h7⟩ := wh_inv2 step n m' s2 C2 (by omega) h5
      refine ⟨s', C', ?_, h7⟩
      unfold nWh
      rw [h1]
      simp only [↓bind_bnd, ↓sr_srd, ↓seq_sqd, bnd_ok, srd_ok, sqd_nx, sqd_rt, sr_ok, if_true, h3]
      exact h6
    · refine ⟨s, C1, ?_, h3⟩
      unfold nWh
      rw [h1]
      simp only [↓bind_bnd, ↓sr_srd, ↓seq_sqd, bnd_ok, srd_ok, sqd_nx, sqd_rt, sr_ok, Bool.false_eq_true, if_false]
theorem atI_last {α : Type} {zs : List α} {y : α} : atI (zs ++ [y]) (-1) = some y := by
  have h1 : ¬ (0 : Int) ≤ -1 := by decide
  have h2 : 0 ≤ (-1 : Int) + ((zs ++ [y]).length : Int) := by simp; omega
  have h3 : ((-1 : Int) + ((zs ++ [y]).length : Int)).toNat = zs.length := by simp; omega
  unfold L2.atI ixN
  simp only [if_neg h1]
  have h4 : ∀ (o : Option Nat), o = some zs.length → (o.bind fun j => (zs ++ [y])[j]?) = some y := fun o e => by rw [e]; simp
  apply h4
  simp
  try omega
theorem Lab.home {ps : List (Str × Str)} (L : Lab ps) {y : Str} (h : y ∈ ps.map (·.1)) : ∃ h, (y, h) ∈ ps ∧ h ∈ ps.map (·.1) := by
  obtain ⟨p, hp, rfl⟩ := List.mem_map.mp h
  exact ⟨p.2, hp, L.cl p hp⟩
theorem nd_val {ps : List (Str × Str)} (nd : (ps.map (·.1)).Nodup) {a b c : Str} (h : (a, b) ∈ ps) (h' : (a, c) ∈ ps) : b = c := by
  have e := toD_look nd h
  rw [toD_look nd h'] at e
  simpa using e.symm
section
variable {s : Slots} {C : Tab} {m ma mb mc : EM TV}
@[simp] theorem mAndV_ev : mAndV ma mb s C = (ma s C).bind fun x C1 => match x with
  | .bl b => if b = true then mb s C1 else .ok (.bl false) C1
  | _ => .stuck := rfl
end
section
variable {s : Slots} {C : Tab} {m ma mb mc : EM TV}
@[simp] theorem mChain_ev {f f' : TV → TV → Tab → Res TV} : mChain f f' ma mb mc s C = (ma s C).bind fun x C1 => (mb s C1).bind fun y C2 => (f x y C2).bind fun z C3 => match z with
  | .bl k => if k = true then (mc s C3).bind fun w C4 => f' y w C4 else .ok (.bl false) C3
  | _ => .stuck := rfl
end
section
variable {s : Slots} {C : Tab} {m ma mb mc : EM TV}
@[simp] theorem mFmt_ev : mFmt m s C = (m s C).bind fmtT := rfl
end
section
variable {s : Slots} {C : Tab} {m ma mb mc : EM TV}
@[simp] theorem mJs_ev {ms : List (EM TV)} : mJs ms s C = joinS ms Str.empty s C := rfl
end
section
variable {s : Slots} {C : Tab} {m ma mb mc : EM TV}
@[simp] theorem joinS_nil {acc : Str} : joinS [] acc s C = .ok (.str acc) C := rfl
end
section
variable {s : Slots} {C : Tab} {m ma mb mc : EM TV}
@[simp] theorem joinS_cons {acc : Str} {ms : List (EM TV)} : joinS (m :: ms) acc s C = (m s C).bind fun x C1 => match x with
    | .str y => if (acc ++ y).length ≤ sizeLine then joinS ms (acc ++ y) s C1 else .stuck
    | _ => .stuck := rfl
end
section
variable {s : Slots} {C : Tab} {m ma mb mc : EM TV}
@[simp] theorem fStr0_ev {p : Str → TV} {a : Str} : fStr0 p (.str a) [] C = .ok (p a) C := rfl
end
section
variable {s : Slots} {C : Tab} {m ma mb mc : EM TV}
@[simp] theorem tyS_ev {a : Str} : tyS (.str a) C = true := rfl
end
section
variable {s : Slots} {C : Tab} {m ma mb mc : EM TV}
theorem fmtT_str {y : Str} (h : y.length ≤ sizeLine) : fmtT (.str y) C = .ok (.str y) C := by simp [fmtT, h]
end
section
variable {s : Slots} {C : Tab} {m ma mb mc : EM TV}
theorem blen_str {y : Str} (h : y.length ≤ sizeLine) : bLen [.str y] C = .ok (.int y.length) C := by
  simp only [bLen, rd_str, lenR, if_pos h]
end
theorem low_uni : ∀ c : Nat, 97 ≤ c → c ≤ 122 → Unicode.isAlpha c = true ∧ Unicode.isLower c = true ∧ Unicode.isUpper c = false ∧ Unicode.isTitle c = false := by
  have h : ∀ c ∈ List.range' 97 26, Unicode.isAlpha c = true ∧ Unicode.isLower c = true ∧ Unicode.isUpper c = false ∧ Unicode.isTitle c = false := by decide +kernel
  intro c h1 h2
  exact h c (List.mem_range'_1.mpr ⟨h1, by omega⟩)
theorem gname_txt {x : Str} (h : gname x) : Txt.isascii x = true ∧ Txt.isalpha x = true ∧ Txt.islower x = true := by
  obtain ⟨h1, h2, h3⟩ := h
  have ne : x.cps.toList ≠ [] := fun z => by
    have : x.cps.toList.length = 0 := by rw [z]; rfl
    have e : x.length = x.cps.toList.length := rfl
    omega
  refine ⟨?_, ?_, ?_⟩
  · unfold Txt.isascii
    rw [← Array.all_toList]
    exact List.all_eq_true.mpr fun c hc => decide_eq_true (by have := h3 c hc; omega)
  · unfold Txt.isalpha
    rw [← Array.all_toList]
    simp only [Bool.and_eq_true, decide_eq_true_eq]
    exact ⟨by omega, List.all_eq_true.mpr fun c hc => (low_uni c (h3 c hc).1 (h3 c hc).2).1⟩
  · unfold Txt.islower
    rw [← Array.any_toList, ← Array.any_toList]
    simp only [Bool.and_eq_true, Bool.not_eq_true']
    constructor
    · obtain ⟨c, hc⟩ := List.exists_mem_of_ne_nil _ ne
      exact List.any_eq_true.mpr ⟨c, hc, (low_uni c (h3 c hc).1 (h3 c hc).2).2.1⟩
    · refine List.any_eq_false.mpr fun c hc => ?_
      have q := low_uni c (h3 c hc).1 (h3 c hc).2
      rw [q.2.2.1, q.2.2.2]; decide
theorem gname_size {x : Str} (h : gname x) : x.length ≤ sizeLine := by rw [sizeLine_eq]; have := h.2.1; omega
theorem bIsi_str {x : Str} {C : Tab} : bIsi [.str x, .con (.ty "str")] C = .ok (.bl true) C := by
  have e : kitB "str" "str" = some true := by decide +kernel
  simp [bIsi, tyName, e]
theorem gc_same {C : Tab} {t : TV} (h : t.pl = true) : gcT C t C = .ok t C := by
  have q := gcT_id (C := C) (G := []) h
  rw [List.append_nil] at q
  exact q
theorem sp_isname {C : Tab} {x : Str} (h : gname x) : F_is_name [.str x] C = .ok (.bl true) C := by
  obtain ⟨t1, t2, t3⟩ := gname_txt h
  have hz := gname_size h
  have s0 : st0 1 [TV.str x] = [some (.str x)] := rfl
  have a1 : (1 : Int) ≤ (x.length : Int) := by have := h.1; omega
  have a2 : (x.length : Int) ≤ 6 := by have := h.2.1; omega
  have ev : m_is_name [some (.str x)] C = .rt (.bl true) C := by
    unfold m_is_name
    simp only [↓bind_bnd, ↓sr_srd, ↓seq_sqd, bnd_ok, srd_ok, sqd_nx, sqd_rt, nSeq_ev, nIf_ev, mOr_ev, mNot_ev, mB_ev, mB1_ev, mCons_ev, mVar_ev, mNil_ev, mC_ev, List.getElem?_cons_zero, rdS_some, bind_ok, bIsi_str, blOf_bl, Bool.not_true, Bool.false_eq_true, if_false, mChain_ev, blen_str hz, leI_int, decide_eq_true a1, if_true, decide_eq_true a2, sr_ok, nNil_ev, seq_nx, nRet_ev, mAndV_ev, mBM_ev, tyS_ev, fStr0_ev, t1, t2, t3]
  unfold F_is_name ofM
  rw [s0, ev]
  exact gc_same (t := .bl true) rfl
structure Prs (ps : List (Str × Str)) : Prop where
  nd : (ps.map (·.1)).Nodup
  a : ∀ p ∈ ps, gname p.1
  b : ∀ p ∈ ps, gname p.2
  le : ps.length ≤ 60
def vl (ps : List (Str × Str)) (k : Str) : Str := ((ps.find? fun p => decide (p.1 = k)).map (·.2)).getD ""
theorem vl_mem : ∀ {ps : List (Str × Str)} {p : Str × Str}, (ps.map (·.1)).Nodup → p ∈ ps → vl ps p.1 = p.2
  | [], _, _, h => nomatch h
  | q :: ps, p, nd, h => by
    simp only [List.map_cons, List.nodup_cons] at nd
    rcases List.mem_cons.mp h with rfl | h
    · simp [vl]
    · have ne : ¬ q.1 = p.1 := fun z => nd.1 (by rw [z]; exact List.mem_map_of_mem h)
      have ih := vl_mem nd.2 h
      unfold vl at ih ⊢
      rw [List.find?_cons, decide_eq_false ne]
      exact ih
theorem vl_in {ps : List (Str × Str)} (nd : (ps.map (·.1)).Nodup) {k : Str} (h : k ∈ ps.map (·.1)) : (k, vl ps k) ∈ ps := by
  obtain ⟨p, hp, rfl⟩ := List.mem_map.mp h
  rw [vl_mem nd hp]; exact hp
/-- the pairs by ascending keys -/
def sps (ps : List (Str × Str)) : List (Str × Str) := (srtS (ps.map (·.1))).map fun k => (k, vl ps k)
theorem sps_keys {ps : List (Str × Str)} : (sps ps).map (·.1) = srtS (ps.map (·.1)) := by
  unfold sps
  rw [List.map_map]
  exact List.map_id _
theorem sps_mem {ps : List (Str × Str)} (nd : (ps.map (·.1)).Nodup) {p : Str × Str} : p ∈ sps ps ↔ p ∈ ps := by
  unfold sps
  simp only [List.mem_map]
  constructor
  · rintro ⟨k, hk, rfl⟩
    exact vl_in nd ((srtS_perm _).mem_iff.mp hk)
  · intro h
    exact ⟨p.1, (srtS_perm _).mem_iff.mpr (List.mem_map_of_mem h), by rw [vl_mem nd h]⟩
theorem sps_nd {ps : List (Str × Str)} (nd : (ps.map (·.1)).Nodup) : ((sps ps).map (·.1)).Nodup := by rw [sps_keys]; exact srtS_nodup nd
theorem sps_len {ps : List (Str × Str)} : (sps ps).length = ps.length := by
  unfold sps; rw [List.length_map, (srtS_perm _).length_eq, List.length_map]
theorem srt_perm {xs ys : List Str} (h : xs.Perm ys) : srtS xs = srtS ys :=
  perm_unique (fun a b => leS_anti) ((srtS_perm xs).trans (h.trans (srtS_perm ys).symm)) (srtS_pw xs) (srtS_pw ys)
theorem sps_perm {ps qs : List (Str × Str)} (nd : (ps.map (·.1)).Nodup) (h : qs.Perm ps) : sps qs = sps ps := by
  have hk := h.map (·.1)
  have nq : (qs.map (·.1)).Nodup := hk.nodup_iff.mpr nd
  have e : srtS (qs.map (·.1)) = srtS (ps.map (·.1)) := srt_perm hk
  unfold sps
  rw [e]
  refine List.map_congr_left fun k hk' => ?_
  have hm := vl_in nd ((srtS_perm _).mem_iff.mp hk')
  rw [vl_mem nq (h.mem_iff.mpr hm)]
theorem Prs.perm {ps qs : List (Str × Str)} (P : Prs ps) (h : qs.Perm ps) : Prs qs :=
  ⟨(h.map (·.1)).nodup_iff.mpr P.nd, fun p hp => P.a p (h.mem_iff.mp hp), fun p hp => P.b p (h.mem_iff.mp hp), by rw [h.length_eq]; exact P.le⟩
theorem Prs.sps {ps : List (Str × Str)} (P : Prs ps) : Prs (sps ps) :=
  ⟨sps_nd P.nd, fun p hp => P.a p ((sps_mem P.nd).mp hp), fun p hp => P.b p ((sps_mem P.nd).mp hp), by rw [sps_len]; exact P.le⟩
theorem str_len (x y : Str) : (x ++ y).length = x.length + y.length := by
  show (x.cps ++ y.cps).size = x.cps.size + y.cps.size
  exact Array.size_append
theorem str_nil (x : Str) : Str.empty ++ x = x := by
  have e : (Str.empty ++ x).cps = x.cps := by
    show (#[] : Array Nat) ++ x.cps = x.cps
    simp
  cases x with | mk a => exact congrArg Str.mk e
theorem lc_map {C C0 : Tab} {s0 : Slots} {i : Nat} {me : EM TV} {f : Str → TV} : ∀ (ks : List Str) (acc : List TV), (∀ a ∈ ks, me (s0.set i (some (.str a))) C = .ok (f a) C) → acc.length + ks.length < sizeLine →
    lcL (gtN i) mYes me none C0 s0 (ks.map .str) acc C = .ok (acc ++ ks.map f) C
  | [], acc, _, _ => by simp [lcL]
  | a :: ks, acc, ht, hl => by
    simp only [List.length_cons] at hl
    rw [List.map_cons]
    unfold lcL
    rw [gtN_ev]
    dsimp only
    rw [mYes_ev, bind_ok, if_pos rfl, ht a List.mem_cons_self, bind_ok, if_pos ⟨by omega, (True.intro : lkOk none C0 C)⟩, lc_map ks _ (fun b hb => ht b (List.mem_cons_of_mem _ hb)) (by simp; omega)]
    simp
theorem sum_le {ws : List Str} {n : Nat} (h : ∀ w ∈ ws, w.length ≤ n) : (ws.map (·.length)).sum ≤ ws.length * n := by
  induction ws with
  | nil => simp
  | cons w ws ih =>
    have h1 := h w List.mem_cons_self
    have h2 := ih fun x hx => h x (List.mem_cons_of_mem _ hx)
    rw [List.map_cons, List.sum_cons, List.length_cons, Nat.succ_mul]; omega
theorem fJoin_words {C : Tab} {sep : Str} {ws : List Str} (hs : sep.length ≤ 1) (h : ∀ w ∈ ws, w.length ≤ 1000) (hl : ws.length ≤ 1000) : fJoin (.str sep) [.lst (ws.map .str)] C = .ok (.str (Txt.join sep ws)) C := by
  have e : (itT (rd C (.lst (ws.map .str)))).bind strL = some ws := by simp [itT]
  have hb := sum_le h
  have h2 : ws.length * 1000 ≤ 1000000 := by omega
  have h3 : ws.length * sep.length ≤ 1000 := by
    have : ws.length * sep.length ≤ ws.length * 1 := Nat.mul_le_mul_left _ hs
    omega
  unfold fJoin
  dsimp only
  rw [e]
  dsimp only
  rw [if_pos (by omega)]
theorem bList_dct {C : Tab} {ps : List (Str × Str)} : bList false [.dct (toD ps)] C = .ok (.lst ((ps.map (·.1)).map .str)) C := by
  have hks : (toD ps).map (fun kv => keyTV kv.1) = (ps.map (·.1)).map .str := by simp [toD, List.map_map, Function.comp, keyTV]
  unfold bList
  dsimp only
  rw [rd_dct]
  unfold itD
  rw [← hks]; rfl
theorem look_vl {ps : List (Str × Str)} (nd : (ps.map (·.1)).Nodup) {k : Str} (h : k ∈ ps.map (·.1)) : lookT (toD ps) (.inr k) = some (.str (vl ps k)) := toD_look nd (vl_in nd h)
theorem neI_int {a b : Int} {C : Tab} : neI (.int a) (.int b) C = .ok (.bl (!decide (a = b))) C := by
  unfold neI neI0
  simp only [rd_int, flatT, scal, if_true]
  have e : decide (V.int a = V.int b) = decide (a = b) := by simp
  rw [e]; rfl
theorem join_fold : ∀ (ps : List Str) (sep acc : Array Nat) (n : Nat), (∀ p ∈ ps, p.length ≤ n) → (ps.foldl (fun acc p => acc ++ sep ++ p.cps) acc).size ≤ acc.size + ps.length * (sep.size + n)
  | [], sep, acc, n, _ => by simp
  | p :: ps, sep, acc, n, h => by
    have h1 : p.cps.size ≤ n := h p List.mem_cons_self
    have ih := join_fold ps sep (acc ++ sep ++ p.cps) n fun x hx => h x (List.mem_cons_of_mem _ hx)
    rw [Array.size_append, Array.size_append] at ih
    rw [List.foldl_cons, List.length_cons, Nat.succ_mul]; omega
theorem join_len {sep : Str} {ws : List Str} {n : Nat} (h : ∀ w ∈ ws, w.length ≤ n) : (Txt.join sep ws).length ≤ n + ws.length * (sep.length + n) := by
  show ((ws.drop 1).foldl (fun acc p => acc ++ sep.cps ++ p.cps) (ws.headD Str.empty).cps).size ≤ _
  have q := join_fold (ws.drop 1) sep.cps (ws.headD Str.empty).cps n fun p hp => h p (List.mem_of_mem_drop hp)
  have h1 : (ws.headD Str.empty).cps.size ≤ n := by
    cases ws with
    | nil => exact Nat.zero_le _
    | cons w ws => exact h w List.mem_cons_self
  have h2 : (ws.drop 1).length * (sep.cps.size + n) ≤ ws.length * (sep.cps.size + n) := Nat.mul_le_mul_right _ (by rw [List.length_drop]; omega)
  have h3 : sep.length = sep.cps.size := rfl
  rw [h3]; omega
theorem tl_of (x : Str) : tl x = x.cps.toList := rfl
theorem gname_no {x : Str} (h : gname x) {s : Nat} (hs : s < 97) : s ∉ tl x := fun z => by
  have := (h.2.2 s z).1; omega
theorem dc_map {C C0 : Tab} {s0 : Slots} {i : Nat} {me : EM TV} {f : Str → Str} (hi : i < s0.length) : ∀ (ks : List Str) (acc : List (Str × Str)), (∀ a ∈ ks, me (s0.set i (some (.str a))) C = .ok (.str (f a)) C) → (acc.map (·.1) ++ ks).Nodup → acc.length + ks.length < sizeLine →
    dcL (gtN i) mYes (mVar i) me none C0 s0 (ks.map .str) (toD acc) C = .ok (toD (acc ++ ks.map fun k => (k, f k))) C
  | [], acc, _, _, _ => by simp [dcL]
  | a :: ks, acc, ht, nd, hl => by
    simp only [List.length_cons] at hl
    have hnew : a ∉ acc.map (·.1) := fun z => (List.nodup_append.mp nd).2.2 _ z _ List.mem_cons_self rfl
    have hlen : (toD acc).length < sizeLine := by simp [toD]; omega
    rw [List.map_cons]
    unfold dcL
    rw [gtN_ev]
    dsimp only
    rw [mYes_ev, bind_ok, if_pos rfl, mVar_ev, List.getElem?_set_self hi, rdS_some, bind_ok, ht a List.mem_cons_self, bind_ok]
    simp only [keyOf]
    rw [if_pos ⟨hlen, (True.intro : lkOk none C0 C)⟩, putT_new hnew, dc_map hi ks _ (fun b hb => ht b (List.mem_cons_of_mem _ hb)) (by simpa using nd) (by simp; omega)]
    simp
theorem gcT_cel {C G : Tab} {k : Nat} {u : TV} (hk : (C ++ G)[k]? = some (.own u)) (h0 : C.length ≤ k) (h : u.pl = true) : gcT C (.cel k) (C ++ G) = .ok (.cel C.length) (C ++ [.own u]) := by
  have kp : Keep C (C ++ G) := ⟨by rw [List.length_append]; omega, fun j c hj hc => by rw [List.getElem?_append_left hj] at hc; exact .inl hc⟩
  have tk : (C ++ G).take C.length = C := by simp
  have lo : (Cell.own u).low C.length = true := pl_low h _
  unfold gcT
  rw [if_pos kp]
  dsimp only
  rw [if_neg (by omega), hk]
  dsimp only
  rw [if_pos lo, tk]
@[simp] theorem mDc_ev {s : Slots} {C : Tab} {own : Bool} {src : EM (List TV × Lk)} {gt : TV → Slots → Option Slots} {tt : EM Bool} {mk me : EM TV} {ws : List Nat} : mDc own src gt tt mk me ws s C = (src s C).bind fun p C1 =>
  (dcL gt tt mk me p.2 C1 (wipeS s ws) p.1 [] C1).nox.bind fun acc C2 => (alc own (.dct acc) C2).unlk p.2 := rfl
theorem look_none {ps : List (Str × Str)} {k : Str} (h : k ∉ ps.map (·.1)) : lookT (toD ps) (.inr k) = none := by
  unfold lookT
  have e : (toD ps).find? (fun kv => decide (kv.1 = Sum.inr k)) = none := List.find?_eq_none.mpr fun kv hkv z => by
    obtain ⟨q, hq, rfl⟩ := List.mem_map.mp hkv
    exact h (List.mem_map.mpr ⟨q, hq, Sum.inr.inj (of_decide_eq_true z)⟩)
  rw [e]; rfl
theorem split_ev {C : Tab} {a b : Str} (h : (b.length == 0) = false) (h' : a.length + 2 ≤ sizeLine) : fSplit false (.str a) [.str b] C = .ok (.lst ((Txt.split a b).map .str)) C := by
  unfold fSplit
  dsimp only
  rw [if_pos ⟨h, h'⟩]; rfl
theorem perm_map {α β : Type} {f : α → β} {ys l : List β} (h : ys.Perm l) : ∀ xs : List α, l = xs.map f → ∃ zs : List α, zs.Perm xs ∧ ys = zs.map f := by
  induction h with
  | nil =>
    intro xs e
    cases xs with
    | nil => exact ⟨[], .refl _, rfl⟩
    | cons a b => cases e
  | cons a h ih =>
    intro xs e
    cases xs with
    | nil => cases e
    | cons x xs =>
      rw [List.map_cons] at e
      obtain ⟨rfl, e2⟩ := List.cons.inj e
      obtain ⟨zs, hz, rfl⟩ := ih xs e2
      exact ⟨x :: zs, hz.cons x, rfl⟩
  | swap a b l =>
    intro xs e
    cases xs with
    | nil => cases e
    | cons x xs =>
      rw [List.map_cons] at e
      obtain ⟨rfl, e2⟩ := List.cons.inj e
      clear e
      cases xs with
      | nil => cases e2
      | cons y xs =>
        rw [List.map_cons] at e2
        obtain ⟨rfl, rfl⟩ := List.cons.inj e2
        exact ⟨y :: x :: xs, List.Perm.swap x y xs, rfl⟩
  | trans h1 h2 ih1 ih2 =>
    intro xs e
    obtain ⟨zs, hz, rfl⟩ := ih2 xs e
    obtain ⟨ws, hw, rfl⟩ := ih1 zs rfl
    exact ⟨ws, hw.trans hz, rfl⟩
def pairT (p : Str × Str) : TV := .tup [.str p.1, .str p.2]
theorem pairT_pl (p : Str × Str) : (pairT p).pl = true := rfl
theorem pairL_map : ∀ ps : List (Str × Str), pairL (ps.map pairT) = some (toD ps)
  | [] => rfl
  | p :: ps => by
    rw [List.map_cons]
    show (keyOf (.str p.1)).bind _ = _
    rw [pairL_map ps]; rfl
theorem merge_toD : ∀ (ps acc : List (Str × Str)), (acc.map (·.1) ++ ps.map (·.1)).Nodup → mergeT (toD acc) (toD ps) = toD (acc ++ ps)
  | [], acc, _ => by simp [mergeT, toD]
  | p :: ps, acc, nd => by
    rw [List.map_cons] at nd
    have hnew : p.1 ∉ acc.map (·.1) := fun z => (List.nodup_append.mp nd).2.2 _ z _ List.mem_cons_self rfl
    show mergeT (putT (toD acc) (.inr p.1) (.str p.2)) (toD ps) = _
    rw [putT_new hnew, merge_toD ps _ (by simpa using nd)]; simp
theorem bDict_pairs {C : Tab} {ps : List (Str × Str)} (nd : (ps.map (·.1)).Nodup) : bDict false [.lst (ps.map pairT)] C = .ok (.dct (toD ps)) C := by
  unfold bDict
  dsimp only
  rw [rd_lst]
  dsimp only
  rw [pairL_map]
  dsimp only
  have e := merge_toD ps [] (by simpa using nd)
  rw [show mergeT [] (toD ps) = toD ps from e]; rfl
def rp (ps : List (Str × Str)) : Str := (pyd (.dct (toD ps))).shown
theorem okTK_toD : ∀ ps : List (Str × Str), okTK (toD ps) = true
  | [] => rfl
  | p :: ps => by show (okT (.str p.2) && okTK (toD ps)) = true; rw [okTK_toD ps]; rfl
theorem noLK_toD : ∀ ps : List (Str × Str), noLK (toD ps) = true
  | [] => rfl
  | p :: ps => by show (noL (.str p.2) && noLK (toD ps)) = true; rw [noLK_toD ps]; rfl
theorem show_toD : ∀ ps : List (Str × Str), PyData.showableKv (pydK (toD ps)) = true
  | [] => by simp [toD, pydK, PyData.showableKv]
  | p :: ps => by
    have ih := show_toD ps
    simp only [toD, List.map_cons, pydK, PyData.showableKv, keyD, pyd, PyData.showable, Bool.true_and]
    exact ih
theorem depth_toD : ∀ ps : List (Str × Str), PyData.depthKv (pydK (toD ps)) = 0
  | [] => by simp [toD, pydK, PyData.depthKv]
  | p :: ps => by
    have ih := depth_toD ps
    simp only [toD, List.map_cons, pydK, PyData.depthKv, keyD, pyd, PyData.depth]
    rw [show PyData.depthKv (pydK (List.map (fun p => ((Sum.inr p.1 : Key), TV.str p.2)) ps)) = 0 from ih]; rfl
theorem shown_toD : ∀ ps : List (Str × Str), PyData.shownKv (pydK (toD ps)) = ps.map fun p => reprText p.1 ++ ": " ++ reprText p.2
  | [] => by simp [toD, pydK, PyData.shownKv]
  | p :: ps => by
    have ih := shown_toD ps
    simp only [toD, List.map_cons, pydK, PyData.shownKv, keyD, pyd, PyData.shown]
    rw [show PyData.shownKv (pydK (List.map (fun p => ((Sum.inr p.1 : Key), TV.str p.2)) ps)) = _ from ih]
theorem gname_rep {x : Str} (h : gname x) : (reprText x).length ≤ 62 := by
  have := StrLaws.reprText_len x fun c hc => by have := (h.2.2 c hc).2; omega
  have := h.2.1
  omega
theorem rp_len {ps : List (Str × Str)} (P : Prs ps) : (rp ps).length ≤ sizeLine := by
  have e2 : (": " : Str).length = 2 := by decide +kernel
  have e3 : (", " : Str).length = 2 := by decide +kernel
  have e4 : ("{" : Str).length = 1 := by decide +kernel
  have e5 : ("}" : Str).length = 1 := by decide +kernel
  have q := join_len (sep := ", ") (ws := ps.map fun p => reprText p.1 ++ ": " ++ reprText p.2) (n := 126) fun w hw => by
    obtain ⟨p, hp, rfl⟩ := List.mem_map.mp hw
    rw [str_len, str_len, e2]
    have := gname_rep (P.a p hp)
    have := gname_rep (P.b p hp)
    omega
  rw [TL.join_eq, List.length_map, e3] at q
  unfold rp
  rw [pyd, PyData.shown, shown_toD, dictText, str_len, str_len, e4, e5, sizeLine_eq]
  have := P.le
  omega
theorem bRepr_dct {C : Tab} {ps : List (Str × Str)} {t : TV} (P : Prs ps) (ht : rd C t = .dct (toD ps)) : bRepr [t] C = .ok (.str (rp ps)) C := by
  unfold bRepr
  dsimp only
  rw [ht, if_pos]
  · rfl
  · refine ⟨rfl, okTK_toD ps, fun _ => ?_, ?_, ?_, rp_len P⟩
    · unfold noL; exact noLK_toD ps
    · rw [pyd, PyData.showable]; exact show_toD ps
    · rw [pyd, PyData.depth, depth_toD]; omega
theorem allO_true : ∀ {l : List (Option Bool)}, (∀ o ∈ l, o = some true) → allO l = some true
  | [], _ => rfl
  | o :: l, h => by
    obtain rfl := h _ List.mem_cons_self
    unfold allO
    rw [allO_true fun z hz => h z (List.mem_cons_of_mem _ hz)]; rfl
theorem eqT_perm {ps qs : List (Str × Str)} (nd : (ps.map (·.1)).Nodup) (h : ps.Perm qs) (n : Nat) : eqT (n + 2) (.dct (toD ps)) (.dct (toD qs)) = some true := by
  have nq : (qs.map (·.1)).Nodup := (h.map (·.1)).nodup_iff.mp nd
  have lp : (toD ps).length = (toD qs).length := by simp [toD, h.length_eq]
  show (allO ((toD ps).map fun kv => match lookT (toD qs) kv.1 with
          | some t => eqT (n + 1) kv.2 t
          | none => some false)).map (fun b => (toD ps).length == (toD qs).length && b) = some true
  rw [allO_true]
  · rw [lp]; simp
  · intro o ho
    obtain ⟨kv, hkv, rfl⟩ := List.mem_map.mp ho
    obtain ⟨p, hp, rfl⟩ := List.mem_map.mp hkv
    dsimp only
    rw [toD_look nq (h.mem_iff.mp hp)]
    show some (L2.eqV (.str p.2) (.str p.2)) = _
    rw [eqV_refl rfl]
theorem neI_dct {C : Tab} {ps qs : List (Str × Str)} {x y : TV} (nd : (ps.map (·.1)).Nodup) (h : ps.Perm qs) (hx : rd C x = .dct (toD ps)) (hy : rd C y = .dct (toD qs)) : neI x y C = .ok (.bl false) C := by
  unfold neI
  rw [hx, hy]
  show okB ((eqT 30 (.dct (toD ps)) (.dct (toD qs))).map (!·)) C = _
  rw [eqT_perm nd h 28]; rfl
theorem neI_strs {C : Tab} {a : Str} : neI (.str a) (.str a) C = .ok (.bl false) C := by
  unfold neI neI0
  simp only [rd_str, flatT, scal, if_true]
  simp [okB]
theorem sps_p {ps : List (Str × Str)} (nd : (ps.map (·.1)).Nodup) : (sps ps).Perm ps := by
  have e : sps ps = (srtS (ps.map (·.1))).map fun k => (k, vl ps k) := rfl
  have h := (srtS_perm (ps.map (·.1))).map fun k => (k, vl ps k)
  have e2 : (ps.map (·.1)).map (fun k => (k, vl ps k)) = ps := by
    rw [List.map_map]
    have : ps.map ((fun k => (k, vl ps k)) ∘ fun p => p.1) = ps.map id := List.map_congr_left fun p hp => by
      show (p.1, vl ps p.1) = p
      rw [vl_mem nd hp]
    rw [this, List.map_id]
  rw [e2] at h
  rw [e]; exact h
@[simp] theorem mItemsL_ev {s : Slots} {C : Tab} {own : Bool} {m : EM TV} : mItemsL own m s C = (m s C).bind (itemsV own) := rfl
theorem items_toD {C : Tab} {ps : List (Str × Str)} : itemsV false (.dct (toD ps)) C = .ok (.lst (ps.map pairT)) C := by
  unfold itemsV
  rw [rd_dct]
  dsimp only
  rw [alc_fz]
  simp [toD, List.map_map, Function.comp, keyTV, pairT]
theorem rd_new {D : Tab} {t : TV} : rd (D ++ [.own t]) (.cel D.length) = t := by
  rw [rd_cel, show (D ++ [Cell.own t])[D.length]? = some (.own t) by simp]; rfl
theorem get_app {D G : Tab} {j : Nat} {c : Cell} (h : D[j]? = some c) : (D ++ G)[j]? = some c := by
  rw [List.getElem?_append_left (get_lt h)]; exact h
theorem Lab.prs {ps : List (Str × Str)} (L : Lab ps) : Prs ps :=
  ⟨L.nd, L.nm, fun p hp => by
    obtain ⟨q, hq, e⟩ := List.mem_map.mp (L.cl p hp)
    rw [← e]; exact L.nm q hq, L.le⟩
theorem Lab.gn {ps : List (Str × Str)} (L : Lab ps) {a : Str} (h : a ∈ ps.map (·.1)) : gname a := by
  obtain ⟨q, hq, rfl⟩ := List.mem_map.mp h
  exact L.nm q hq
theorem nil_prs : Prs [] := ⟨List.nodup_nil, (fun _ h => nomatch h), (fun _ h => nomatch h), Nat.zero_le _⟩
theorem enum_ints {xs : List TV} (h : ∀ x ∈ xs, ∃ c : Int, x = .int c) : ∀ y ∈ enumT xs, ∃ i c : Int, y = .tup [.int i, .int c] := by
  intro y hy
  obtain ⟨i, hi, rfl⟩ := List.mem_iff_getElem.mp hy
  have hl : (enumT xs).length = xs.length := by simp [enumT]
  obtain ⟨c, hc⟩ := h xs[i] (List.getElem_mem _)
  have e := enumT_get (xs := xs) (i := i) (t := xs[i]) (by simp)
  rw [List.getElem?_eq_getElem hi] at e
  exact ⟨_, c, by rw [Option.some.inj e, hc]⟩
end FH
/-! TaA: boards. -/
namespace FH
open PySem L2
open TL (tl split_join)
open PySem.Spec PyProof.Rows
theorem LD.len {ns : List Str} {D : List (Key × TV)} (h : LD ns D) : D.length ≤ ns.length := by
  have sub : ∀ k ∈ D.map (·.1), k ∈ ns.map (Sum.inr : Str → Key) := fun k hk => by
    obtain ⟨kv, hkv, rfl⟩ := List.mem_map.mp hk
    obtain ⟨a, b, rfl, ha, _⟩ := h.m kv hkv
    exact List.mem_map_of_mem ha
  have := h.nd.length_le_of_subset sub
  simpa using this
/-- labels that are drawn -/
theorem sp_labs {C : Tab} {j : Nat} {d : Dr} {k most : Nat} {M : Int} (hM : M = most) (h : C[j]? = some (.own d.tv)) (m0 : 1 ≤ most) (m1 : most ≤ 60) (hb : d.bd (10 * most + 4 + k)) :
    ∃ (ps : List (Str × Str)) (d' : Dr), F_law_labels [.cel j, .int M] C = .ok (.dct (toD ps)) (C.set j (.own d'.tv)) ∧ Lab ps ∧ ps ≠ [] ∧ ps.length ≤ most ∧ d'.bd k := by
  obtain ⟨ns, D, d', e, L, hn, hk, ne, hl, _, b'⟩ := sp_labels (k := k) hM h m0 m1 hb
  have hD := L.len
  obtain ⟨ps, rfl, hp⟩ := L.m |> LD.pairs
  have hlen : (toD ps).length = ps.length := by simp [toD]
  refine ⟨ps, d', e, ⟨toD_nodup L.nd, fun p hpp => ?_, fun p hpp => hn _ (hp p hpp).1, by omega⟩, fun z => ?_, by omega, b'⟩
  · have := hk _ (hp p hpp).2
    rw [toD_keys] at this
    obtain ⟨a, ha, e⟩ := List.mem_map.mp this
    rw [← Sum.inr.inj e]; exact ha
  · subst z
    cases ns with
    | nil => exact ne rfl
    | cons a ns => exact absurd (hk a List.mem_cons_self) (by simp [toD])
/-! ### are_labels, Board(..) -/
section
variable {s : Slots} {C : Tab} {m : EM TV}
@[simp] theorem mVals_ev : mVals m s C = (m s C).bind (dsrc valsT) := rfl
end
theorem vals_toD {C : Tab} {ps : List (Str × Str)} : dsrc valsT (.dct (toD ps)) C = .ok ((ps.map (·.2)).map .str, none) C := by
  have e : valsT (toD ps) = (ps.map (·.2)).map .str := by simp [valsT, toD, List.map_map, Function.comp]
  unfold dsrc dctOf
  dsimp only
  rw [e]
theorem bIsi_dct {C : Tab} {kvs : List (Key × TV)} : bIsi [.dct kvs, .con (.ty "dict")] C = .ok (.bl true) C := by
  have e : kitB "dict" "dict" = some true := by decide +kernel
  simp [bIsi, tyName, e]
theorem boolL_all {n : Nat} {C : Tab} {ts : List TV} (h : ∀ t ∈ ts, t = .bl true) : bAA (fun bs => bs.all id) [.lst ts] C = .ok (.bl true) C := by
  have e : ts = (ts.map fun _ => true).map TV.bl := by
    rw [List.map_map]
    have : ts.map (TV.bl ∘ fun _ => true) = ts.map id := List.map_congr_left fun t ht => (h t ht).symm
    rw [this, List.map_id]
  unfold bAA
  dsimp only
  rw [rd_lst]
  dsimp only
  rw [e, boolL_map]
  dsimp only
  congr 2
  rw [List.all_eq_true]
  intro b hb
  simp at hb
  exact hb.2.symm ▸ rfl
end FH
/-! TaB: a board made, its boxes, labels, items. -/
namespace FH
open PySem L2
open TL (tl split_join)
open PySem.Spec PyProof.Rows
theorem len_toD (ps : List (Str × Str)) : (toD ps).length = ps.length := by simp [toD]
theorem keys_toD (ps : List (Str × Str)) : (toD ps).map (fun kv => keyTV kv.1) = (ps.map (·.1)).map .str := by simp [toD, List.map_map, Function.comp, keyTV]
theorem blen_dct {C : Tab} {ps : List (Str × Str)} : bLen [.dct (toD ps)] C = .ok (.int ps.length) C := by
  have : lenR (.dct (toD ps)) = some ps.length := by
    unfold lenR
    simp [len_toD]
  simp only [bLen, rd_dct, this]
theorem sp_arelab {C : Tab} {ps : List (Str × Str)} (L : Lab ps) (h0 : ps ≠ []) : F_are_labels [.dct (toD ps), .int 60] C = .ok (.bl true) C := by
  have hle := L.le
  have h1 : 1 ≤ ps.length := by cases ps with | nil => exact absurd rfl h0 | cons a b => simp
  have s0 : st0 4 [TV.dct (toD ps), .int 60] = [some (.dct (toD ps)), some (.int 60), none, none] := rfl
  have w2 : wipeS [some (TV.dct (toD ps)), some (.int 60), none, none] [2] = [some (.dct (toD ps)), some (.int 60), none, none] := rfl
  have w3 : wipeS [some (TV.dct (toD ps)), some (.int 60), none, none] [3] = [some (.dct (toD ps)), some (.int 60), none, none] := rfl
  have e1 := lc_map (C := C) (C0 := C) (s0 := [some (.dct (toD ps)), some (.int 60), none, none]) (i := 2) (me := mCall F_is_name [] (mCons (mVar 2) mNil)) (f := fun _ => .bl true) (ps.map (·.1)) [] (fun a ha => by
    simp only [↓bind_bnd, bnd_ok, mCall_ev, mCons_ev, mVar_ev, mNil_ev, List.set_cons_succ, List.set_cons_zero, List.getElem?_cons_zero, List.getElem?_cons_succ, rdS_some, List.append_nil, sp_isname (L.gn ha)]) (by rw [List.length_map, sizeLine_eq]; simp; omega)
  have e2 := lc_map (C := C) (C0 := C) (s0 := [some (.dct (toD ps)), some (.int 60), none, none]) (i := 3) (me := (mAndV (mCall F_is_name [] (mCons (mVar 3) mNil)) (mOp (inT false) (mVar 3) (mVar 0)))) (f := fun _ => .bl true) (ps.map (·.2)) [] (fun a ha => by
    have hk : a ∈ ps.map (·.1) := by
      obtain ⟨p, hp, rfl⟩ := List.mem_map.mp ha
      exact L.cl p hp
    have lk := look_vl L.nd hk
    have inn : inT false (.str a) (.dct (toD ps)) C = .ok (.bl true) C := by
      unfold inT
      rw [rd_dct]
      simp [inR, keyOf, lk]
    simp only [↓bind_bnd, bnd_ok, mAndV_ev, mOp_ev, mCall_ev, mCons_ev, mVar_ev, mNil_ev, List.set_cons_succ, List.set_cons_zero, List.getElem?_cons_zero, List.getElem?_cons_succ, rdS_some, List.append_nil, sp_isname (L.gn hk), if_true, inn]) (by rw [List.length_map, sizeLine_eq]; simp; omega)
  have al : ∀ (n : List Str), bAA (fun bs => bs.all id) [.lst ([] ++ n.map fun _ => TV.bl true)] C = .ok (.bl true) C := fun n => boolL_all (n := 0) fun t ht => by
    rw [List.nil_append] at ht
    obtain ⟨_, _, rfl⟩ := List.mem_map.mp ht
    rfl
  have c1 : (1 : Int) ≤ (ps.length : Int) := by omega
  have c2 : (ps.length : Int) ≤ 60 := by omega
  have ev : m_are_labels [some (.dct (toD ps)), some (.int 60), none, none] C = .rt (.bl true) C := by
    unfold m_are_labels
    simp only [↓bind_bnd, ↓sr_srd, ↓seq_sqd, bnd_ok, srd_ok, sqd_nx, sqd_rt, nSeq_ev, nIf_ev, mOr_ev, mNot_ev, mB_ev, mB1_ev, mCons_ev, mVar_ev, mNil_ev, mC_ev, List.getElem?_cons_zero, List.getElem?_cons_succ, rdS_some, bIsi_dct, blOf_bl, Bool.not_true, Bool.false_eq_true, if_false, mChain_ev, blen_dct, leI_int, decide_eq_true c1, if_true, decide_eq_true c2, nNil_ev,
      mLc_ev, mSeq_ev, seqOf_dctV, keys_toD, w2, e1, nox_ok, alc_fz, unlk_ok0, al, nRet_ev, mVals_ev, vals_toD, w3, e2]
  unfold F_are_labels ofM
  rw [s0, ev]
  exact gc_same (t := .bl true) rfl
/-- the board of these labels -/
def bd (ps : List (Str × Str)) : TV := .obj "Board" [("homes", .dct (toD (sps ps)))]
theorem bd_pl (ps : List (Str × Str)) : (bd ps).pl = true := by
  show (TV.low 0 (.dct (toD (sps ps))) && true) = true
  rw [show TV.low 0 (.dct (toD (sps ps))) = true from pl_toD]; rfl
theorem fld_bd {C : Tab} {ps : List (Str × Str)} : fldR "Board" "homes" (bd ps) C = .ok (.dct (toD (sps ps))) C := by
  unfold fldR
  rw [show rd C (bd ps) = bd ps from rfl]
  unfold bd
  dsimp only
  rw [if_pos rfl]
  have e : List.lookup ("homes" : Str) [(("homes" : Str), TV.dct (toD (sps ps)))] = some (.dct (toD (sps ps))) := by simp [List.lookup]
  rw [e]
section
variable {s : Slots} {C : Tab} {m mo mv : EM TV} {c f : Str} {ma : EM (List TV)} {F : FM} {dts : List TV}
@[simp] theorem mFld_ev : mFld c f m s C = (m s C).bind (fldR c f) := rfl
@[simp] theorem nFld_ev : nFld c f mv mo s C = (mv s C).sr s fun v C1 => (mo s C1).sr s fun o C2 => putC s (putFld c f o v C2) := rfl
@[simp] theorem mMeth_ev {k : Str} : mMeth c k F dts mo ma s C = (mo s C).bind fun x C1 => if methR c k x C1 = true then (ma s C1).bind fun ts C2 => F (x :: (ts ++ dts)) C2 else .stuck := rfl
@[simp] theorem mMake_ev : mMake c F dts ma s C = (ma s C).bind fun ts C1 => (F (.cel C1.length :: (ts ++ dts)) (C1 ++ [.own (.obj c [])])).bind (mdR C1.length) := rfl
end
theorem sp_init {D : Tab} {ps : List (Str × Str)} (L : Lab ps) (h0 : ps ≠ []) : F_Board__init [.cel D.length, .dct (toD ps)] (D ++ [.own (.obj "Board" [])]) = .ok .non (D ++ [.own (bd ps)]) := by
  have hle := L.le
  have s0 : st0 3 [TV.cel D.length, .dct (toD ps)] = [some (.cel D.length), some (.dct (toD ps)), none] := rfl
  have w : wipeS [some (TV.cel D.length), some (.dct (toD ps)), none] [2] = [some (.cel D.length), some (.dct (toD ps)), none] := rfl
  have e3 := dc_map (C := D ++ [Cell.own (.obj "Board" [])]) (C0 := D ++ [Cell.own (.obj "Board" [])]) (s0 := [some (.cel D.length), some (.dct (toD ps)), none]) (i := 2) (me := (mOp ixT (mVar 1) (mVar 2))) (f := vl ps) (by simp) (srtS (ps.map (·.1))) [] (fun a ha => by
    have lk := look_vl L.nd ((srtS_perm _).mem_iff.mp ha)
    simp only [↓bind_bnd, bnd_ok, mOp_ev, mVar_ev, List.set_cons_succ, List.set_cons_zero, List.getElem?_cons_zero, List.getElem?_cons_succ, rdS_some, ixT_ev, rd_dct, ixR_dcts, lk, okO_some]) (by simpa using srtS_nodup L.nd) (by rw [(srtS_perm _).length_eq, List.length_map, sizeLine_eq]; simp; omega)
  have e3' : dcL (gtN 2) mYes (mVar 2) (mOp ixT (mVar 1) (mVar 2)) none (D ++ [Cell.own (.obj "Board" [])]) [some (.cel D.length), some (.dct (toD ps)), none] ((srtS (ps.map (·.1))).map .str) [] (D ++ [Cell.own (.obj "Board" [])]) = .ok (toD (sps ps)) (D ++ [Cell.own (.obj "Board" [])]) := e3
  have gt : (D ++ [Cell.own (.obj "Board" [])])[D.length]? = some (.own (.obj "Board" [])) := by simp
  have pf : putFld "Board" "homes" (.cel D.length) (.dct (toD (sps ps))) (D ++ [Cell.own (.obj "Board" [])]) = some (D ++ [.own (bd ps)]) := by
    unfold putFld
    dsimp only
    rw [gt]
    unfold stF
    dsimp only
    rw [if_pos ⟨rfl, by decide⟩, List.set_append_right _ _ (Nat.le_refl _)]
    simp [putFT, bd]
  have ev : m_Board__init [some (.cel D.length), some (.dct (toD ps)), none] (D ++ [.own (.obj "Board" [])]) = .nx [some (.cel D.length), some (.dct (toD ps)), none] (D ++ [.own (bd ps)]) := by
    unfold m_Board__init
    simp only [↓bind_bnd, ↓sr_srd, ↓seq_sqd, bnd_ok, srd_ok, sqd_nx, sqd_rt, nSeq_ev, nIf_ev, mNot_ev, mB_ev, mCall_ev, mCons_ev, mVar_ev, mNil_ev, mC_ev, List.append_nil, List.getElem?_cons_zero, List.getElem?_cons_succ, rdS_some, sp_arelab L h0, blOf_bl, Bool.not_true, Bool.false_eq_true, if_false, nNil_ev, nFld_ev, mDc_ev, mSeq_ev, mB1_ev, bList_dct, sort_strs (show (ps.map (·.1)).length < 64 by rw [List.length_map]; omega), seqOf_lst, w, e3', nox_ok, alc_fz, unlk_ok0, pf, putC_some]
  unfold F_Board__init ofM
  rw [s0, ev]
  show gcT _ .non _ = _
  have kp : Keep (D ++ [Cell.own (.obj "Board" [])]) (D ++ [.own (bd ps)]) := by
    refine ⟨by simp, fun j c hj hc => ?_⟩
    rcases Nat.lt_or_ge j D.length with h | h
    · rw [List.getElem?_append_left h] at hc ⊢
      exact .inl hc
    · simp at hj
      have : j = D.length := by omega
      subst this
      simp at hc
      subst hc
      exact .inr (pl_low (bd_pl ps) _)
  unfold gcT
  rw [if_pos kp]
  dsimp only
  rw [if_pos (show TV.low _ .non = true from rfl), List.take_of_length_le (by simp)]
/-- Board(labels), frozen -/
theorem make_bd {s : Slots} {D : Tab} {ps : List (Str × Str)} {ma : EM (List TV)} (L : Lab ps) (h0 : ps ≠ []) (ha : ma s D = .ok [.dct (toD ps)] D) : mFz (mMake "Board" F_Board__init [] ma) s D = .ok (bd ps) (D ++ [.frz (bd ps)]) := by
  have gt : (D ++ [Cell.own (bd ps)])[D.length]? = some (.own (bd ps)) := by simp
  have fz := fzv_own gt
  have st : (D ++ [Cell.own (bd ps)]).set D.length (.frz (bd ps)) = D ++ [.frz (bd ps)] := by rw [List.set_append_right _ _ (Nat.le_refl _)]; simp
  rw [mFz_ev, mMake_ev, ha, bind_ok, List.append_nil, sp_init L h0, bind_ok]
  show (Res.ok (.cel D.length) (D ++ [Cell.own (bd ps)])).bind fzv = _
  rw [bind_ok, fz, st]
end FH
/-! SgC: what serves any law with boards, no def of the law in it (parts of SgB, TbC, TbE). -/
namespace FH
open PySem L2
open TL (tl split_join)
open PySem.Spec PyProof.Rows
theorem rd_bd {C : Tab} {ps : List (Str × Str)} : rd C (bd ps) = bd ps := rfl
theorem pl_of (xs : List Str) : (TV.lst (xs.map .str)).pl = true := pl_strs
theorem vl_sps {ps : List (Str × Str)} (nd : (ps.map (·.1)).Nodup) {k : Str} (h : k ∈ ps.map (·.1)) : lookT (toD (sps ps)) (.inr k) = some (.str (vl ps k)) := by
  have hm : (k, vl ps k) ∈ sps ps := (sps_mem nd).mpr (vl_in nd h)
  exact toD_look (sps_nd nd) hm
theorem sps_in {ps : List (Str × Str)} {k : Str} : k ∈ (sps ps).map (·.1) ↔ k ∈ ps.map (·.1) := by
  rw [sps_keys, (srtS_perm _).mem_iff]
theorem sps_sps {ps : List (Str × Str)} (nd : (ps.map (·.1)).Nodup) : sps (sps ps) = sps ps := sps_perm nd (sps_p nd)
theorem isc_bd {C : Tab} {ps : List (Str × Str)} : isCR "Board" (bd ps) C = .ok (.bl true) C := by
  unfold isCR
  rw [rd_bd]
  show (if ("Board" : Str) = "Board" then Res.ok (TV.bl true) C else .stuck) = _
  rw [if_pos rfl]
theorem eqI_dct {C : Tab} {ps qs : List (Str × Str)} (nd : (ps.map (·.1)).Nodup) (h : ps.Perm qs) : eqI (.dct (toD ps)) (.dct (toD qs)) C = .ok (.bl true) C := by
  unfold eqI
  rw [rd_dct, rd_dct]
  show okB (eqT 30 (.dct (toD ps)) (.dct (toD qs))) C = _
  rw [eqT_perm nd h 28]; rfl
@[simp] theorem mIsC_ev {s : Slots} {C : Tab} {c : Str} {m : EM TV} : mIsC c m s C = (m s C).bind (isCR c) := rfl
theorem meth_bd {C : Tab} {ps : List (Str × Str)} {m : Str} (h : ("homes" : Str) ≠ m) : methR "Board" m (bd ps) C = true := by
  unfold methR
  rw [rd_bd]
  unfold bd
  dsimp only
  have e : (m == ("homes" : Str)) = false := by simpa using fun z => h z.symm
  simp [List.lookup, e]
theorem items_src {C : Tab} {ps : List (Str × Str)} : dsrc itemsT (.dct (toD ps)) C = .ok (ps.map pairT, none) C := by
  have e : itemsT (toD ps) = ps.map pairT := by simp [itemsT, toD, List.map_map, Function.comp, keyTV, pairT]
  unfold dsrc dctOf
  dsimp only
  rw [e]
@[simp] theorem mItems_ev {m : EM TV} {s : Slots} {C : Tab} : mItems m s C = (m s C).bind (dsrc itemsT) := rfl
theorem tyL_at {C : Tab} {xs : List TV} : tyL (.cel C.length) (C ++ [.own (.lst xs)]) = true := by
  unfold tyL
  rw [rd_new]
theorem app_at {C : Tab} {xs : List TV} {y : TV} (h : xs.length < sizeLine) : fAppend (.cel C.length) [y] (C ++ [.own (.lst xs)]) = .ok .non (C ++ [.own (.lst (xs ++ [y]))]) := by
  have g : (C ++ [Cell.own (.lst xs)])[C.length]? = some (.own (.lst xs)) := by simp
  unfold fAppend
  dsimp only
  rw [g]
  dsimp only
  rw [if_pos h, List.set_append_right _ _ (Nat.le_refl _)]
  simp
def rl (xs : List Str) : Str := (pyd (.lst (xs.map .str))).shown
theorem okTL_strs : ∀ xs : List Str, okTL (xs.map .str) = true
  | [] => rfl
  | x :: xs => by show (okT (.str x) && okTL (xs.map .str)) = true; rw [okTL_strs xs]; rfl
theorem showL_strs : ∀ xs : List Str, PyData.showableAll (pydL (xs.map .str)) = true
  | [] => by simp [pydL, PyData.showableAll]
  | x :: xs => by
    have ih := showL_strs xs
    simp only [List.map_cons, pydL, PyData.showableAll, pyd, PyData.showable, Bool.true_and]
    exact ih
theorem depthL_strs : ∀ xs : List Str, PyData.depthAll (pydL (xs.map .str)) = 0
  | [] => by simp [pydL, PyData.depthAll]
  | x :: xs => by
    have ih := depthL_strs xs
    simp only [List.map_cons, pydL, PyData.depthAll, pyd, PyData.depth]
    rw [ih]; rfl
theorem shownL_strs : ∀ xs : List Str, PyData.shownAll (pydL (xs.map .str)) = xs.map reprText
  | [] => by simp [pydL, PyData.shownAll]
  | x :: xs => by
    have ih := shownL_strs xs
    simp only [List.map_cons, pydL, PyData.shownAll, pyd, PyData.shown]
    rw [ih]
theorem hasL_strs : ∀ xs : List Str, PyData.hasDictAll (pydL (xs.map .str)) = false
  | [] => by simp [pydL, PyData.hasDictAll]
  | x :: xs => by
    have ih := hasL_strs xs
    simp only [List.map_cons, pydL, PyData.hasDictAll, pyd, PyData.hasDict, Bool.false_or]
    exact ih
theorem rl_len {xs : List Str} (h : ∀ x ∈ xs, gname x) (hl : xs.length ≤ 60) : (rl xs).length ≤ sizeLine := by
  have e4 : ("[" : Str).length = 1 := by decide +kernel
  have e5 : ("]" : Str).length = 1 := by decide +kernel
  have q := textFrom_len_le (xs.map reprText) 0 "["
  have q2 := sum_le (ws := xs.map reprText) (n := 62) fun w hw => by
    obtain ⟨p, hp, rfl⟩ := List.mem_map.mp hw
    exact gname_rep (h p hp)
  rw [e4] at q
  unfold rl
  rw [pyd, PyData.shown, shownL_strs, listText, str_len, e5, sizeLine_eq]
  have e6 : (xs.map reprText).length = xs.length := List.length_map ..
  rw [e6] at q q2
  omega
theorem bRepr_strs {C : Tab} {xs : List Str} {t : TV} (h : ∀ x ∈ xs, gname x) (hl : xs.length ≤ 60) (ht : rd C t = .lst (xs.map .str)) : bRepr [t] C = .ok (.str (rl xs)) C := by
  unfold bRepr
  dsimp only
  rw [ht, if_pos]
  · rfl
  · refine ⟨rfl, okTL_strs xs, fun z => ?_, ?_, ?_, rl_len h hl⟩
    · rw [pyd, PyData.hasDict, hasL_strs] at z; cases z
    · rw [pyd, PyData.showable]; exact showL_strs xs
    · rw [pyd, PyData.depth, depthL_strs]; omega
@[simp] theorem nTryF_ev {tb : Tk} {i : Nat} {b : SM} {h : HM} {s : Slots} {C : Tab} : nTryF tb i b h s C = tryF tb i h (b s C) := rfl
theorem flatL_strs : ∀ xs : List Str, flatL (xs.map .str) = some (xs.map V.str)
  | [] => rfl
  | x :: xs => by rw [List.map_cons]; simp only [flatL, flatT, Option.bind_some, flatL_strs xs, Option.map_some]; rfl
theorem inV_strs (x : Str) : ∀ xs : List Str, inV (.str x) (xs.map V.str) = decide (x ∈ xs)
  | [] => by simp [inV]
  | y :: ys => by
    have ih := inV_strs x ys
    have e : eqV (.str y) (.str x) = decide (y = x) := by
      show (y == x) = decide (y = x)
      rw [Bool.eq_iff_iff, beq_iff_eq, decide_eq_true_iff]
    unfold inV at ih ⊢
    rw [List.map_cons, List.any_cons, ih, e]
    by_cases h : y = x
    · simp [h]
    · simp [h, Ne.symm h]
theorem inT_lst {C : Tab} {t : TV} {xs : List Str} {x : Str} {neg : Bool} (h : rd C t = .lst (xs.map .str)) : inT neg (.str x) t C = .ok (.bl (if neg then !decide (x ∈ xs) else decide (x ∈ xs))) C := by
  unfold inT
  rw [h]
  have e : inR (.str x) (.lst (xs.map .str)) = some (decide (x ∈ xs)) := by
    show ((itT (.lst (xs.map .str))).bind fun zs => (flatL zs).bind fun vs => (flatT (.str x)).map fun v => inV v vs) = _
    simp only [itT, Option.bind_some, flatL_strs, flatT, Option.map_some, inV_strs]
  rw [e]
theorem neI_str {a b : Str} {C : Tab} : neI (.str a) (.str b) C = .ok (.bl (!decide (a = b))) C := by
  unfold neI neI0
  simp only [rd_str, flatT, scal, if_true]
  have e : decide (V.str a = V.str b) = decide (a = b) := by simp
  rw [e]; rfl
end FH
/-! SgD: a board's parts in plain words: boxes, targets, leaves, fixed ones, bearers; general rules of evaluation. No def of a law in it. -/
namespace FH
open PySem L2
open TL (tl split_join)
open PySem.Spec PyProof.Rows
/-! ### plain -/
theorem srt_filter {p : Str → Bool} {xs : List Str} : srtS (xs.filter p) = (srtS xs).filter p :=
  perm_unique (fun a b => leS_anti) ((srtS_perm _).trans ((srtS_perm xs).filter p).symm) (srtS_pw _) ((srtS_pw xs).sublist List.filter_sublist)
theorem srt_ext {xs ys : List Str} (nx : xs.Nodup) (ny : ys.Nodup) (m : ∀ a, a ∈ xs ↔ a ∈ ys) : srtS xs = srtS ys := srt_perm ((List.perm_ext_iff_of_nodup nx ny).mpr m)
theorem srt_mem {xs : List Str} {a : Str} : a ∈ srtS xs ↔ a ∈ xs := (srtS_perm xs).mem_iff
theorem srt_len {xs : List Str} : (srtS xs).length = xs.length := (srtS_perm xs).length_eq
def bxs (ps : List (Str × Str)) : List Str := srtS (ps.map (·.1))
def tg (ps : List (Str × Str)) : List Str := srtS (ddS (ps.map (·.2)))
def lvs (ps : List (Str × Str)) : List Str := (bxs ps).filter fun a => !decide (a ∈ ps.map (·.2))
def fxd (ps : List (Str × Str)) : List Str := (bxs ps).filter fun a => decide (vl ps a = a)
def brs (ps : List (Str × Str)) (b : Str) : List Str := (bxs ps).filter fun a => decide (vl ps a = b)
section
variable {ps : List (Str × Str)}
theorem bxs_mem {a : Str} : a ∈ bxs ps ↔ a ∈ ps.map (·.1) := srt_mem
theorem bxs_len : (bxs ps).length = ps.length := by unfold bxs; rw [srt_len, List.length_map]
theorem tg_mem {a : Str} : a ∈ tg ps ↔ a ∈ ps.map (·.2) := srt_mem.trans mem_ddS
theorem tg_nd : (tg ps).Nodup := srtS_nodup nd_ddS
theorem tg_len : (tg ps).length ≤ ps.length := by
  unfold tg
  rw [srt_len]
  have := len_ddS (xs := ps.map (·.2))
  rwa [List.length_map] at this
theorem bxs_nd (L : Lab ps) : (bxs ps).Nodup := srtS_nodup L.nd
theorem lvs_mem {a : Str} : a ∈ lvs ps ↔ a ∈ ps.map (·.1) ∧ a ∉ ps.map (·.2) := by
  unfold lvs
  rw [List.mem_filter, bxs_mem]
  simp
theorem fxd_mem {a : Str} : a ∈ fxd ps ↔ a ∈ ps.map (·.1) ∧ vl ps a = a := by
  unfold fxd
  rw [List.mem_filter, bxs_mem]
  simp
theorem brs_mem {a b : Str} : a ∈ brs ps b ↔ a ∈ ps.map (·.1) ∧ vl ps a = b := by
  unfold brs
  rw [List.mem_filter, bxs_mem]
  simp
theorem brs_len {b : Str} : (brs ps b).length ≤ ps.length := by
  have := List.length_filter_le (fun a => decide (vl ps a = b)) (bxs ps)
  rw [bxs_len] at this
  exact this
theorem lvs_len : (lvs ps).length ≤ ps.length := by
  have := List.length_filter_le (fun a => !decide (a ∈ ps.map (·.2))) (bxs ps)
  rw [bxs_len] at this
  exact this
theorem fxd_len : (fxd ps).length ≤ ps.length := by
  have := List.length_filter_le (fun a => decide (vl ps a = a)) (bxs ps)
  rw [bxs_len] at this
  exact this
theorem val_key (L : Lab ps) {a : Str} (h : a ∈ ps.map (·.2)) : a ∈ ps.map (·.1) := by
  obtain ⟨p, hp, rfl⟩ := List.mem_map.mp h
  exact L.cl p hp
theorem vl_val (L : Lab ps) {a : Str} (h : a ∈ ps.map (·.1)) : vl ps a ∈ ps.map (·.2) := List.mem_map.mpr ⟨_, vl_in L.nd h, rfl⟩
theorem val_iff (L : Lab ps) {b : Str} : b ∈ ps.map (·.2) ↔ ∃ a, a ∈ brs ps b := by
  constructor
  · intro h
    obtain ⟨p, hp, rfl⟩ := List.mem_map.mp h
    exact ⟨p.1, brs_mem.mpr ⟨List.mem_map.mpr ⟨p, hp, rfl⟩, vl_mem L.nd hp⟩⟩
  · rintro ⟨a, ha⟩
    obtain ⟨h1, h2⟩ := brs_mem.mp ha
    rw [← h2]
    exact vl_val L h1
theorem brs_ne (L : Lab ps) {b : Str} : (brs ps b).isEmpty = !decide (b ∈ ps.map (·.2)) := by
  by_cases h : b ∈ ps.map (·.2)
  · obtain ⟨a, ha⟩ := (val_iff L).mp h
    simp only [h, decide_true, Bool.not_true]
    cases e : brs ps b with
    | nil => rw [e] at ha; cases ha
    | cons x xs => rfl
  · simp only [h, decide_false, Bool.not_false]
    cases e : brs ps b with
    | nil => rfl
    | cons x xs => exact absurd ((val_iff L).mpr ⟨x, by rw [e]; exact List.mem_cons_self⟩) h
theorem bxs_gn (L : Lab ps) : ∀ a ∈ bxs ps, gname a := fun a h => L.gn (bxs_mem.mp h)
theorem tg_gn (L : Lab ps) : ∀ a ∈ tg ps, gname a := fun a h => L.gn (val_key L (tg_mem.mp h))
theorem lvs_gn (L : Lab ps) : ∀ a ∈ lvs ps, gname a := fun a h => L.gn (lvs_mem.mp h).1
theorem fxd_gn (L : Lab ps) : ∀ a ∈ fxd ps, gname a := fun a h => L.gn (fxd_mem.mp h).1
theorem brs_gn (L : Lab ps) {b : Str} : ∀ a ∈ brs ps b, gname a := fun a h => L.gn (brs_mem.mp h).1
/-- the law's own words -/
theorem law_brs {b : Str} : srtS ((ps.map (·.1)).filter fun a => decide (vl ps a = b)) = brs ps b := srt_filter
theorem law_tg (L : Lab ps) : srtS ((ps.map (·.1)).filter fun a => !(brs ps a).isEmpty) = tg ps := by
  refine srt_ext (L.nd.filter _) nd_ddS fun a => ?_
  rw [List.mem_filter, brs_ne L, mem_ddS]
  simp only [Bool.not_not, decide_eq_true_eq]
  exact ⟨fun h => h.2, fun h => ⟨val_key L h, h⟩⟩
theorem law_lvs (L : Lab ps) : srtS ((ps.map (·.1)).filter fun a => (brs ps a).isEmpty) = lvs ps := by
  rw [srt_filter]
  exact List.filter_congr fun a _ => brs_ne L
theorem law_fxd : srtS ((ps.map (·.1)).filter fun a => decide (vl ps a = a)) = fxd ps := srt_filter
theorem sps_vals (L : Lab ps) : srtS (ddS ((sps ps).map (·.2))) = tg ps :=
  srt_ext nd_ddS nd_ddS fun a => by rw [mem_ddS, mem_ddS]; exact ((sps_p L.nd).map _).mem_iff
theorem sps_val_mem (L : Lab ps) {a : Str} : a ∈ (sps ps).map (·.2) ↔ a ∈ ps.map (·.2) := ((sps_p L.nd).map _).mem_iff
theorem sps_bxs : (sps ps).map (·.1) = bxs ps := sps_keys
end
/-! ### rules of evaluation -/
theorem strs_emp {xs : List Str} : (xs.map TV.str).isEmpty = xs.isEmpty := by cases xs <;> rfl
section
variable {C : Tab} {s : Slots} {m : EM TV} {own : Bool}
@[simp] theorem mSortSet_ev : mSortSet own m s C = (m s C).bind (sortSetV own) := rfl
@[simp] theorem mValsL_ev : mValsL own m s C = (m s C).bind (valsV own) := rfl
theorem valsV_toD {qs : List (Str × Str)} : valsV false (.dct (toD qs)) C = .ok (.lst ((qs.map (·.2)).map .str)) C := by
  unfold valsV
  rw [rd_dct]
  dsimp only
  rw [alc_fz]
  simp [toD, List.map_map, Function.comp]
theorem sset_own {xs : List Str} (h : xs.length < 64) : sortSetV true (.lst (xs.map .str)) C = .ok (.cel C.length) (C ++ [.own (.lst ((srtS (ddS xs)).map .str))]) := by
  unfold sortSetV
  rw [rd_lst]
  dsimp only
  rw [strL_map]
  dsimp only
  rw [if_pos h]; rfl
theorem sset_fz {xs : List Str} (h : xs.length < 64) : sortSetV false (.lst (xs.map .str)) C = .ok (.lst ((srtS (ddS xs)).map .str)) C := by
  unfold sortSetV
  rw [rd_lst]
  dsimp only
  rw [strL_map]
  dsimp only
  rw [if_pos h]; rfl
theorem gcR_exc {G : Tab} {x : Exc} (h : TV.low.lowf C.length x.fs = true) : gcR C (.exc x s (C ++ G)) = .exc x C := by
  have kp : Keep C (C ++ G) := ⟨by rw [List.length_append]; omega, fun j c hj hc => by rw [List.getElem?_append_left hj] at hc; exact .inl hc⟩
  simp only [gcR]
  rw [if_pos ⟨kp, h⟩]
  simp
end
/-- a dict whose keys come again and again: its keys -/
theorem lookT_put {kvs : List (Key × TV)} {k j : Key} {v : TV} : (lookT (putT kvs k v) j).isSome = (decide (k = j) || (lookT kvs j).isSome) := by
  unfold lookT putT
  by_cases h : kvs.any (fun kv => decide (kv.1 = k)) = true
  · rw [if_pos h]
    rw [Bool.eq_iff_iff]
    simp only [Option.isSome_map, List.find?_isSome, decide_eq_true_eq, Bool.or_eq_true, List.any_eq_true] at h ⊢
    constructor
    · rintro ⟨x, hx, e⟩
      obtain ⟨y, hy, rfl⟩ := List.mem_map.mp hx
      by_cases c : y.1 = k
      · rw [if_pos c] at e
        exact .inl (c.symm.trans e)
      · rw [if_neg c] at e
        exact .inr ⟨y, hy, e⟩
    · rintro (rfl | ⟨y, hy, e⟩)
      · obtain ⟨x, hx, e⟩ := h
        exact ⟨_, List.mem_map.mpr ⟨x, hx, rfl⟩, by rw [if_pos e]; exact e⟩
      · refine ⟨_, List.mem_map.mpr ⟨y, hy, rfl⟩, ?_⟩
        split <;> exact e
  · rw [if_neg h]
    rw [Bool.eq_iff_iff]
    simp only [Option.isSome_map, List.find?_isSome, decide_eq_true_eq, Bool.or_eq_true, List.mem_append, List.mem_singleton]
    constructor
    · rintro ⟨x, hx | rfl, e⟩
      · exact .inr ⟨x, hx, e⟩
      · exact .inl e
    · rintro (rfl | ⟨y, hy, e⟩)
      · exact ⟨_, .inr rfl, rfl⟩
      · exact ⟨y, .inl hy, e⟩
theorem putT_len2 {kvs : List (Key × TV)} {k : Key} {v : TV} : (putT kvs k v).length ≤ kvs.length + 1 := by
  unfold putT
  split
  · rw [List.length_map]; omega
  · rw [List.length_append]; simp
theorem dc_keys {C C0 : Tab} {s0 : Slots} {i : Nat} {me : EM TV} {v : TV} (hi : i < s0.length) : ∀ (ks : List Str) (acc : List (Key × TV)), (∀ a ∈ ks, me (s0.set i (some (.str a))) C = .ok v C) → acc.length + ks.length < sizeLine →
    ∃ kvs, dcL (gtN i) mYes (mVar i) me none C0 s0 (ks.map .str) acc C = .ok kvs C ∧ (∀ a : Str, (lookT kvs (.inr a)).isSome = (decide (a ∈ ks) || (lookT acc (.inr a)).isSome)) ∧ kvs.length ≤ acc.length + ks.length
  | [], acc, _, _ => ⟨acc, by simp [dcL], fun a => by simp, by simp⟩
  | a :: ks, acc, ht, hl => by
    simp only [List.length_cons] at hl
    have pl := putT_len2 (kvs := acc) (k := .inr a) (v := v)
    obtain ⟨kvs, e, hm, hk⟩ := dc_keys (C := C) (C0 := C0) (me := me) (v := v) hi ks (putT acc (.inr a) v) (fun b hb => ht b (List.mem_cons_of_mem _ hb)) (by omega)
    refine ⟨kvs, ?_, fun b => ?_, by simp only [List.length_cons]; omega⟩
    · rw [List.map_cons]
      unfold dcL
      rw [gtN_ev]
      dsimp only
      rw [mYes_ev, bind_ok, if_pos rfl, mVar_ev, List.getElem?_set_self hi, rdS_some, bind_ok, ht a List.mem_cons_self, bind_ok]
      simp only [keyOf]
      rw [if_pos ⟨by omega, (True.intro : lkOk none C0 C)⟩, e]
    · rw [hm, lookT_put]
      by_cases c : a = b
      · subst c; simp
      · have c1 : ¬ (Sum.inr a : Key) = Sum.inr b := fun z => c (Sum.inr.inj z)
        have c2 : ¬ b = a := fun z => c z.symm
        simp [c1, c2]
theorem lc_fmap {C C0 : Tab} {s0 : Slots} {i : Nat} {tt : EM Bool} {me : EM TV} {f : Str → Bool} {g : Str → TV} : ∀ (ks : List Str) (acc : List TV), (∀ a ∈ ks, tt (s0.set i (some (.str a))) C = .ok (f a) C) → (∀ a ∈ ks, f a = true → me (s0.set i (some (.str a))) C = .ok (g a) C) → acc.length + ks.length < sizeLine →
    lcL (gtN i) tt me none C0 s0 (ks.map .str) acc C = .ok (acc ++ (ks.filter f).map g) C
  | [], acc, _, _, _ => by simp [lcL]
  | a :: ks, acc, ht, hm, hl => by
    simp only [List.length_cons] at hl
    rw [List.map_cons]
    unfold lcL
    rw [gtN_ev]
    dsimp only
    rw [ht a List.mem_cons_self, bind_ok]
    cases hf : f a with
    | true =>
      rw [if_pos rfl, hm a List.mem_cons_self hf, bind_ok, if_pos ⟨by omega, (True.intro : lkOk none C0 C)⟩, lc_fmap ks _ (fun b hb => ht b (List.mem_cons_of_mem _ hb)) (fun b hb => hm b (List.mem_cons_of_mem _ hb)) (by simp; omega)]
      simp [List.filter_cons, hf]
    | false =>
      rw [if_neg (by decide), if_pos (show lkOk none C0 C from True.intro), lc_fmap ks _ (fun b hb => ht b (List.mem_cons_of_mem _ hb)) (fun b hb => hm b (List.mem_cons_of_mem _ hb)) (by omega)]
      simp [List.filter_cons, hf]
theorem tryF_app {C : Tab} {s : Slots} {TB : Tk} {c f : Str} {t : TV} {i j k : Nat} {xs : List TV} (tb : TB.lookup c = some true) (hj : j < s.length) (hk : (s.set j none)[k]? = some (some (.cel i))) (hc : C[i]? = some (.own (.lst xs))) (hl : xs.length < sizeLine) :
    tryF TB j (hApp k c f) (.exc ⟨c, [(f, t)]⟩ s C) = .nx (s.set j none) (C.set i (.own (.lst (xs ++ [t])))) := by
  unfold tryF
  dsimp only
  rw [tb]
  dsimp only
  rw [if_pos hj]
  unfold hApp
  rw [show xfld c f ⟨c, [(f, t)]⟩ = some t from by simp [xfld, List.lookup]]
  unfold appS
  dsimp only
  rw [hk]
  dsimp only
  rw [hc]
  dsimp only
  rw [if_pos hl]
  rfl
theorem set_last {C : Tab} {a b : Cell} : (C ++ [a]).set C.length b = C ++ [b] := by rw [List.set_append_right _ _ (Nat.le_refl _)]; simp
theorem get_last {C : Tab} {a : Cell} : (C ++ [a])[C.length]? = some a := by simp
theorem fClear_last {C : Tab} {xs : List TV} : fLClear (.cel C.length) [] (C ++ [.own (.lst xs)]) = .ok .non (C ++ [.own (.lst [])]) := by
  unfold fLClear
  dsimp only
  rw [get_last]
  dsimp only
  rw [set_last]
theorem fz_last {C : Tab} {t : TV} : fzv (.cel C.length) (C ++ [.own t]) = .ok t (C ++ [.frz t]) := by rw [fzv_own get_last, set_last]
@[simp] theorem mDisp_ev {C : Tab} {s : Slots} {ma : EM (List TV)} : mDisp ma s C = (ma s (C ++ [.own (.dct [])])).bind (dispR C.length) := rfl
theorem disp_one {C : Tab} {a b : Str} : dispR C.length [.str a, .str b] (C ++ [.own (.dct [])]) = .ok (.cel C.length) (C ++ [.own (.dct (toD [(a, b)]))]) := by
  have pu : pairUp [.str a, .str b] = some (toD [(a, b)]) := rfl
  unfold dispR
  rw [pu, get_last]
  dsimp only
  rw [if_pos (show (toD [(a, b)]).length ≤ 15 by simp [toD]), set_last]
  simp [toD, mergeT, putT]
theorem bIsi_not {C : Tab} {t : TV} {n : String} (ht : tyName t = some n) (hn : n ≠ "str") : bIsi [t, .con (.ty "str")] C = .ok (.bl false) C := by
  have er : rd C t = t := by cases t <;> first | rfl | (cases ht; done)
  have kb : kitB n "str" = some false := by
    cases t <;> simp only [tyName, Option.some.injEq, reduceCtorEq] at ht <;> subst ht <;> first | exact absurd rfl hn | decide +kernel
  unfold bIsi
  dsimp only
  rw [er, ht, Option.bind_some, kb]
theorem inT_dct {C : Tab} {kvs : List (Key × TV)} {a : Str} {neg : Bool} : inT neg (.str a) (.dct kvs) C = .ok (.bl (if neg then !(lookT kvs (.inr a)).isSome else (lookT kvs (.inr a)).isSome)) C := by
  unfold inT
  rw [rd_dct]
  simp [inR, keyOf]
end FH
/-! SgE: repr of a list of values of any kind. -/
namespace FH
open PySem L2
open TL (tl split_join)
open PySem.Spec PyProof.Rows
/-- a value whose text is short -/
structure Rp (n : Nat) (t : TV) : Prop where
  ok : okT t = true
  sh : (pyd t).showable = true
  dp : (pyd t).depth ≤ 20
  ln : (pyd t).shown.length ≤ n
theorem Rp.le {n m : Nat} {t : TV} (h : Rp n t) (l : n ≤ m) : Rp m t := ⟨h.ok, h.sh, h.dp, Nat.le_trans h.ln l⟩
section
variable {n : Nat}
theorem okTL_rp : ∀ {ts : List TV}, (∀ t ∈ ts, Rp n t) → okTL ts = true
  | [], _ => rfl
  | t :: ts, h => by
    show (okT t && okTL ts) = true
    rw [(h t List.mem_cons_self).ok, okTL_rp fun u hu => h u (List.mem_cons_of_mem _ hu)]; rfl
theorem showL_rp : ∀ {ts : List TV}, (∀ t ∈ ts, Rp n t) → PyData.showableAll (pydL ts) = true
  | [], _ => by simp [pydL, PyData.showableAll]
  | t :: ts, h => by
    rw [pydL, PyData.showableAll, (h t List.mem_cons_self).sh, showL_rp fun u hu => h u (List.mem_cons_of_mem _ hu)]; rfl
theorem depthL_rp : ∀ {ts : List TV}, (∀ t ∈ ts, Rp n t) → PyData.depthAll (pydL ts) ≤ 20
  | [], _ => by simp [pydL, PyData.depthAll]
  | t :: ts, h => by
    have a := (h t List.mem_cons_self).dp
    have b := depthL_rp fun u hu => h u (List.mem_cons_of_mem t hu)
    rw [pydL, PyData.depthAll]
    exact Nat.max_le.mpr ⟨a, b⟩
theorem shownL_map : ∀ (ts : List TV), PyData.shownAll (pydL ts) = ts.map fun t => (pyd t).shown
  | [] => by simp [pydL, PyData.shownAll]
  | t :: ts => by rw [pydL, PyData.shownAll, shownL_map ts]; rfl
theorem shown_lst {ts : List TV} (h : ∀ t ∈ ts, Rp n t) : (pyd (.lst ts)).shown.length ≤ 2 + ts.length * (n + 2) := by
  have e4 : ("[" : Str).length = 1 := by decide +kernel
  have e5 : ("]" : Str).length = 1 := by decide +kernel
  have q := textFrom_len_le (ts.map fun t => (pyd t).shown) 0 "["
  have q2 := sum_le (ws := ts.map fun t => (pyd t).shown) (n := n) fun w hw => by
    obtain ⟨t, ht, rfl⟩ := List.mem_map.mp hw
    exact (h t ht).ln
  rw [e4] at q
  rw [pyd, PyData.shown, shownL_map, listText, str_len, e5]
  rw [List.length_map] at q q2
  have e : ts.length * (n + 2) = ts.length * n + ts.length * 2 := Nat.mul_add ..
  omega
theorem repr_any {C : Tab} {t : TV} {ts : List TV} (h : ∀ t ∈ ts, Rp n t) (hn : 2 + ts.length * (n + 2) ≤ 16000000) (ht : rd C t = .lst ts) : bReprN [t] C = .ok (.str (pyd (.lst ts)).shown) C := by
  have d := depthL_rp h
  have l := shown_lst h
  unfold bReprN
  dsimp only
  rw [ht, if_pos]
  refine ⟨rfl, okTL_rp h, ?_, ?_, ?_⟩
  · rw [pyd, PyData.showable]; exact showL_rp h
  · rw [pyd, PyData.depth]; omega
  · rw [sizeLine_eq]; omega
end
theorem rp_str {x : Str} {n : Nat} (h : ∀ c ∈ tl x, c ≤ 122) (hl : 10 * x.length + 2 ≤ n) : Rp n (.str x) := by
  refine ⟨rfl, by simp [pyd, PyData.showable], by simp [pyd, PyData.depth], ?_⟩
  have := StrLaws.reprText_len x fun c hc => by have := h c hc; omega
  show (PyData.shown (pyd (.str x))).length ≤ n
  rw [pyd, PyData.shown]
  omega
theorem rp_gname {x : Str} (h : gname x) : Rp 62 (.str x) := rp_str (fun c hc => (h.2.2 c hc).2) (by have := h.2.1; omega)
theorem rp_non : Rp 62 .non := ⟨rfl, by decide +kernel, by decide +kernel, by decide +kernel⟩
theorem rp_bl {b : Bool} : Rp 62 (.bl b) := by cases b <;> exact ⟨rfl, by decide +kernel, by decide +kernel, by decide +kernel⟩
theorem rp_lst {n m : Nat} {ts : List TV} (h : ∀ t ∈ ts, Rp n t) (hd : ∀ t ∈ ts, (pyd t).depth ≤ 18) (hm : 2 + ts.length * (n + 2) ≤ m) : Rp m (.lst ts) := by
  refine ⟨okTL_rp h, by rw [pyd, PyData.showable]; exact showL_rp h, ?_, Nat.le_trans (shown_lst h) hm⟩
  have : ∀ us : List TV, (∀ t ∈ us, (pyd t).depth ≤ 18) → PyData.depthAll (pydL us) ≤ 18 := fun us => by
    induction us with
    | nil => intro _; simp [pydL, PyData.depthAll]
    | cons t ts ih =>
      intro h
      rw [pydL, PyData.depthAll]
      exact Nat.max_le.mpr ⟨h t List.mem_cons_self, ih fun u hu => h u (List.mem_cons_of_mem _ hu)⟩
  have := this ts hd
  rw [pyd, PyData.depth]
  omega
theorem rp_tup {n m : Nat} {ts : List TV} (h : ∀ t ∈ ts, Rp n t) (hd : ∀ t ∈ ts, (pyd t).depth ≤ 18) (hm : 3 + n + ts.length * (n + 2) ≤ m) : Rp m (.tup ts) := by
  have l := rp_lst h hd (Nat.le_refl _)
  have ld := l.dp
  rw [pyd, PyData.depth] at ld
  refine ⟨l.ok, by rw [pyd, PyData.showable]; exact showL_rp h, by rw [pyd, PyData.depth]; exact ld, ?_⟩
  have e3 : (", " : Str).length = 2 := by decide +kernel
  have e4 : ("(" : Str).length = 1 := by decide +kernel
  have e5 : (")" : Str).length = 1 := by decide +kernel
  have e6 : (",)" : Str).length = 2 := by decide +kernel
  have q := join_len (sep := ", ") (ws := ts.map fun t => (pyd t).shown) (n := n) fun w hw => by
    obtain ⟨t, ht, rfl⟩ := List.mem_map.mp hw
    exact (h t ht).ln
  rw [TL.join_eq, List.length_map, e3] at q
  have e : ts.length * (n + 2) = ts.length * (2 + n) := by rw [Nat.add_comm n 2]
  rw [pyd, PyData.shown, shownL_map]
  unfold tupleText
  split
  · rw [str_len, str_len, e4, e6]
    omega
  · rw [str_len, str_len, e4, e5]
    omega
theorem rp_dct {ps : List (Str × Str)} (P : Prs ps) : Rp 8000 (.dct (toD ps)) := by
  refine ⟨okTK_toD ps, by rw [pyd, PyData.showable]; exact show_toD ps, by rw [pyd, PyData.depth, depth_toD] <;> decide, ?_⟩
  have e2 : (": " : Str).length = 2 := by decide +kernel
  have e3 : (", " : Str).length = 2 := by decide +kernel
  have e4 : ("{" : Str).length = 1 := by decide +kernel
  have e5 : ("}" : Str).length = 1 := by decide +kernel
  have q := join_len (sep := ", ") (ws := ps.map fun p => reprText p.1 ++ ": " ++ reprText p.2) (n := 126) fun w hw => by
    obtain ⟨p, hp, rfl⟩ := List.mem_map.mp hw
    rw [str_len, str_len, e2]
    have := gname_rep (P.a p hp)
    have := gname_rep (P.b p hp)
    omega
  rw [TL.join_eq, List.length_map, e3] at q
  rw [pyd, PyData.shown, shown_toD, dictText, str_len, str_len, e4, e5]
  have := P.le
  omega
theorem repr_rp {C : Tab} {t u : TV} {n : Nat} (h : Rp n u) (hn : n ≤ 16000000) (nt : nestT u = true) (ht : rd C t = u) : bReprN [t] C = .ok (.str (pyd u).shown) C := by
  unfold bReprN
  dsimp only
  rw [ht, if_pos]
  have := h.ln
  have := h.dp
  exact ⟨nt, h.ok, h.sh, by omega, by rw [sizeLine_eq]; omega⟩
theorem dp_str {x : Str} : (pyd (.str x)).depth ≤ 18 := by simp [pyd, PyData.depth]
theorem rp_strs {xs : List Str} (h : ∀ x ∈ xs, gname x) (hl : xs.length ≤ 200) : Rp 20000 (.lst (xs.map .str)) :=
  rp_lst (n := 62) (fun t ht => by obtain ⟨x, hx, rfl⟩ := List.mem_map.mp ht; exact rp_gname (h x hx)) (fun t ht => by obtain ⟨x, hx, rfl⟩ := List.mem_map.mp ht; exact dp_str) (by rw [List.length_map]; omega)
theorem rp_tups {xs : List Str} (h : ∀ x ∈ xs, gname x) (hl : xs.length ≤ 200) : Rp 20000 (.tup (xs.map .str)) :=
  rp_tup (n := 62) (fun t ht => by obtain ⟨x, hx, rfl⟩ := List.mem_map.mp ht; exact rp_gname (h x hx)) (fun t ht => by obtain ⟨x, hx, rfl⟩ := List.mem_map.mp ht; exact dp_str) (by rw [List.length_map]; omega)
theorem tl_app {x y : Str} : tl (x ++ y) = tl x ++ tl y := by
  show (x.cps ++ y.cps).toList = _
  rw [Array.toList_append] <;> rfl
end FH
/-! SgF: the law's outer loop, once for all. -/
namespace FH
open PySem L2
open PySem.Spec PyProof.Rows
noncomputable def outL (M : Int) (body : SM) : SM := nSeq (nFor (mEnum (mCons (mSlice false (mOrT (mVar 0) (mLst false (mCons (mC (.int 5)) mNil))) mNo (mSo (mC (.int M)))) mNil)) (gtT [(gtN 1), (gtN 2)]) body) (nRet (mC (.bl true)))
theorem law_of {n : Nat} {M : Int} {body : SM} (I : Slots → Prop) (h0 : I (List.replicate n none)) (step : ∀ (a0 : Option TV) (r : Slots) (i c : Int) (D : Tab), I r → ∃ (r' : Slots) (D' : Tab), body (a0 :: some (.int i) :: some (.int c) :: r) D = .nx (a0 :: some (.int i) :: some (.int c) :: r') D' ∧ I r') :
    LawOk (ofM (n + 3) (outL M body)) := by
  intro ns hn
  have src : ∃ xs : List TV, (mEnum (mCons (mSlice false (mOrT (mVar 0) (mLst false (mCons (mC (.int 5)) mNil))) mNo (mSo (mC (.int M)))) mNil)) (some (.lsc ns) :: none :: none :: List.replicate n none) [] = .ok (enumT xs, none) [] ∧ ∀ x ∈ xs, ∃ c : Int, x = .int c := by
    cases ns with
    | nil =>
      have e : ∀ s, (mSlice false (mOrT (mVar 0) (mLst false (mCons (mC (.int 5)) mNil))) mNo (mSo (mC (.int M)))) (some (.lsc []) :: s) [] = .ok (.lst (cutT [.int 5] none (some M))) [] := fun s => rfl
      refine ⟨cutT [.int 5] none (some M), ?_, fun x hx => ?_⟩
      · unfold mEnum
        rw [mCons_ev, e]
        rfl
      · have : x ∈ [TV.int 5] := by
          unfold cutT at hx
          exact List.mem_of_mem_drop (List.mem_of_mem_take hx)
        exact ⟨5, List.mem_singleton.mp this⟩
    | cons a ns =>
      exact ⟨(cutT (a :: ns) none (some M)).map .int, rfl, fun x hx => by obtain ⟨c, _, rfl⟩ := List.mem_map.mp hx; exact ⟨c, rfl⟩⟩
  obtain ⟨xs, he, hx⟩ := src
  obtain ⟨s', D', e2, _⟩ := loop_inv (gt := gtT [(gtN 1), (gtN 2)]) (C0 := []) (body := body)
    (I := fun ys s _ => ∃ (a1 a2 : Option TV) (r : Slots), s = some (.lsc ns) :: a1 :: a2 :: r ∧ I r ∧ ∀ y ∈ ys, ∃ i c : Int, y = .tup [.int i, .int c])
    (fun y ys s C1 ⟨a1, a2, r, es, hr, hy⟩ => by
      subst es
      obtain ⟨i, c, rfl⟩ := hy _ List.mem_cons_self
      obtain ⟨r', D', e, hr'⟩ := step (some (.lsc ns)) r i c C1 hr
      exact ⟨_, _, D', rfl, e, _, _, r', rfl, hr', fun z hz => hy z (List.mem_cons_of_mem _ hz)⟩)
    (enumT xs) (some (.lsc ns) :: none :: none :: List.replicate n none) [] ⟨none, none, _, rfl, h0, enum_ints hx⟩
  refine ⟨[], ?_⟩
  have s0 : st0 (n + 3) [TV.lsc ns] = some (.lsc ns) :: none :: none :: List.replicate n none := by
    unfold st0
    simp [List.replicate_succ]
  have ev : outL M body (some (.lsc ns) :: none :: none :: List.replicate n none) [] = .rt (.bl true) D' := by
    unfold outL
    rw [nSeq_ev, nFor_ev, he, sr_ok]
    dsimp only
    rw [e2]; rfl
  unfold ofM
  rw [s0, ev]
  exact gcT_id (C := []) (G := D') (t := .bl true) rfl
end FH
/-! SgG: choices, paths, outcomes in plain words. -/
namespace FH
open PySem L2
open PySem.Spec PyProof.Rows
theorem perm_sub {α : Type} [DecidableEq α] : ∀ {ps qs : List α}, ps.Nodup → (∀ p ∈ ps, p ∈ qs) → qs.length ≤ ps.length → ps.Perm qs
  | [], qs, _, _, h => by
    have : qs = [] := List.length_eq_zero_iff.mp (by simpa using h)
    subst this; exact .refl _
  | p :: ps, qs, nd, hs, h => by
    obtain ⟨h1, h2⟩ := List.nodup_cons.mp nd
    have hp := hs p List.mem_cons_self
    have e := List.perm_cons_erase hp
    have ih := perm_sub (qs := qs.erase p) h2 (fun q hq => (List.mem_erase_of_ne (show q ≠ p from fun z => h1 (by rw [← z]; exact hq))).mpr (hs q (List.mem_cons_of_mem _ hq))) (by
      have := e.length_eq
      simp only [List.length_cons] at this h
      omega)
    exact (ih.cons p).trans e.symm
section
variable {ps cs ds : List (Str × Str)}
/-- the items that may win at a target -/
def mw (ps : List (Str × Str)) (a : Str) : List Str := if vl ps a = a then [a] else brs ps a
structure Ch (ps cs : List (Str × Str)) : Prop where
  nd : (cs.map (·.1)).Nodup
  ks : ∀ a, a ∈ cs.map (·.1) ↔ a ∈ tg ps
  wn : ∀ a ∈ tg ps, vl cs a ∈ mw ps a
theorem vl_perm (nd : (cs.map (·.1)).Nodup) (p : ds.Perm cs) (a : Str) : vl ds a = vl cs a := by
  have nd' : (ds.map (·.1)).Nodup := (p.map _).nodup_iff.mpr nd
  by_cases h : a ∈ cs.map (·.1)
  · exact vl_mem nd' (p := (a, vl cs a)) (p.mem_iff.mpr (vl_in nd h))
  · have h' : a ∉ ds.map (·.1) := fun z => h ((p.map _).mem_iff.mp z)
    have e : ∀ qs : List (Str × Str), a ∉ qs.map (·.1) → vl qs a = "" := fun qs hq => by
      unfold vl
      rw [List.find?_eq_none.mpr fun q hq' e => hq (List.mem_map.mpr ⟨q, hq', of_decide_eq_true e⟩)]
      rfl
    rw [e _ h, e _ h']
theorem Ch.perm (c : Ch ps cs) (p : ds.Perm cs) : Ch ps ds :=
  ⟨(p.map _).nodup_iff.mpr c.nd, fun a => ((p.map _).mem_iff).trans (c.ks a), fun a h => by rw [vl_perm c.nd p]; exact c.wn a h⟩
theorem Ch.len (c : Ch ps cs) : cs.length = (tg ps).length := by
  have := ((List.perm_ext_iff_of_nodup c.nd tg_nd).mpr c.ks).length_eq
  rwa [List.length_map] at this
theorem mw_key (L : Lab ps) {a b : Str} (h : a ∈ tg ps) (hb : b ∈ mw ps a) : b ∈ ps.map (·.1) ∧ vl ps b = a := by
  unfold mw at hb
  split at hb
  · rename_i e
    rw [List.mem_singleton.mp hb]
    exact ⟨val_key L (tg_mem.mp h), e⟩
  · exact brs_mem.mp hb
theorem mw_ne (L : Lab ps) {a : Str} (h : a ∈ tg ps) : mw ps a ≠ [] := by
  unfold mw
  split
  · exact fun z => nomatch z
  · obtain ⟨b, hb⟩ := (val_iff L).mp (tg_mem.mp h)
    exact fun z => by rw [z] at hb; cases hb
theorem mw_len {a : Str} (h : 1 ≤ ps.length) : (mw ps a).length ≤ ps.length := by
  unfold mw
  split
  · exact h
  · exact brs_len
theorem Ch.key (L : Lab ps) (c : Ch ps cs) {a : Str} (h : a ∈ tg ps) : vl cs a ∈ ps.map (·.1) ∧ vl ps (vl cs a) = a := mw_key L h (c.wn a h)
theorem vl_key (L : Lab ps) {x : Str} (h : x ∈ ps.map (·.1)) : vl ps x ∈ ps.map (·.1) := val_key L (vl_val L h)
theorem vl_tg (L : Lab ps) {x : Str} (h : x ∈ ps.map (·.1)) : vl ps x ∈ tg ps := tg_mem.mpr (vl_val L h)
/-- the path from x on, at most n steps -/
def pf (ps cs : List (Str × Str)) : Nat → Str → List Str
  | 0, x => [x]
  | n + 1, x => if vl cs (vl ps x) = x then x :: pf ps cs n (vl ps x) else [x]
def pl (ps cs : List (Str × Str)) : Nat → Str → Str
  | 0, x => x
  | n + 1, x => if vl cs (vl ps x) = x then pl ps cs n (vl ps x) else x
/-- so many steps are enough -/
def Suf (ps cs : List (Str × Str)) : Nat → Str → Prop
  | 0, x => vl cs (vl ps x) ≠ x
  | n + 1, x => vl cs (vl ps x) = x → Suf ps cs n (vl ps x)
theorem pf_last : ∀ (n : Nat) (x : Str), ∃ zs, pf ps cs n x = zs ++ [pl ps cs n x]
  | 0, x => ⟨[], rfl⟩
  | n + 1, x => by
    unfold pf pl
    split
    · obtain ⟨zs, e⟩ := pf_last n (vl ps x)
      exact ⟨x :: zs, by rw [e]; rfl⟩
    · exact ⟨[], rfl⟩
theorem pf_len : ∀ (n : Nat) (x : Str), (pf ps cs n x).length ≤ n + 1
  | 0, x => Nat.le_refl _
  | n + 1, x => by
    have := pf_len n (vl ps x)
    unfold pf
    split <;> simp <;> omega
theorem pf_key (L : Lab ps) : ∀ (n : Nat) {x : Str}, x ∈ ps.map (·.1) → ∀ y ∈ pf ps cs n x, y ∈ ps.map (·.1)
  | 0, x, h, y, hy => by rw [List.mem_singleton.mp hy]; exact h
  | n + 1, x, h, y, hy => by
    unfold pf at hy
    split at hy
    · rcases List.mem_cons.mp hy with rfl | hy
      · exact h
      · exact pf_key L n (vl_key L h) y hy
    · rw [List.mem_singleton.mp hy]; exact h
theorem pl_key (L : Lab ps) (n : Nat) {x : Str} (h : x ∈ ps.map (·.1)) : pl ps cs n x ∈ ps.map (·.1) := by
  obtain ⟨zs, e⟩ := pf_last (ps := ps) (cs := cs) n x
  exact pf_key L n h _ (by rw [e]; simp)
theorem pf_congr (h : ∀ a, vl ds a = vl cs a) : ∀ (n : Nat) (x : Str), pf ps ds n x = pf ps cs n x
  | 0, x => rfl
  | n + 1, x => by
    unfold pf
    rw [h, pf_congr h n]
theorem pl_congr (h : ∀ a, vl ds a = vl cs a) : ∀ (n : Nat) (x : Str), pl ps ds n x = pl ps cs n x
  | 0, x => rfl
  | n + 1, x => by
    unfold pl
    rw [h, pl_congr h n]
/-- the boxes one behind the other -/
def itr (ps : List (Str × Str)) (x : Str) : Nat → Str
  | 0 => x
  | n + 1 => vl ps (itr ps x n)
theorem itr_key (L : Lab ps) {x : Str} (h : x ∈ ps.map (·.1)) : ∀ n, itr ps x n ∈ ps.map (·.1)
  | 0 => h
  | n + 1 => vl_key L (itr_key L h n)
theorem itr_shift (x : Str) : ∀ n, itr ps (vl ps x) n = itr ps x (n + 1)
  | 0 => rfl
  | n + 1 => by
    show vl ps (itr ps (vl ps x) n) = vl ps (itr ps x (n + 1))
    rw [itr_shift x n]
theorem not_suf : ∀ (n : Nat) (x : Str), ¬ Suf ps cs n x → ∀ i, i ≤ n → vl cs (vl ps (itr ps x i)) = itr ps x i
  | 0, x, h, i, hi => by
    have : i = 0 := by omega
    subst this
    exact Classical.not_not.mp h
  | n + 1, x, h, i, hi => by
    have h1 : vl cs (vl ps x) = x := Classical.byContradiction fun z => h fun e => absurd e z
    have h2 : ¬ Suf ps cs n (vl ps x) := fun z => h fun _ => z
    cases i with
    | zero => exact h1
    | succ i =>
      have := not_suf n (vl ps x) h2 i (by omega)
      rwa [itr_shift] at this
theorem suf_leaf (L : Lab ps) {x : Str} (hx : x ∈ lvs ps) : Suf ps cs 60 x := by
  refine Classical.byContradiction fun ns => ?_
  have w := not_suf 60 x ns
  obtain ⟨hk, hn⟩ := lvs_mem.mp hx
  have dis : ∀ i j, i < j → j ≤ 61 → itr ps x i ≠ itr ps x j := by
    intro i
    induction i with
    | zero =>
      intro j hj hl e
      obtain ⟨m, rfl⟩ : ∃ m, j = m + 1 := ⟨j - 1, by omega⟩
      have e' : x = vl ps (itr ps x m) := e
      exact hn (by rw [e']; exact vl_val L (itr_key L hk m))
    | succ i ih =>
      intro j hj hl e
      obtain ⟨m, rfl⟩ : ∃ m, j = m + 1 := ⟨j - 1, by omega⟩
      have e' : vl ps (itr ps x i) = vl ps (itr ps x m) := e
      have a := w i (by omega)
      have b := w m (by omega)
      rw [e'] at a
      exact ih m (by omega) (by omega) (a.symm.trans b)
  have nd : ((List.range 62).map (itr ps x)).Nodup := by
    rw [List.Nodup, List.pairwise_map]
    refine List.pairwise_lt_range.imp_of_mem fun {a b} ha hb hab => dis a b hab ?_
    have := List.mem_range.mp hb
    omega
  have := nd.length_le_of_subset (l₂ := ps.map (·.1)) fun y hy => by
    obtain ⟨i, _, rfl⟩ := List.mem_map.mp hy
    exact itr_key L hk i
  rw [List.length_map, List.length_map, List.length_range] at this
  have := L.le
  omega
/-- the labels of the leaves at the end; what all boxes hold then -/
def oc (ps cs : List (Str × Str)) : List (Str × Str) := (lvs ps).map fun l => (l, vl ps (pl ps cs 60 l))
def rst (ps cs : List (Str × Str)) : List (Str × Str) := (bxs ps).map fun b => (b, if b ∈ tg ps then vl cs b else pl ps cs 60 b)
theorem leaf_not_tg {b : Str} (h : b ∈ bxs ps) (n : b ∉ tg ps) : b ∈ lvs ps := lvs_mem.mpr ⟨bxs_mem.mp h, fun z => n (tg_mem.mpr z)⟩
theorem map_fst {α : Type} {f : α → Str} (xs : List α) (g : α → Str) : (xs.map fun a => (f a, g a)).map (·.1) = xs.map f := by rw [List.map_map]; rfl
theorem oc_keys : (oc ps cs).map (·.1) = lvs ps := by unfold oc; rw [List.map_map]; exact List.map_id _
theorem rst_keys : (rst ps cs).map (·.1) = bxs ps := by unfold rst; rw [List.map_map]; exact List.map_id _
theorem lvs_nd (L : Lab ps) : (lvs ps).Nodup := (bxs_nd L).filter _
theorem oc_prs (L : Lab ps) : Prs (oc ps cs) := by
  refine ⟨by rw [oc_keys]; exact lvs_nd L, fun p hp => ?_, fun p hp => ?_, by unfold oc; rw [List.length_map]; have := lvs_len (ps := ps); have := L.le; omega⟩
  · obtain ⟨l, hl, rfl⟩ := List.mem_map.mp hp
    exact lvs_gn L l hl
  · obtain ⟨l, hl, rfl⟩ := List.mem_map.mp hp
    exact L.gn (vl_key L (pl_key L 60 (lvs_mem.mp hl).1))
theorem rst_prs (L : Lab ps) (c : Ch ps cs) : Prs (rst ps cs) := by
  refine ⟨by rw [rst_keys]; exact bxs_nd L, fun p hp => ?_, fun p hp => ?_, by unfold rst; rw [List.length_map, bxs_len]; exact L.le⟩
  · obtain ⟨b, hb, rfl⟩ := List.mem_map.mp hp
    exact bxs_gn L b hb
  · obtain ⟨b, hb, rfl⟩ := List.mem_map.mp hp
    show gname (if b ∈ tg ps then vl cs b else pl ps cs 60 b)
    split
    · rename_i h; exact L.gn (c.key L h).1
    · exact L.gn (pl_key L 60 (bxs_mem.mp hb))
theorem oc_congr (h : ∀ a, vl ds a = vl cs a) : oc ps ds = oc ps cs := List.map_congr_left fun l _ => by rw [pl_congr h]
theorem rst_congr (h : ∀ a, vl ds a = vl cs a) : rst ps ds = rst ps cs := List.map_congr_left fun l _ => by rw [pl_congr h, h]
theorem Ch.prs (L : Lab ps) (c : Ch ps cs) : Prs cs := by
  refine ⟨c.nd, fun p hp => ?_, fun p hp => ?_, by rw [c.len]; have := tg_len (ps := ps); have := L.le; omega⟩
  · exact tg_gn L _ ((c.ks _).mp (List.mem_map.mpr ⟨p, hp, rfl⟩))
  · have h := (c.ks _).mp (List.mem_map.mpr ⟨p, hp, rfl⟩)
    have := (c.key L h).1
    rw [vl_mem c.nd hp] at this
    exact L.gn this
end
/-! ### two loops -/
theorem wh_path {ps cs : List (Str × Str)} {t : EM Bool} {body : SM} {s : Slots} {C : Tab}
    (ht : ∀ acc y, y ∈ ps.map (·.1) → t s (C ++ [.own (.lst ((acc ++ [y]).map .str))]) = .ok (decide (vl cs (vl ps y) = y)) (C ++ [.own (.lst ((acc ++ [y]).map .str))]))
    (hb : ∀ acc y, y ∈ ps.map (·.1) → acc.length ≤ 100 → body s (C ++ [.own (.lst ((acc ++ [y]).map .str))]) = .nx s (C ++ [.own (.lst ((acc ++ [y] ++ [vl ps y]).map .str))])) (L : Lab ps) :
    ∀ (n m : Nat) (acc : List Str) (y : Str), Suf ps cs n y → n < m → acc.length + n ≤ 70 → y ∈ ps.map (·.1) → nWh t body m s (C ++ [.own (.lst ((acc ++ [y]).map .str))]) = .nx s (C ++ [.own (.lst ((acc ++ pf ps cs n y).map .str))]) := by
  intro n
  induction n with
  | zero =>
    intro m acc y su hm hl hy
    obtain ⟨m, rfl⟩ : ∃ k, m = k + 1 := ⟨m - 1, by omega⟩
    unfold nWh
    rw [ht acc y hy, sr_ok, decide_eq_false su, if_neg (by decide)]
    rfl
  | succ n ih =>
    intro m acc y su hm hl hy
    obtain ⟨m, rfl⟩ : ∃ k, m = k + 1 := ⟨m - 1, by omega⟩
    unfold nWh
    rw [ht acc y hy, sr_ok]
    by_cases c : vl cs (vl ps y) = y
    · rw [decide_eq_true c, if_pos rfl, hb acc y hy (by omega)]
      dsimp only
      rw [ih m (acc ++ [y]) (vl ps y) (su c) (by omega) (by simp; omega) (vl_key L hy)]
      have e : pf ps cs (n + 1) y = y :: pf ps cs n (vl ps y) := by
        show (if vl cs (vl ps y) = y then y :: pf ps cs n (vl ps y) else [y]) = _
        rw [if_pos c]
      rw [e, List.append_assoc]; rfl
    · rw [decide_eq_false c, if_neg (by decide)]
      have e : pf ps cs (n + 1) y = [y] := by
        show (if vl cs (vl ps y) = y then y :: pf ps cs n (vl ps y) else [y]) = _
        rw [if_neg c]
      rw [e]
/-- a dict put together key by key -/
theorem loop_put {body : SM} {i : Nat} {s : Slots} {C C0 : Tab} {f : Str → Str} {xs : List Str}
    (hb : ∀ (acc : List (Str × Str)) (a : Str), a ∈ xs → acc.length ≤ xs.length → a ∉ acc.map (·.1) → body (s.set i (some (.str a))) (C ++ [.own (.dct (toD acc))]) = .nx (s.set i (some (.str a))) (C ++ [.own (.dct (toD (acc ++ [(a, f a)])))])) :
    ∀ (ys zs : List Str) (v : Option (Option TV)), xs = zs ++ ys → xs.Nodup → ∃ v', loop (gtN i) body none C0 (ys.map .str) (match v with | some u => s.set i u | none => s) (C ++ [.own (.dct (toD (zs.map fun a => (a, f a))))]) = .nx (match v' with | some u => s.set i u | none => s) (C ++ [.own (.dct (toD (xs.map fun a => (a, f a))))]) := by
  intro ys
  induction ys with
  | nil =>
    intro zs v e _
    rw [List.append_nil] at e
    subst e
    exact ⟨v, rfl⟩
  | cons a ys ih =>
    intro zs v e nd
    have ha : a ∈ xs := by rw [e]; simp
    have hn : a ∉ (zs.map fun a => (a, f a)).map (·.1) := by
      rw [map_fst (f := fun a => a), List.map_id']
      rw [e] at nd
      exact fun z => (List.nodup_append.mp nd).2.2 _ z _ List.mem_cons_self rfl
    have hl : (zs.map fun a => (a, f a)).length ≤ xs.length := by rw [e, List.length_map, List.length_append]; omega
    have hs : (match v with | some u => s.set i u | none => s).set i (some (.str a)) = s.set i (some (.str a)) := by
      cases v with
      | none => rfl
      | some u => exact List.set_set ..
    obtain ⟨v', e'⟩ := ih (zs ++ [a]) (some (some (.str a))) (by rw [e]; simp) nd
    refine ⟨v', ?_⟩
    rw [List.map_cons]
    unfold loop
    rw [gtN_ev]
    dsimp only
    rw [hs, hb _ a ha hl hn]
    dsimp only
    rw [if_pos (show lkOk none C0 _ from True.intro)]
    rw [List.map_append] at e'
    exact e'
end FH
/-! SgH: roads and cycles in plain words. -/
namespace FH
open PySem L2
open PySem.Spec PyProof.Rows
section
variable {ps : List (Str × Str)}
/-- the road from y on, behind acc, at most n steps -/
def rdw (ps : List (Str × Str)) : Nat → List Str → Str → List Str
  | 0, acc, y => acc ++ [y]
  | n + 1, acc, y => if vl ps y ∈ acc ++ [y] then acc ++ [y] else rdw ps n (acc ++ [y]) (vl ps y)
def road (ps : List (Str × Str)) (x : Str) : List Str := rdw ps 60 [] x
theorem rdw_nd : ∀ (n : Nat) {acc : List Str} {y : Str}, (acc ++ [y]).Nodup → (rdw ps n acc y).Nodup
  | 0, acc, y, h => h
  | n + 1, acc, y, h => by
    unfold rdw
    split
    · exact h
    · rename_i c
      refine rdw_nd n (List.nodup_append.mpr ⟨h, by simp, fun a ha b hb => ?_⟩)
      rw [List.mem_singleton.mp hb]
      intro e; exact c (e ▸ ha)
theorem rdw_key (L : Lab ps) : ∀ (n : Nat) {acc : List Str} {y : Str}, (∀ a ∈ acc ++ [y], a ∈ ps.map (·.1)) → ∀ a ∈ rdw ps n acc y, a ∈ ps.map (·.1)
  | 0, acc, y, h => h
  | n + 1, acc, y, h => by
    unfold rdw
    split
    · exact h
    · refine rdw_key L n fun a ha => ?_
      rcases List.mem_append.mp ha with z | z
      · exact h a z
      · rw [List.mem_singleton.mp z]
        exact vl_key L (h y (by simp))
theorem rdw_pre : ∀ (n : Nat) (acc : List Str) (y : Str), ∃ l, rdw ps n acc y = acc ++ y :: l
  | 0, acc, y => ⟨[], rfl⟩
  | n + 1, acc, y => by
    unfold rdw
    split
    · exact ⟨[], rfl⟩
    · obtain ⟨l, e⟩ := rdw_pre n (acc ++ [y]) (vl ps y)
      exact ⟨vl ps y :: l, by rw [e]; simp⟩
theorem full_in (L : Lab ps) {l : List Str} (nd : l.Nodup) (hk : ∀ a ∈ l, a ∈ ps.map (·.1)) (hl : ps.length ≤ l.length) {z : Str} (hz : z ∈ ps.map (·.1)) : z ∈ l := by
  have p := perm_sub nd hk (by rw [List.length_map]; exact hl)
  exact p.mem_iff.mpr hz
theorem road_cons (x : Str) : ∃ l, road ps x = x :: l := rdw_pre 60 [] x
theorem road_nd (x : Str) : (road ps x).Nodup := rdw_nd 60 (by simp)
theorem road_key (L : Lab ps) {x : Str} (h : x ∈ ps.map (·.1)) : ∀ a ∈ road ps x, a ∈ ps.map (·.1) := rdw_key L 60 fun a ha => by rw [List.mem_singleton.mp ha]; exact h
theorem road_len (L : Lab ps) {x : Str} (h : x ∈ ps.map (·.1)) : (road ps x).length ≤ ps.length := by
  have := (road_nd (ps := ps) x).length_le_of_subset (road_key L h)
  rwa [List.length_map] at this
theorem road_ne {x : Str} : road ps x ≠ [] := by
  obtain ⟨l, e⟩ := road_cons (ps := ps) x
  rw [e]; exact fun z => nomatch z
def lst (xs : List Str) : Str := xs.getLastD ""
theorem lst_app {xs : List Str} (h : xs ≠ []) : ∃ zs, xs = zs ++ [lst xs] := by
  refine ⟨xs.dropLast, ?_⟩
  unfold lst
  rw [List.getLastD_eq_getLast?, List.getLast?_eq_some_getLast h]
  exact (List.dropLast_concat_getLast h).symm
theorem lst_mem {xs : List Str} (h : xs ≠ []) : lst xs ∈ xs := by
  unfold lst
  rw [List.getLastD_eq_getLast?, List.getLast?_eq_some_getLast h]
  exact List.getLast_mem h
/-- the box is the smallest of a cycle of two or more -/
def isC (ps : List (Str × Str)) (b : Str) : Bool := decide (1 < (road ps b).length) && (decide (vl ps (lst (road ps b)) = b) && decide (minS (road ps b) = b))
def cyc (ps : List (Str × Str)) : List (List Str) := ((bxs ps).filter (isC ps)).map (road ps)
def lcyc (ps : List (Str × Str)) (b : Str) : List Str :=
  if vl ps (lst (road ps b)) ≠ b ∨ (road ps b).length = 1 then [] else (road ps b).drop ((road ps b).idxOf (minS (road ps b))) ++ (road ps b).take ((road ps b).idxOf (minS (road ps b)))
theorem minS_mem {xs : List Str} (h : xs ≠ []) : minS xs ∈ xs := by
  unfold minS
  cases e : srtS xs with
  | nil => have := (srtS_perm xs).length_eq; rw [e] at this; exact absurd (List.length_eq_zero_iff.mp this.symm) h
  | cons a l => exact (srtS_perm xs).mem_iff.mp (by rw [e]; exact List.mem_cons_self)
theorem rot_take {xs : List Str} {m : Str} (h : m ∈ xs) : (xs.drop (xs.idxOf m) ++ xs.take (xs.idxOf m)).take 1 = [m] := by
  have hl := List.idxOf_lt_length_of_mem h
  rw [List.drop_eq_getElem_cons hl, List.getElem_idxOf hl]
  rfl
theorem lcyc_take {b : Str} : (lcyc ps b).take 1 = [b] ↔ isC ps b = true := by
  have hm := minS_mem (road_ne (ps := ps) (x := b))
  have l1 : 0 < (road ps b).length := List.length_pos_iff.mpr road_ne
  unfold lcyc isC
  simp only [Bool.and_eq_true, decide_eq_true_eq]
  split
  · rename_i h
    refine ⟨fun z => (nomatch z), fun ⟨h1, h2, h3⟩ => ?_⟩
    rcases h with h | h
    · exact absurd h2 h
    · omega
  · rename_i h
    rw [rot_take hm]
    simp only [not_or, Classical.not_not] at h
    constructor
    · intro z
      refine ⟨by omega, h.1, ?_⟩
      injection z
    · rintro ⟨_, _, e⟩
      rw [e]
theorem lcyc_road {b : Str} (h : isC ps b = true) : lcyc ps b = road ps b := by
  unfold isC at h
  simp only [Bool.and_eq_true, decide_eq_true_eq] at h
  obtain ⟨h1, h2, h3⟩ := h
  unfold lcyc
  rw [if_neg (by rintro (z | z); exact z h2; omega), h3]
  obtain ⟨l, e⟩ := road_cons (ps := ps) b
  have : (road ps b).idxOf b = 0 := by rw [e]; simp
  rw [this]; simp
theorem leT_head {a b : Str} {as bs : List Str} (h : leS a b = true) (ne : a ≠ b) : leT (a :: as) (b :: bs) = true := by
  rw [leT_iff]
  have hlt : a.cps.toList < b.cps.toList := by
    rcases List.le_iff_lt_or_eq.mp (leS_iff.mp h) with z | z
    · exact z
    · exact absurd (leS_anti h (leS_iff.mpr (by rw [z]; exact List.le_refl _))) ne
  have h1 : itemOrd.blt (.inr a.cps.toList) (.inr b.cps.toList) = true := by
    show decide (a.cps.toList < b.cps.toList) = true
    exact decide_eq_true hlt
  have t1 : tyO.blt (tky (a :: as)) (tky (b :: bs)) = true := lex_true.mpr (.inl h1)
  cases e : tyO.blt (tky (b :: bs)) (tky (a :: as)) with
  | false => rfl
  | true =>
    have := tyO.trans _ _ _ t1 e
    rw [tyO.irrefl] at this; cases this
theorem cyc_sorted (L : Lab ps) : (cyc ps).Pairwise fun a b => leT a b = true := by
  unfold cyc
  rw [List.pairwise_map]
  have nd := (bxs_nd L).filter (isC ps)
  have pw := (srtS_pw (ps.map (·.1))).sublist (List.filter_sublist (p := isC ps))
  have both : ((bxs ps).filter (isC ps)).Pairwise fun a b => leS a b = true ∧ a ≠ b := pw.and nd
  refine both.imp fun {a b} h => ?_
  obtain ⟨l, e⟩ := road_cons (ps := ps) a
  obtain ⟨m, e2⟩ := road_cons (ps := ps) b
  rw [e, e2]
  exact leT_head h.1 h.2
/-- the law's cycles are the board's -/
theorem law_cyc (L : Lab ps) : srtT (((ps.map (·.1)).filter (isC ps)).map (road ps)) = cyc ps :=
  (srtT_unique (ys := cyc ps) (show ((((srtS (ps.map (·.1))).filter (isC ps)).map (road ps))).Perm _ from ((srtS_perm (ps.map (·.1))).filter (isC ps)).map (road ps)) (cyc_sorted L)).symm
theorem cyc_len : (cyc ps).length ≤ ps.length := by
  unfold cyc
  rw [List.length_map]
  have := List.length_filter_le (isC ps) (bxs ps)
  rwa [bxs_len] at this
end
theorem wh_road {ps : List (Str × Str)} {t : EM Bool} {body : SM} {s : Slots} {C : Tab}
    (ht : ∀ acc y, y ∈ ps.map (·.1) → t s (C ++ [.own (.lst ((acc ++ [y]).map .str))]) = .ok (!decide (vl ps y ∈ acc ++ [y])) (C ++ [.own (.lst ((acc ++ [y]).map .str))]))
    (hb : ∀ acc y, y ∈ ps.map (·.1) → acc.length ≤ 100 → body s (C ++ [.own (.lst ((acc ++ [y]).map .str))]) = .nx s (C ++ [.own (.lst ((acc ++ [y] ++ [vl ps y]).map .str))])) (L : Lab ps) :
    ∀ (n m : Nat) (acc : List Str) (y : Str), n < m → ps.length ≤ acc.length + 1 + n → acc.length + n ≤ 70 → (acc ++ [y]).Nodup → (∀ a ∈ acc ++ [y], a ∈ ps.map (·.1)) → nWh t body m s (C ++ [.own (.lst ((acc ++ [y]).map .str))]) = .nx s (C ++ [.own (.lst ((rdw ps n acc y).map .str))]) := by
  intro n
  induction n with
  | zero =>
    intro m acc y hm hl hl2 nd hk
    obtain ⟨m, rfl⟩ : ∃ k, m = k + 1 := ⟨m - 1, by omega⟩
    have hy := hk y (by simp)
    have c := full_in L nd hk (by simp; omega) (vl_key L hy)
    unfold nWh
    rw [ht acc y hy, sr_ok, decide_eq_true c, if_neg (by decide)]
    rfl
  | succ n ih =>
    intro m acc y hm hl hl2 nd hk
    obtain ⟨m, rfl⟩ : ∃ k, m = k + 1 := ⟨m - 1, by omega⟩
    have hy := hk y (by simp)
    unfold nWh
    rw [ht acc y hy, sr_ok]
    by_cases c : vl ps y ∈ acc ++ [y]
    · rw [decide_eq_true c, if_neg (by decide)]
      have e : rdw ps (n + 1) acc y = acc ++ [y] := by
        show (if vl ps y ∈ acc ++ [y] then acc ++ [y] else rdw ps n (acc ++ [y]) (vl ps y)) = _
        rw [if_pos c]
      rw [e]
    · rw [decide_eq_false c, Bool.not_false, if_pos rfl, hb acc y hy (by omega)]
      dsimp only
      have e : rdw ps (n + 1) acc y = rdw ps n (acc ++ [y]) (vl ps y) := by
        show (if vl ps y ∈ acc ++ [y] then acc ++ [y] else rdw ps n (acc ++ [y]) (vl ps y)) = _
        rw [if_neg c]
      rw [e]
      refine ih m (acc ++ [y]) (vl ps y) (by omega) (by simp; omega) (by simp; omega) ?_ fun a ha => ?_
      · refine List.nodup_append.mpr ⟨nd, by simp, fun a ha b hb => ?_⟩
        rw [List.mem_singleton.mp hb]
        intro e; exact c (e ▸ ha)
      · rcases List.mem_append.mp ha with z | z
        · exact hk a z
        · rw [List.mem_singleton.mp z]; exact vl_key L hy
theorem eqI_tups {C : Tab} {as bs : List Str} : eqI (.tup (as.map .str)) (.tup (bs.map .str)) C = .ok (.bl (decide (as = bs))) C := by
  have h : ∀ (n : Nat) (as bs : List Str), (allO (List.zipWith (eqT (n + 1)) (as.map TV.str) (bs.map TV.str))).map (fun b => b && (as.map TV.str).length == (bs.map TV.str).length) = some (decide (as = bs)) := by
    intro n as
    induction as with
    | nil =>
      intro bs
      cases bs <;> simp [allO]
    | cons a as ih =>
      intro bs
      cases bs with
      | nil => simp [allO]
      | cons b bs =>
        have i := ih bs
        rw [List.map_cons, List.map_cons, List.zipWith_cons_cons]
        have e1 : eqT (n + 1) (.str a) (.str b) = some (decide (a = b)) := by
          show some (L2.eqV (.str a) (.str b)) = _
          show some (a == b) = _
          by_cases c : a = b
          · subst c; simp
          · simp [c]
        rw [e1]
        unfold allO
        cases e2 : allO (List.zipWith (eqT (n + 1)) (as.map TV.str) (bs.map TV.str)) with
        | none => rw [e2] at i; cases i
        | some q =>
          rw [e2] at i
          simp only [Option.map_some, Option.some.injEq, List.length_map] at i ⊢
          simp only [List.length_cons, List.cons.injEq]
          rw [show decide (a = b ∧ as = bs) = (decide (a = b) && decide (as = bs)) by simp, ← i]
          cases decide (a = b) <;> simp
  unfold eqI
  show okB (eqT 30 (.tup (as.map .str)) (.tup (bs.map .str))) C = _
  have e : eqT 30 (.tup (as.map .str)) (.tup (bs.map .str)) = (allO (List.zipWith (eqT (28 + 1)) (as.map TV.str) (bs.map TV.str))).map (fun b => b && (as.map TV.str).length == (bs.map TV.str).length) := rfl
  rw [e, h]; rfl
end FH
/-! SgJ: entries of cycles, plain choices, in plain words. -/
namespace FH
open PySem L2
open PySem.Spec PyProof.Rows
/-- the pairs (box before, box) -/
def pz : Str → List Str → List (Str × Str)
  | _, [] => []
  | p, x :: xs => (p, x) :: pz x xs
def chn (ps : List (Str × Str)) : Str → List Str → Prop
  | _, [] => True
  | p, x :: xs => vl ps p = x ∧ chn ps x xs
theorem pz_snd : ∀ (p : Str) (xs : List Str), (pz p xs).map (·.2) = xs
  | _, [] => rfl
  | p, x :: xs => by unfold pz; rw [List.map_cons, pz_snd x xs]
theorem pz_len (p : Str) (xs : List Str) : (pz p xs).length = xs.length := by rw [← List.length_map (f := (·.2)), pz_snd]
theorem pz_fst : ∀ (p : Str) (xs : List Str) (q : Str × Str), q ∈ pz p xs → q.1 = p ∨ q.1 ∈ xs
  | _, [], q, h => nomatch h
  | p, x :: xs, q, h => by
    unfold pz at h
    rcases List.mem_cons.mp h with e | h
    · subst e; exact .inl rfl
    · rcases pz_fst x xs q h with e | e
      · exact .inr (by rw [e]; exact List.mem_cons_self)
      · exact .inr (List.mem_cons_of_mem _ e)
theorem pz_app : ∀ (p : Str) (xs : List Str) (y : Str), xs ≠ [] → pz p (xs ++ [y]) = pz p xs ++ [(lst xs, y)]
  | p, [x], y, _ => rfl
  | p, x :: x2 :: xs, y, _ => by
    have := pz_app x (x2 :: xs) y (fun z => nomatch z)
    show (p, x) :: pz x ((x2 :: xs) ++ [y]) = _
    rw [this]; rfl
theorem pz_ne : ∀ (p : Str) (xs : List Str), (p :: xs).Nodup → ∀ q ∈ pz p xs, q.1 ≠ q.2
  | _, [], _, q, h => nomatch h
  | p, x :: xs, nd, q, h => by
    unfold pz at h
    obtain ⟨n1, n2⟩ := List.nodup_cons.mp nd
    rcases List.mem_cons.mp h with e | h
    · subst e; exact fun z => n1 (by rw [show p = x from z]; exact List.mem_cons_self)
    · exact pz_ne x xs n2 q h
theorem chn_pz {ps : List (Str × Str)} : ∀ (p : Str) (xs : List Str), chn ps p xs → ∀ q ∈ pz p xs, vl ps q.1 = q.2
  | _, [], _, q, h => nomatch h
  | p, x :: xs, c, q, h => by
    unfold pz at h
    rcases List.mem_cons.mp h with e | h
    · subst e; exact c.1
    · exact chn_pz x xs c.2 q h
/-- every box of the list but the last is followed -/
theorem chn_next {ps : List (Str × Str)} : ∀ (p : Str) (xs : List Str), chn ps p xs → ∀ y ∈ p :: xs, y = lst (p :: xs) ∨ (y, vl ps y) ∈ pz p xs
  | p, [], _, y, h => .inl (by rw [List.mem_singleton.mp h]; rfl)
  | p, x :: xs, c, y, h => by
    have e0 : lst (p :: x :: xs) = lst (x :: xs) := rfl
    rcases List.mem_cons.mp h with e | h
    · subst e; exact .inr (by unfold pz; rw [c.1]; exact List.mem_cons_self)
    · rcases chn_next x xs c.2 y h with e | e
      · exact .inl (e.trans e0.symm)
      · exact .inr (by unfold pz; exact List.mem_cons_of_mem _ e)
theorem chn_all {ps : List (Str × Str)} {P : Str → Prop} (cl : ∀ z, P z → P (vl ps z)) : ∀ (p : Str) (xs : List Str), chn ps p xs → P p → ∀ y ∈ p :: xs, P y
  | p, [], _, h, y, hy => by rw [List.mem_singleton.mp hy]; exact h
  | p, x :: xs, c, h, y, hy => by
    rcases List.mem_cons.mp hy with e | hy
    · subst e; exact h
    · exact chn_all cl x xs c.2 (c.1 ▸ cl p h) y hy
theorem chn_lst {ps : List (Str × Str)} {P : Str → Prop} (cl : ∀ z, P z → P (vl ps z)) : ∀ (p : Str) (xs : List Str), chn ps p xs → (∃ y ∈ p :: xs, P y) → P (lst (p :: xs))
  | p, [], _, ⟨y, hy, h⟩ => by rw [List.mem_singleton.mp hy] at h; exact h
  | p, x :: xs, c, ⟨y, hy, h⟩ => by
    show P (lst (x :: xs))
    rcases List.mem_cons.mp hy with e | hy
    · subst e; exact chn_lst cl x xs c.2 ⟨x, List.mem_cons_self, c.1 ▸ cl _ h⟩
    · exact chn_lst cl x xs c.2 ⟨y, hy, h⟩
section
variable {ps cs ds : List (Str × Str)}
theorem rdw_chn : ∀ (n : Nat) (acc : List Str) (y : Str), ∃ l, rdw ps n acc y = acc ++ y :: l ∧ chn ps y l
  | 0, acc, y => ⟨[], rfl, True.intro⟩
  | n + 1, acc, y => by
    unfold rdw
    split
    · exact ⟨[], rfl, True.intro⟩
    · obtain ⟨l, e, c⟩ := rdw_chn n (acc ++ [y]) (vl ps y)
      exact ⟨vl ps y :: l, by rw [e]; simp, rfl, c⟩
theorem minS_perm {xs ys : List Str} (p : xs.Perm ys) : minS xs = minS ys := by unfold minS; rw [srt_perm p]
/-- what a cycle is -/
structure Cyc (ps : List (Str × Str)) (xs : List Str) : Prop where
  nd : xs.Nodup
  two : 1 < xs.length
  key : ∀ a ∈ xs, a ∈ ps.map (·.1)
  ch : ∃ b l, xs = b :: l ∧ chn ps b l ∧ vl ps (lst xs) = b ∧ minS xs = b
theorem cyc_is (L : Lab ps) {xs : List Str} (h : xs ∈ cyc ps) : Cyc ps xs := by
  obtain ⟨b, hb, rfl⟩ := List.mem_map.mp h
  obtain ⟨h1, h2⟩ := List.mem_filter.mp hb
  have hk := bxs_mem.mp h1
  unfold isC at h2
  simp only [Bool.and_eq_true, decide_eq_true_eq] at h2
  obtain ⟨h2, h3, h4⟩ := h2
  obtain ⟨l, e, c⟩ := rdw_chn (ps := ps) 60 [] b
  exact ⟨road_nd b, h2, road_key L hk, b, l, e, c, h3, h4⟩
theorem cyc_road {xs : List Str} (h : xs ∈ cyc ps) : ∃ b, xs = road ps b ∧ minS xs = b := by
  obtain ⟨b, hb, rfl⟩ := List.mem_map.mp h
  obtain ⟨h1, h2⟩ := List.mem_filter.mp hb
  unfold isC at h2
  simp only [Bool.and_eq_true, decide_eq_true_eq] at h2
  exact ⟨b, rfl, h2.2.2⟩
theorem Cyc.ne {xs : List Str} (c : Cyc ps xs) : xs ≠ [] := fun z => by have := c.two; rw [z] at this; simp at this
/-- the pairs of a cycle -/
def pc (xs : List Str) : List (Str × Str) := pz (lst xs) xs
theorem Cyc.home {xs : List Str} (c : Cyc ps xs) : ∀ q ∈ pc xs, vl ps q.1 = q.2 := by
  obtain ⟨b, l, e, ch, h, _⟩ := c.ch
  intro q hq
  have e' : pc xs = (lst xs, b) :: pz b l := by unfold pc; rw [e]; rfl
  rw [e'] at hq
  rcases List.mem_cons.mp hq with z | z
  · subst z; exact h
  · exact chn_pz b l ch q z
theorem Cyc.fst {xs : List Str} (c : Cyc ps xs) : ∀ q ∈ pc xs, q.1 ∈ xs := fun q hq => by
  rcases pz_fst _ _ q hq with e | e
  · rw [e]; exact lst_mem c.ne
  · exact e
theorem Cyc.snd {xs : List Str} : ∀ q ∈ pc xs, q.2 ∈ xs := fun q hq => by
  have : q.2 ∈ (pc xs).map (·.2) := List.mem_map.mpr ⟨q, hq, rfl⟩
  rwa [show (pc xs).map (·.2) = xs from pz_snd _ _] at this
theorem Cyc.pre {xs : List Str} {x : Str} (h : x ∈ xs) : ∃ p, (p, x) ∈ pc xs := by
  rw [← show (pc xs).map (·.2) = xs from pz_snd _ _] at h
  obtain ⟨⟨p, y⟩, hq, rfl⟩ := List.mem_map.mp h
  exact ⟨p, hq⟩
theorem Cyc.nxt {xs : List Str} (c : Cyc ps xs) {y : Str} (h : y ∈ xs) : (y, vl ps y) ∈ pc xs := by
  obtain ⟨b, l, e, ch, hl, _⟩ := c.ch
  have e' : pc xs = (lst xs, b) :: pz b l := by unfold pc; rw [e]; rfl
  rw [e']
  rw [e] at h
  rcases chn_next b l ch y h with z | z
  · rw [← e] at z
    rw [z, hl]; exact List.mem_cons_self
  · exact List.mem_cons_of_mem _ z
theorem Cyc.cl {xs : List Str} (c : Cyc ps xs) {y : Str} (h : y ∈ xs) : vl ps y ∈ xs := Cyc.snd _ (c.nxt h)
theorem mem_unique : ∀ {qs : List (Str × Str)}, (qs.map (·.2)).Nodup → ∀ {p p' x : Str}, (p, x) ∈ qs → (p', x) ∈ qs → p = p'
  | [], _, _, _, _, h, _ => nomatch h
  | q :: qs, nd, p, p', x, h, h' => by
    rw [List.map_cons] at nd
    obtain ⟨n1, n2⟩ := List.nodup_cons.mp nd
    rcases List.mem_cons.mp h with e | h <;> rcases List.mem_cons.mp h' with e' | h'
    · exact congrArg (·.1) (e.trans e'.symm)
    · exact absurd (List.mem_map.mpr ⟨_, h', by rw [← e]⟩) n1
    · exact absurd (List.mem_map.mpr ⟨_, h, by rw [← e']⟩) n1
    · exact mem_unique n2 h h'
theorem Cyc.one {xs : List Str} (c : Cyc ps xs) {p p' x : Str} (h : (p, x) ∈ pc xs) (h' : (p', x) ∈ pc xs) : p = p' :=
  mem_unique (by rw [show (pc xs).map (·.2) = xs from pz_snd _ _]; exact c.nd) h h'
theorem Cyc.dif {xs : List Str} (c : Cyc ps xs) {p x : Str} (h : (p, x) ∈ pc xs) : p ≠ x := by
  obtain ⟨b, l, e, ch, hl, _⟩ := c.ch
  have e' : pc xs = (lst xs, b) :: pz b l := by unfold pc; rw [e]; rfl
  have nd := c.nd
  rw [e'] at h
  rw [e] at nd
  rcases List.mem_cons.mp h with z | z
  · injection z with z1 z2
    rw [z1, z2]
    have tw := c.two
    rw [e] at tw ⊢
    cases l with
    | nil => simp at tw
    | cons y l =>
      intro w
      have : lst (b :: y :: l) ∈ y :: l := lst_mem (xs := y :: l) (fun z => nomatch z)
      rw [w] at this
      exact (List.nodup_cons.mp nd).1 this
  · exact pz_ne b l nd _ z
theorem Cyc.sub {xs ys : List Str} (c : Cyc ps xs) (d : Cyc ps ys) {x : Str} (h : x ∈ xs) (h' : x ∈ ys) : ∀ z ∈ xs, z ∈ ys := by
  obtain ⟨b, l, e, ch, hl, _⟩ := c.ch
  have cl : ∀ z, z ∈ ys → vl ps z ∈ ys := fun z => d.cl
  have a := chn_lst (P := (· ∈ ys)) cl b l ch ⟨x, e ▸ h, h'⟩
  rw [← e] at a
  have b' : b ∈ ys := hl ▸ cl _ a
  intro z hz
  exact chn_all (P := (· ∈ ys)) cl b l ch b' z (e ▸ hz)
theorem cyc_eq (L : Lab ps) {xs ys : List Str} (hx : xs ∈ cyc ps) (hy : ys ∈ cyc ps) {x : Str} (h : x ∈ xs) (h' : x ∈ ys) : xs = ys := by
  have c := cyc_is L hx
  have d := cyc_is L hy
  have pm : xs.Perm ys := (List.perm_ext_iff_of_nodup c.nd d.nd).mpr fun a => ⟨c.sub d h h' a, d.sub c h' h a⟩
  obtain ⟨b, e, m⟩ := cyc_road hx
  obtain ⟨b', e', m'⟩ := cyc_road hy
  rw [minS_perm pm, m'] at m
  rw [e, e', m]
/-- the boxes of a cycle at which the winner is not the item of the box before -/
def en (cs : List (Str × Str)) (xs : List Str) : List Str := ((pc xs).filter fun q => !decide (vl cs q.2 = q.1)).map (·.2)
theorem en_congr (h : ∀ a, vl ds a = vl cs a) (xs : List Str) : en ds xs = en cs xs := by unfold en; congr 2; funext q; rw [h]
theorem en_mem {xs : List Str} {p x : Str} (h : (p, x) ∈ pc xs) (n : vl cs x ≠ p) : x ∈ en cs xs := List.mem_map.mpr ⟨(p, x), List.mem_filter.mpr ⟨h, by simp [n]⟩, rfl⟩
theorem en_len {xs : List Str} : (en cs xs).length ≤ xs.length := by
  unfold en
  rw [List.length_map]
  have := List.length_filter_le (fun q => !decide (vl cs q.2 = q.1)) (pc xs)
  rwa [show (pc xs).length = xs.length from pz_len _ _] at this
theorem en_sub {xs : List Str} : ∀ x ∈ en cs xs, x ∈ xs := fun x h => by
  obtain ⟨q, hq, rfl⟩ := List.mem_map.mp h
  exact Cyc.snd q (List.mem_filter.mp hq).1
/-! ### turning back -/
def upd1 (g : Str → Str) (x p : Str) : Str → Str := fun a => if a = x then p else g a
def inF : List (Str × Str) → (Str → Str) → Str → Str
  | [], g => g
  | q :: qs, g => inF qs (upd1 g q.2 q.1)
theorem inF_out : ∀ {qs : List (Str × Str)} {g : Str → Str} {h : Str}, h ∉ qs.map (·.2) → inF qs g h = g h
  | [], g, h, _ => rfl
  | q :: qs, g, h, n => by
    rw [List.map_cons] at n
    unfold inF
    rw [inF_out (fun z => n (List.mem_cons_of_mem _ z))]
    unfold upd1
    rw [if_neg (fun z => n (by rw [z]; exact List.mem_cons_self))]
theorem inF_in : ∀ {qs : List (Str × Str)} {g : Str → Str} {p h : Str}, (qs.map (·.2)).Nodup → (p, h) ∈ qs → inF qs g h = p
  | [], _, _, _, _, h => nomatch h
  | q :: qs, g, p, h, nd, hm => by
    rw [List.map_cons] at nd
    obtain ⟨n1, n2⟩ := List.nodup_cons.mp nd
    unfold inF
    rcases List.mem_cons.mp hm with e | hm
    · subst e
      rw [inF_out n1]
      unfold upd1
      rw [if_pos rfl]
    · exact inF_in n2 hm
def outF (cs : List (Str × Str)) : List (List Str) → (Str → Str) → Str → Str
  | [], g => g
  | xs :: xss, g => outF cs xss (if (en cs xs).length = 1 then inF (pc xs) g else g)
theorem outF_out : ∀ {xss : List (List Str)} {g : Str → Str} {h : Str}, (∀ xs ∈ xss, (en cs xs).length = 1 → h ∉ xs) → outF cs xss g h = g h
  | [], g, h, _ => rfl
  | xs :: xss, g, h, n => by
    unfold outF
    rw [outF_out fun ys hy => n ys (List.mem_cons_of_mem _ hy)]
    split
    · rename_i c
      exact inF_out (by rw [show (pc xs).map (·.2) = xs from pz_snd _ _]; exact n xs List.mem_cons_self c)
    · rfl
theorem outF_in {xs0 : List Str} {p h : Str} (c0 : (en cs xs0).length = 1) (hp : (p, h) ∈ pc xs0) (nd : xs0.Nodup) : ∀ {xss : List (List Str)} {g : Str → Str}, (∀ ys ∈ xss, h ∈ ys → ys = xs0) → (g h = p ∨ xs0 ∈ xss) → outF cs xss g h = p
  | [], g, _, w => by rcases w with w | w; exact w; exact nomatch w
  | xs :: xss, g, u, w => by
    unfold outF
    have nd' : ((pc xs0).map (·.2)).Nodup := by rw [show (pc xs0).map (·.2) = xs0 from pz_snd _ _]; exact nd
    refine outF_in c0 hp nd (fun ys hy => u ys (List.mem_cons_of_mem _ hy)) ?_
    by_cases e : xs = xs0
    · subst e
      rw [if_pos c0]
      exact .inl (inF_in nd' hp)
    · have hn : h ∉ xs := fun z => e (u xs List.mem_cons_self z)
      have e2 : (if (en cs xs).length = 1 then inF (pc xs) g else g) h = g h := by
        split
        · exact inF_out (by rw [show (pc xs).map (·.2) = xs from pz_snd _ _]; exact hn)
        · rfl
      rcases w with w | w
      · exact .inl (e2.trans w)
      · exact .inr ((List.mem_cons.mp w).resolve_left fun z => e z.symm)
/-- the winner at a target when the cycles are turned back -/
def pn (ps cs : List (Str × Str)) : Str → Str := outF cs (cyc ps) (vl cs)
def pnD (ps cs : List (Str × Str)) : List (Str × Str) := (tg ps).map fun a => (a, pn ps cs a)
/-- the box lies in a cycle that is turned back -/
def Trn (ps cs : List (Str × Str)) (h : Str) : Prop := ∃ xs ∈ cyc ps, (en cs xs).length = 1 ∧ h ∈ xs
theorem pn_out {h : Str} (n : ¬ Trn ps cs h) : pn ps cs h = vl cs h := outF_out fun xs hx c z => n ⟨xs, hx, c, z⟩
theorem pn_in (L : Lab ps) {xs : List Str} (hx : xs ∈ cyc ps) (c : (en cs xs).length = 1) {p h : Str} (hp : (p, h) ∈ pc xs) : pn ps cs h = p :=
  outF_in c hp (cyc_is L hx).nd (fun ys hy z => cyc_eq L hy hx z (Cyc.snd _ hp)) (.inr hx)
theorem pnD_keys : (pnD ps cs).map (·.1) = tg ps := by unfold pnD; rw [List.map_map]; exact List.map_id _
theorem pnD_vl {a : Str} (h : a ∈ tg ps) : vl (pnD ps cs) a = pn ps cs a :=
  vl_mem (p := (a, pn ps cs a)) (by rw [pnD_keys]; exact tg_nd) (List.mem_map.mpr ⟨a, h, rfl⟩)
theorem pn_ch (L : Lab ps) (c : Ch ps cs) : Ch ps (pnD ps cs) := by
  refine ⟨by rw [pnD_keys]; exact tg_nd, fun a => by rw [pnD_keys], fun a ha => ?_⟩
  rw [pnD_vl ha]
  by_cases t : Trn ps cs a
  · obtain ⟨xs, hx, h1, hm⟩ := t
    have cy := cyc_is L hx
    obtain ⟨p, hp⟩ := Cyc.pre hm
    rw [pn_in L hx h1 hp]
    have ne : vl ps a ≠ a := fun z => by
      have := cy.nxt hm
      rw [z] at this
      exact cy.dif this rfl
    unfold mw
    rw [if_neg ne]
    exact brs_mem.mpr ⟨cy.key _ (cy.fst _ hp), cy.home _ hp⟩
  · rw [pn_out t]; exact c.wn a ha
theorem cyc_tg (L : Lab ps) {xs : List Str} (hx : xs ∈ cyc ps) {a : Str} (h : a ∈ xs) : a ∈ tg ps := by
  have cy := cyc_is L hx
  obtain ⟨p, hp⟩ := Cyc.pre h
  have := vl_tg L (cy.key _ (cy.fst _ hp))
  rwa [cy.home _ hp] at this
/-- no cycle of the plain choice is entered at just one box -/
theorem pn_en (L : Lab ps) {xs : List Str} (hx : xs ∈ cyc ps) : (en (pnD ps cs) xs).length ≠ 1 := by
  have cy := cyc_is L hx
  by_cases c : (en cs xs).length = 1
  · have : en (pnD ps cs) xs = [] := by
      unfold en
      rw [List.filter_eq_nil_iff.mpr fun q hq => ?_]; rfl
      have e := pn_in L hx c hq
      rw [pnD_vl (cyc_tg L hx (Cyc.snd _ hq)), e]; simp
    rw [this]; decide
  · have e : en (pnD ps cs) xs = en cs xs := by
      unfold en
      congr 1
      refine List.filter_congr fun q hq => ?_
      have hm := Cyc.snd _ hq
      rw [pnD_vl (cyc_tg L hx hm), pn_out (fun ⟨ys, hy, c', z⟩ => by rw [cyc_eq L hy hx z hm] at c'; exact c c')]
    rw [e]; exact c
theorem pn_again (L : Lab ps) : pnD ps (pnD ps cs) = pnD ps cs := by
  have : ∀ a ∈ tg ps, pn ps (pnD ps cs) a = pn ps cs a := fun a ha => by
    rw [pn_out (fun ⟨xs, hx, c, _⟩ => pn_en L hx c), pnD_vl ha]
  exact List.map_congr_left fun a ha => by rw [this a ha]
/-! ### the same outcome -/
theorem pl_round (L : Lab ps) {xs : List Str} (hx : xs ∈ cyc ps) {h x : Str} (hh : vl cs h = x) (nx : x ∉ xs) (hon : ∀ p y, (p, y) ∈ pc xs → y ≠ h → vl cs y = p) :
    ∀ (n : Nat) (y : Str), y ∈ xs → Suf ps cs n y → vl ps (pl ps cs n y) = h := by
  have cy := cyc_is L hx
  intro n
  induction n with
  | zero =>
    intro y hy su
    show vl ps y = h
    refine Classical.byContradiction fun z => su ?_
    exact hon _ _ (cy.nxt hy) z
  | succ n ih =>
    intro y hy su
    by_cases z : vl ps y = h
    · have st : vl cs (vl ps y) ≠ y := by rw [z, hh]; exact fun w => nx (w ▸ hy)
      show vl ps (if vl cs (vl ps y) = y then pl ps cs n (vl ps y) else y) = h
      rw [if_neg st]; exact z
    · have st : vl cs (vl ps y) = y := hon _ _ (cy.nxt hy) z
      show vl ps (if vl cs (vl ps y) = y then pl ps cs n (vl ps y) else y) = h
      rw [if_pos st]
      exact ih _ (cy.cl hy) (su st)
theorem pl_same (L : Lab ps) (c : Ch ps cs) : ∀ (n : Nat) (x : Str), x ∈ ps.map (·.1) → ¬ Trn ps cs x → Suf ps cs n x → vl ps (pl ps (pnD ps cs) n x) = vl ps (pl ps cs n x) := by
  intro n
  induction n with
  | zero => intro x _ _ _; rfl
  | succ n ih =>
    intro x hk nt su
    show vl ps (if vl (pnD ps cs) (vl ps x) = x then pl ps (pnD ps cs) n (vl ps x) else x) = vl ps (if vl cs (vl ps x) = x then pl ps cs n (vl ps x) else x)
    rw [pnD_vl (vl_tg L hk)]
    by_cases t : Trn ps cs (vl ps x)
    · obtain ⟨xs, hx, h1, hm⟩ := t
      have cy := cyc_is L hx
      obtain ⟨p, hp⟩ := Cyc.pre hm
      have nx : x ∉ xs := fun z => nt ⟨xs, hx, h1, z⟩
      have pe : p ≠ x := fun z => nx (z ▸ cy.fst _ hp)
      rw [pn_in L hx h1 hp, if_neg pe]
      by_cases w : vl cs (vl ps x) = x
      · rw [if_pos w]
        obtain ⟨e0, he⟩ := List.length_eq_one_iff.mp h1
        have hh : vl ps x ∈ en cs xs := en_mem hp (by rw [w]; exact fun z => pe z.symm)
        rw [he] at hh
        refine (pl_round L hx w nx (fun q y hq ny => Classical.byContradiction fun z => ?_) n _ hm (su w)).symm
        have := en_mem hq z
        rw [he] at this
        exact ny ((List.mem_singleton.mp this).trans (List.mem_singleton.mp hh).symm)
      · rw [if_neg w]
    · rw [pn_out t]
      by_cases w : vl cs (vl ps x) = x
      · rw [if_pos w, if_pos w]
        exact ih _ (vl_key L hk) t (su w)
      · rw [if_neg w, if_neg w]
theorem pn_oc (L : Lab ps) (c : Ch ps cs) : oc ps (pnD ps cs) = oc ps cs := by
  refine List.map_congr_left fun l hl => ?_
  have hk := (lvs_mem.mp hl).1
  rw [pl_same L c 60 l hk (fun ⟨xs, hx, _, z⟩ => (lvs_mem.mp hl).2 (tg_mem.mp (cyc_tg L hx z))) (suf_leaf L hl)]
end
end FH
/-! SgI: texts at the end of a list, choices looked up; used by choices and roads alike. -/
namespace FH
open PySem L2
open TL (tl split_join)
open PySem.Spec PyProof.Rows
theorem put_last {C : Tab} {acc : List (Str × Str)} {a b : Str} (hl : acc.length < 1000) (h : a ∉ acc.map (·.1)) : setSub (.cel C.length) (.str a) (.str b) (C ++ [.own (.dct (toD acc))]) = some (C ++ [.own (.dct (toD (acc ++ [(a, b)])))]) := by
  have ql : (toD acc).length < sizeLine := by rw [sizeLine_eq, len_toD]; omega
  rw [setSub_ev, get_last, setR_dcts ql, set_last, putT_new h]
theorem tup_last {C : Tab} {xs : List TV} : bTuple2 [.cel C.length] (C ++ [.own (.lst xs)]) = .ok (.tup xs) (C ++ [.own (.lst xs)]) := by
  unfold bTuple2
  dsimp only
  rw [rd_new]
  dsimp only
  unfold bTuple
  simp only [rd_new]
theorem ix_last {C : Tab} {zs : List Str} {y : Str} : ixT (.cel C.length) (.int (-1)) (C ++ [.own (.lst ((zs ++ [y]).map .str))]) = .ok (.str y) (C ++ [.own (.lst ((zs ++ [y]).map .str))]) := by
  have la : atI ((zs ++ [y]).map TV.str) (-1) = some (.str y) := by rw [List.map_append]; exact atI_last
  rw [ixT_ev, rd_new, ixR_lst, la]; rfl
theorem ix_tup {C : Tab} {zs : List Str} {y : Str} : ixT (.tup ((zs ++ [y]).map .str)) (.int (-1)) C = .ok (.str y) C := by
  have la : atI ((zs ++ [y]).map TV.str) (-1) = some (.str y) := by rw [List.map_append]; exact atI_last
  rw [ixT_ev]
  show okO C (atI ((zs ++ [y]).map TV.str) (-1)) = _
  rw [la]; rfl
theorem neg1 {C : Tab} : negI (.int 1) C = .ok (.int (-1)) C := rfl
theorem ixD {C : Tab} {ps : List (Str × Str)} (nd : (ps.map (·.1)).Nodup) {a : Str} (h : a ∈ ps.map (·.1)) : ixT (.dct (toD ps)) (.str a) C = .ok (.str (vl ps a)) C := by
  rw [ixT_ev, rd_dct, ixR_dcts, look_vl nd h]; rfl
theorem inD {C : Tab} {ps : List (Str × Str)} (nd : (ps.map (·.1)).Nodup) {a : Str} {neg : Bool} : inT neg (.str a) (.dct (toD ps)) C = .ok (.bl (if neg then !decide (a ∈ ps.map (·.1)) else decide (a ∈ ps.map (·.1)))) C := by
  rw [inT_dct]
  by_cases h : a ∈ ps.map (·.1)
  · rw [look_vl nd h]; simp [h]
  · rw [look_none h]; simp [h]
end FH
/-! SgK: walks over a cycle with the place; dicts of any values; a choice that may be an own dict. -/
namespace FH
open PySem L2
open TL (tl split_join)
open PySem.Spec PyProof.Rows
/-- the item at each place -/
def its (f : Nat → Str → TV) : Nat → List Str → List TV
  | _, [] => []
  | k, x :: xs => f k x :: its f (k + 1) xs
theorem rng_its : ∀ (xs : List Str) (k : Nat), (List.range xs.length).map (fun i => TV.int ((i + k : Nat) : Int)) = its (fun k _ => .int (k : Nat)) k xs
  | [], k => rfl
  | x :: xs, k => by
    rw [List.length_cons, List.range_succ_eq_map, List.map_cons, List.map_map]
    show _ :: _ = TV.int (k : Nat) :: _
    rw [← rng_its xs (k + 1)]
    congr 1
    · simp
    · refine List.map_congr_left fun i _ => ?_
      show TV.int _ = TV.int _
      congr 1
      omega
theorem rngL_its (xs : List Str) : rngL 0 1 xs.length = its (fun k _ => .int (k : Nat)) 0 xs := by
  rw [← rng_its xs 0]
  unfold rngL
  refine List.map_congr_left fun i _ => ?_
  congr 1
  omega
theorem enum_its : ∀ (xs : List Str) (k : Nat), (xs.map TV.str).mapIdx (fun i t => TV.tup [.int ((i + k : Nat) : Int), t]) = its (fun k x => .tup [.int (k : Nat), .str x]) k xs
  | [], k => rfl
  | x :: xs, k => by
    rw [List.map_cons, List.mapIdx_cons]
    show _ :: _ = TV.tup [.int (k : Nat), .str x] :: _
    rw [← enum_its xs (k + 1)]
    congr 1
    · simp
    · congr 1
      funext i t
      rw [show i + 1 + k = i + (k + 1) by omega]
theorem enumT_its (xs : List Str) : enumT (xs.map .str) = its (fun k x => .tup [.int (k : Nat), .str x]) 0 xs := (enum_its xs 0)
/-- the box before -/
def bfr (xs zs : List Str) : Str := if zs = [] then lst xs else lst zs
theorem bfr_nil {xs : List Str} : bfr xs [] = lst xs := rfl
theorem lst_app1 {zs : List Str} {x : Str} : lst (zs ++ [x]) = x := by unfold lst; simp
theorem bfr_app {xs zs : List Str} {x : Str} : bfr xs (zs ++ [x]) = x := by
  unfold bfr
  rw [if_neg (by simp), lst_app1]
theorem at_in {zs rest : List Str} {x : Str} {C : Tab} : ixT (.tup ((zs ++ x :: rest).map .str)) (.int (zs.length : Nat)) C = .ok (.str x) C := by
  obtain ⟨h, e⟩ := atI_in (xs := (zs ++ x :: rest).map TV.str) (v := (zs.length : Nat)) (by omega) (by simp; omega)
  rw [ixT_ev]
  show okO C (atI ((zs ++ x :: rest).map TV.str) (zs.length : Nat)) = _
  rw [e]
  simp [okO]
theorem at_bfr {xs zs rest : List Str} {x : Str} (h : xs = zs ++ x :: rest) {C : Tab} : ixT (.tup (xs.map .str)) (.int ((zs.length : Nat) - 1)) C = .ok (.str (bfr xs zs)) C := by
  by_cases hz : zs = []
  · subst hz
    have ne : xs ≠ [] := by rw [h]; simp
    obtain ⟨ws, e⟩ := lst_app ne
    have := ix_tup (C := C) (zs := ws) (y := lst xs)
    rw [← e] at this
    exact this
  · obtain ⟨ws, e⟩ := lst_app hz
    have e1 : ((zs.length : Nat) : Int) - 1 = (ws.length : Nat) := by rw [e]; simp
    have e2 : bfr xs zs = lst zs := if_neg hz
    rw [e1, e2, h]
    have q := at_in (C := C) (zs := ws) (rest := x :: rest) (x := lst zs)
    have e3 : ws ++ lst zs :: x :: rest = zs ++ x :: rest := by
      rw [show ws ++ lst zs :: x :: rest = (ws ++ [lst zs]) ++ x :: rest by simp, ← e]
    rwa [e3] at q
section
variable {cs : List (Str × Str)} {C C0 : Tab} {s0 : Slots} {gt : TV → Slots → Option Slots} {tt : EM Bool} {me : EM TV} {f : Nat → Str → TV} {st : Nat → Str → Slots}
theorem lc_its {xs : List Str} (hgt : ∀ k x, gt (f k x) s0 = some (st k x)) (ht : ∀ zs x r, xs = zs ++ x :: r → tt (st zs.length x) C = .ok (!decide (vl cs x = bfr xs zs)) C) (hm : ∀ zs x r, xs = zs ++ x :: r → me (st zs.length x) C = .ok (.str x) C) :
    ∀ (rest zs : List Str) (acc : List TV), xs = zs ++ rest → acc.length + rest.length < sizeLine → lcL gt tt me none C0 s0 (its f zs.length rest) acc C = .ok (acc ++ (((pz (bfr xs zs) rest).filter fun q => !decide (vl cs q.2 = q.1)).map (·.2)).map .str) C
  | [], zs, acc, e, _ => by simp [its, lcL, pz]
  | x :: rest, zs, acc, e, hl => by
    simp only [List.length_cons] at hl
    have e' : xs = (zs ++ [x]) ++ rest := by rw [e]; simp
    have ih := fun acc hl => lc_its (xs := xs) hgt ht hm rest (zs ++ [x]) acc e' hl
    rw [bfr_app, List.length_append, List.length_singleton] at ih
    unfold its lcL
    rw [hgt]
    dsimp only
    rw [ht zs x rest e, bind_ok]
    unfold pz
    cases hf : !decide (vl cs x = bfr xs zs) with
    | true =>
      rw [if_pos rfl, hm zs x rest e, bind_ok, if_pos ⟨by omega, (True.intro : lkOk none C0 C)⟩, ih _ (by simp; omega)]
      simp [List.filter_cons, hf]
    | false =>
      rw [if_neg (by decide), if_pos (show lkOk none C0 C from True.intro), ih _ (by omega)]
      simp [List.filter_cons, hf]
theorem lc_en {xs : List Str} (hgt : ∀ k x, gt (f k x) s0 = some (st k x)) (ht : ∀ zs x r, xs = zs ++ x :: r → tt (st zs.length x) C = .ok (!decide (vl cs x = bfr xs zs)) C) (hm : ∀ zs x r, xs = zs ++ x :: r → me (st zs.length x) C = .ok (.str x) C) (hl : xs.length ≤ 60) :
    lcL gt tt me none C0 s0 (its f 0 xs) [] C = .ok ((en cs xs).map .str) C := by
  have := lc_its (C0 := C0) hgt ht hm xs [] [] rfl (by rw [sizeLine_eq]; simp; omega)
  rw [List.nil_append] at this
  exact this
end
/-! ### dicts of any values -/
def toT (qs : List (Str × TV)) : List (Key × TV) := qs.map fun p => (.inr p.1, p.2)
theorem toT_toD (ps : List (Str × Str)) : toD ps = toT (ps.map fun p => (p.1, .str p.2)) := by unfold toD toT; rw [List.map_map]; rfl
theorem putT_newT {qs : List (Str × TV)} {a : Str} {t : TV} (h : a ∉ qs.map (·.1)) : putT (toT qs) (.inr a) t = toT (qs ++ [(a, t)]) := by
  unfold putT
  have e : ¬ ((toT qs).any fun kv => decide (kv.1 = Sum.inr a)) = true := fun z => by
    obtain ⟨p, hp, e⟩ := List.any_eq_true.mp z
    have e := of_decide_eq_true e
    obtain ⟨q, hq, rfl⟩ := List.mem_map.mp hp
    exact h (List.mem_map.mpr ⟨q, hq, Sum.inr.inj e⟩)
  rw [if_neg e]; simp [toT]
theorem merge_toT : ∀ (qs acc : List (Str × TV)), (acc.map (·.1) ++ qs.map (·.1)).Nodup → mergeT (toT acc) (toT qs) = toT (acc ++ qs)
  | [], acc, _ => by simp [mergeT, toT]
  | p :: qs, acc, nd => by
    rw [List.map_cons] at nd
    have hnew : p.1 ∉ acc.map (·.1) := fun z => (List.nodup_append.mp nd).2.2 _ z _ List.mem_cons_self rfl
    show mergeT (putT (toT acc) (.inr p.1) p.2) (toT qs) = _
    rw [putT_newT hnew, merge_toT qs _ (by simpa using nd)]; simp
theorem pairL_toT : ∀ qs : List (Str × TV), pairL (qs.map fun p => .tup [.str p.1, p.2]) = some (toT qs)
  | [] => rfl
  | p :: qs => by
    rw [List.map_cons]
    show (keyOf (.str p.1)).bind _ = _
    rw [pairL_toT qs]; rfl
theorem bDict_toT {C : Tab} {b : Bool} {qs : List (Str × TV)} (nd : (qs.map (·.1)).Nodup) : bDict b [.lst (qs.map fun p => .tup [.str p.1, p.2])] C = alc b (.dct (toT qs)) C := by
  unfold bDict
  dsimp only
  rw [rd_lst]
  dsimp only
  rw [pairL_toT]
  dsimp only
  have e := merge_toT qs [] (by simpa using nd)
  rw [show mergeT [] (toT qs) = toT qs from e]
theorem dc_any {α : Type} {ev : α → TV} {kf : α → Str} {vf : α → TV} {C C0 : Tab} {s0 : Slots} {i : Nat} {mk me : EM TV} : ∀ (xs : List α) (acc : List (Str × TV)), (∀ x ∈ xs, mk (s0.set i (some (ev x))) C = .ok (.str (kf x)) C) → (∀ x ∈ xs, me (s0.set i (some (ev x))) C = .ok (vf x) C) → (acc.map (·.1) ++ xs.map kf).Nodup → acc.length + xs.length < sizeLine →
    dcL (gtN i) mYes mk me none C0 s0 (xs.map ev) (toT acc) C = .ok (toT (acc ++ xs.map fun x => (kf x, vf x))) C
  | [], acc, _, _, _, _ => by simp [dcL]
  | a :: xs, acc, hk, hv, nd, hl => by
    simp only [List.length_cons] at hl
    rw [List.map_cons] at nd
    have hnew : kf a ∉ acc.map (·.1) := fun z => (List.nodup_append.mp nd).2.2 _ z _ List.mem_cons_self rfl
    have hlen : (toT acc).length < sizeLine := by simp [toT]; omega
    rw [List.map_cons]
    unfold dcL
    rw [gtN_ev]
    dsimp only
    rw [mYes_ev, bind_ok, if_pos rfl, hk a List.mem_cons_self, bind_ok, hv a List.mem_cons_self, bind_ok]
    simp only [keyOf]
    rw [if_pos ⟨hlen, (True.intro : lkOk none C0 C)⟩, putT_newT hnew, dc_any xs _ (fun b hb => hk b (List.mem_cons_of_mem _ hb)) (fun b hb => hv b (List.mem_cons_of_mem _ hb)) (by simpa using nd) (by simp; omega)]
    simp
theorem lc_any {α : Type} {ev : α → TV} {vf : α → TV} {C C0 : Tab} {s0 : Slots} {i : Nat} {me : EM TV} : ∀ (xs : List α) (acc : List TV), (∀ x ∈ xs, me (s0.set i (some (ev x))) C = .ok (vf x) C) → acc.length + xs.length < sizeLine →
    lcL (gtN i) mYes me none C0 s0 (xs.map ev) acc C = .ok (acc ++ xs.map vf) C
  | [], acc, _, _ => by simp [lcL]
  | a :: xs, acc, hv, hl => by
    simp only [List.length_cons] at hl
    rw [List.map_cons]
    unfold lcL
    rw [gtN_ev]
    dsimp only
    rw [mYes_ev, bind_ok, if_pos rfl, hv a List.mem_cons_self, bind_ok, if_pos ⟨by omega, (True.intro : lkOk none C0 C)⟩, lc_any xs _ (fun b hb => hv b (List.mem_cons_of_mem _ hb)) (by simp; omega)]
    simp
theorem pl_toT {qs : List (Str × TV)} (h : ∀ p ∈ qs, p.2.pl = true) : (TV.dct (toT qs)).pl = true := by
  show TV.low.lowk 0 (toT qs) = true
  induction qs with
  | nil => rfl
  | cons x xs ih =>
    show (x.2.low 0 && TV.low.lowk 0 (toT xs)) = true
    rw [ih fun p hp => h p (List.mem_cons_of_mem _ hp), show x.2.low 0 = true from h x List.mem_cons_self]; rfl
theorem okTK_toT {n : Nat} : ∀ {qs : List (Str × TV)}, (∀ p ∈ qs, Rp n p.2) → okTK (toT qs) = true
  | [], _ => rfl
  | p :: qs, h => by
    show (okT p.2 && okTK (toT qs)) = true
    rw [(h p List.mem_cons_self).ok, okTK_toT fun u hu => h u (List.mem_cons_of_mem _ hu)]; rfl
theorem show_toT {n : Nat} : ∀ {qs : List (Str × TV)}, (∀ p ∈ qs, Rp n p.2) → PyData.showableKv (pydK (toT qs)) = true
  | [], _ => by simp [toT, pydK, PyData.showableKv]
  | p :: qs, h => by
    have ih := show_toT fun u hu => h u (List.mem_cons_of_mem p hu)
    show PyData.showableKv (pydK ((.inr p.1, p.2) :: toT qs)) = true
    simp only [pydK, PyData.showableKv, keyD, PyData.showable, Bool.true_and, (h p List.mem_cons_self).sh, ih]
theorem depth_toT : ∀ {qs : List (Str × TV)}, (∀ p ∈ qs, (pyd p.2).depth ≤ 18) → PyData.depthKv (pydK (toT qs)) ≤ 18
  | [], _ => by simp [toT, pydK, PyData.depthKv]
  | p :: qs, h => by
    have ih := depth_toT fun u hu => h u (List.mem_cons_of_mem p hu)
    have h0 := h p List.mem_cons_self
    show PyData.depthKv (pydK ((.inr p.1, p.2) :: toT qs)) ≤ 18
    simp only [pydK, PyData.depthKv, keyD, PyData.depth]
    omega
theorem shown_toT : ∀ qs : List (Str × TV), PyData.shownKv (pydK (toT qs)) = qs.map fun p => reprText p.1 ++ ": " ++ (pyd p.2).shown
  | [] => by simp [toT, pydK, PyData.shownKv]
  | p :: qs => by
    have ih := shown_toT qs
    show PyData.shownKv (pydK ((.inr p.1, p.2) :: toT qs)) = _
    simp only [pydK, PyData.shownKv, keyD, PyData.shown, ih, List.map_cons]
theorem rp_toT {n m : Nat} {qs : List (Str × TV)} (hk : ∀ p ∈ qs, gname p.1) (h : ∀ p ∈ qs, Rp n p.2) (hd : ∀ p ∈ qs, (pyd p.2).depth ≤ 18) (hm : 70 + n + qs.length * (n + 66) ≤ m) : Rp m (.dct (toT qs)) := by
  refine ⟨okTK_toT h, by rw [pyd, PyData.showable]; exact show_toT h, by rw [pyd, PyData.depth]; have := depth_toT hd; omega, ?_⟩
  have e2 : (": " : Str).length = 2 := by decide +kernel
  have e3 : (", " : Str).length = 2 := by decide +kernel
  have e4 : ("{" : Str).length = 1 := by decide +kernel
  have e5 : ("}" : Str).length = 1 := by decide +kernel
  have q := join_len (sep := ", ") (ws := qs.map fun p => reprText p.1 ++ ": " ++ (pyd p.2).shown) (n := 64 + n) fun w hw => by
    obtain ⟨p, hp, rfl⟩ := List.mem_map.mp hw
    rw [str_len, str_len, e2]
    have := gname_rep (hk p hp)
    have := (h p hp).ln
    omega
  rw [TL.join_eq, List.length_map, e3] at q
  rw [pyd, PyData.shown, shown_toT, dictText, str_len, str_len, e4, e5]
  have e : qs.length * (2 + (64 + n)) = qs.length * (n + 66) := by congr 1; omega
  omega
/-! ### a choice that may be an own dict -/
def DT (C : Tab) (t : TV) (cs : List (Str × Str)) : Prop := t = .dct (toD cs) ∨ ∃ j, t = .cel j ∧ C[j]? = some (.own (.dct (toD cs)))
section
variable {C G : Tab} {t : TV} {cs : List (Str × Str)}
theorem DT.app (h : DT C t cs) : DT (C ++ G) t cs := by
  rcases h with h | ⟨j, h, e⟩
  · exact .inl h
  · exact .inr ⟨j, h, by rw [List.getElem?_append_left (get_lt e)]; exact e⟩
theorem DT.rd (h : DT C t cs) : rd C t = .dct (toD cs) := by
  rcases h with h | ⟨j, h, e⟩
  · rw [h, rd_dct]
  · rw [h, rd_cel, e]; rfl
theorem DT.last : DT (C ++ [.own (.dct (toD cs))]) (.cel C.length) cs := .inr ⟨_, rfl, get_last⟩
theorem DT.ix (h : DT C t cs) (nd : (cs.map (·.1)).Nodup) {a : Str} (ha : a ∈ cs.map (·.1)) : ixT t (.str a) C = .ok (.str (vl cs a)) C := by
  rw [ixT_ev, h.rd, ixR_dcts, look_vl nd ha]; rfl
theorem DT.is (h : DT C t cs) : bIsi [t, .con (.ty "dict")] C = .ok (.bl true) C := by
  have e := bIsi_dct (C := C) (kvs := toD cs)
  unfold bIsi at e ⊢
  simp only [h.rd, rd_dct] at e ⊢
  exact e
theorem DT.len (h : DT C t cs) : bLen [t] C = .ok (.int cs.length) C := by
  have e := blen_dct (C := C) (ps := cs)
  unfold bLen at e ⊢
  simp only [h.rd, rd_dct] at e ⊢
  exact e
theorem DT.inn (h : DT C t cs) (nd : (cs.map (·.1)).Nodup) {a : Str} {neg : Bool} : inT neg (.str a) t C = .ok (.bl (if neg then !decide (a ∈ cs.map (·.1)) else decide (a ∈ cs.map (·.1)))) C := by
  have e := inD (C := C) nd (a := a) (neg := neg)
  unfold inT at e ⊢
  simp only [h.rd, rd_dct] at e ⊢
  exact e
end
/-! ### winners at the targets, set one by one -/
def mpD (ps : List (Str × Str)) (g : Str → Str) : List (Str × Str) := (tg ps).map fun a => (a, g a)
theorem putT_old {ps : List (Str × Str)} {g : Str → Str} {x p : Str} (h : x ∈ tg ps) : putT (toD (mpD ps g)) (.inr x) (.str p) = toD (mpD ps (upd1 g x p)) := by
  unfold putT
  have e : ((toD (mpD ps g)).any fun kv => decide (kv.1 = Sum.inr x)) = true := by
    refine List.any_eq_true.mpr ⟨(.inr x, .str (g x)), ?_, by simp⟩
    exact List.mem_map.mpr ⟨(x, g x), List.mem_map.mpr ⟨x, h, rfl⟩, rfl⟩
  rw [if_pos e]
  unfold toD mpD
  rw [List.map_map, List.map_map, List.map_map]
  refine List.map_congr_left fun a _ => ?_
  show (if (Sum.inr a : Key) = Sum.inr x then ((Sum.inr a : Key), TV.str p) else (Sum.inr a, TV.str (g a))) = (Sum.inr a, TV.str (upd1 g x p a))
  unfold upd1
  by_cases c : a = x
  · rw [if_pos (by rw [c]), if_pos c]
  · rw [if_neg (fun z => c (Sum.inr.inj z)), if_neg c]
theorem put_tg {C : Tab} {ps : List (Str × Str)} {g : Str → Str} {x p : Str} (h : x ∈ tg ps) (hl : (tg ps).length ≤ 60) : setSub (.cel C.length) (.str x) (.str p) (C ++ [.own (.dct (toD (mpD ps g)))]) = some (C ++ [.own (.dct (toD (mpD ps (upd1 g x p))))]) := by
  have ql : (toD (mpD ps g)).length < sizeLine := by rw [sizeLine_eq, len_toD]; unfold mpD; rw [List.length_map]; omega
  rw [setSub_ev, get_last, setR_dcts ql, set_last, putT_old h]
end FH
/-! SbA: the methods of a board: targets, leaves, fixed, in, bearers, []. -/
namespace FH
open PySem L2
open TL (tl split_join)
open PySem.Spec PyProof.Rows
theorem gcR_alc {C : Tab} {s : Slots} {b : Bool} {t : TV} (h : t.pl = true) : gcR C ((alc b t C).sr s fun x C1 => .rt x C1) = alc b t C := by
  cases b with
  | true => exact gcT_new h
  | false => exact gc_same h
theorem sset_alc {C : Tab} {b : Bool} {xs : List Str} (h : xs.length < 64) : sortSetV b (.lst (xs.map .str)) C = alc b (.lst ((srtS (ddS xs)).map .str)) C := by
  cases b with
  | true => exact sset_own h
  | false => exact sset_fz h
section
variable {C : Tab} {ps : List (Str × Str)}
theorem inD_bd {a : Str} (nd : (ps.map (·.1)).Nodup) {neg : Bool} : inT neg (.str a) (.dct (toD (sps ps))) C = .ok (.bl (if neg then !decide (a ∈ ps.map (·.1)) else decide (a ∈ ps.map (·.1)))) C := by
  rw [inT_dct]
  by_cases h : a ∈ ps.map (·.1)
  · rw [vl_sps nd h]; simp [h]
  · rw [look_none (fun z => h (sps_in.mp z))]; simp [h]
theorem sp_contains (L : Lab ps) {a : Str} : F_Board__contains [bd ps, .str a] C = .ok (.bl (decide (a ∈ ps.map (·.1)))) C := by
  have s0 : st0 2 [bd ps, .str a] = [some (bd ps), some (.str a)] := rfl
  have ev : m_Board__contains [some (bd ps), some (.str a)] C = .rt (.bl (decide (a ∈ ps.map (·.1)))) C := by
    unfold m_Board__contains
    simp only [↓bind_bnd, ↓sr_srd, ↓seq_sqd, bnd_ok, srd_ok, sqd_nx, sqd_rt, nSeq_ev, nSet_ev, nIf_ev, nRet_ev, nNil_ev, nExpr_ev, nPar_ev, nFor_ev, nFld_ev, mVar_ev, mC_ev, mCons_ev, mNil_ev, mCall_ev, mOp_ev, mB_ev, mB1_ev, mNot_ev, mAnd_ev, mOr_ev, mAndV_ev, mChain_ev, mMeth_ev, mFld_ev, mLst_ev, mLc_ev, mDc_ev, mSeq_ev, mBM_ev, mIsC_ev, mFz_ev, List.getElem?_cons_zero, List.getElem?_cons_succ, rdS_some, List.set_cons_succ, List.set_cons_zero, blOf_bl, Bool.not_true, Bool.not_false, Bool.false_eq_true, if_true, if_false, List.append_nil, nox_ok, alc_fz, unlk_ok0, bIsi_str, fld_bd, inD_bd L.nd]
  unfold F_Board__contains ofM
  rw [s0, ev]
  exact gc_same (t := .bl (decide (a ∈ ps.map (·.1)))) rfl
theorem sp_containsNo {t : TV} {n : String} (ht : tyName t = some n) (hn : n ≠ "str") : F_Board__contains [bd ps, t] C = .ok (.bl false) C := by
  have s0 : st0 2 [bd ps, t] = [some (bd ps), some t] := rfl
  have bi := bIsi_not (C := C) ht hn
  have ev : m_Board__contains [some (bd ps), some t] C = .rt (.bl false) C := by
    unfold m_Board__contains
    simp only [↓bind_bnd, ↓sr_srd, ↓seq_sqd, bnd_ok, srd_ok, sqd_nx, sqd_rt, nSeq_ev, nSet_ev, nIf_ev, nRet_ev, nNil_ev, nExpr_ev, nPar_ev, nFor_ev, nFld_ev, mVar_ev, mC_ev, mCons_ev, mNil_ev, mCall_ev, mOp_ev, mB_ev, mB1_ev, mNot_ev, mAnd_ev, mOr_ev, mAndV_ev, mChain_ev, mMeth_ev, mFld_ev, mLst_ev, mLc_ev, mDc_ev, mSeq_ev, mBM_ev, mIsC_ev, mFz_ev, List.getElem?_cons_zero, List.getElem?_cons_succ, rdS_some, List.set_cons_succ, List.set_cons_zero, blOf_bl, Bool.not_true, Bool.not_false, Bool.false_eq_true, if_true, if_false, List.append_nil, nox_ok, alc_fz, unlk_ok0, bi]
  unfold F_Board__contains ofM
  rw [s0, ev]
  exact gc_same (t := .bl false) rfl
theorem inB_bd (L : Lab ps) {a : Str} {neg : Bool} : inB neg "Board" F_Board__contains (.str a) (bd ps) C = .ok (.bl (if neg then !decide (a ∈ ps.map (·.1)) else decide (a ∈ ps.map (·.1)))) C := by
  unfold inB
  rw [rd_bd]
  show (if ("Board" : Str) = "Board" then (F_Board__contains [bd ps, .str a] C).bind (boolR neg) else .stuck) = _
  rw [if_pos rfl, sp_contains L]
  cases neg <;> rfl
theorem inB_bdNo {t : TV} {n : String} (ht : tyName t = some n) (hn : n ≠ "str") {neg : Bool} : inB neg "Board" F_Board__contains t (bd ps) C = .ok (.bl neg) C := by
  unfold inB
  rw [rd_bd]
  show (if ("Board" : Str) = "Board" then (F_Board__contains [bd ps, t] C).bind (boolR neg) else .stuck) = _
  rw [if_pos rfl, sp_containsNo ht hn]
  cases neg <;> rfl
/-- a value that is no box -/
def NoBx (ps : List (Str × Str)) (t : TV) : Prop := (∃ n, tyName t = some n ∧ n ≠ "str") ∨ ∃ s, t = .str s ∧ s ∉ ps.map (·.1)
theorem inB_no (L : Lab ps) {t : TV} (h : NoBx ps t) {neg : Bool} : inB neg "Board" F_Board__contains t (bd ps) C = .ok (.bl neg) C := by
  rcases h with ⟨n, ht, hn⟩ | ⟨s, rfl, hs⟩
  · exact inB_bdNo ht hn
  · rw [inB_bd L]
    cases neg <;> simp [hs]
theorem raR_any {s : Slots} {c f : Str} {t : TV} : raR c f false s C t = .exc ⟨c, [(f, t)]⟩ s C := by
  unfold raR
  rw [if_pos (by cases t <;> rfl)]
@[simp] theorem nRaise1_ev {s : Slots} {c f : Str} {b : Bool} {m : EM TV} : nRaise1 c f b m s C = (m s C).sr s fun t C1 => raR c f b s C1 t := rfl
theorem low_one {f : Str} {t : TV} (h : t.pl = true) {n : Nat} : TV.low.lowf n [(f, t)] = true := by
  show (t.low n && true) = true
  rw [pl_low h]; rfl
end
end FH
/-! SbB: choices: the law's own words and the program's. -/
namespace FH
open PySem L2
open TL (tl split_join)
open PySem.Spec PyProof.Rows
section
variable {C : Tab} {ps cs : List (Str × Str)}
end
end FH
/-! SbC: winners: choices looked at, walked paths, outcome, resting. -/
namespace FH
open PySem L2
open TL (tl split_join)
open PySem.Spec PyProof.Rows
theorem inL {C : Tab} {xs : List Str} {x : Str} {neg : Bool} : inT neg (.str x) (.lst (xs.map .str)) C = .ok (.bl (if neg then !decide (x ∈ xs) else decide (x ∈ xs))) C := inT_lst rd_lst
theorem bList_alc {C : Tab} {b : Bool} {ps : List (Str × Str)} : bList b [.dct (toD ps)] C = alc b (.lst ((ps.map (·.1)).map .str)) C := by
  have hks : (toD ps).map (fun kv => keyTV kv.1) = (ps.map (·.1)).map .str := by simp [toD, List.map_map, Function.comp, keyTV]
  unfold bList
  dsimp only
  rw [rd_dct]
  unfold itD
  rw [← hks]
section
variable {C : Tab} {ps cs : List (Str × Str)}
end
end FH
/-! SbP: moves: what can move, the board behind a move, plays (TbA, TbB, UcA, UcB behind SgK). -/
namespace FH
open PySem L2
open TL (tl split_join)
open PySem.Spec PyProof.Rows
theorem srt_filterP {f : Str → Bool} {ks : List Str} : (srtS ks).filter f = srtS (ks.filter f) := srt_filter.symm
/-- the item at x can move -/
def mvb (ps : List (Str × Str)) (x : Str) : Bool := !decide (vl ps x = x) && !decide (vl ps (vl ps x) = vl ps x)
def mv (ps : List (Str × Str)) : List Str := srtS ((ps.map (·.1)).filter (mvb ps))
/-- the labels behind the move of x -/
def aft (ps : List (Str × Str)) (x : Str) : List (Str × Str) := ps.map fun p => (p.1, if p.1 = x then vl ps (vl ps x) else if p.1 = vl ps x then vl ps x else p.2)
theorem mem_mv {ps : List (Str × Str)} {x : Str} : x ∈ mv ps ↔ x ∈ ps.map (·.1) ∧ mvb ps x = true := by
  unfold mv
  rw [(srtS_perm _).mem_iff, List.mem_filter]
theorem mvb_iff {ps : List (Str × Str)} {x : Str} : mvb ps x = true ↔ vl ps x ≠ x ∧ vl ps (vl ps x) ≠ vl ps x := by simp [mvb]
theorem vl_map {ps : List (Str × Str)} {f : Str × Str → Str} (nd : (ps.map (·.1)).Nodup) {p : Str × Str} (h : p ∈ ps) : vl (ps.map fun q => (q.1, f q)) p.1 = f p := by
  refine vl_mem (ps := ps.map fun q => (q.1, f q)) (p := (p.1, f p)) ?_ (List.mem_map.mpr ⟨p, h, rfl⟩)
  rw [List.map_map]; exact nd
theorem aft_keys {ps : List (Str × Str)} {x : Str} : (aft ps x).map (·.1) = ps.map (·.1) := by
  unfold aft; rw [List.map_map]; rfl
theorem aft_len {ps : List (Str × Str)} {x : Str} : (aft ps x).length = ps.length := by unfold aft; rw [List.length_map]
theorem aft_vl {ps : List (Str × Str)} (L : Lab ps) {x y : Str} (hy : y ∈ ps.map (·.1)) : vl (aft ps x) y = if y = x then vl ps (vl ps x) else if y = vl ps x then vl ps x else vl ps y := by
  have h := vl_in L.nd hy
  have e := vl_map (f := fun p => if p.1 = x then vl ps (vl ps x) else if p.1 = vl ps x then vl ps x else p.2) L.nd h
  exact e
theorem Lab.aft {ps : List (Str × Str)} (L : Lab ps) {x : Str} (hx : x ∈ ps.map (·.1)) : Lab (aft ps x) := by
  refine ⟨by rw [aft_keys]; exact L.nd, fun p hp => ?_, fun p hp => ?_, by rw [aft_len]; exact L.le⟩
  · rw [aft_keys]
    obtain ⟨q, hq, rfl⟩ := List.mem_map.mp hp
    dsimp only
    split
    · exact vl_key L (vl_key L hx)
    · split
      · exact vl_key L hx
      · exact L.cl q hq
  · obtain ⟨q, hq, rfl⟩ := List.mem_map.mp hp
    exact L.nm q hq
theorem aft_ne {ps : List (Str × Str)} {x : Str} (h : ps ≠ []) : aft ps x ≠ [] := fun z => h (by
  have e := aft_len (ps := ps) (x := x)
  rw [z] at e
  exact List.length_eq_zero_iff.mp e.symm)
/-- boxes whose item is not at home -/
def nfx (ps : List (Str × Str)) : Nat := (ps.filter fun p => !decide (p.2 = p.1)).length
theorem filter_lt {α : Type} {f g : α → Bool} : ∀ {l : List α}, (∀ a ∈ l, g a = true → f a = true) → (∃ a ∈ l, f a = true ∧ g a = false) → (l.filter g).length < (l.filter f).length
  | [], _, ⟨a, h, _⟩ => nomatch h
  | b :: l, h, ⟨a, ha, hf, hg⟩ => by
    have sub : (l.filter g).length ≤ (l.filter f).length := by
      clear ha
      induction l with
      | nil => exact Nat.le_refl _
      | cons c l ih =>
        have ih := ih fun a ha => h a (by rcases List.mem_cons.mp ha with e | e <;> simp [e])
        rw [List.filter_cons, List.filter_cons]
        cases hc : g c with
        | true => rw [h c (by simp) hc]; simp only [if_true, List.length_cons]; omega
        | false => cases f c <;> simp <;> omega
    rw [List.filter_cons, List.filter_cons]
    rcases List.mem_cons.mp ha with rfl | ha
    · rw [hf, hg]; simp only [if_true, Bool.false_eq_true, if_false, List.length_cons]; omega
    · have ih := filter_lt (fun a ha => h a (List.mem_cons_of_mem _ ha)) ⟨a, ha, hf, hg⟩
      cases hc : g b with
      | true => rw [h b (by simp) hc]; simp only [if_true, List.length_cons]; omega
      | false => cases f b <;> simp <;> omega
theorem nfx_lt {ps : List (Str × Str)} (L : Lab ps) {x : Str} (hx : x ∈ mv ps) : nfx (aft ps x) < nfx ps := by
  obtain ⟨hk, hm⟩ := mem_mv.mp hx
  obtain ⟨h1, h2⟩ := mvb_iff.mp hm
  have e : nfx (aft ps x) = (ps.filter fun p => !decide ((if p.1 = x then vl ps (vl ps x) else if p.1 = vl ps x then vl ps x else p.2) = p.1)).length := by
    unfold nfx aft
    rw [List.filter_map, List.length_map]; rfl
  rw [e]
  refine filter_lt (fun p hp hq => ?_) ⟨(vl ps x, vl ps (vl ps x)), vl_in L.nd (vl_key L hk), by simpa using h2, ?_⟩
  · simp only [Bool.not_eq_true', decide_eq_false_iff_not] at hq ⊢
    by_cases e1 : p.1 = x
    · have e2 := vl_mem L.nd hp
      rw [e1] at e2
      rw [← e2, e1]
      exact h1
    · rw [if_neg e1] at hq
      by_cases e2 : p.1 = vl ps x
      · rw [if_pos e2] at hq
        exact absurd e2.symm hq
      · rw [if_neg e2] at hq
        exact hq
  · dsimp only
    rw [if_neg h1, if_pos rfl]
    simp
theorem nfx_le {ps : List (Str × Str)} : nfx ps ≤ ps.length := List.length_filter_le _ _
/-- a play to its end -/
inductive Pl : List (Str × Str) → List Str → Prop
  | nil {ps : List (Str × Str)} (h : mv ps = []) : Pl ps []
  | cons {ps : List (Str × Str)} {x : Str} {xs : List Str} (h : x ∈ mv ps) (r : Pl (aft ps x) xs) : Pl ps (x :: xs)
/-- the first moves of a play -/
inductive Run : List (Str × Str) → List Str → List (Str × Str) → Prop
  | nil {ps : List (Str × Str)} : Run ps [] ps
  | snoc {ps qs : List (Str × Str)} {x : Str} {xs : List Str} (r : Run ps xs qs) (h : x ∈ mv qs) : Run ps (xs ++ [x]) (aft qs x)
theorem Run.pl {ps qs : List (Str × Str)} {xs : List Str} (r : Run ps xs qs) : ∀ {ys : List Str}, Pl qs ys → Pl ps (xs ++ ys) := by
  induction r with
  | nil => intro ys h; exact h
  | snoc r h ih =>
    intro ys p
    rw [List.append_assoc]
    exact ih (.cons h p)
theorem Run.lab {ps qs : List (Str × Str)} {xs : List Str} (r : Run ps xs qs) (L : Lab ps) (h0 : ps ≠ []) : Lab qs ∧ qs ≠ [] ∧ qs.length = ps.length ∧ xs.length + nfx qs ≤ nfx ps := by
  induction r with
  | nil => exact ⟨L, h0, rfl, by simp⟩
  | @snoc qs' x xs' r h ih =>
    obtain ⟨a, b, c, d⟩ := ih
    have lt := nfx_lt a h
    exact ⟨a.aft (mem_mv.mp h).1, aft_ne b, by rw [aft_len]; exact c, by rw [List.length_append]; simp only [List.length_cons, List.length_nil]; omega⟩
theorem sps_vl {ps : List (Str × Str)} (nd : (ps.map (·.1)).Nodup) {k : Str} (h : k ∈ ps.map (·.1)) : vl (sps ps) k = vl ps k := vl_mem (ps := sps ps) (p := (k, vl ps k)) (sps_nd nd) ((sps_mem nd).mpr (vl_in nd h))
theorem sp_lmov {C : Tab} {ps : List (Str × Str)} (L : Lab ps) : F_law_movable [.dct (toD ps)] C = .ok (.lst ((mv ps).map .str)) C := by
  have hle := L.le
  have s0 : st0 2 [TV.dct (toD ps)] = [some (.dct (toD ps)), none] := rfl
  have w : wipeS [some (TV.dct (toD ps)), none] [1] = [some (.dct (toD ps)), none] := rfl
  have e := lc_filter (C := C) (C0 := C) (s0 := [some (.dct (toD ps)), none]) (i := 1) (tt := (mAnd (mB (mOp neI (mOp ixT (mVar 0) (mVar 1)) (mVar 1))) (mB (mOp neI (mOp ixT (mVar 0) (mOp ixT (mVar 0) (mVar 1))) (mOp ixT (mVar 0) (mVar 1)))))) (f := mvb ps) (by simp) (ps.map (·.1)) [] (fun a ha => by
    have l1 := look_vl L.nd ha
    have l2 := look_vl L.nd (vl_key L ha)
    simp only [↓bind_bnd, bnd_ok, mAnd_ev, mB_ev, mOp_ev, mVar_ev, List.set_cons_succ, List.set_cons_zero, List.getElem?_cons_zero, List.getElem?_cons_succ, rdS_some, ixT_ev, rd_dct, ixR_dcts, l1, l2, okO_some, neI_str, blOf_bl]
    unfold mvb
    cases decide (vl ps a = a) <;> rfl) (by rw [List.length_map, sizeLine_eq]; simp; omega)
  have sl : ((ps.map (·.1)).filter (mvb ps)).length < 64 := by
    have := List.length_filter_le (mvb ps) (ps.map (·.1))
    rw [List.length_map] at this
    omega
  rw [List.nil_append] at e
  have ev : m_law_movable [some (.dct (toD ps)), none] C = .rt (.lst ((mv ps).map .str)) C := by
    unfold m_law_movable
    simp only [↓bind_bnd, ↓sr_srd, ↓seq_sqd, bnd_ok, srd_ok, sqd_nx, sqd_rt, nRet_ev, mB1_ev, mCons_ev, mNil_ev, mVar_ev, mLc_ev, mSeq_ev, List.getElem?_cons_zero, List.getElem?_cons_succ, rdS_some, seqOf_dctV, keys_toD, w, e, nox_ok, alc_fz, unlk_ok0, sort_strs sl]
    rfl
  unfold F_law_movable ofM
  rw [s0, ev]
  exact gc_same pl_strs
theorem putT_oldP {ps : List (Str × Str)} {a b : Str} (h : a ∈ ps.map (·.1)) : putT (toD ps) (.inr a) (.str b) = toD (ps.map fun p => if p.1 = a then (p.1, b) else p) := by
  unfold putT
  have e : ((toD ps).any fun kv => decide (kv.1 = Sum.inr a)) = true := by
    obtain ⟨p, hp, rfl⟩ := List.mem_map.mp h
    exact List.any_eq_true.mpr ⟨_, List.mem_map.mpr ⟨p, hp, rfl⟩, by simp⟩
  rw [if_pos e]
  unfold toD
  rw [List.map_map, List.map_map]
  refine List.map_congr_left fun p _ => ?_
  simp only [Function.comp]
  by_cases h : p.1 = a
  · rw [if_pos h, if_pos (by rw [h])]
  · rw [if_neg h, if_neg (fun z => h (Sum.inr.inj z))]
theorem aft_two {ps : List (Str × Str)} {x : Str} (h : vl ps x ≠ x) : (ps.map fun p => if p.1 = x then (p.1, vl ps (vl ps x)) else p).map (fun p => if p.1 = vl ps x then (p.1, vl ps x) else p) = aft ps x := by
  unfold aft
  rw [List.map_map]
  refine List.map_congr_left fun p _ => ?_
  simp only [Function.comp]
  by_cases h1 : p.1 = x
  · rw [if_pos h1, if_pos h1, if_neg (by dsimp only; rw [h1]; exact fun z => h z.symm)]
  · rw [if_neg h1, if_neg h1]
    by_cases h2 : p.1 = vl ps x
    · rw [if_pos h2, if_pos h2]
    · rw [if_neg h2, if_neg h2]
theorem sp_after {C : Tab} {ps : List (Str × Str)} {x : Str} (L : Lab ps) (hx : x ∈ mv ps) : F_law_after [.dct (toD ps), .str x] C = .ok (.dct (toD (aft ps x))) C := by
  have hle := L.le
  obtain ⟨hk, hm⟩ := mem_mv.mp hx
  obtain ⟨h1, h2⟩ := mvb_iff.mp hm
  have l1 := look_vl L.nd hk
  have l2 := look_vl L.nd (vl_key L hk)
  have s0 : st0 3 [TV.dct (toD ps), .str x] = [some (.dct (toD ps)), some (.str x), none] := rfl
  have bd1 : ∀ D, bDict true [.dct (toD ps)] D = .ok (.cel D.length) (D ++ [.own (.dct (toD ps))]) := fun D => rfl
  have q0 : ∀ qs : List (Str × Str), qs.length = ps.length → (toD qs).length < sizeLine := fun qs h => by rw [len_toD, h, sizeLine_eq]; omega
  have g1 : ∀ t : TV, (C ++ [Cell.own t])[C.length]? = some (.own t) := fun t => by simp
  have st : ∀ t u : TV, (C ++ [Cell.own t]).set C.length (.own u) = C ++ [.own u] := fun t u => by rw [List.set_append_right _ _ (Nat.le_refl _)]; simp
  have stf : ∀ t u : TV, (C ++ [Cell.own t]).set C.length (.frz u) = C ++ [.frz u] := fun t u => by rw [List.set_append_right _ _ (Nat.le_refl _)]; simp
  have p1 := putT_oldP (b := vl ps (vl ps x)) hk
  have p2 : putT (toD (ps.map fun p => if p.1 = x then (p.1, vl ps (vl ps x)) else p)) (.inr (vl ps x)) (.str (vl ps x)) = toD (aft ps x) := by
    rw [putT_oldP (by
      have : (ps.map fun p => if p.1 = x then (p.1, vl ps (vl ps x)) else p).map (·.1) = ps.map (·.1) := by
        rw [List.map_map]
        refine List.map_congr_left fun p _ => ?_
        simp only [Function.comp]; split <;> rfl
      rw [this]; exact vl_key L hk), aft_two h1]
  have fz := fzv_own (g1 (.dct (toD (aft ps x))))
  have ev : m_law_after [some (.dct (toD ps)), some (.str x), none] C = .rt (.dct (toD (aft ps x))) (C ++ [.frz (.dct (toD (aft ps x)))]) := by
    unfold m_law_after
    simp only [↓bind_bnd, ↓sr_srd, ↓seq_sqd, bnd_ok, srd_ok, sqd_nx, sqd_rt, nSeq_ev, nSet_ev, nSub_ev, nRet_ev, mFz_ev, mB1_ev, mOp_ev, mCons_ev, mNil_ev, mVar_ev, List.set_cons_succ, List.set_cons_zero, List.getElem?_cons_zero, List.getElem?_cons_succ, rdS_some, bd1, ixT_ev, rd_dct, ixR_dcts, l1, l2, okO_some, setSub_ev, g1, setR_dcts (q0 ps rfl), p1, putC_some, st,
      setR_dcts (q0 _ (show (ps.map fun p => if p.1 = x then (p.1, vl ps (vl ps x)) else p).length = ps.length by rw [List.length_map])), p2, fz, stf]
  unfold F_law_after ofM
  rw [s0, ev]
  exact gcT_id pl_toD
theorem sp_bmov {C : Tab} {ps : List (Str × Str)} (L : Lab ps) : F_Board_movable [bd ps] C = .ok (.lst ((mv ps).map .str)) C := by
  have hle := L.le
  have s0 : st0 4 [bd ps] = [some (bd ps), none, none, none] := rfl
  obtain ⟨s', C', e2, i, a2, a3, hx, hi, rfl, rfl⟩ := loop_inv (gt := gtT [(gtN 2), (gtN 3)]) (C0 := C ++ [.own (.lst [])])
    (body := (nIf (mAnd (mB (mOp neI (mVar 3) (mVar 2))) (mB (mOp neI (mOp ixT (mFld "Board" "homes" (mVar 0)) (mVar 3)) (mVar 3)))) (nExpr (mBM tyL fAppend (mVar 1) (mCons (mVar 2) mNil))) nNil))
    (I := fun xs s C1 => ∃ (i : Nat) (a2 a3 : Option TV), xs = ((sps ps).map pairT).drop i ∧ i ≤ (sps ps).length ∧ s = [some (bd ps), some (.cel C.length), a2, a3] ∧ C1 = C ++ [.own (.lst (((((sps ps).take i).map (·.1)).filter (mvb ps)).map .str))])
    (fun x xs s C1 ⟨i, a2, a3, hx, hi, es, eC⟩ => by
      subst es; subst eC
      have hi2 : i < (sps ps).length := by
        rcases Nat.lt_or_ge i (sps ps).length with h | h
        · exact h
        · rw [List.drop_eq_nil_of_le (by rw [List.length_map]; exact h)] at hx; cases hx
      have hd : ((sps ps).map pairT).drop i = pairT (sps ps)[i] :: ((sps ps).map pairT).drop (i + 1) := by
        rw [List.drop_eq_getElem_cons (by rw [List.length_map]; exact hi2), List.getElem_map]
      rw [hd] at hx
      obtain ⟨rfl, rfl⟩ := List.cons.inj hx
      have hp : (sps ps)[i] ∈ sps ps := List.getElem_mem hi2
      have hp' := (sps_mem L.nd).mp hp
      have ev2 := vl_mem L.nd hp'
      have k1 : (sps ps)[i].1 ∈ ps.map (·.1) := List.mem_map.mpr ⟨_, hp', rfl⟩
      have k2 : (sps ps)[i].2 ∈ ps.map (·.1) := L.cl _ hp'
      have lk := vl_sps L.nd k2
      have tk : (sps ps).take (i + 1) = (sps ps).take i ++ [(sps ps)[i]] := by rw [List.take_succ, List.getElem?_eq_getElem hi2]; rfl
      have hlen : (((((sps ps).take i).map (·.1)).filter (mvb ps)).map TV.str).length < sizeLine := by
        rw [List.length_map, sizeLine_eq]
        have := List.length_filter_le (mvb ps) (((sps ps).take i).map (·.1))
        rw [List.length_map, List.length_take, sps_len] at this
        omega
      have cond : (mAnd (mB (mOp neI (mVar 3) (mVar 2))) (mB (mOp neI (mOp ixT (mFld "Board" "homes" (mVar 0)) (mVar 3)) (mVar 3)))) [some (bd ps), some (.cel C.length), some (.str (sps ps)[i].1), some (.str (sps ps)[i].2)] (C ++ [.own (.lst (((((sps ps).take i).map (·.1)).filter (mvb ps)).map .str))]) =
          .ok (mvb ps (sps ps)[i].1) (C ++ [.own (.lst (((((sps ps).take i).map (·.1)).filter (mvb ps)).map .str))]) := by
        simp only [↓bind_bnd, bnd_ok, mAnd_ev, mB_ev, mOp_ev, mFld_ev, mVar_ev, List.getElem?_cons_zero, List.getElem?_cons_succ, rdS_some, fld_bd, ixT_ev, rd_dct, ixR_dcts, lk, okO_some, neI_str, blOf_bl]
        unfold mvb
        rw [ev2]
        cases decide ((sps ps)[i].2 = (sps ps)[i].1) <;> rfl
      refine ⟨[some (bd ps), some (.cel C.length), some (.str (sps ps)[i].1), some (.str (sps ps)[i].2)], [some (bd ps), some (.cel C.length), some (.str (sps ps)[i].1), some (.str (sps ps)[i].2)], C ++ [.own (.lst (((((sps ps).take (i + 1)).map (·.1)).filter (mvb ps)).map .str))], rfl, ?_, i + 1, _, _, rfl, hi2, rfl, rfl⟩
      rw [nIf_ev, cond, sr_ok, tk, List.map_append, List.filter_append, List.map_append]
      cases hm : mvb ps (sps ps)[i].1 with
      | true =>
        simp only [if_true, nExpr_ev, mBM_ev, mVar_ev, mCons_ev, mNil_ev, List.getElem?_cons_zero, List.getElem?_cons_succ, rdS_some, bind_ok, tyL_at, app_at hlen, sr_ok, List.map_cons, List.map_nil, List.filter_cons, hm, List.filter_nil]
      | false =>
        simp only [Bool.false_eq_true, if_false, nNil_ev, List.map_cons, List.map_nil, List.filter_cons, hm, List.filter_nil, List.append_nil])
    ((sps ps).map pairT) [some (bd ps), some (.cel C.length), none, none] (C ++ [.own (.lst [])])
    ⟨0, none, none, rfl, Nat.zero_le _, rfl, rfl⟩
  have hfull : (sps ps).take i = sps ps := by
    refine List.take_of_length_le ?_
    have := congrArg List.length hx
    rw [List.length_drop, List.length_map] at this
    simp at this; omega
  have em : ((((sps ps).take i).map (·.1)).filter (mvb ps)) = mv ps := by
    rw [hfull, sps_keys, srt_filterP]; rfl
  rw [em] at e2
  have g : (C ++ [Cell.own (.lst ((mv ps).map .str))])[C.length]? = some (.own (.lst ((mv ps).map .str))) := by simp
  have fz := fzv_own g
  have st : (C ++ [Cell.own (.lst ((mv ps).map .str))]).set C.length (.frz (.lst ((mv ps).map .str))) = C ++ [.frz (.lst ((mv ps).map .str))] := by rw [List.set_append_right _ _ (Nat.le_refl _)]; simp
  have ev : m_Board_movable [some (bd ps), none, none, none] C = .rt (.lst ((mv ps).map .str)) (C ++ [.frz (.lst ((mv ps).map .str))]) := by
    unfold m_Board_movable
    simp only [↓bind_bnd, ↓sr_srd, ↓seq_sqd, bnd_ok, srd_ok, sqd_nx, sqd_rt, nSeq_ev, nSet_ev, mLst_ev, mNil_ev, lstV_nil, alc_own, List.set_cons_succ, List.set_cons_zero, nFor_ev, mItems_ev, mFld_ev, mVar_ev, List.getElem?_cons_zero, List.getElem?_cons_succ, rdS_some, fld_bd, items_src, e2, srunlk_nx0, nRet_ev, mFz_ev, fz, st]
  unfold F_Board_movable ofM
  rw [s0, ev]
  exact gcT_id pl_strs
/-- a play to its end -/
theorem sp_play {C : Tab} {j : Nat} {d : Dr} {k : Nat} {ps : List (Str × Str)} (L : Lab ps) (h0 : ps ≠ []) (h : C[j]? = some (.own d.tv)) (hb : d.bd (60 + k)) :
    ∃ (xs : List Str) (d' : Dr), F_law_play [.cel j, .dct (toD ps)] C = .ok (.lst (xs.map .str)) (C.set j (.own d'.tv)) ∧ Pl ps xs ∧ xs.length ≤ 60 ∧ d'.bd k := by
  have hj := get_lt h
  have hset := set_same h
  have hle := L.le
  have hn := nfx_le (ps := ps)
  obtain ⟨s', C', e2, qs, xs, d2, a4, rfl, rfl, hr, hm, hb2⟩ := wh_inv2 (t := mB (mOp neI (mCall F_law_movable [] (mCons (mVar 3) mNil)) (mLst false mNil)))
    (body := (nSeq (nSet 4 (mCall F_law_pick [] (mCons (mVar 0) (mCons (mCall F_law_movable [] (mCons (mVar 3) mNil)) mNil))))
  (nSeq (nExpr (mBM tyL fAppend (mVar 2) (mCons (mVar 4) mNil)))
  (nSet 3 (mCall F_law_after [] (mCons (mVar 3) (mCons (mVar 4) mNil)))))))
    (I := fun m s C1 => ∃ (qs : List (Str × Str)) (xs : List Str) (d2 : Dr) (a4 : Option TV), s = [some (.cel j), some (.dct (toD ps)), some (.cel C.length), some (.dct (toD qs)), a4] ∧ C1 = C.set j (.own d2.tv) ++ [.own (.lst (xs.map .str))] ∧ Run ps xs qs ∧ m = nfx qs ∧ d2.bd (nfx qs + k))
    (J := fun s C1 => ∃ (qs : List (Str × Str)) (xs : List Str) (d2 : Dr) (a4 : Option TV), s = [some (.cel j), some (.dct (toD ps)), some (.cel C.length), some (.dct (toD qs)), a4] ∧ C1 = C.set j (.own d2.tv) ++ [.own (.lst (xs.map .str))] ∧ Run ps xs qs ∧ mv qs = [] ∧ d2.bd k)
    (fun m s C1 ⟨qs, xs, d2, a4, es, eC, hr, hm, hb⟩ => by
      subst es; subst eC; subst hm
      obtain ⟨Lq, q0, ql, xl⟩ := hr.lab L h0
      have ht : (mB (mOp neI (mCall F_law_movable [] (mCons (mVar 3) mNil)) (mLst false mNil))) [some (.cel j), some (.dct (toD ps)), some (.cel C.length), some (.dct (toD qs)), a4] (C.set j (.own d2.tv) ++ [.own (.lst (xs.map .str))]) =
          .ok (!((mv qs).map TV.str).isEmpty) (C.set j (.own d2.tv) ++ [.own (.lst (xs.map .str))]) := by
        simp only [↓bind_bnd, bnd_ok, mB_ev, mOp_ev, mCall_ev, mCons_ev, mVar_ev, mNil_ev, mLst_ev, List.getElem?_cons_zero, List.getElem?_cons_succ, rdS_some, List.append_nil, sp_lmov Lq, lstV_nil, alc_fz, neI_empty, blOf_bl]
      refine ⟨_, _, ht, ?_⟩
      by_cases hm : mv qs = []
      · exact .inr ⟨by rw [hm]; rfl, qs, xs, d2, a4, rfl, rfl, hr, hm, bd_le hb (by omega)⟩
      · have hne : (!((mv qs).map TV.str).isEmpty) = true := by
          cases e : mv qs with
          | nil => exact absurd e hm
          | cons a b => rfl
        have g : (C.set j (.own d2.tv) ++ [Cell.own (.lst (xs.map .str))])[j]? = some (.own d2.tv) := tj_get hj
        have lm : (mv qs).length < 1000000 := by
          have h1 : (mv qs).length ≤ qs.length := by
            unfold mv
            rw [(srtS_perm _).length_eq]
            have := List.length_filter_le (mvb qs) (qs.map (·.1))
            rwa [List.length_map] at this
          have := Lq.le
          omega
        have hpos : 0 < nfx qs := by
          obtain ⟨x, hx⟩ := List.exists_mem_of_ne_nil _ hm
          have := nfx_lt Lq hx
          omega
        obtain ⟨x, d3, ep, hx, b3⟩ := sp_pickN (k := nfx qs - 1 + k) g (bd_le hb (by omega)) hm lm
        rw [tj_set hj] at ep
        have cl : C.length = (C.set j (Cell.own d3.tv)).length := by simp
        have lt := nfx_lt Lq hx
        have ty : tyL (.cel C.length) (C.set j (.own d3.tv) ++ [.own (.lst (xs.map .str))]) = true := by rw [cl]; exact tyL_at
        have ap : fAppend (.cel C.length) [.str x] (C.set j (.own d3.tv) ++ [.own (.lst (xs.map .str))]) = .ok .non (C.set j (.own d3.tv) ++ [.own (.lst ((xs ++ [x]).map .str))]) := by
          rw [cl, app_at (by rw [List.length_map, sizeLine_eq]; omega), List.map_append]; rfl
        refine .inl ⟨hne, [some (.cel j), some (.dct (toD ps)), some (.cel C.length), some (.dct (toD (aft qs x))), some (.str x)], C.set j (.own d3.tv) ++ [.own (.lst ((xs ++ [x]).map .str))], nfx (aft qs x), ?_, lt, aft qs x, xs ++ [x], d3, _, rfl, rfl, .snoc hr hx, rfl, bd_le b3 (by omega)⟩
        simp only [↓bind_bnd, ↓sr_srd, ↓seq_sqd, bnd_ok, srd_ok, sqd_nx, sqd_rt, nSeq_ev, nSet_ev, nExpr_ev, mBM_ev, mCall_ev, mCons_ev, mVar_ev, mNil_ev, List.set_cons_succ, List.set_cons_zero, List.getElem?_cons_zero, List.getElem?_cons_succ, rdS_some, List.append_nil, sp_lmov Lq, ep, ty, if_true, ap, sp_after Lq hx])
    100000 (nfx ps) [some (.cel j), some (.dct (toD ps)), some (.cel C.length), some (.dct (toD ps)), none] (C.set j (.own d.tv) ++ [.own (.lst [])]) (by omega)
    ⟨ps, [], d, none, rfl, rfl, .nil, rfl, bd_le hb (by omega)⟩
  obtain ⟨_, _, _, xl⟩ := hr.lab L h0
  have P := hr.pl (.nil hm)
  rw [List.append_nil] at P
  refine ⟨xs, d2, ?_, P, by omega, hb2⟩
  have s0 : st0 5 [TV.cel j, .dct (toD ps)] = [some (.cel j), some (.dct (toD ps)), none, none, none] := rfl
  have fz := fzv_own (C := C.set j (.own d2.tv) ++ [.own (.lst (xs.map .str))]) (n := C.length) (u := .lst (xs.map .str)) tn_get
  have n1 : (nPar 2 3 (mCons (mLst true mNil) (mCons (mVar 1) mNil))) [some (.cel j), some (.dct (toD ps)), none, none, none] C = .nx [some (.cel j), some (.dct (toD ps)), some (.cel C.length), some (.dct (toD ps)), none] (C.set j (Cell.own d.tv) ++ [Cell.own (.lst [])]) := by
    rw [hset]
    simp
  have n3 : (nRet (mFz (mVar 2))) [some (.cel j), some (.dct (toD ps)), some (.cel C.length), some (.dct (toD qs)), a4] (C.set j (Cell.own d2.tv) ++ [Cell.own (.lst (xs.map .str))]) = .rt (.lst (xs.map .str)) ((C.set j (Cell.own d2.tv) ++ [Cell.own (.lst (xs.map .str))]).set C.length (.frz (.lst (xs.map .str)))) := by
    simp only [↓bind_bnd, ↓sr_srd, ↓seq_sqd, bnd_ok, srd_ok, sqd_nx, sqd_rt, nRet_ev, mFz_ev, mVar_ev, List.getElem?_cons_succ, List.getElem?_cons_zero, rdS_some, bind_ok, fz, sr_ok]
  have ev : m_law_play [some (.cel j), some (.dct (toD ps)), none, none, none] C = .rt (.lst (xs.map .str)) ((C.set j (Cell.own d2.tv) ++ [Cell.own (.lst (xs.map .str))]).set C.length (.frz (.lst (xs.map .str)))) := by
    unfold m_law_play
    rw [nSeq_ev, n1, seq_nx, nSeq_ev, e2, seq_nx, n3]
  unfold F_law_play ofM
  rw [s0, ev, tn_set]
  exact gcT_set pl_strs (Dr.tv_pl d2)
@[simp] theorem mGet_ev {md mk mx : EM TV} {s : Slots} {C : Tab} : mGet md mk mx s C = (md s C).bind fun d C1 => if isDct (rd C1 d) = true then (mk s C1).bind fun k C2 => (mx s C2).bind fun z C3 => getR d k z C3 else .stuck := rfl
theorem disp_two {C : Tab} {a b c d : Str} (h : a ≠ c) : dispR C.length [.str a, .str b, .str c, .str d] (C ++ [.own (.dct [])]) = .ok (.cel C.length) (C ++ [.own (.dct (toD [(a, b), (c, d)]))]) := by
  have pu : pairUp [.str a, .str b, .str c, .str d] = some (toD [(a, b), (c, d)]) := rfl
  have g : (C ++ [Cell.own (.dct [])])[C.length]? = some (.own (.dct [])) := by simp
  have nd : (([] : List (Str × Str)).map (·.1) ++ [(a, b), (c, d)].map (·.1)).Nodup := by simpa using h
  have mg := merge_toD [(a, b), (c, d)] [] nd
  have mg' : mergeT [] (toD [(a, b), (c, d)]) = toD [(a, b), (c, d)] := mg
  unfold dispR
  rw [pu]
  dsimp only
  rw [if_pos (show (toD [(a, b), (c, d)]).length ≤ 15 from by simp [toD]), g]
  dsimp only
  rw [mg', List.set_append_right _ _ (Nat.le_refl _)]
  simp
theorem get_two {C : Tab} {a b c d k z : Str} (h : a ≠ c) : getR (.dct (toD [(a, b), (c, d)])) (.str k) (.str z) C = .ok (.str (if k = a then b else if k = c then d else z)) C := by
  unfold getR
  rw [rd_dct]
  dsimp only [keyOf]
  by_cases h1 : k = a
  · subst h1
    simp [lookT, toD]
  · by_cases h2 : k = c
    · subst h2
      rw [if_neg h1, if_pos rfl]
      simp [lookT, toD, h]
    · rw [if_neg h1, if_neg h2]
      simp [lookT, toD, Ne.symm h1, Ne.symm h2]
theorem bd_sps {ps : List (Str × Str)} (nd : (ps.map (·.1)).Nodup) : bd (sps ps) = bd ps := by unfold bd; rw [sps_sps nd]
theorem Lab.perm {ps qs : List (Str × Str)} (L : Lab ps) (h : qs.Perm ps) : Lab qs :=
  ⟨(h.map (·.1)).nodup_iff.mpr L.nd, fun p hp => (h.map (·.1)).mem_iff.mpr (L.cl p (h.mem_iff.mp hp)), fun p hp => L.nm p (h.mem_iff.mp hp), by rw [h.length_eq]; exact L.le⟩
/-- board >> x, x can move -/
theorem sp_shr {C : Tab} {ps : List (Str × Str)} {x : Str} (L : Lab ps) (h0 : ps ≠ []) (hx : x ∈ mv ps) : F_Board__rshift [bd ps, .str x] C = .ok (bd (aft ps x)) C := by
  have hle := L.le
  obtain ⟨hk, hm⟩ := mem_mv.mp hx
  obtain ⟨h1, h2⟩ := mvb_iff.mp hm
  have l1 := vl_sps L.nd hk
  have l2 := vl_sps L.nd (vl_key L hk)
  have La := L.aft hk
  have s0 : st0 5 [bd ps, .str x] = [some (bd ps), some (.str x), none, none, none] := rfl
  -- the tables on the way
  let C1 : Tab := C
  have inn : inT true (.str x) (.lst ((mv ps).map .str)) C1 = .ok (.bl false) C1 := by
    rw [inT_lst (xs := mv ps) rd_lst]
    simp [hx]
  let C2 : Tab := C1 ++ [.frz (.dct (toD [(x, vl ps (vl ps x)), (vl ps x, vl ps x)]))]
  have ds : (mFz (mDisp (mCons (mVar 1) (mCons (mOp ixT (mFld "Board" "homes" (mVar 0)) (mVar 2)) (mCons (mVar 2) (mCons (mVar 2) mNil)))))) [some (bd ps), some (.str x), some (.str (vl ps x)), none, none] C1 = .ok (.dct (toD [(x, vl ps (vl ps x)), (vl ps x, vl ps x)])) C2 := by
    have g : (C1 ++ [Cell.own (.dct (toD [(x, vl ps (vl ps x)), (vl ps x, vl ps x)]))])[C1.length]? = some (.own (.dct (toD [(x, vl ps (vl ps x)), (vl ps x, vl ps x)]))) := by simp
    have fz := fzv_own g
    have st : (C1 ++ [Cell.own (.dct (toD [(x, vl ps (vl ps x)), (vl ps x, vl ps x)]))]).set C1.length (.frz (.dct (toD [(x, vl ps (vl ps x)), (vl ps x, vl ps x)]))) = C2 := by rw [List.set_append_right _ _ (Nat.le_refl _)]; simp [C2]
    rw [mFz_ev, mDisp_ev]
    simp only [↓bind_bnd, bnd_ok, mCons_ev, mVar_ev, mNil_ev, mOp_ev, mFld_ev, List.getElem?_cons_zero, List.getElem?_cons_succ, rdS_some, fld_bd, ixT_ev, rd_dct, ixR_dcts, l2, okO_some, disp_two (Ne.symm h1), fz, st]
  have w : wipeS [some (bd ps), some (.str x), some (.str (vl ps x)), some (.dct (toD [(x, vl ps (vl ps x)), (vl ps x, vl ps x)])), none] [4] = [some (bd ps), some (.str x), some (.str (vl ps x)), some (.dct (toD [(x, vl ps (vl ps x)), (vl ps x, vl ps x)])), none] := rfl
  have e3 := dc_map (C := C2) (C0 := C2) (s0 := [some (bd ps), some (.str x), some (.str (vl ps x)), some (.dct (toD [(x, vl ps (vl ps x)), (vl ps x, vl ps x)])), none]) (i := 4) (me := (mGet (mVar 3) (mVar 4) (mOp ixT (mFld "Board" "homes" (mVar 0)) (mVar 4)))) (f := vl (aft ps x)) (by simp) ((sps ps).map (·.1)) [] (fun a ha => by
    have ha' := sps_in.mp ha
    have lk := vl_sps L.nd ha'
    simp only [↓bind_bnd, bnd_ok, mGet_ev, mOp_ev, mFld_ev, mVar_ev, List.set_cons_succ, List.set_cons_zero, List.getElem?_cons_zero, List.getElem?_cons_succ, rdS_some, rd_dct, isDct, if_true, fld_bd, ixT_ev, ixR_dcts, lk, okO_some, get_two (Ne.symm h1), aft_vl L ha']) (by simpa using sps_nd L.nd) (by rw [List.length_map, sps_len, sizeLine_eq]; simp; omega)
  have em : ([] : List (Str × Str)) ++ (((sps ps).map (·.1)).map fun k => (k, vl (aft ps x) k)) = sps (aft ps x) := by
    rw [List.nil_append, sps_keys]
    unfold sps
    rw [aft_keys]
  rw [em] at e3
  have e3' : dcL (gtN 4) mYes (mVar 4) (mGet (mVar 3) (mVar 4) (mOp ixT (mFld "Board" "homes" (mVar 0)) (mVar 4))) none C2 [some (bd ps), some (.str x), some (.str (vl ps x)), some (.dct (toD [(x, vl ps (vl ps x)), (vl ps x, vl ps x)])), none] (((sps ps).map (·.1)).map .str) [] C2 = .ok (toD (sps (aft ps x))) C2 := e3
  have Ls := La.perm (sps_p La.nd)
  have ns : sps (aft ps x) ≠ [] := fun z => h0 (by
    have e := sps_len (ps := aft ps x)
    rw [z, aft_len] at e
    exact List.length_eq_zero_iff.mp e.symm)
  have mk := make_bd (s := [some (bd ps), some (.str x), some (.str (vl ps x)), some (.dct (toD [(x, vl ps (vl ps x)), (vl ps x, vl ps x)])), none]) (D := C2) (ma := (mCons (mDc false (mSeq (mFld "Board" "homes" (mVar 0))) (gtN 4) mYes (mVar 4) (mGet (mVar 3) (mVar 4) (mOp ixT (mFld "Board" "homes" (mVar 0)) (mVar 4))) [4]) mNil)) Ls ns (by
    simp only [↓bind_bnd, bnd_ok, mCons_ev, mNil_ev, mDc_ev, mSeq_ev, mFld_ev, mVar_ev, List.getElem?_cons_zero, List.getElem?_cons_succ, rdS_some, fld_bd, seqOf_dctV, keys_toD, w, e3', nox_ok, alc_fz, unlk_ok0])
  rw [bd_sps La.nd] at mk
  have c1 : (nIf (mOr (mNot (mB (mB1 bIsi (mCons (mVar 1) (mCons (mC (.con (.ty "str"))) mNil))))) (mB (mOp (inT true) (mVar 1) (mMeth "Board" "movable" F_Board_movable [] (mVar 0) mNil)))) nStk nNil) [some (bd ps), some (.str x), none, none, none] C = .nx [some (bd ps), some (.str x), none, none, none] C1 := by
    simp only [↓bind_bnd, ↓sr_srd, ↓seq_sqd, bnd_ok, srd_ok, sqd_nx, sqd_rt, nIf_ev, mOr_ev, mNot_ev, mB_ev, mB1_ev, mOp_ev, mCons_ev, mC_ev, mNil_ev, mMeth_ev, mVar_ev, List.getElem?_cons_zero, List.getElem?_cons_succ, rdS_some, bIsi_str, blOf_bl, Bool.not_true, Bool.false_eq_true, if_false, meth_bd (m := "movable") (by decide), if_true, List.append_nil, sp_bmov L, nNil_ev]
    rw [inn]
    simp only [↓bind_bnd, bnd_ok, blOf_bl, ↓sr_srd, srd_ok, Bool.false_eq_true, if_false]
    rfl
  have ev : m_Board__rshift [some (bd ps), some (.str x), none, none, none] C = .rt (bd (aft ps x)) (C2 ++ [.frz (bd (aft ps x))]) := by
    unfold m_Board__rshift
    rw [nSeq_ev, c1, seq_nx]
    simp only [↓bind_bnd, ↓sr_srd, ↓seq_sqd, bnd_ok, srd_ok, sqd_nx, sqd_rt, nSeq_ev, nSet_ev, nRet_ev, mOp_ev, mFld_ev, mVar_ev, List.set_cons_succ, List.set_cons_zero, List.getElem?_cons_zero, List.getElem?_cons_succ, rdS_some, fld_bd, ixT_ev, rd_dct, ixR_dcts, l1, okO_some, ds, mk]
  unfold F_Board__rshift ofM
  rw [s0, ev]
  show gcT C (bd (aft ps x)) (C2 ++ [.frz (bd (aft ps x))]) = _
  have e : C2 ++ [Cell.frz (bd (aft ps x))] = C ++ ([.frz (.dct (toD [(x, vl ps (vl ps x)), (vl ps x, vl ps x)]))] ++ [.frz (bd (aft ps x))]) := by simp [C2, C1]
  rw [e]
  exact gcT_id (bd_pl _)
end FH
/-! SgQ: which item lies where, in plain words; dicts over a list of keys. -/
namespace FH
open PySem L2
open PySem.Spec PyProof.Rows
def mpK (ks : List Str) (g : Str → Str) : List (Str × Str) := ks.map fun a => (a, g a)
section
variable {ps cur ks : List _} {g : Str → Str} {x p : Str}
theorem mpK_keys {ks : List Str} : (mpK ks g).map (·.1) = ks := by unfold mpK; rw [List.map_map]; exact List.map_id _
theorem mpK_len {ks : List Str} : (mpK ks g).length = ks.length := by unfold mpK; rw [List.length_map]
theorem mpK_vl {ks : List Str} (nd : ks.Nodup) {a : Str} (h : a ∈ ks) : vl (mpK ks g) a = g a :=
  vl_mem (p := (a, g a)) (by rw [mpK_keys]; exact nd) (List.mem_map.mpr ⟨a, h, rfl⟩)
theorem putT_mp {ks : List Str} (h : x ∈ ks) : putT (toD (mpK ks g)) (.inr x) (.str p) = toD (mpK ks (upd1 g x p)) := by
  have e : ((toD (mpK ks g)).any fun kv => decide (kv.1 = Sum.inr x)) = true :=
    List.any_eq_true.mpr ⟨(.inr x, .str (g x)), List.mem_map.mpr ⟨(x, g x), List.mem_map.mpr ⟨x, h, rfl⟩, rfl⟩, by simp⟩
  unfold putT
  rw [if_pos e]
  unfold toD mpK
  rw [List.map_map, List.map_map, List.map_map]
  refine List.map_congr_left fun a _ => ?_
  show (if (Sum.inr a : Key) = Sum.inr x then ((Sum.inr a : Key), TV.str p) else (Sum.inr a, TV.str (g a))) = (Sum.inr a, TV.str (upd1 g x p a))
  unfold upd1
  by_cases c : a = x
  · rw [if_pos (by rw [c]), if_pos c]
  · rw [if_neg (fun z => c (Sum.inr.inj z)), if_neg c]
theorem put_mp {C : Tab} {ks : List Str} (h : x ∈ ks) (hl : ks.length ≤ 60) : setSub (.cel C.length) (.str x) (.str p) (C ++ [.own (.dct (toD (mpK ks g)))]) = some (C ++ [.own (.dct (toD (mpK ks (upd1 g x p))))]) := by
  have ql : (toD (mpK ks g)).length < sizeLine := by rw [sizeLine_eq, len_toD, mpK_len]; omega
  rw [setSub_ev, get_last, setR_dcts ql, set_last, putT_mp h]
theorem ix_mp {C : Tab} {ks : List Str} (nd : ks.Nodup) (h : x ∈ ks) : ixT (.cel C.length) (.str x) (C ++ [.own (.dct (toD (mpK ks g)))]) = .ok (.str (g x)) (C ++ [.own (.dct (toD (mpK ks g)))]) := by
  have := (DT.last (C := C) (cs := mpK ks g)).ix (by rw [mpK_keys]; exact nd) (a := x) (by rw [mpK_keys]; exact h)
  rwa [mpK_vl nd h] at this
end
/-- the items behind a move of the box b: b's item and the item at its home change places -/
def swp (ps : List (Str × Str)) (g : Str → Str) (b : Str) : Str → Str := upd1 (upd1 g b (g (vl ps (g b)))) (vl ps (g b)) (g b)
def itm (ps : List (Str × Str)) (ms : List Str) : Str → Str := ms.foldl (swp ps) id
def run (ps : List (Str × Str)) (ms : List Str) : List (Str × Str) := ms.foldl aft ps
/-- the labels are the items' labels -/
structure Itm (ps cur : List (Str × Str)) (g : Str → Str) : Prop where
  ks : cur.map (·.1) = ps.map (·.1)
  cl : ∀ a ∈ ps.map (·.1), g a ∈ ps.map (·.1)
  lb : ∀ a ∈ ps.map (·.1), vl cur a = vl ps (g a)
theorem Itm.start (ps : List (Str × Str)) : Itm ps ps id := ⟨rfl, fun _ h => h, fun _ _ => rfl⟩
theorem swp_cl {ps : List (Str × Str)} (L : Lab ps) {g : Str → Str} {x : Str} (hx : x ∈ ps.map (·.1)) (cl : ∀ a ∈ ps.map (·.1), g a ∈ ps.map (·.1)) : ∀ a ∈ ps.map (·.1), swp ps g x a ∈ ps.map (·.1) := fun a ha => by
  unfold swp upd1
  split
  · exact cl x hx
  · split
    · exact cl _ (vl_key L (cl x hx))
    · exact cl a ha
theorem Itm.step {ps cur : List (Str × Str)} {g : Str → Str} {x : Str} (L : Lab ps) (Lc : Lab cur) (h : Itm ps cur g) (hx : x ∈ mv cur) : Itm ps (aft cur x) (swp ps g x) := by
  obtain ⟨hk, hm⟩ := mem_mv.mp hx
  obtain ⟨m1, m2⟩ := mvb_iff.mp hm
  have hk' : x ∈ ps.map (·.1) := h.ks ▸ hk
  refine ⟨by rw [aft_keys]; exact h.ks, swp_cl L hk' h.cl, fun a ha => ?_⟩
  have ha' : a ∈ cur.map (·.1) := h.ks ▸ ha
  have e := h.lb x hk'
  have hv : vl cur x ∈ ps.map (·.1) := h.ks ▸ vl_key Lc hk
  rw [aft_vl Lc ha']
  unfold swp upd1
  rw [← e]
  by_cases c1 : a = x
  · have n : ¬ a = vl cur x := fun z => m1 (by rw [← z, c1])
    rw [if_pos c1, if_neg n, if_pos c1, h.lb _ hv]
  · rw [if_neg c1]
    by_cases c2 : a = vl cur x
    · rw [if_pos c2, if_pos c2, e]
    · rw [if_neg c2, if_neg c2, if_neg c1]
      exact h.lb a ha
/-- moves, each of which can be made -/
inductive Mvs : List (Str × Str) → List Str → Prop
  | nil {ps : List (Str × Str)} : Mvs ps []
  | cons {ps : List (Str × Str)} {x : Str} {xs : List Str} (h : x ∈ mv ps) (r : Mvs (aft ps x) xs) : Mvs ps (x :: xs)
theorem Pl.mvs {ps : List (Str × Str)} {xs : List Str} (h : Pl ps xs) : Mvs ps xs := by
  induction h with
  | nil _ => exact .nil
  | cons h _ ih => exact .cons h ih
theorem Mvs.left : ∀ {ps : List (Str × Str)} {xs ys : List Str}, Mvs ps (xs ++ ys) → Mvs ps xs
  | _, [], _, _ => .nil
  | _, x :: xs, _, h => by
    cases h with
    | cons h r => exact .cons h r.left
theorem Mvs.last : ∀ {ps : List (Str × Str)} {xs : List Str} {y : Str}, Mvs ps (xs ++ [y]) → y ∈ mv (run ps xs)
  | _, [], _, h => by cases h with | cons h _ => exact h
  | _, x :: xs, _, h => by
    cases h with
    | cons h r => exact r.last
theorem Mvs.lab : ∀ {ps : List (Str × Str)} {xs : List Str}, Mvs ps xs → Lab ps → ps ≠ [] → Lab (run ps xs) ∧ run ps xs ≠ [] ∧ (run ps xs).map (·.1) = ps.map (·.1)
  | _, [], _, L, h0 => ⟨L, h0, rfl⟩
  | ps, x :: xs, h, L, h0 => by
    cases h with
    | cons h r =>
      obtain ⟨a, b, c⟩ := r.lab (L.aft (mem_mv.mp h).1) (aft_ne h0)
      exact ⟨a, b, c.trans aft_keys⟩
theorem run_snoc (ps : List (Str × Str)) (xs : List Str) (y : Str) : run ps (xs ++ [y]) = aft (run ps xs) y := by unfold run; rw [List.foldl_append]; rfl
theorem itm_snoc (ps : List (Str × Str)) (xs : List Str) (y : Str) : itm ps (xs ++ [y]) = swp ps (itm ps xs) y := by unfold itm; rw [List.foldl_append]; rfl
theorem Mvs.itm {ps : List (Str × Str)} (L : Lab ps) (h0 : ps ≠ []) : ∀ (n : Nat) (xs : List Str), xs.length = n → Mvs ps xs → Itm ps (run ps xs) (itm ps xs) := by
  intro n
  induction n with
  | zero =>
    intro xs hl _
    have : xs = [] := List.length_eq_zero_iff.mp hl
    subst this
    exact .start ps
  | succ n ih =>
    intro xs hl h
    have hne : xs ≠ [] := fun z => by rw [z] at hl; cases hl
    obtain ⟨zs, e⟩ := lst_app hne
    rw [e] at h ⊢
    have hz : zs.length = n := by have := congrArg List.length e; rw [List.length_append] at this; simp at this; omega
    rw [run_snoc, itm_snoc]
    exact (ih zs hz h.left).step L (h.left.lab L h0).1 h.last
theorem Mvs.len : ∀ {ps : List (Str × Str)} {xs : List Str}, Mvs ps xs → Lab ps → xs.length ≤ nfx ps
  | _, [], _, _ => Nat.zero_le _
  | ps, x :: xs, h, L => by
    cases h with
    | cons h r =>
      have := r.len (L.aft (mem_mv.mp h).1)
      have := nfx_lt L h
      simp only [List.length_cons]
      omega
end FH
/-! SbQ: the class Play: moves, moves taken back, contents, winners. -/
namespace FH
open PySem L2
open TL (tl split_join)
open PySem.Spec PyProof.Rows
def plo (ps cur : List (Str × Str)) (ms : List Str) : TV := .obj "Play" [("start", bd ps), ("here", bd cur), ("made", .tup (ms.map .str))]
theorem plo_pl (ps cur : List (Str × Str)) (ms : List Str) : (plo ps cur ms).pl = true := by
  have a : TV.low 0 (bd ps) = true := bd_pl ps
  have b : TV.low 0 (bd cur) = true := bd_pl cur
  have c : TV.low 0 (.tup (ms.map .str)) = true := pl_strs (xs := ms)
  show (TV.low 0 (bd ps) && (TV.low 0 (bd cur) && (TV.low 0 (.tup (ms.map .str)) && true))) = true
  rw [a, b, c]; rfl
theorem ne1 : (("here" : Str) == "start") = false := by decide +kernel
theorem ne2 : (("made" : Str) == "start") = false := by decide +kernel
theorem ne3 : (("made" : Str) == "here") = false := by decide +kernel
theorem ne4 : ¬ ("start" : Str) = "here" := by decide +kernel
theorem ne5 : ¬ ("start" : Str) = "made" := by decide +kernel
theorem ne6 : ¬ ("here" : Str) = "made" := by decide +kernel
section
variable {C : Tab} {j : Nat} {ps cur : List (Str × Str)} {ms : List Str} {x : Str}
theorem rd_pl (h : C[j]? = some (.own (plo ps cur ms))) : rd C (.cel j) = plo ps cur ms := by rw [rd_cel, h]; rfl
theorem pf_start (h : C[j]? = some (.own (plo ps cur ms))) : fldR "Play" "start" (.cel j) C = .ok (bd ps) C := by
  unfold fldR
  rw [rd_pl h]
  unfold plo
  dsimp only
  rw [if_pos rfl]
  have e : List.lookup ("start" : Str) [(("start" : Str), bd ps), ("here", bd cur), ("made", .tup (ms.map .str))] = some (bd ps) := by simp [List.lookup]
  rw [e]
theorem pf_here (h : C[j]? = some (.own (plo ps cur ms))) : fldR "Play" "here" (.cel j) C = .ok (bd cur) C := by
  unfold fldR
  rw [rd_pl h]
  unfold plo
  dsimp only
  rw [if_pos rfl]
  have e : List.lookup ("here" : Str) [(("start" : Str), bd ps), ("here", bd cur), ("made", .tup (ms.map .str))] = some (bd cur) := by simp [List.lookup, ne1]
  rw [e]
theorem pf_made (h : C[j]? = some (.own (plo ps cur ms))) : fldR "Play" "made" (.cel j) C = .ok (.tup (ms.map .str)) C := by
  unfold fldR
  rw [rd_pl h]
  unfold plo
  dsimp only
  rw [if_pos rfl]
  have e : List.lookup ("made" : Str) [(("start" : Str), bd ps), ("here", bd cur), ("made", .tup (ms.map .str))] = some (.tup (ms.map .str)) := by simp [List.lookup, ne2, ne3]
  rw [e]
theorem meth_pl (h : C[j]? = some (.own (plo ps cur ms))) {m : Str} (h1 : ("start" : Str) ≠ m) (h2 : ("here" : Str) ≠ m) (h3 : ("made" : Str) ≠ m) : methR "Play" m (.cel j) C = true := by
  unfold methR
  rw [rd_pl h]
  unfold plo
  dsimp only
  have e1 : (m == ("start" : Str)) = false := by simpa using fun z => h1 z.symm
  have e2 : (m == ("here" : Str)) = false := by simpa using fun z => h2 z.symm
  have e3 : (m == ("made" : Str)) = false := by simpa using fun z => h3 z.symm
  simp [List.lookup, e1, e2, e3]
theorem put_here (h : C[j]? = some (.own (plo ps cur ms))) (qs : List (Str × Str)) : putFld "Play" "here" (.cel j) (bd qs) C = some (C.set j (.own (plo ps qs ms))) := by
  unfold putFld
  dsimp only
  rw [h]
  unfold stF plo
  dsimp only
  rw [if_pos ⟨rfl, by simp⟩]
  simp [putFT, ne4, ne5, ne6]
theorem put_made (h : C[j]? = some (.own (plo ps cur ms))) (ns : List Str) : putFld "Play" "made" (.cel j) (.tup (ns.map .str)) C = some (C.set j (.own (plo ps cur ns))) := by
  unfold putFld
  dsimp only
  rw [h]
  unfold stF plo
  dsimp only
  rw [if_pos ⟨rfl, by simp⟩]
  simp [putFT, ne4, ne5, ne6]
theorem shB_bd {D : Tab} {qs : List (Str × Str)} (L : Lab qs) (h0 : qs ≠ []) (hx : x ∈ mv qs) : shB "Board" F_Board__rshift (bd qs) (.str x) D = .ok (bd (aft qs x)) D := by
  unfold shB
  rw [rd_bd]
  show (if ("Board" : Str) = "Board" then (match tyName (rd D (.str x)) with
    | some _ => (F_Board__rshift [bd qs, .str x] D).bind refR
    | none => .stuck) else .stuck) = _
  rw [if_pos rfl, rd_str]
  show (F_Board__rshift [bd qs, .str x] D).bind refR = _
  rw [sp_shr L h0 hx]; rfl
theorem sp_pboard (h : C[j]? = some (.own (plo ps cur ms))) : F_Play_board [.cel j] C = .ok (bd cur) C := by
  have s0 : st0 1 [TV.cel j] = [some (.cel j)] := rfl
  have ev : m_Play_board [some (.cel j)] C = .rt (bd cur) C := by
    unfold m_Play_board
    simp only [↓bind_bnd, ↓sr_srd, ↓seq_sqd, bnd_ok, srd_ok, sqd_nx, sqd_rt, nSeq_ev, nSet_ev, nIf_ev, nRet_ev, nNil_ev, nExpr_ev, nPar_ev, nFor_ev, nFld_ev, mVar_ev, mC_ev, mCons_ev, mNil_ev, mCall_ev, mOp_ev, mB_ev, mB1_ev, mNot_ev, mAnd_ev, mOr_ev, mAndV_ev, mChain_ev, mMeth_ev, mFld_ev, mLst_ev, mLc_ev, mDc_ev, mSeq_ev, mBM_ev, mIsC_ev, mFz_ev, List.getElem?_cons_zero, List.getElem?_cons_succ, rdS_some, List.set_cons_succ, List.set_cons_zero, blOf_bl, Bool.not_true, Bool.not_false, Bool.false_eq_true, if_true, if_false, List.append_nil, nox_ok, alc_fz, unlk_ok0, pf_here h]
  unfold F_Play_board ofM
  rw [s0, ev]
  exact gc_same (bd_pl cur)
theorem sp_move (h : C[j]? = some (.own (plo ps cur ms))) (L : Lab cur) (h0 : cur ≠ []) (hx : x ∈ mv cur) (hl : ms.length ≤ 1000) : F_Play_move [.cel j, .str x] C = .ok .non (C.set j (.own (plo ps (aft cur x) (ms ++ [x])))) := by
  have s0 : st0 2 [TV.cel j, .str x] = [some (.cel j), some (.str x)] := rfl
  have hk := (mem_mv.mp hx).1
  have i1 := inB_bd (C := C) L (a := x) (neg := true)
  simp only [hk, decide_true, if_true, Bool.not_true] at i1
  have m1 : F_Board_movable [bd cur] C = .ok (.lst ((mv cur).map .str)) C := sp_bmov L
  have i2 : inT true (.str x) (.lst ((mv cur).map .str)) C = .ok (.bl false) C := by rw [inL]; simp [hx]
  have h1 : (C.set j (.own (plo ps (aft cur x) ms)))[j]? = some (.own (plo ps (aft cur x) ms)) := List.getElem?_set_self (get_lt h)
  have tp : tupV [.str x] (C.set j (.own (plo ps (aft cur x) ms))) = .ok (.tup ([x].map .str)) (C.set j (.own (plo ps (aft cur x) ms))) := tupV_ok (by rw [sizeLine_eq]; simp)
  have ct : catT (.tup (ms.map .str)) (.tup ([x].map .str)) (C.set j (.own (plo ps (aft cur x) ms))) = .ok (.tup ((ms ++ [x]).map .str)) (C.set j (.own (plo ps (aft cur x) ms))) := by
    unfold catT
    dsimp only
    rw [if_pos (by rw [List.length_map, sizeLine_eq]; simp; omega), List.map_append]
  have ev : m_Play_move [some (.cel j), some (.str x)] C = .nx [some (.cel j), some (.str x)] (C.set j (.own (plo ps (aft cur x) (ms ++ [x])))) := by
    have p2 := put_made h1 (ms ++ [x])
    rw [List.set_set] at p2
    unfold m_Play_move
    simp only [↓bind_bnd, ↓sr_srd, ↓seq_sqd, bnd_ok, srd_ok, sqd_nx, sqd_rt, nSeq_ev, nSet_ev, nIf_ev, nRet_ev, nNil_ev, nExpr_ev, nPar_ev, nFor_ev, nFld_ev, mVar_ev, mC_ev, mCons_ev, mNil_ev, mCall_ev, mOp_ev, mB_ev, mB1_ev, mNot_ev, mAnd_ev, mOr_ev, mAndV_ev, mChain_ev, mMeth_ev, mFld_ev, mLst_ev, mLc_ev, mDc_ev, mSeq_ev, mBM_ev, mIsC_ev, mFz_ev, List.getElem?_cons_zero, List.getElem?_cons_succ, rdS_some, List.set_cons_succ, List.set_cons_zero, blOf_bl, Bool.not_true, Bool.not_false, Bool.false_eq_true, if_true, if_false, List.append_nil, nox_ok, alc_fz, unlk_ok0, pf_here h, i1, meth_bd (m := "movable") (by decide), m1, i2, shB_bd L h0 hx, nFld_ev, put_here h, putC_some, pf_made h1, mTup_ev, tp, ct, p2]
  unfold F_Play_move ofM
  rw [s0, ev]
  have q := gcT_set (C := C) (G := []) (t := .non) (j := j) rfl (plo_pl ps (aft cur x) (ms ++ [x]))
  rw [List.append_nil] at q
  exact q
/-- the moves made again from the start -/
theorem again {C0 : Tab} {n : TV} : ∀ (rest zs : List Str) (a2 : Option TV) (C : Tab), C[j]? = some (.own (plo ps (run ps zs) ms)) → Mvs ps (zs ++ rest) → Lab ps → ps ≠ [] →
    ∃ b2, loop (gtN 2) (nFld "Play" "here" (mOp (shB "Board" F_Board__rshift) (mFld "Play" "here" (mVar 0)) (mVar 2)) (mVar 0)) none C0 (rest.map .str) [some (.cel j), some n, a2] C = .nx [some (.cel j), some n, b2] (C.set j (.own (plo ps (run ps (zs ++ rest)) ms)))
  | [], zs, a2, C, h, _, _, _ => ⟨a2, by rw [List.append_nil, set_id h]; rfl⟩
  | x :: rest, zs, a2, C, h, hm, L, h0 => by
    have e : zs ++ x :: rest = (zs ++ [x]) ++ rest := by simp
    rw [e] at hm ⊢
    have hz := hm.left
    have lz := hz.left.lab L h0
    have hx := hz.last
    have h1 : (C.set j (.own (plo ps (run ps (zs ++ [x])) ms)))[j]? = some (.own (plo ps (run ps (zs ++ [x])) ms)) := List.getElem?_set_self (get_lt h)
    obtain ⟨b2, ih⟩ := again (C0 := C0) (n := n) rest (zs ++ [x]) (some (.str x)) _ h1 hm L h0
    refine ⟨b2, ?_⟩
    rw [List.map_cons]
    unfold loop
    rw [gtN_ev]
    dsimp only
    have b : (nFld "Play" "here" (mOp (shB "Board" F_Board__rshift) (mFld "Play" "here" (mVar 0)) (mVar 2)) (mVar 0)) ([some (.cel j), some n, a2].set 2 (some (.str x))) C = .nx [some (.cel j), some n, some (.str x)] (C.set j (.own (plo ps (run ps (zs ++ [x])) ms))) := by
      rw [run_snoc]
      simp only [↓bind_bnd, ↓sr_srd, ↓seq_sqd, bnd_ok, srd_ok, sqd_nx, sqd_rt, nSeq_ev, nSet_ev, nIf_ev, nRet_ev, nNil_ev, nExpr_ev, nPar_ev, nFor_ev, nFld_ev, mVar_ev, mC_ev, mCons_ev, mNil_ev, mCall_ev, mOp_ev, mB_ev, mB1_ev, mNot_ev, mAnd_ev, mOr_ev, mAndV_ev, mChain_ev, mMeth_ev, mFld_ev, mLst_ev, mLc_ev, mDc_ev, mSeq_ev, mBM_ev, mIsC_ev, mFz_ev, List.getElem?_cons_zero, List.getElem?_cons_succ, rdS_some, List.set_cons_succ, List.set_cons_zero, blOf_bl, Bool.not_true, Bool.not_false, Bool.false_eq_true, if_true, if_false, List.append_nil, nox_ok, alc_fz, unlk_ok0, nFld_ev, pf_here h, shB_bd lz.1 lz.2.1 hx, put_here h, putC_some]
    rw [b]
    dsimp only
    rw [if_pos (show lkOk none C0 _ from True.intro), ih, List.set_set]
theorem cutP_to {α : Type} {xs : List α} {k : Nat} : cutT xs none (some (k : Int)) = xs.take k := by
  unfold cutT
  have e1 : HT.sIx xs.length 0 none = 0 := rfl
  have e2 : HT.sIx xs.length xs.length (some (k : Int)) = min k xs.length := HT.sIx_nat _ _ _
  rw [e1, e2, List.drop_zero, Nat.sub_zero]
  rcases Nat.le_total k xs.length with h | h
  · rw [Nat.min_eq_left h]
  · rw [Nat.min_eq_right h, List.take_of_length_le (Nat.le_refl _), List.take_of_length_le h]
theorem slP_to {xs : List Str} {k : Nat} : sliceA false (.tup (xs.map .str)) none (some (k : Int)) C = .ok (.tup ((xs.take k).map .str)) C := by
  unfold sliceA
  dsimp only
  have e2 : HT.sIx (xs.map TV.str).length (xs.map TV.str).length (some ((k : Nat) : Int)) = min k (xs.map TV.str).length := HT.sIx_nat _ _ _
  split
  · rename_i h
    have h3 : min k (xs.map TV.str).length = (xs.map TV.str).length := e2.symm.trans h.2
    rw [List.take_of_length_le (by rw [List.length_map] at h3; omega)]
  · have e := cutP_to (xs := xs.map TV.str) (k := k)
    rw [List.map_take]
    exact congrArg (fun l => Res.ok (TV.tup l) C) e
theorem gcT_celS {u : TV} (hj : j < C.length) (hu : u.pl = true) : gcT C (.cel j) (C.set j (.own u)) = .ok (.cel j) (C.set j (.own u)) := by
  have kp : Keep C (C.set j (.own u)) := ⟨by simp, fun i c hi h => by
    by_cases e : j = i
    · subst e
      rw [List.getElem?_set_self hj] at h
      cases h
      exact .inr (pl_low hu _)
    · rw [List.getElem?_set_ne e] at h; exact .inl h⟩
  unfold gcT
  rw [if_pos kp]
  dsimp only
  rw [if_pos hj, List.take_of_length_le (by simp)]
@[simp] theorem mSliceA_evP {s : Slots} {own : Bool} {me : EM TV} {lo hi : EM (Option Int)} : mSliceA own me lo hi s C = (me s C).bind fun x C1 => (lo s C1).bind fun l C2 => (hi s C2).bind fun h C3 => sliceA own x l h C3 := rfl
@[simp] theorem mNo_evP {s : Slots} : mNo s C = .ok none C := rfl
@[simp] theorem mSo_evP {s : Slots} {m : EM TV} : mSo m s C = (m s C).bind fun t C1 => match t with
  | .int i => .ok (some i) C1
  | _ => .stuck := rfl
theorem lenP_tup {xs : List Str} : bLen [.tup (xs.map .str)] C = .ok (.int xs.length) C := by
  rw [show bLen [.tup (xs.map TV.str)] C = .ok (.int (xs.map TV.str).length) C from rfl, List.length_map]
theorem sp_isub (h : C[j]? = some (.own (plo ps cur ms))) (hm : Mvs ps ms) (L : Lab ps) (h0 : ps ≠ []) {n : Nat} (hn : n ≤ ms.length) :
    F_Play__isub [.cel j, .int n] C = .ok (.cel j) (C.set j (.own (plo ps (run ps (ms.take (ms.length - n))) (ms.take (ms.length - n))))) := by
  have s0 : st0 3 [TV.cel j, .int n] = [some (.cel j), some (.int n), none] := rfl
  have b1 : bIsi [.int n, .con (.ty "int")] C = .ok (.bl true) C := rfl
  have b2 : bIsi [.int n, .con (.ty "bool")] C = .ok (.bl false) C := rfl
  have c1 : leI (.int 0) (.int n) C = .ok (.bl true) C := by
    show Res.ok (TV.bl (decide ((0 : Int) ≤ (n : Int)))) C = _
    rw [decide_eq_true (by omega)]
  have c2 : leI (.int n) (.int ms.length) C = .ok (.bl true) C := by
    show Res.ok (TV.bl (decide ((n : Int) ≤ (ms.length : Int)))) C = _
    rw [decide_eq_true (by omega)]
  have sb : ∀ D : Tab, subI (.int ms.length) (.int n) D = .ok (.int ((ms.length - n : Nat) : Int)) D := fun D => by
    rw [subI_int]
    congr 2
    omega
  have h1 : (C.set j (.own (plo ps cur (ms.take (ms.length - n)))))[j]? = some (.own (plo ps cur (ms.take (ms.length - n)))) := List.getElem?_set_self (get_lt h)
  have p2 := put_here h1 ps
  rw [List.set_set] at p2
  have h2 : (C.set j (.own (plo ps ps (ms.take (ms.length - n)))))[j]? = some (.own (plo ps ps (ms.take (ms.length - n)))) := List.getElem?_set_self (get_lt h)
  have hm' : Mvs ps (ms.take (ms.length - n)) := Mvs.left (ys := ms.drop (ms.length - n)) (by rw [List.take_append_drop]; exact hm)
  obtain ⟨b3, ag⟩ := again (C0 := C.set j (.own (plo ps ps (ms.take (ms.length - n))))) (n := .int n) (ps := ps) (ms.take (ms.length - n)) [] none _ h2 hm' L h0
  rw [List.set_set, List.nil_append] at ag
  have ev : m_Play__isub [some (.cel j), some (.int n), none] C = .rt (.cel j) (C.set j (.own (plo ps (run ps (ms.take (ms.length - n))) (ms.take (ms.length - n))))) := by
    unfold m_Play__isub
    simp only [↓bind_bnd, ↓sr_srd, ↓seq_sqd, bnd_ok, srd_ok, sqd_nx, sqd_rt, nSeq_ev, nSet_ev, nIf_ev, nRet_ev, nNil_ev, nExpr_ev, nPar_ev, nFor_ev, nFld_ev, mVar_ev, mC_ev, mCons_ev, mNil_ev, mCall_ev, mOp_ev, mB_ev, mB1_ev, mNot_ev, mAnd_ev, mOr_ev, mAndV_ev, mChain_ev, mMeth_ev, mFld_ev, mLst_ev, mLc_ev, mDc_ev, mSeq_ev, mBM_ev, mIsC_ev, mFz_ev, List.getElem?_cons_zero, List.getElem?_cons_succ, rdS_some, List.set_cons_succ, List.set_cons_zero, blOf_bl, Bool.not_true, Bool.not_false, Bool.false_eq_true, if_true, if_false, List.append_nil, nox_ok, alc_fz, unlk_ok0, mOr_ev, b1, b2, c1, mChain_ev, pf_made h, lenP_tup, c2, nFld_ev, mSliceA_evP, mNo_evP, mSo_evP, sb, slP_to, put_made h, putC_some, pf_start h1, p2, pf_made h2, seqOf_tup, ag, srunlk_nx0]
  unfold F_Play__isub ofM
  rw [s0, ev]
  exact gcT_celS (get_lt h) (plo_pl _ _ _)
theorem dc_filt {C0 : Tab} {s0 : Slots} {i : Nat} {tt : EM Bool} {me : EM TV} {f : Str → Bool} {g : Str → Str} (hi : i < s0.length) : ∀ (ks : List Str) (acc : List (Str × Str)), (∀ a ∈ ks, tt (s0.set i (some (.str a))) C = .ok (f a) C) → (∀ a ∈ ks, f a = true → me (s0.set i (some (.str a))) C = .ok (.str (g a)) C) → (acc.map (·.1) ++ ks).Nodup → acc.length + ks.length < sizeLine →
    dcL (gtN i) tt (mVar i) me none C0 s0 (ks.map .str) (toD acc) C = .ok (toD (acc ++ (ks.filter f).map fun k => (k, g k))) C
  | [], acc, _, _, _, _ => by simp [dcL]
  | a :: ks, acc, ht, hm, nd, hl => by
    simp only [List.length_cons] at hl
    have hnew : a ∉ acc.map (·.1) := fun z => (List.nodup_append.mp nd).2.2 _ z _ List.mem_cons_self rfl
    have hlen : (toD acc).length < sizeLine := by simp [toD]; omega
    rw [List.map_cons]
    unfold dcL
    rw [gtN_ev]
    dsimp only
    rw [ht a List.mem_cons_self, bind_ok]
    cases hf : f a with
    | true =>
      rw [if_pos rfl, mVar_ev, List.getElem?_set_self hi, rdS_some, bind_ok, hm a List.mem_cons_self hf, bind_ok]
      simp only [keyOf]
      rw [if_pos ⟨hlen, (True.intro : lkOk none C0 C)⟩, putT_new hnew, dc_filt hi ks _ (fun b hb => ht b (List.mem_cons_of_mem _ hb)) (fun b hb => hm b (List.mem_cons_of_mem _ hb)) (by simpa using nd) (by simp; omega)]
      simp [List.filter_cons, hf]
    | false =>
      rw [if_neg (by decide), if_pos (show lkOk none C0 C from True.intro), dc_filt hi ks _ (fun b hb => ht b (List.mem_cons_of_mem _ hb)) (fun b hb => hm b (List.mem_cons_of_mem _ hb)) ((nd.sublist (List.Sublist.append (List.Sublist.refl _) (List.sublist_cons_self a ks)))) (by omega)]
      simp [List.filter_cons, hf]
end
end FH
/-! SbS: moves added to a play (a frozen list or a tuple of boxes). -/
namespace FH
open PySem L2
open TL (tl split_join)
open PySem.Spec PyProof.Rows
section
variable {C : Tab} {j : Nat} {ps cur : List (Str × Str)} {ms bs : List Str} {x : Str} {t : TV}
@[simp] theorem mEnumB_ev {ma : EM (List TV)} {s : Slots} : mEnumB ma s C = (ma s C).bind enumOfB := rfl
@[simp] theorem mIs2_evP {n1 n2 : String} {m : EM TV} {s : Slots} : mIs2 n1 n2 m s C = (m s C).bind (isR2 n1 n2) := rfl
/-- what += takes -/
structure Bxs (t : TV) (bs : List Str) : Prop where
  en : ∀ D : Tab, enumOfB [t] D = .ok (enumT (bs.map .str), none) D
  is : ∀ D : Tab, isR2 "list" "tuple" t D = .ok (.bl true) D
  tu : ∀ D : Tab, bTuple2 [t] D = .ok (.tup (bs.map .str)) D
theorem Bxs.lst (bs : List Str) : Bxs (.lst (bs.map .str)) bs := ⟨fun D => rfl, fun D => rfl, fun D => rfl⟩
theorem Bxs.tup (bs : List Str) : Bxs (.tup (bs.map .str)) bs := ⟨fun D => rfl, fun D => rfl, fun D => rfl⟩
theorem sp_iadd (h : C[j]? = some (.own (plo ps (run ps ms) ms))) (b : Bxs t bs) (hm : Mvs ps (ms ++ bs)) (L : Lab ps) (h0 : ps ≠ []) (hl : (ms ++ bs).length ≤ 1000) :
    F_Play__iadd [.cel j, t] C = .ok (.cel j) (C.set j (.own (plo ps (run ps (ms ++ bs)) (ms ++ bs)))) := by
  have s0 : st0 5 [TV.cel j, t] = [some (.cel j), some t, none, none, none] := rfl
  obtain ⟨s', C', el, zs, rest, a3, a4, hi, hz, rfl, rfl⟩ := loop_inv (gt := gtT [(gtN 3), (gtN 4)]) (C0 := C) (body := (nSeq (nIf (mOr (mB (mOp (inB true "Board" F_Board__contains) (mVar 4) (mVar 2))) (mB (mOp (inT true) (mVar 4) (mMeth "Board" "movable" F_Board_movable [] (mVar 2) mNil)))) nStk nNil)
  (nSet 2 (mOp (shB "Board" F_Board__rshift) (mVar 2) (mVar 4)))))
    (I := fun ys s C1 => ∃ (zs rest : List Str) (a3 a4 : Option TV), ys = its (fun k x => .tup [.int (k : Nat), .str x]) zs.length rest ∧ zs ++ rest = bs ∧ s = [some (.cel j), some t, some (bd (run ps (ms ++ zs))), a3, a4] ∧ C1 = C)
    (fun y ys s C1 ⟨zs, rest, a3, a4, hi, hz, es, eC⟩ => by
      subst es eC
      cases rest with
      | nil => cases hi
      | cons x rest =>
        obtain ⟨rfl, rfl⟩ := List.cons.inj hi
        have e : ms ++ bs = ((ms ++ zs) ++ [x]) ++ rest := by rw [← hz]; simp
        have hx : Mvs ps ((ms ++ zs) ++ [x]) := Mvs.left (ys := rest) (by rw [← e]; exact hm)
        have lz := hx.left.lab L h0
        have hmv := hx.last
        have hk := (mem_mv.mp hmv).1
        have i1 := inB_bd (C := C1) lz.1 (a := x) (neg := true)
        simp only [hk, decide_true, if_true, Bool.not_true] at i1
        have m1 : F_Board_movable [bd (run ps (ms ++ zs))] C1 = .ok (.lst ((mv (run ps (ms ++ zs))).map .str)) C1 := sp_bmov lz.1
        have i2 : inT true (.str x) (.lst ((mv (run ps (ms ++ zs))).map .str)) C1 = .ok (.bl false) C1 := by rw [inL]; simp [hmv]
        refine ⟨[some (.cel j), some t, some (bd (run ps (ms ++ zs))), some (.int (zs.length : Nat)), some (.str x)], [some (.cel j), some t, some (bd (run ps (ms ++ (zs ++ [x])))), some (.int (zs.length : Nat)), some (.str x)], C1, rfl, ?_, zs ++ [x], rest, some (.int (zs.length : Nat)), some (.str x), by rw [List.length_append]; rfl, by rw [← hz]; simp, rfl, rfl⟩
        rw [← List.append_assoc, run_snoc]
        simp only [↓bind_bnd, ↓sr_srd, ↓seq_sqd, bnd_ok, srd_ok, sqd_nx, sqd_rt, nSeq_ev, nSet_ev, nIf_ev, nRet_ev, nNil_ev, nExpr_ev, nPar_ev, nFor_ev, nFld_ev, mVar_ev, mC_ev, mCons_ev, mNil_ev, mCall_ev, mOp_ev, mB_ev, mB1_ev, mNot_ev, mAnd_ev, mOr_ev, mAndV_ev, mChain_ev, mMeth_ev, mFld_ev, mLst_ev, mLc_ev, mDc_ev, mSeq_ev, mBM_ev, mIsC_ev, mFz_ev, List.getElem?_cons_zero, List.getElem?_cons_succ, rdS_some, List.set_cons_succ, List.set_cons_zero, blOf_bl, Bool.not_true, Bool.not_false, Bool.false_eq_true, if_true, if_false, List.append_nil, nox_ok, alc_fz, unlk_ok0, i1, meth_bd (m := "movable") (by decide), m1, i2, shB_bd lz.1 lz.2.1 hmv])
    (enumT (bs.map .str)) [some (.cel j), some t, some (bd (run ps ms)), none, none] C ⟨[], bs, none, none, enumT_its bs, rfl, by rw [List.append_nil], rfl⟩
  have hr : rest = [] := by cases rest with | nil => rfl | cons a b => cases hi
  subst hr
  rw [List.append_nil] at hz
  subst hz
  have ct : catT (.tup (ms.map .str)) (.tup (zs.map .str)) C' = .ok (.tup ((ms ++ zs).map .str)) C' := by
    unfold catT
    dsimp only
    rw [if_pos (by rw [List.length_map, List.length_map, sizeLine_eq]; rw [List.length_append] at hl; omega), List.map_append]
  have h1 : (C'.set j (.own (plo ps (run ps ms) (ms ++ zs))))[j]? = some (.own (plo ps (run ps ms) (ms ++ zs))) := List.getElem?_set_self (get_lt h)
  have p2 := put_here h1 (run ps (ms ++ zs))
  rw [List.set_set] at p2
  have ev : m_Play__iadd [some (.cel j), some t, none, none, none] C' = .rt (.cel j) (C'.set j (.own (plo ps (run ps (ms ++ zs)) (ms ++ zs)))) := by
    unfold m_Play__iadd
    simp only [↓bind_bnd, ↓sr_srd, ↓seq_sqd, bnd_ok, srd_ok, sqd_nx, sqd_rt, nSeq_ev, nSet_ev, nIf_ev, nRet_ev, nNil_ev, nExpr_ev, nPar_ev, nFor_ev, nFld_ev, mVar_ev, mC_ev, mCons_ev, mNil_ev, mCall_ev, mOp_ev, mB_ev, mB1_ev, mNot_ev, mAnd_ev, mOr_ev, mAndV_ev, mChain_ev, mMeth_ev, mFld_ev, mLst_ev, mLc_ev, mDc_ev, mSeq_ev, mBM_ev, mIsC_ev, mFz_ev, List.getElem?_cons_zero, List.getElem?_cons_succ, rdS_some, List.set_cons_succ, List.set_cons_zero, blOf_bl, Bool.not_true, Bool.not_false, Bool.false_eq_true, if_true, if_false, List.append_nil, nox_ok, alc_fz, unlk_ok0, mIs2_evP, b.is, pf_here h, mEnumB_ev, b.en, el, srunlk_nx0, pf_made h, b.tu, ct, nFld_ev, put_made h, putC_some, p2]
  unfold F_Play__iadd ofM
  rw [s0, ev]
  exact gcT_celS (get_lt h) (plo_pl _ _ _)
/-- the same loop, the boxes an own list -/
theorem adds {lk : Lk} {C0 : Tab} (ok : lkOk lk C0 C) (L : Lab ps) (h0 : ps ≠ []) : ∀ (rest zs : List Str) (a3 a4 : Option TV), Mvs ps (ms ++ (zs ++ rest)) →
    ∃ b3 b4 : Option TV, loop (gtT [(gtN 3), (gtN 4)]) (nSeq (nIf (mOr (mB (mOp (inB true "Board" F_Board__contains) (mVar 4) (mVar 2))) (mB (mOp (inT true) (mVar 4) (mMeth "Board" "movable" F_Board_movable [] (mVar 2) mNil)))) nStk nNil)
  (nSet 2 (mOp (shB "Board" F_Board__rshift) (mVar 2) (mVar 4)))) lk C0 (its (fun k x => .tup [.int (k : Nat), .str x]) zs.length rest) [some (.cel j), some t, some (bd (run ps (ms ++ zs))), a3, a4] C = .nx [some (.cel j), some t, some (bd (run ps (ms ++ (zs ++ rest)))), b3, b4] C
  | [], zs, a3, a4, _ => ⟨a3, a4, by rw [List.append_nil]; rfl⟩
  | x :: rest, zs, a3, a4, hm => by
    have e : zs ++ x :: rest = (zs ++ [x]) ++ rest := by simp
    rw [e] at hm ⊢
    have hx : Mvs ps ((ms ++ zs) ++ [x]) := Mvs.left (ys := rest) (by simpa using hm)
    have lz := hx.left.lab L h0
    have hmv := hx.last
    have hk := (mem_mv.mp hmv).1
    have i1 := inB_bd (C := C) lz.1 (a := x) (neg := true)
    simp only [hk, decide_true, if_true, Bool.not_true] at i1
    have m1 : F_Board_movable [bd (run ps (ms ++ zs))] C = .ok (.lst ((mv (run ps (ms ++ zs))).map .str)) C := sp_bmov lz.1
    have i2 : inT true (.str x) (.lst ((mv (run ps (ms ++ zs))).map .str)) C = .ok (.bl false) C := by rw [inL]; simp [hmv]
    obtain ⟨b3, b4, ih⟩ := adds ok L h0 rest (zs ++ [x]) (some (.int (zs.length : Nat))) (some (.str x)) hm
    rw [List.length_append, List.length_singleton] at ih
    refine ⟨b3, b4, ?_⟩
    have b : (nSeq (nIf (mOr (mB (mOp (inB true "Board" F_Board__contains) (mVar 4) (mVar 2))) (mB (mOp (inT true) (mVar 4) (mMeth "Board" "movable" F_Board_movable [] (mVar 2) mNil)))) nStk nNil)
        (nSet 2 (mOp (shB "Board" F_Board__rshift) (mVar 2) (mVar 4)))) [some (.cel j), some t, some (bd (run ps (ms ++ zs))), some (.int (zs.length : Nat)), some (.str x)] C = .nx [some (.cel j), some t, some (bd (run ps (ms ++ (zs ++ [x])))), some (.int (zs.length : Nat)), some (.str x)] C := by
      rw [← List.append_assoc, run_snoc]
      simp only [↓bind_bnd, ↓sr_srd, ↓seq_sqd, bnd_ok, srd_ok, sqd_nx, sqd_rt, nSeq_ev, nSet_ev, nIf_ev, nRet_ev, nNil_ev, nExpr_ev, nPar_ev, nFor_ev, nFld_ev, mVar_ev, mC_ev, mCons_ev, mNil_ev, mCall_ev, mOp_ev, mB_ev, mB1_ev, mNot_ev, mAnd_ev, mOr_ev, mAndV_ev, mChain_ev, mMeth_ev, mFld_ev, mLst_ev, mLc_ev, mDc_ev, mSeq_ev, mBM_ev, mIsC_ev, mFz_ev, List.getElem?_cons_zero, List.getElem?_cons_succ, rdS_some, List.set_cons_succ, List.set_cons_zero, blOf_bl, Bool.not_true, Bool.not_false, Bool.false_eq_true, if_true, if_false, List.append_nil, nox_ok, alc_fz, unlk_ok0, i1, meth_bd (m := "movable") (by decide), m1, i2, shB_bd lz.1 lz.2.1 hmv]
    unfold its loop
    have ge : gtT [(gtN 3), (gtN 4)] (.tup [.int (zs.length : Nat), .str x]) [some (.cel j), some t, some (bd (run ps (ms ++ zs))), a3, a4] = some [some (.cel j), some t, some (bd (run ps (ms ++ zs))), some (.int (zs.length : Nat)), some (.str x)] := rfl
    rw [ge]
    dsimp only
    rw [b]
    dsimp only
    rw [if_pos ok]
    exact ih
/-- += of an own list -/
theorem sp_iaddO {i : Nat} (h : C[j]? = some (.own (plo ps (run ps ms) ms))) (hi : C[i]? = some (.own (.lst (bs.map .str)))) (hij : i ≠ j) (hm : Mvs ps (ms ++ bs)) (L : Lab ps) (h0 : ps ≠ []) (hl : (ms ++ bs).length ≤ 1000) :
    F_Play__iadd [.cel j, .cel i] C = .ok (.cel j) (C.set j (.own (plo ps (run ps (ms ++ bs)) (ms ++ bs)))) := by
  have s0 : st0 5 [TV.cel j, .cel i] = [some (.cel j), some (.cel i), none, none, none] := rfl
  have hli := get_lt hi
  have rdi : rd C (.cel i) = .lst (bs.map .str) := by rw [rd_cel, hi]; rfl
  have is2 : isR2 "list" "tuple" (.cel i) C = .ok (.bl true) C := by
    unfold isR2
    rw [rdi]
    rfl
  have en : enumOfB [.cel i] C = .ok (enumT (bs.map .str), some (i, .own (.lst (bs.map .str)))) (C.set i (.lck (.lst (bs.map .str)))) := by
    show enumOf [.cel i] C = _
    unfold enumOf
    dsimp only
    rw [rdi]
    dsimp only
    unfold seqOf
    dsimp only
    rw [hi]
    rfl
  have h' : (C.set i (.lck (.lst (bs.map .str))))[j]? = some (.own (plo ps (run ps ms) ms)) := by rw [List.getElem?_set_ne hij]; exact h
  obtain ⟨b3, b4, el⟩ := adds (C := C.set i (.lck (.lst (bs.map .str)))) (C0 := C.set i (.lck (.lst (bs.map .str)))) (lk := some (i, .own (.lst (bs.map .str)))) (j := j) (t := .cel i) (ms := ms) (rfl) L h0 bs [] none none hm
  rw [show its (fun k x => TV.tup [.int (k : Nat), .str x]) ([] : List Str).length bs = enumT (bs.map .str) from (enumT_its bs).symm, List.append_nil, List.nil_append] at el
  have ul : (SR.nx [some (.cel j), some (.cel i), some (bd (run ps (ms ++ bs))), b3, b4] (C.set i (.lck (.lst (bs.map .str))))).unlk (some (i, .own (.lst (bs.map .str)))) = .nx [some (.cel j), some (.cel i), some (bd (run ps (ms ++ bs))), b3, b4] C := by
    show SR.nx _ ((C.set i (.lck (.lst (bs.map .str)))).set i (.own (.lst (bs.map .str)))) = _
    rw [List.set_set, set_id hi]
  have tu : bTuple2 [.cel i] C = .ok (.tup (bs.map .str)) C := by
    unfold bTuple2
    dsimp only
    rw [rdi]
    dsimp only
    unfold bTuple
    simp only [rdi]
  have ct : catT (.tup (ms.map .str)) (.tup (bs.map .str)) C = .ok (.tup ((ms ++ bs).map .str)) C := by
    unfold catT
    dsimp only
    rw [if_pos (by rw [List.length_map, List.length_map, sizeLine_eq]; rw [List.length_append] at hl; omega), List.map_append]
  have h1 : (C.set j (.own (plo ps (run ps ms) (ms ++ bs))))[j]? = some (.own (plo ps (run ps ms) (ms ++ bs))) := List.getElem?_set_self (get_lt h)
  have p2 := put_here h1 (run ps (ms ++ bs))
  rw [List.set_set] at p2
  have ev : m_Play__iadd [some (.cel j), some (.cel i), none, none, none] C = .rt (.cel j) (C.set j (.own (plo ps (run ps (ms ++ bs)) (ms ++ bs)))) := by
    unfold m_Play__iadd
    simp only [↓bind_bnd, ↓sr_srd, ↓seq_sqd, bnd_ok, srd_ok, sqd_nx, sqd_rt, nSeq_ev, nSet_ev, nIf_ev, nRet_ev, nNil_ev, nExpr_ev, nPar_ev, nFor_ev, nFld_ev, mVar_ev, mC_ev, mCons_ev, mNil_ev, mCall_ev, mOp_ev, mB_ev, mB1_ev, mNot_ev, mAnd_ev, mOr_ev, mAndV_ev, mChain_ev, mMeth_ev, mFld_ev, mLst_ev, mLc_ev, mDc_ev, mSeq_ev, mBM_ev, mIsC_ev, mFz_ev, List.getElem?_cons_zero, List.getElem?_cons_succ, rdS_some, List.set_cons_succ, List.set_cons_zero, blOf_bl, Bool.not_true, Bool.not_false, Bool.false_eq_true, if_true, if_false, List.append_nil, nox_ok, alc_fz, unlk_ok0, mIs2_evP, is2, pf_here h, mEnumB_ev, en, el, ul, pf_made h, tu, ct, nFld_ev, put_made h, putC_some, p2]
  unfold F_Play__iadd ofM
  rw [s0, ev]
  exact gcT_celS (get_lt h) (plo_pl _ _ _)
theorem sp_moves (h : C[j]? = some (.own (plo ps cur ms))) : F_Play_moves [.cel j] C = .ok (.cel C.length) (C ++ [.own (.lst (ms.map .str))]) := by
  have s0 : st0 1 [TV.cel j] = [some (.cel j)] := rfl
  have bl : bList true [.tup (ms.map .str)] C = .ok (.cel C.length) (C ++ [.own (.lst (ms.map .str))]) := rfl
  unfold F_Play_moves ofM
  rw [s0]
  unfold m_Play_moves
  simp only [↓bind_bnd, ↓sr_srd, ↓seq_sqd, bnd_ok, srd_ok, sqd_nx, sqd_rt, nSeq_ev, nSet_ev, nIf_ev, nRet_ev, nNil_ev, nExpr_ev, nPar_ev, nFor_ev, nFld_ev, mVar_ev, mC_ev, mCons_ev, mNil_ev, mCall_ev, mOp_ev, mB_ev, mB1_ev, mNot_ev, mAnd_ev, mOr_ev, mAndV_ev, mChain_ev, mMeth_ev, mFld_ev, mLst_ev, mLc_ev, mDc_ev, mSeq_ev, mBM_ev, mIsC_ev, mFz_ev, List.getElem?_cons_zero, List.getElem?_cons_succ, rdS_some, List.set_cons_succ, List.set_cons_zero, blOf_bl, Bool.not_true, Bool.not_false, Bool.false_eq_true, if_true, if_false, List.append_nil, nox_ok, alc_fz, unlk_ok0, pf_made h, bl]
  exact gcT_new (pl_strs (xs := ms))
theorem len_pl (h : C[j]? = some (.own (plo ps cur ms))) (hl : ms.length ≤ 1000) : bLenO "Play" F_Play__len [.cel j] C = .ok (.int ms.length) C := by
  have s0 : st0 1 [TV.cel j] = [some (.cel j)] := rfl
  have e : F_Play__len [.cel j] C = .ok (.int ms.length) C := by
    have ev : m_Play__len [some (.cel j)] C = .rt (.int ms.length) C := by
      unfold m_Play__len
      simp only [↓bind_bnd, ↓sr_srd, ↓seq_sqd, bnd_ok, srd_ok, sqd_nx, sqd_rt, nSeq_ev, nSet_ev, nIf_ev, nRet_ev, nNil_ev, nExpr_ev, nPar_ev, nFor_ev, nFld_ev, mVar_ev, mC_ev, mCons_ev, mNil_ev, mCall_ev, mOp_ev, mB_ev, mB1_ev, mNot_ev, mAnd_ev, mOr_ev, mAndV_ev, mChain_ev, mMeth_ev, mFld_ev, mLst_ev, mLc_ev, mDc_ev, mSeq_ev, mBM_ev, mIsC_ev, mFz_ev, List.getElem?_cons_zero, List.getElem?_cons_succ, rdS_some, List.set_cons_succ, List.set_cons_zero, blOf_bl, Bool.not_true, Bool.not_false, Bool.false_eq_true, if_true, if_false, List.append_nil, nox_ok, alc_fz, unlk_ok0, pf_made h, lenP_tup]
    unfold F_Play__len ofM
    rw [s0, ev]
    exact gc_same (t := .int ms.length) rfl
  unfold bLenO
  dsimp only
  rw [rd_pl h]
  show (if ("Play" : Str) = "Play" then _ else _) = _
  rw [if_pos rfl, e]
  dsimp only
  rw [if_pos ⟨by omega, by omega⟩]
theorem sp_lhere (L : Lab ps) : ∀ {ms : List Str}, Mvs ps ms → F_law_here [.dct (toD ps), .lst (ms.map .str)] C = .ok (.dct (toD (run ps ms))) C := by
  intro ms hm
  have s0 : st0 3 [.dct (toD ps), .lst (ms.map .str)] = [some (.dct (toD ps)), some (.lst (ms.map .str)), none] := rfl
  obtain ⟨s', C', el, zs, rest, a2, hx, hz, rfl, rfl⟩ := loop_inv (gt := gtN 2) (C0 := C) (body := (nSet 0 (mCall F_law_after [] (mCons (mVar 0) (mCons (mVar 2) mNil)))))
    (I := fun xs s C1 => ∃ (zs rest : List Str) (a2 : Option TV), xs = rest.map .str ∧ zs ++ rest = ms ∧ s = [some (.dct (toD (run ps zs))), some (.lst (ms.map .str)), a2] ∧ C1 = C)
    (fun x xs s C1 ⟨zs, rest, a2, hx, hz, es, eC⟩ => by
      subst es eC
      cases rest with
      | nil => cases hx
      | cons b rest =>
        rw [List.map_cons] at hx
        obtain ⟨rfl, rfl⟩ := List.cons.inj hx
        have hb : Mvs ps (zs ++ [b]) := Mvs.left (ys := rest) (by rw [show zs ++ [b] ++ rest = ms by rw [← hz]; simp]; exact hm)
        have Lz : Lab (run ps zs) := by
          by_cases e : ps = []
          · subst e
            cases zs with
            | nil => exact L
            | cons z zs => cases hb with | cons h _ => exact absurd (mem_mv.mp h).1 (by simp)
          · exact (hb.left.lab L e).1
        refine ⟨[some (.dct (toD (run ps zs))), some (.lst (ms.map .str)), some (.str b)], [some (.dct (toD (run ps (zs ++ [b])))), some (.lst (ms.map .str)), some (.str b)], C1, rfl, ?_, zs ++ [b], rest, some (.str b), rfl, by rw [← hz]; simp, rfl, rfl⟩
        rw [run_snoc]
        simp only [↓bind_bnd, ↓sr_srd, ↓seq_sqd, bnd_ok, srd_ok, sqd_nx, sqd_rt, nSeq_ev, nSet_ev, nIf_ev, nRet_ev, nNil_ev, nExpr_ev, nPar_ev, nFor_ev, nFld_ev, mVar_ev, mC_ev, mCons_ev, mNil_ev, mCall_ev, mOp_ev, mB_ev, mB1_ev, mNot_ev, mAnd_ev, mOr_ev, mAndV_ev, mChain_ev, mMeth_ev, mFld_ev, mLst_ev, mLc_ev, mDc_ev, mSeq_ev, mBM_ev, mIsC_ev, mFz_ev, List.getElem?_cons_zero, List.getElem?_cons_succ, rdS_some, List.set_cons_succ, List.set_cons_zero, blOf_bl, Bool.not_true, Bool.not_false, Bool.false_eq_true, if_true, if_false, List.append_nil, nox_ok, alc_fz, unlk_ok0, sp_after Lz hb.last])
    (ms.map .str) [some (.dct (toD ps)), some (.lst (ms.map .str)), none] C ⟨[], ms, none, rfl, rfl, rfl, rfl⟩
  have hr : rest = [] := by cases rest with | nil => rfl | cons a b => cases hx
  subst hr
  rw [List.append_nil] at hz
  subst hz
  have ev : m_law_here [some (.dct (toD ps)), some (.lst (zs.map .str)), none] C' = .rt (.dct (toD (run ps zs))) C' := by
    unfold m_law_here
    simp only [↓bind_bnd, ↓sr_srd, ↓seq_sqd, bnd_ok, srd_ok, sqd_nx, sqd_rt, nSeq_ev, nSet_ev, nIf_ev, nRet_ev, nNil_ev, nExpr_ev, nPar_ev, nFor_ev, nFld_ev, mVar_ev, mC_ev, mCons_ev, mNil_ev, mCall_ev, mOp_ev, mB_ev, mB1_ev, mNot_ev, mAnd_ev, mOr_ev, mAndV_ev, mChain_ev, mMeth_ev, mFld_ev, mLst_ev, mLc_ev, mDc_ev, mSeq_ev, mBM_ev, mIsC_ev, mFz_ev, List.getElem?_cons_zero, List.getElem?_cons_succ, rdS_some, List.set_cons_succ, List.set_cons_zero, blOf_bl, Bool.not_true, Bool.not_false, Bool.false_eq_true, if_true, if_false, List.append_nil, nox_ok, alc_fz, unlk_ok0, seqOf_lst, el, srunlk_nx0]
  unfold F_law_here ofM
  rw [s0, ev]
  exact gc_same (t := .dct (toD (run ps zs))) pl_toD
end
end FH
/-! VfA: k08: == of boards, the law's test. -/
namespace FH
open PySem L2
open TL (tl split_join)
open PySem.Spec PyProof.Rows
theorem Mvs.app : ∀ {ps : List (Str × Str)} {xs ys : List Str}, Mvs ps xs → Mvs (run ps xs) ys → Mvs ps (xs ++ ys)
  | _, [], _, _, h => h
  | _, x :: xs, _, h, h' => by
    cases h with
    | cons h r => exact .cons h (r.app h')
theorem run_app (ps : List (Str × Str)) (xs ys : List Str) : run ps (xs ++ ys) = run (run ps xs) ys := by unfold run; rw [List.foldl_append]
theorem Mvs.keysP : ∀ {ps : List (Str × Str)} {xs : List Str}, Mvs ps xs → ∀ y ∈ xs, y ∈ ps.map (·.1)
  | _, [], _, y, h => nomatch h
  | ps, x :: xs, m, y, h => by
    cases m with
    | cons hx r =>
      rcases List.mem_cons.mp h with e | h
      · rw [e]; exact (mem_mv.mp hx).1
      · have := r.keysP y h
        rwa [aft_keys] at this
@[simp] theorem mIsC_evP {s : Slots} {C : Tab} {c : Str} {m : EM TV} : mIsC c m s C = (m s C).bind (isCR c) := rfl
section
variable {C : Tab} {j : Nat} {ps cur : List (Str × Str)} {ms : List Str}
theorem sp_eqP (nd : (ps.map (·.1)).Nodup) : F_Board__eq [bd ps, bd ps] C = .ok (.bl true) C := by
  have s0 : st0 2 [bd ps, bd ps] = [some (bd ps), some (bd ps)] := rfl
  have ev : m_Board__eq [some (bd ps), some (bd ps)] C = .rt (.bl true) C := by
    unfold m_Board__eq
    simp only [↓bind_bnd, ↓sr_srd, ↓seq_sqd, bnd_ok, srd_ok, sqd_nx, sqd_rt, nSeq_ev, nSet_ev, nIf_ev, nRet_ev, nNil_ev, nExpr_ev, nPar_ev, nFor_ev, nFld_ev, mVar_ev, mC_ev, mCons_ev, mNil_ev, mCall_ev, mOp_ev, mB_ev, mB1_ev, mNot_ev, mAnd_ev, mOr_ev, mAndV_ev, mChain_ev, mMeth_ev, mFld_ev, mLst_ev, mLc_ev, mDc_ev, mSeq_ev, mBM_ev, mIsC_ev, mFz_ev, List.getElem?_cons_zero, List.getElem?_cons_succ, rdS_some, List.set_cons_succ, List.set_cons_zero, blOf_bl, Bool.not_true, Bool.not_false, Bool.false_eq_true, if_true, if_false, List.append_nil, nox_ok, alc_fz, unlk_ok0, mIsC_evP, isc_bd, fld_bd, eqI_dct (sps_nd nd) (List.Perm.refl _)]
  unfold F_Board__eq ofM
  rw [s0, ev]
  exact gc_same (t := .bl true) rfl
theorem eqB_bdP (nd : (ps.map (·.1)).Nodup) : eqB "Board" F_Board__eq (bd ps) (bd ps) C = .ok (.bl true) C := by
  unfold eqB
  rw [rd_bd]
  show (if ("Board" : Str) = "Board" then (if ("Board" : Str) = "Board" then (F_Board__eq [bd ps, bd ps] C).bind (boolR false) else .stuck) else .stuck) = _
  rw [if_pos rfl, if_pos rfl, sp_eqP nd]; rfl
theorem neB_bdP (nd : (ps.map (·.1)).Nodup) : cmB true "Board" F_Board__eq neI (bd ps) (bd ps) C = .ok (.bl false) C := by
  unfold cmB
  rw [rd_bd]
  show (if ("Board" : Str) = "Board" then (if ("Board" : Str) = "Board" then (F_Board__eq [bd ps, bd ps] C).bind (boolR true) else .stuck) else .stuck) = _
  rw [if_pos rfl, if_pos rfl, sp_eqP nd]; rfl
theorem prop_plP {s : Slots} (h : C[j]? = some (.own (plo ps cur ms))) : mProp "Play" F_Play_board (mVar 0) (some (.cel j) :: s) C = .ok (bd cur) C := by
  unfold mProp
  rw [mVar_ev, List.getElem?_cons_zero, rdS_some, bind_ok, rd_pl h]
  show (if ("Play" : Str) = "Play" then (F_Play_board [.cel j] C).nox else .stuck) = _
  rw [if_pos rfl, sp_pboard h]; rfl
theorem sp_lis8 (h : C[j]? = some (.own (plo ps (run ps ms) ms))) (hm : Mvs ps ms) (L : Lab ps) (h0 : ps ≠ []) : F_law_is [.cel j, .dct (toD ps), .lst (ms.map .str)] C = .ok (.bl true) C := by
  have hle := L.le
  have nf := hm.len L
  have nl := nfx_le (ps := ps)
  have lz := hm.lab L h0
  have s0 : st0 3 [TV.cel j, .dct (toD ps), .lst (ms.map .str)] = [some (.cel j), some (.dct (toD ps)), some (.lst (ms.map .str))] := rfl
  have rg : ∀ t ∈ ms.map TV.str, Rp 62 t := fun t ht => by obtain ⟨y, hy, rfl⟩ := List.mem_map.mp ht; exact rp_gname (L.gn (hm.keysP y hy))
  have q1 := repr_any (C := C ++ [.own (.lst (ms.map .str))]) (t := .cel C.length) (n := 62) rg (by rw [List.length_map]; omega) rd_new
  have q2 := repr_any (C := C ++ [.own (.lst (ms.map .str))]) (t := .lst (ms.map .str)) (n := 62) rg (by rw [List.length_map]; omega) rd_lst
  have h1 := get_app (G := [Cell.own (.lst (ms.map .str))]) h
  have b1 : bLen [.lst (ms.map .str)] (C ++ [.own (.lst (ms.map .str))]) = .ok (.int ms.length) (C ++ [.own (.lst (ms.map .str))]) := by rw [bLen_lst, List.length_map]
  have mk := make_bd (s := [some (.cel j), some (.dct (toD ps)), some (.lst (ms.map .str))]) (D := C ++ [.own (.lst (ms.map .str))]) (ma := mCons (mVar 1) mNil) L h0 rfl
  have h2 := get_app (G := [Cell.frz (bd ps)]) h1
  have mk2 := make_bd (s := [some (.cel j), some (.dct (toD ps)), some (.lst (ms.map .str))]) (D := C ++ [.own (.lst (ms.map .str))] ++ [.frz (bd ps)]) (ma := mCons (mCall F_law_here [] (mCons (mVar 1) (mCons (mVar 2) mNil))) mNil) lz.1 lz.2.1 (by simp only [↓bind_bnd, ↓sr_srd, ↓seq_sqd, bnd_ok, srd_ok, sqd_nx, sqd_rt, nSeq_ev, nSet_ev, nIf_ev, nRet_ev, nNil_ev, nExpr_ev, nPar_ev, nFor_ev, nFld_ev, mVar_ev, mC_ev, mCons_ev, mNil_ev, mCall_ev, mOp_ev, mB_ev, mB1_ev, mNot_ev, mAnd_ev, mOr_ev, mAndV_ev, mChain_ev, mMeth_ev, mFld_ev, mLst_ev, mLc_ev, mDc_ev, mSeq_ev, mBM_ev, mIsC_ev, mFz_ev, List.getElem?_cons_zero, List.getElem?_cons_succ, rdS_some, List.set_cons_succ, List.set_cons_zero, blOf_bl, Bool.not_true, Bool.not_false, Bool.false_eq_true, if_true, if_false, List.append_nil, nox_ok, alc_fz, unlk_ok0, sp_lhere L hm])
  have ev : m_law_is [some (.cel j), some (.dct (toD ps)), some (.lst (ms.map .str))] C = .rt (.bl true) (C ++ [.own (.lst (ms.map .str))] ++ [.frz (bd ps)] ++ [.frz (bd (run ps ms))]) := by
    unfold m_law_is
    simp only [↓bind_bnd, ↓sr_srd, ↓seq_sqd, bnd_ok, srd_ok, sqd_nx, sqd_rt, nSeq_ev, nSet_ev, nIf_ev, nRet_ev, nNil_ev, nExpr_ev, nPar_ev, nFor_ev, nFld_ev, mVar_ev, mC_ev, mCons_ev, mNil_ev, mCall_ev, mOp_ev, mB_ev, mB1_ev, mNot_ev, mAnd_ev, mOr_ev, mAndV_ev, mChain_ev, mMeth_ev, mFld_ev, mLst_ev, mLc_ev, mDc_ev, mSeq_ev, mBM_ev, mIsC_ev, List.getElem?_cons_zero, List.getElem?_cons_succ, rdS_some, List.set_cons_succ, List.set_cons_zero, blOf_bl, Bool.not_true, Bool.not_false, Bool.false_eq_true, if_true, if_false, List.append_nil, nox_ok, alc_fz, unlk_ok0, meth_pl h (m := "moves") (by decide) (by decide) (by decide), sp_moves h, q1, q2, neI_strs, len_pl h1 (by omega), b1, neI_int, decide_true, pf_start h1, mk, eqB_bdP L.nd, prop_plP h2, mk2, eqB_bdP lz.1.nd]
  unfold F_law_is ofM
  rw [s0, ev, List.append_assoc, List.append_assoc]
  exact gcT_id (t := .bl true) rfl
end
end FH
/-! VfB: k08: the law. -/
namespace FH
open PySem L2
open TL (tl split_join)
open PySem.Spec PyProof.Rows
noncomputable def ob0 : SM := (nPar 10 11 (mCons (mCall F_law_draw [] (mCons (mVar 3) (mCons (mC (.int 5)) mNil))) (mCons (mCall F_law_here [] (mCons (mVar 4) (mCons (mVar 5) mNil))) mNil)))
noncomputable def obA : SM := (nSeq (nSet 12 (mCall F_law_pick [] (mCons (mVar 3) (mCons (mCall F_law_movable [] (mCons (mVar 11) mNil)) mNil))))
  (nSeq (nIf (mB (mOp (isN true) (mMeth "Play" "move" F_Play_move [] (mVar 7) (mCons (mVar 12) mNil)) (mC .non))) (nRet (mC (.bl false))) nNil)
  (nSet 5 (mOp (addI false) (mVar 5) (mLst false (mCons (mVar 12) mNil))))))
noncomputable def obB : SM := (nSeq (nSet 13 (mCall F_law_play [] (mCons (mVar 3) (mCons (mVar 11) mNil))))
  (nSeq (nSet 13 (mSlice false (mVar 13) mNo (mSo (mCall F_law_draw [] (mCons (mVar 3) (mCons (mOp (addI false) (mB1 bLen (mCons (mVar 13) mNil)) (mC (.int 1))) mNil))))))
  (nSeq (nSet 14 (mB1 (bList true) (mCons (mVar 13) mNil)))
  (nSeq (nSet 7 (mOp (inpB "Play" F_Play__iadd) (mVar 7) (mIf (mB (mOp eqI (mVar 10) (mC (.int 1)))) (mB1 bTuple2 (mCons (mVar 13) mNil)) (mVar 14))))
  (nSeq (nExpr (mBM tyL fAppend (mVar 14) (mCons (mC (.str "q")) mNil)))
  (nSet 5 (mOp (addI false) (mVar 5) (mVar 13))))))))
noncomputable def obC : SM := (nSeq (nSet 15 (mCall F_law_draw [] (mCons (mVar 3) (mCons (mOp (addI false) (mB1 bLen (mCons (mVar 5) mNil)) (mC (.int 1))) mNil))))
  (nSeq (nSet 7 (mOp (inpB "Play" F_Play__isub) (mVar 7) (mVar 15)))
  (nSet 5 (mSlice false (mVar 5) mNo (mSo (mOp subI (mB1 bLen (mCons (mVar 5) mNil)) (mVar 15)))))))
noncomputable def ob2 : SM := (nIf (mAnd (mB (mOp eqI (mVar 10) (mC (.int 0)))) (mB (mOp neI (mCall F_law_movable [] (mCons (mVar 11) mNil)) (mLst false mNil)))) obA (nIf (mB (mOp ltI (mVar 10) (mC (.int 3)))) obB obC))
noncomputable def ob3 : SM := (nExpr (mBM tyL fAppend (mMeth "Play" "moves" F_Play_moves [] (mVar 7) mNil) (mCons (mC (.str "q")) mNil)))
noncomputable def ob4 : SM := (nIf (mOr (mNot (mB (mCall F_law_is [] (mCons (mVar 7) (mCons (mVar 4) (mCons (mVar 5) mNil)))))) (mOr (mNot (mB (mCall F_law_is [] (mCons (mVar 8) (mCons (mVar 4) (mCons (mVar 5) mNil)))))) (mB (mOp (cmB true "Board" F_Board__eq neI) (mVar 6) (mFz (mMake "Board" F_Board__init [] (mCons (mVar 4) mNil))))))) (nRet (mC (.bl false))) nNil)
noncomputable def deed : SM := nSeq ob0 (nSeq ob2 (nSeq ob3 ob4))
noncomputable def outD : SM := nSeq (nSet 3 (mCall F_law_begin [] (mCons (mVar 2) (mCons (mVar 1) mNil)))) (nSeq (nPar 4 5 (mCons (mCall F_law_labels [] (mCons (mVar 3) (mCons (mC (.int 9)) mNil))) (mCons (mLst false mNil) mNil))) (nSeq (nSet 6 (mFz (mMake "Board" F_Board__init [] (mCons (mVar 4) mNil)))) (nSeq (nSet 7 (mMake "Play" F_Play__init [] (mCons (mVar 6) mNil))) (nSeq (nSet 8 (mVar 7)) (nFor (mRange (mCons (mC (.int 14)) mNil)) (gtN 9) deed)))))
theorem F_law_eq : F_law = ofM (13 + 3) (outL 10 outD) := rfl
@[simp] theorem mSlice_evV {s : Slots} {C : Tab} {own : Bool} {me : EM TV} {lo hi : EM (Option Int)} : mSlice own me lo hi s C = (me s C).bind fun x C1 => (lo s C1).bind fun l C2 => (hi s C2).bind fun h C3 => sliceV own x l h C3 := rfl
section
variable {D : Tab} {i j k : Nat} {d : Dr} {ps : List (Str × Str)} {ms : List Str} {a0 a1 a2 a9 a10 a11 a12 a13 a14 a15 : Option TV}
def St (a0 a1 a2 : Option TV) (j i : Nat) (ps : List (Str × Str)) (ms : List Str) (a9 a10 a11 a12 a13 a14 a15 : Option TV) : Slots :=
  [a0, a1, a2, some (.cel j), some (.dct (toD ps)), some (.lst (ms.map .str)), some (bd ps), some (.cel i), some (.cel i), a9, a10, a11, a12, a13, a14, a15]
theorem sl_toS {xs : List Str} {n : Nat} : sliceV false (.lst (xs.map .str)) none (some (n : Int)) D = .ok (.lst ((xs.take n).map .str)) D := by
  unfold sliceV
  rw [rd_lst]
  dsimp only
  rw [alc_fz, cutP_to, List.map_take]
theorem len_lst {xs : List Str} : bLen [.lst (xs.map .str)] D = .ok (.int xs.length) D := by rw [bLen_lst, List.length_map]
theorem add1 {n : Nat} : addR false (.int n) (.int 1) D = .ok (.int ((n + 1 : Nat) : Int)) D := by
  show Res.ok (TV.int ((n : Int) + 1)) D = _
  congr 2
theorem inp_add {t : TV} {D' : Tab} {cur : List (Str × Str)} (h : D[i]? = some (.own (plo ps cur ms))) (e : F_Play__iadd [.cel i, t] D = .ok (.cel i) D') : inpB "Play" F_Play__iadd (.cel i) t D = .ok (.cel i) D' := by
  unfold inpB
  rw [rd_pl h]
  show (if ("Play" : Str) = "Play" then (F_Play__iadd [.cel i, t] D).bind refR else .stuck) = _
  rw [if_pos rfl, e]; rfl
theorem inp_sub {t : TV} {D' : Tab} {cur : List (Str × Str)} (h : D[i]? = some (.own (plo ps cur ms))) (e : F_Play__isub [.cel i, t] D = .ok (.cel i) D') : inpB "Play" F_Play__isub (.cel i) t D = .ok (.cel i) D' := by
  unfold inpB
  rw [rd_pl h]
  show (if ("Play" : Str) = "Play" then (F_Play__isub [.cel i, t] D).bind refR else .stuck) = _
  rw [if_pos rfl, e]; rfl
/-- what each branch comes to -/
def Nxt (m : SM) (a0 a1 a2 : Option TV) (j i : Nat) (ps : List (Str × Str)) (ms : List Str) (a9 a10 a11 a12 a13 a14 a15 : Option TV) (D : Tab) (k : Nat) : Prop :=
  ∃ (ns : List Str) (b12 b13 b14 b15 : Option TV) (d' : Dr) (D' : Tab), m (St a0 a1 a2 j i ps ms a9 a10 a11 a12 a13 a14 a15) D = .nx (St a0 a1 a2 j i ps ns a9 a10 a11 b12 b13 b14 b15) D' ∧ Mvs ps ns ∧ D'[j]? = some (.own d'.tv) ∧ D'[i]? = some (.own (plo ps (run ps ns) ns)) ∧ d'.bd k
theorem obA_ok (L : Lab ps) (h0 : ps ≠ []) (hm : Mvs ps ms) (hj : D[j]? = some (.own d.tv)) (hb : d.bd (1 + k)) (hij : i ≠ j) (h : D[i]? = some (.own (plo ps (run ps ms) ms))) (hne : mv (run ps ms) ≠ []) :
    Nxt obA a0 a1 a2 j i ps ms a9 a10 (some (.dct (toD (run ps ms)))) a12 a13 a14 a15 D k := by
  have hle := L.le
  have nf := hm.len L
  have nl := nfx_le (ps := ps)
  have lz := hm.lab L h0
  have ml : (mv (run ps ms)).length ≤ 60 := by
    unfold mv
    rw [(srtS_perm _).length_eq]
    have := List.length_filter_le (mvb (run ps ms)) ((run ps ms).map (·.1))
    have e2 : ((run ps ms).map (·.1)).length = ps.length := by rw [lz.2.2, List.length_map]
    omega
  obtain ⟨y, d3, e3, hy, b3⟩ := sp_pickN (C := D) (j := j) (d := d) (k := k) (xs := mv (run ps ms)) hj (bd_le hb (by omega)) hne (by omega)
  have h1 : (D.set j (.own d3.tv))[i]? = some (.own (plo ps (run ps ms) ms)) := by rw [List.getElem?_set_ne (fun z => hij z.symm)]; exact h
  have o := sp_move h1 lz.1 lz.2.1 hy (by omega)
  rw [← run_snoc] at o
  have ns : ∀ D : Tab, isN true .non .non D = .ok (.bl false) D := fun D => rfl
  have lv : ∀ D : Tab, lstV false [.str y] D = .ok (.lst ([y].map .str)) D := fun D => lstV_ok (by rw [sizeLine_eq]; simp)
  have ad : ∀ D : Tab, addR false (.lst (ms.map .str)) (.lst ([y].map .str)) D = .ok (.lst ((ms ++ [y]).map .str)) D := fun D => by
    rw [addR_lst (by rw [List.length_map, sizeLine_eq]; simp; omega), alc_fz, List.map_append]
  refine ⟨ms ++ [y], some (.str y), a13, a14, a15, d3, (D.set j (.own d3.tv)).set i (.own (plo ps (run ps (ms ++ [y])) (ms ++ [y]))), ?_, hm.app (.cons hy .nil), ?_, List.getElem?_set_self (get_lt h1), b3⟩
  · unfold obA St
    simp only [↓bind_bnd, ↓sr_srd, ↓seq_sqd, bnd_ok, srd_ok, sqd_nx, sqd_rt, nSeq_ev, nSet_ev, nIf_ev, nRet_ev, nNil_ev, nExpr_ev, nPar_ev, nFor_ev, nFld_ev, mVar_ev, mC_ev, mCons_ev, mNil_ev, mCall_ev, mOp_ev, mB_ev, mB1_ev, mNot_ev, mAnd_ev, mOr_ev, mAndV_ev, mChain_ev, mMeth_ev, mFld_ev, mLst_ev, mLc_ev, mDc_ev, mSeq_ev, mBM_ev, mIsC_ev, mFz_ev, List.getElem?_cons_zero, List.getElem?_cons_succ, rdS_some, List.set_cons_succ, List.set_cons_zero, blOf_bl, Bool.not_true, Bool.not_false, Bool.false_eq_true, if_true, if_false, List.append_nil, nox_ok, alc_fz, unlk_ok0, sp_lmov lz.1, e3, meth_pl h1 (m := "move") (by decide) (by decide) (by decide), o, ns, lv, addI_ev, rd_lst, ad]
  · rw [List.getElem?_set_ne hij]; exact List.getElem?_set_self (get_lt hj)
theorem obC_ok (L : Lab ps) (h0 : ps ≠ []) (hm : Mvs ps ms) (hj : D[j]? = some (.own d.tv)) (hb : d.bd (1 + k)) (hij : i ≠ j) (h : D[i]? = some (.own (plo ps (run ps ms) ms))) :
    Nxt obC a0 a1 a2 j i ps ms a9 a10 a11 a12 a13 a14 a15 D k := by
  have hle := L.le
  have nf := hm.len L
  have nl := nfx_le (ps := ps)
  obtain ⟨v, d1, e1, v0, v1, b1⟩ := sp_draw (n := ((ms.length + 1 : Nat) : Int)) (k := k) hj (by omega) (by omega) (bd_le hb (by omega))
  obtain ⟨u, rfl⟩ : ∃ u : Nat, v = u := ⟨v.toNat, by omega⟩
  have h1 : (D.set j (.own d1.tv))[i]? = some (.own (plo ps (run ps ms) ms)) := by rw [List.getElem?_set_ne (fun z => hij z.symm)]; exact h
  have o := inp_sub h1 (sp_isub h1 hm L h0 (n := u) (by omega))
  have sb : ∀ D : Tab, subI (.int ms.length) (.int u) D = .ok (.int ((ms.length - u : Nat) : Int)) D := fun D => by
    rw [subI_int]
    congr 2
    omega
  refine ⟨ms.take (ms.length - u), a12, a13, a14, some (.int u), d1, (D.set j (.own d1.tv)).set i (.own (plo ps (run ps (ms.take (ms.length - u))) (ms.take (ms.length - u)))), ?_, Mvs.left (ys := ms.drop (ms.length - u)) (by rw [List.take_append_drop]; exact hm), ?_, List.getElem?_set_self (get_lt h1), b1⟩
  · unfold obC St
    simp only [↓bind_bnd, ↓sr_srd, ↓seq_sqd, bnd_ok, srd_ok, sqd_nx, sqd_rt, nSeq_ev, nSet_ev, nIf_ev, nRet_ev, nNil_ev, nExpr_ev, nPar_ev, nFor_ev, nFld_ev, mVar_ev, mC_ev, mCons_ev, mNil_ev, mCall_ev, mOp_ev, mB_ev, mB1_ev, mNot_ev, mAnd_ev, mOr_ev, mAndV_ev, mChain_ev, mMeth_ev, mFld_ev, mLst_ev, mLc_ev, mDc_ev, mSeq_ev, mBM_ev, mIsC_ev, mFz_ev, List.getElem?_cons_zero, List.getElem?_cons_succ, rdS_some, List.set_cons_succ, List.set_cons_zero, blOf_bl, Bool.not_true, Bool.not_false, Bool.false_eq_true, if_true, if_false, List.append_nil, nox_ok, alc_fz, unlk_ok0, len_lst, addI_ev, rd_int, add1, e1, o, mSlice_evV, mNo_evP, mSo_evP, sb, sl_toS]
  · rw [List.getElem?_set_ne hij]; exact List.getElem?_set_self (get_lt hj)
theorem obB_ok (L : Lab ps) (h0 : ps ≠ []) (hm : Mvs ps ms) (hj : D[j]? = some (.own d.tv)) (hb : d.bd (61 + k)) (hij : i ≠ j) (h : D[i]? = some (.own (plo ps (run ps ms) ms))) {v : Int} :
    Nxt obB a0 a1 a2 j i ps ms a9 (some (.int v)) (some (.dct (toD (run ps ms)))) a12 a13 a14 a15 D k := by
  have hle := L.le
  have nl := nfx_le (ps := ps)
  have lz := hm.lab L h0
  obtain ⟨xs, d1, e1, pl, x60, b1⟩ := sp_play (k := 1 + k) lz.1 lz.2.1 hj (bd_le hb (by omega))
  have hj1 : (D.set j (.own d1.tv))[j]? = some (.own d1.tv) := List.getElem?_set_self (get_lt hj)
  obtain ⟨w, d2, e2, w0, w1, b2⟩ := sp_draw (n := ((xs.length + 1 : Nat) : Int)) (k := k) hj1 (by omega) (by omega) (bd_le b1 (by omega))
  obtain ⟨u, rfl⟩ : ∃ u : Nat, w = u := ⟨w.toNat, by omega⟩
  rw [List.set_set] at e2
  have h1 : (D.set j (.own d2.tv))[i]? = some (.own (plo ps (run ps ms) ms)) := by rw [List.getElem?_set_ne (fun z => hij z.symm)]; exact h
  have hj2 : (D.set j (.own d2.tv))[j]? = some (.own d2.tv) := List.getElem?_set_self (get_lt hj)
  revert e2 h1 hj2
  generalize D.set j (.own d2.tv) = D2
  intro e2 h1 hj2
  have hm2 : Mvs ps (ms ++ xs.take u) := hm.app (Mvs.left (ys := xs.drop u) (by rw [List.take_append_drop]; exact pl.mvs))
  have nf := hm2.len L
  have hl : (ms ++ xs.take u).length ≤ 1000 := by omega
  have h2 := get_app (G := [Cell.own (.lst ((xs.take u).map .str))]) h1
  have hne : D2.length ≠ i := by have := get_lt h1; omega
  have pA := inp_add h2 (sp_iadd h2 (Bxs.tup (xs.take u)) hm2 L h0 hl)
  have pB := inp_add h2 (sp_iaddO (i := D2.length) h2 get_last hne hm2 L h0 hl)
  have bl : bList true [.lst ((xs.take u).map .str)] D2 = .ok (.cel D2.length) (D2 ++ [.own (.lst ((xs.take u).map .str))]) := rfl
  have tu : ∀ D : Tab, bTuple2 [.lst ((xs.take u).map .str)] D = .ok (.tup ((xs.take u).map .str)) D := fun D => rfl
  have st : (D2 ++ [Cell.own (.lst ((xs.take u).map .str))]).set i (.own (plo ps (run ps (ms ++ xs.take u)) (ms ++ xs.take u))) = D2.set i (.own (plo ps (run ps (ms ++ xs.take u)) (ms ++ xs.take u))) ++ [.own (.lst ((xs.take u).map .str))] := by
    rw [List.set_append_left _ _ (get_lt h1)]
  rw [st] at pA pB
  have ll : (D2.set i (.own (plo ps (run ps (ms ++ xs.take u)) (ms ++ xs.take u)))).length = D2.length := List.length_set
  have ty := tyL_at (C := D2.set i (.own (plo ps (run ps (ms ++ xs.take u)) (ms ++ xs.take u)))) (xs := (xs.take u).map .str)
  have ap := app_at (C := D2.set i (.own (plo ps (run ps (ms ++ xs.take u)) (ms ++ xs.take u)))) (xs := (xs.take u).map .str) (y := .str "q") (by rw [List.length_map, List.length_take, sizeLine_eq]; omega)
  rw [ll] at ty ap
  have ad : ∀ D : Tab, addR false (.lst (ms.map .str)) (.lst ((xs.take u).map .str)) D = .ok (.lst ((ms ++ xs.take u).map .str)) D := fun D => by
    rw [addR_lst (by rw [List.length_map, List.length_map, sizeLine_eq]; rw [List.length_append] at hl; omega), alc_fz, List.map_append]
  have ei : ∀ D : Tab, eqI (.int v) (.int 1) D = .ok (.bl (decide (v = 1))) D := fun D => eqI_int
  refine ⟨ms ++ xs.take u, a12, some (.lst ((xs.take u).map .str)), some (.cel D2.length), a15, d2, D2.set i (.own (plo ps (run ps (ms ++ xs.take u)) (ms ++ xs.take u))) ++ [.own (.lst ((xs.take u).map .str ++ [.str "q"]))], ?_, hm2, ?_, ?_, b2⟩
  · unfold obB St
    by_cases c : v = 1
    · simp only [↓bind_bnd, ↓sr_srd, ↓seq_sqd, bnd_ok, srd_ok, sqd_nx, sqd_rt, nSeq_ev, nSet_ev, nIf_ev, nRet_ev, nNil_ev, nExpr_ev, nPar_ev, nFor_ev, nFld_ev, mVar_ev, mC_ev, mCons_ev, mNil_ev, mCall_ev, mOp_ev, mB_ev, mB1_ev, mNot_ev, mAnd_ev, mOr_ev, mAndV_ev, mChain_ev, mMeth_ev, mFld_ev, mLst_ev, mLc_ev, mDc_ev, mSeq_ev, mBM_ev, mIsC_ev, mFz_ev, List.getElem?_cons_zero, List.getElem?_cons_succ, rdS_some, List.set_cons_succ, List.set_cons_zero, blOf_bl, Bool.not_true, Bool.not_false, Bool.false_eq_true, if_true, if_false, List.append_nil, nox_ok, alc_fz, unlk_ok0, e1, len_lst, addI_ev, rd_int, add1, e2, mSlice_evV, mNo_evP, mSo_evP, sl_toS, bl, mIf_ev, ei, decide_eq_true c, tu, pA, ty, ap, rd_lst, ad]
    · simp only [↓bind_bnd, ↓sr_srd, ↓seq_sqd, bnd_ok, srd_ok, sqd_nx, sqd_rt, nSeq_ev, nSet_ev, nIf_ev, nRet_ev, nNil_ev, nExpr_ev, nPar_ev, nFor_ev, nFld_ev, mVar_ev, mC_ev, mCons_ev, mNil_ev, mCall_ev, mOp_ev, mB_ev, mB1_ev, mNot_ev, mAnd_ev, mOr_ev, mAndV_ev, mChain_ev, mMeth_ev, mFld_ev, mLst_ev, mLc_ev, mDc_ev, mSeq_ev, mBM_ev, mIsC_ev, mFz_ev, List.getElem?_cons_zero, List.getElem?_cons_succ, rdS_some, List.set_cons_succ, List.set_cons_zero, blOf_bl, Bool.not_true, Bool.not_false, Bool.false_eq_true, if_true, if_false, List.append_nil, nox_ok, alc_fz, unlk_ok0, e1, len_lst, addI_ev, rd_int, add1, e2, mSlice_evV, mNo_evP, mSo_evP, sl_toS, bl, mIf_ev, ei, decide_eq_false c, pB, ty, ap, rd_lst, ad]
  · refine get_app ?_
    rw [List.getElem?_set_ne hij]; exact hj2
  · exact get_app (List.getElem?_set_self (get_lt h1))
theorem gc_init {u v : TV} (hv : v.pl = true) : gcT (D ++ [.own u]) .non (D ++ [.own v]) = .ok .non (D ++ [.own v]) := by
  have kp : Keep (D ++ [Cell.own u]) (D ++ [.own v]) := by
    refine ⟨by simp, fun i c hi hc => ?_⟩
    rcases Nat.lt_or_ge i D.length with h | h
    · rw [List.getElem?_append_left h] at hc ⊢
      exact .inl hc
    · simp at hi
      have : i = D.length := by omega
      subst this
      simp at hc
      subst hc
      exact .inr (pl_low hv _)
  unfold gcT
  rw [if_pos kp]
  dsimp only
  rw [if_pos (show TV.low _ .non = true from rfl), List.take_of_length_le (by simp)]
theorem sp_pinit : F_Play__init [.cel D.length, bd ps] (D ++ [.own (.obj "Play" [])]) = .ok .non (D ++ [.own (plo ps ps [])]) := by
  have s0 : st0 2 [TV.cel D.length, bd ps] = [some (.cel D.length), some (bd ps)] := rfl
  have pf : ∀ (f : Str) (t : TV) (fs : List (Str × TV)), fs.length < 1000 → putFld "Play" f (.cel D.length) t (D ++ [.own (.obj "Play" fs)]) = some (D ++ [.own (.obj "Play" (putFT f t fs))]) := fun f t fs h => by
    unfold putFld
    dsimp only
    rw [get_last]
    unfold stF
    dsimp only
    rw [if_pos ⟨rfl, h⟩, set_last]
  have p1 := pf "start" (bd ps) [] (by simp)
  have p2 := pf "here" (bd ps) [("start", bd ps)] (by simp)
  have p3 := pf "made" (.tup []) [("start", bd ps), ("here", bd ps)] (by simp)
  simp only [putFT, ne4, ne5, ne6, if_false] at p1 p2 p3
  have t0 : ∀ D : Tab, tupV [] D = .ok (.tup []) D := fun D => rfl
  have ev : m_Play__init [some (.cel D.length), some (bd ps)] (D ++ [.own (.obj "Play" [])]) = .nx [some (.cel D.length), some (bd ps)] (D ++ [.own (plo ps ps [])]) := by
    unfold m_Play__init
    simp only [↓bind_bnd, ↓sr_srd, ↓seq_sqd, bnd_ok, srd_ok, sqd_nx, sqd_rt, nSeq_ev, nSet_ev, nIf_ev, nRet_ev, nNil_ev, nExpr_ev, nPar_ev, nFor_ev, nFld_ev, mVar_ev, mC_ev, mCons_ev, mNil_ev, mCall_ev, mOp_ev, mB_ev, mB1_ev, mNot_ev, mAnd_ev, mOr_ev, mAndV_ev, mChain_ev, mMeth_ev, mFld_ev, mLst_ev, mLc_ev, mDc_ev, mSeq_ev, mBM_ev, mIsC_ev, mFz_ev, List.getElem?_cons_zero, List.getElem?_cons_succ, rdS_some, List.set_cons_succ, List.set_cons_zero, blOf_bl, Bool.not_true, Bool.not_false, Bool.false_eq_true, if_true, if_false, List.append_nil, nox_ok, alc_fz, unlk_ok0, nFld_ev, p1, putC_some, p2, mTup_ev, t0, p3]
    rfl
  unfold F_Play__init ofM
  rw [s0, ev]
  exact gc_init (plo_pl ps ps [])
theorem mk_play {s : Slots} {ma : EM (List TV)} {D' : Tab} (ha : ma s D = .ok [bd ps] D') : mMake "Play" F_Play__init [] ma s D = .ok (.cel D'.length) (D' ++ [.own (plo ps ps [])]) := by
  rw [mMake_ev, ha, bind_ok, List.append_nil, sp_pinit, bind_ok]
  rfl
theorem deed_ok (L : Lab ps) (h0 : ps ≠ []) (hm : Mvs ps ms) (hj : D[j]? = some (.own d.tv)) (hb : d.bd (100 + k)) (hij : i ≠ j) (h : D[i]? = some (.own (plo ps (run ps ms) ms))) :
    ∃ (ns : List Str) (b10 b11 b12 b13 b14 b15 : Option TV) (d' : Dr) (D' : Tab), deed (St a0 a1 a2 j i ps ms a9 a10 a11 a12 a13 a14 a15) D = .nx (St a0 a1 a2 j i ps ns a9 b10 b11 b12 b13 b14 b15) D' ∧ Mvs ps ns ∧ D'[j]? = some (.own d'.tv) ∧ D'[i]? = some (.own (plo ps (run ps ns) ns)) ∧ d'.bd k := by
  have hle := L.le
  obtain ⟨v, d1, e1, v0, v1, b1⟩ := sp_draw (n := 5) (k := 61 + k) hj (by omega) (by omega) (bd_le hb (by omega))
  have lz := hm.lab L h0
  have hj1 : (D.set j (.own d1.tv))[j]? = some (.own d1.tv) := List.getElem?_set_self (get_lt hj)
  have h1 : (D.set j (.own d1.tv))[i]? = some (.own (plo ps (run ps ms) ms)) := by rw [List.getElem?_set_ne (fun z => hij z.symm)]; exact h
  revert e1 hj1 h1
  generalize D.set j (.own d1.tv) = D1
  intro e1 hj1 h1
  have r0 : ob0 (St a0 a1 a2 j i ps ms a9 a10 a11 a12 a13 a14 a15) D = .nx (St a0 a1 a2 j i ps ms a9 (some (.int v)) (some (.dct (toD (run ps ms)))) a12 a13 a14 a15) D1 := by
    unfold ob0 St
    simp only [↓bind_bnd, ↓sr_srd, ↓seq_sqd, bnd_ok, srd_ok, sqd_nx, sqd_rt, nSeq_ev, nSet_ev, nIf_ev, nRet_ev, nNil_ev, nExpr_ev, nPar_ev, nFor_ev, nFld_ev, mVar_ev, mC_ev, mCons_ev, mNil_ev, mCall_ev, mOp_ev, mB_ev, mB1_ev, mNot_ev, mAnd_ev, mOr_ev, mAndV_ev, mChain_ev, mMeth_ev, mFld_ev, mLst_ev, mLc_ev, mDc_ev, mSeq_ev, mBM_ev, mIsC_ev, mFz_ev, List.getElem?_cons_zero, List.getElem?_cons_succ, rdS_some, List.set_cons_succ, List.set_cons_zero, blOf_bl, Bool.not_true, Bool.not_false, Bool.false_eq_true, if_true, if_false, List.append_nil, nox_ok, alc_fz, unlk_ok0, e1, sp_lhere L hm]
  have ei : ∀ D : Tab, eqI (.int v) (.int 0) D = .ok (.bl (decide (v = 0))) D := fun D => eqI_int
  have lt : ∀ D : Tab, ltI (.int v) (.int 3) D = .ok (.bl (decide (v < 3))) D := fun D => rfl
  have r2 : Nxt ob2 a0 a1 a2 j i ps ms a9 (some (.int v)) (some (.dct (toD (run ps ms)))) a12 a13 a14 a15 D1 k := by
    have els : ¬ (v = 0 ∧ mv (run ps ms) ≠ []) → Nxt (nIf (mB (mOp ltI (mVar 10) (mC (.int 3)))) obB obC) a0 a1 a2 j i ps ms a9 (some (.int v)) (some (.dct (toD (run ps ms)))) a12 a13 a14 a15 D1 k := fun _ => by
      by_cases c : v < 3
      · obtain ⟨ns, b12, b13, b14, b15, d', D', e, rest⟩ := obB_ok (k := k) (a0 := a0) (a1 := a1) (a2 := a2) (a9 := a9) (a12 := a12) (a13 := a13) (a14 := a14) (a15 := a15) (v := v) L h0 hm hj1 (bd_le b1 (by omega)) hij h1
        refine ⟨ns, b12, b13, b14, b15, d', D', ?_, rest⟩
        unfold St at e ⊢
        simp only [↓bind_bnd, ↓sr_srd, ↓seq_sqd, bnd_ok, srd_ok, sqd_nx, sqd_rt, nSeq_ev, nSet_ev, nIf_ev, nRet_ev, nNil_ev, nExpr_ev, nPar_ev, nFor_ev, nFld_ev, mVar_ev, mC_ev, mCons_ev, mNil_ev, mCall_ev, mOp_ev, mB_ev, mB1_ev, mNot_ev, mAnd_ev, mOr_ev, mAndV_ev, mChain_ev, mMeth_ev, mFld_ev, mLst_ev, mLc_ev, mDc_ev, mSeq_ev, mBM_ev, mIsC_ev, mFz_ev, List.getElem?_cons_zero, List.getElem?_cons_succ, rdS_some, List.set_cons_succ, List.set_cons_zero, blOf_bl, Bool.not_true, Bool.not_false, Bool.false_eq_true, if_true, if_false, List.append_nil, nox_ok, alc_fz, unlk_ok0, lt, decide_eq_true c, e]
      · obtain ⟨ns, b12, b13, b14, b15, d', D', e, rest⟩ := obC_ok (k := k) (a0 := a0) (a1 := a1) (a2 := a2) (a9 := a9) (a10 := some (.int v)) (a11 := some (.dct (toD (run ps ms)))) (a12 := a12) (a13 := a13) (a14 := a14) (a15 := a15) L h0 hm hj1 (bd_le b1 (by omega)) hij h1
        refine ⟨ns, b12, b13, b14, b15, d', D', ?_, rest⟩
        unfold St at e ⊢
        simp only [↓bind_bnd, ↓sr_srd, ↓seq_sqd, bnd_ok, srd_ok, sqd_nx, sqd_rt, nSeq_ev, nSet_ev, nIf_ev, nRet_ev, nNil_ev, nExpr_ev, nPar_ev, nFor_ev, nFld_ev, mVar_ev, mC_ev, mCons_ev, mNil_ev, mCall_ev, mOp_ev, mB_ev, mB1_ev, mNot_ev, mAnd_ev, mOr_ev, mAndV_ev, mChain_ev, mMeth_ev, mFld_ev, mLst_ev, mLc_ev, mDc_ev, mSeq_ev, mBM_ev, mIsC_ev, mFz_ev, List.getElem?_cons_zero, List.getElem?_cons_succ, rdS_some, List.set_cons_succ, List.set_cons_zero, blOf_bl, Bool.not_true, Bool.not_false, Bool.false_eq_true, if_true, if_false, List.append_nil, nox_ok, alc_fz, unlk_ok0, lt, decide_eq_false c, e]
    by_cases c : v = 0
    · cases hmv : (mv (run ps ms)).isEmpty with
      | false =>
        have ne : mv (run ps ms) ≠ [] := fun z => by rw [z] at hmv; cases hmv
        obtain ⟨ns, b12, b13, b14, b15, d', D', e, rest⟩ := obA_ok (k := k) (a0 := a0) (a1 := a1) (a2 := a2) (a9 := a9) (a10 := some (.int v)) (a12 := a12) (a13 := a13) (a14 := a14) (a15 := a15) L h0 hm hj1 (bd_le b1 (by omega)) hij h1 ne
        refine ⟨ns, b12, b13, b14, b15, d', D', ?_, rest⟩
        unfold ob2
        unfold St at e ⊢
        simp only [↓bind_bnd, ↓sr_srd, ↓seq_sqd, bnd_ok, srd_ok, sqd_nx, sqd_rt, nSeq_ev, nSet_ev, nIf_ev, nRet_ev, nNil_ev, nExpr_ev, nPar_ev, nFor_ev, nFld_ev, mVar_ev, mC_ev, mCons_ev, mNil_ev, mCall_ev, mOp_ev, mB_ev, mB1_ev, mNot_ev, mAnd_ev, mOr_ev, mAndV_ev, mChain_ev, mMeth_ev, mFld_ev, mLst_ev, mLc_ev, mDc_ev, mSeq_ev, mBM_ev, mIsC_ev, mFz_ev, List.getElem?_cons_zero, List.getElem?_cons_succ, rdS_some, List.set_cons_succ, List.set_cons_zero, blOf_bl, Bool.not_true, Bool.not_false, Bool.false_eq_true, if_true, if_false, List.append_nil, nox_ok, alc_fz, unlk_ok0, ei, decide_eq_true c, sp_lmov lz.1, lstV_nil, neI_empty, strs_emp, hmv, e]
      | true =>
        have z : mv (run ps ms) = [] := List.isEmpty_iff.mp hmv
        obtain ⟨ns, b12, b13, b14, b15, d', D', e, rest⟩ := els (fun w => w.2 z)
        refine ⟨ns, b12, b13, b14, b15, d', D', ?_, rest⟩
        rw [← e]
        unfold ob2 St
        simp only [↓bind_bnd, ↓sr_srd, ↓seq_sqd, bnd_ok, srd_ok, sqd_nx, sqd_rt, nSeq_ev, nSet_ev, nIf_ev, nRet_ev, nNil_ev, nExpr_ev, nPar_ev, nFor_ev, nFld_ev, mVar_ev, mC_ev, mCons_ev, mNil_ev, mCall_ev, mOp_ev, mB_ev, mB1_ev, mNot_ev, mAnd_ev, mOr_ev, mAndV_ev, mChain_ev, mMeth_ev, mFld_ev, mLst_ev, mLc_ev, mDc_ev, mSeq_ev, mBM_ev, mIsC_ev, mFz_ev, List.getElem?_cons_zero, List.getElem?_cons_succ, rdS_some, List.set_cons_succ, List.set_cons_zero, blOf_bl, Bool.not_true, Bool.not_false, Bool.false_eq_true, if_true, if_false, List.append_nil, nox_ok, alc_fz, unlk_ok0, ei, decide_eq_true c, sp_lmov lz.1, lstV_nil, neI_empty, strs_emp, hmv]
    · obtain ⟨ns, b12, b13, b14, b15, d', D', e, rest⟩ := els (fun w => c w.1)
      refine ⟨ns, b12, b13, b14, b15, d', D', ?_, rest⟩
      rw [← e]
      unfold ob2 St
      simp only [↓bind_bnd, ↓sr_srd, ↓seq_sqd, bnd_ok, srd_ok, sqd_nx, sqd_rt, nSeq_ev, nSet_ev, nIf_ev, nRet_ev, nNil_ev, nExpr_ev, nPar_ev, nFor_ev, nFld_ev, mVar_ev, mC_ev, mCons_ev, mNil_ev, mCall_ev, mOp_ev, mB_ev, mB1_ev, mNot_ev, mAnd_ev, mOr_ev, mAndV_ev, mChain_ev, mMeth_ev, mFld_ev, mLst_ev, mLc_ev, mDc_ev, mSeq_ev, mBM_ev, mIsC_ev, mFz_ev, List.getElem?_cons_zero, List.getElem?_cons_succ, rdS_some, List.set_cons_succ, List.set_cons_zero, blOf_bl, Bool.not_true, Bool.not_false, Bool.false_eq_true, if_true, if_false, List.append_nil, nox_ok, alc_fz, unlk_ok0, ei, decide_eq_false c]
  obtain ⟨ns, b12, b13, b14, b15, d', D', e2, hn, hj2, h2, b2⟩ := r2
  have nf := hn.len L
  have nl := nfx_le (ps := ps)
  have r3 : ob3 (St a0 a1 a2 j i ps ns a9 (some (.int v)) (some (.dct (toD (run ps ms)))) b12 b13 b14 b15) D' = .nx (St a0 a1 a2 j i ps ns a9 (some (.int v)) (some (.dct (toD (run ps ms)))) b12 b13 b14 b15) (D' ++ [.own (.lst (ns.map .str ++ [.str "q"]))]) := by
    have ap := app_at (C := D') (xs := ns.map .str) (y := .str "q") (by rw [List.length_map, sizeLine_eq]; omega)
    unfold ob3 St
    simp only [↓bind_bnd, ↓sr_srd, ↓seq_sqd, bnd_ok, srd_ok, sqd_nx, sqd_rt, nSeq_ev, nSet_ev, nIf_ev, nRet_ev, nNil_ev, nExpr_ev, nPar_ev, nFor_ev, nFld_ev, mVar_ev, mC_ev, mCons_ev, mNil_ev, mCall_ev, mOp_ev, mB_ev, mB1_ev, mNot_ev, mAnd_ev, mOr_ev, mAndV_ev, mChain_ev, mMeth_ev, mFld_ev, mLst_ev, mLc_ev, mDc_ev, mSeq_ev, mBM_ev, mIsC_ev, mFz_ev, List.getElem?_cons_zero, List.getElem?_cons_succ, rdS_some, List.set_cons_succ, List.set_cons_zero, blOf_bl, Bool.not_true, Bool.not_false, Bool.false_eq_true, if_true, if_false, List.append_nil, nox_ok, alc_fz, unlk_ok0, meth_pl h2 (m := "moves") (by decide) (by decide) (by decide), sp_moves h2, tyL_at, ap]
  have h3 := get_app (G := [Cell.own (.lst (ns.map .str ++ [.str "q"]))]) h2
  have r4 : ob4 (St a0 a1 a2 j i ps ns a9 (some (.int v)) (some (.dct (toD (run ps ms)))) b12 b13 b14 b15) (D' ++ [.own (.lst (ns.map .str ++ [.str "q"]))]) = .nx (St a0 a1 a2 j i ps ns a9 (some (.int v)) (some (.dct (toD (run ps ms)))) b12 b13 b14 b15) (D' ++ [.own (.lst (ns.map .str ++ [.str "q"]))] ++ [.frz (bd ps)]) := by
    have mk := make_bd (s := St a0 a1 a2 j i ps ns a9 (some (.int v)) (some (.dct (toD (run ps ms)))) b12 b13 b14 b15) (D := D' ++ [.own (.lst (ns.map .str ++ [.str "q"]))]) (ma := mCons (mVar 4) mNil) L h0 rfl
    unfold ob4
    unfold St at mk ⊢
    simp only [↓bind_bnd, ↓sr_srd, ↓seq_sqd, bnd_ok, srd_ok, sqd_nx, sqd_rt, nSeq_ev, nSet_ev, nIf_ev, nRet_ev, nNil_ev, nExpr_ev, nPar_ev, nFor_ev, nFld_ev, mVar_ev, mC_ev, mCons_ev, mNil_ev, mCall_ev, mOp_ev, mB_ev, mB1_ev, mNot_ev, mAnd_ev, mOr_ev, mAndV_ev, mChain_ev, mMeth_ev, mFld_ev, mLst_ev, mLc_ev, mDc_ev, mSeq_ev, mBM_ev, mIsC_ev, List.getElem?_cons_zero, List.getElem?_cons_succ, rdS_some, List.set_cons_succ, List.set_cons_zero, blOf_bl, Bool.not_true, Bool.not_false, Bool.false_eq_true, if_true, if_false, List.append_nil, nox_ok, alc_fz, unlk_ok0, sp_lis8 h3 hn L h0, mk, neB_bdP L.nd]
  refine ⟨ns, some (.int v), some (.dct (toD (run ps ms))), b12, b13, b14, b15, d', D' ++ [.own (.lst (ns.map .str ++ [.str "q"]))] ++ [.frz (bd ps)], ?_, hn, get_app (get_app hj2), get_app h3, b2⟩
  unfold deed
  rw [nSeq_ev, r0, seq_nx, nSeq_ev, e2, seq_nx, nSeq_ev, r3, seq_nx, r4]
end
theorem law_holds : LawOk F_law := by
  rw [F_law_eq]
  refine law_of (fun r => ∃ a3 a4 a5 a6 a7 a8 a9 a10 a11 a12 a13 a14 a15, r = [a3, a4, a5, a6, a7, a8, a9, a10, a11, a12, a13, a14, a15]) ⟨none, none, none, none, none, none, none, none, none, none, none, none, none, rfl⟩ fun a0 r i c D ⟨a3, a4, a5, a6, a7, a8, a9, a10, a11, a12, a13, a14, a15, hr⟩ => ?_
  subst hr
  obtain ⟨d, e1, b1⟩ := sp_begin (C := D) (cell := c) (turn := i)
  have h1 : (D ++ [Cell.own d.tv])[D.length]? = some (.own d.tv) := by simp
  obtain ⟨ps, d2, e2, L, h0, _, b2⟩ := sp_labs (most := 9) (M := 9) (k := 1400) rfl h1 (by decide) (by decide) (bd_le b1 (by omega))
  have h2 : ((D ++ [Cell.own d.tv]).set D.length (.own d2.tv))[D.length]? = some (.own d2.tv) := List.getElem?_set_self (get_lt h1)
  revert e2 h2
  generalize (D ++ [Cell.own d.tv]).set D.length (.own d2.tv) = D2
  intro e2 h2
  have mk := make_bd (s := [a0, some (.int i), some (.int c), some (.cel D.length), some (.dct (toD ps)), some (.lst []), a6, a7, a8, a9, a10, a11, a12, a13, a14, a15]) (D := D2) (ma := mCons (mVar 4) mNil) L h0 rfl
  have mp : mMake "Play" F_Play__init [] (mCons (mVar 6) mNil) [a0, some (.int i), some (.int c), some (.cel D.length), some (.dct (toD ps)), some (.lst []), some (bd ps), a7, a8, a9, a10, a11, a12, a13, a14, a15] (D2 ++ [.frz (bd ps)]) = .ok (.cel (D2 ++ [Cell.frz (bd ps)]).length) (D2 ++ [.frz (bd ps)] ++ [.own (plo ps ps [])]) := mk_play rfl
  have h3 : (D2 ++ [Cell.frz (bd ps)] ++ [Cell.own (plo ps ps [])])[D.length]? = some (.own d2.tv) := get_app (get_app h2)
  have hp3 : (D2 ++ [Cell.frz (bd ps)] ++ [Cell.own (plo ps ps [])])[(D2 ++ [Cell.frz (bd ps)]).length]? = some (.own (plo ps ps [])) := get_last
  have hij : (D2 ++ [Cell.frz (bd ps)]).length ≠ D.length := by
    have := get_lt h2
    rw [List.length_append]
    simp
    omega
  revert mp h3 hp3 hij
  generalize (D2 ++ [Cell.frz (bd ps)]).length = q
  generalize D2 ++ [Cell.frz (bd ps)] ++ [Cell.own (plo ps ps [])] = D3
  intro mp h3 hp3 hij
  have rng : ∀ C s, (mRange (mCons (mC (.int 14)) mNil)) s C = .ok (rngL 0 1 14, none) C := fun C s => rfl
  obtain ⟨s', C', e5, ms, b9, b10, b11, b12, b13, b14, b15, d5, rfl, _⟩ := loop_inv (gt := gtN 9) (C0 := D3) (body := deed)
    (I := fun xs s C1 => ∃ (ms : List Str) (b9 b10 b11 b12 b13 b14 b15 : Option TV) (d5 : Dr), s = St a0 (some (.int i)) (some (.int c)) D.length q ps ms b9 b10 b11 b12 b13 b14 b15 ∧ Mvs ps ms ∧ C1[D.length]? = some (.own d5.tv) ∧ C1[q]? = some (.own (plo ps (run ps ms) ms)) ∧ d5.bd (100 * xs.length))
    (fun x xs s C1 ⟨ms, b9, b10, b11, b12, b13, b14, b15, d5, es, hm, hg, hp, hb⟩ => by
      subst es
      obtain ⟨ns, c10, c11, c12, c13, c14, c15, d', D', e, hn, hj', h', hb'⟩ := deed_ok (k := 100 * xs.length) (a0 := a0) (a1 := some (.int i)) (a2 := some (.int c)) (a9 := some x) (a10 := b10) (a11 := b11) (a12 := b12) (a13 := b13) (a14 := b14) (a15 := b15) L h0 hm hg (bd_le hb (by simp; omega)) hij hp
      exact ⟨_, _, D', rfl, e, ns, some x, c10, c11, c12, c13, c14, c15, d', rfl, hn, hj', h', hb'⟩)
    (rngL 0 1 14) (St a0 (some (.int i)) (some (.int c)) D.length q ps [] a9 a10 a11 a12 a13 a14 a15) D3
    ⟨[], a9, a10, a11, a12, a13, a14, a15, d2, rfl, .nil, h3, hp3, bd_le b2 (by simp [rngL])⟩
  have e5' : loop (gtN 9) deed none D3 (rngL 0 1 14) [a0, some (.int i), some (.int c), some (.cel D.length), some (.dct (toD ps)), some (.lst []), some (bd ps), some (.cel q), some (.cel q), a9, a10, a11, a12, a13, a14, a15] D3 = _ := e5
  refine ⟨_, C', ?_, some (.cel D.length), some (.dct (toD ps)), some (.lst (ms.map .str)), some (bd ps), some (.cel q), some (.cel q), b9, b10, b11, b12, b13, b14, b15, rfl⟩
  unfold outD
  simp only [↓bind_bnd, ↓sr_srd, ↓seq_sqd, bnd_ok, srd_ok, sqd_nx, sqd_rt, nSeq_ev, nSet_ev, nIf_ev, nRet_ev, nNil_ev, nExpr_ev, nPar_ev, nFor_ev, nFld_ev, mVar_ev, mC_ev, mCons_ev, mNil_ev, mCall_ev, mOp_ev, mB_ev, mB1_ev, mNot_ev, mAnd_ev, mOr_ev, mAndV_ev, mChain_ev, mMeth_ev, mFld_ev, mLst_ev, mLc_ev, mDc_ev, mSeq_ev, mBM_ev, mIsC_ev, List.getElem?_cons_zero, List.getElem?_cons_succ, rdS_some, List.set_cons_succ, List.set_cons_zero, blOf_bl, Bool.not_true, Bool.not_false, Bool.false_eq_true, if_true, if_false, List.append_nil, nox_ok, alc_fz, unlk_ok0, e1, e2, lstV_nil, mk, mp, rng, e5', srunlk_nx0]
  rfl
end FH
namespace FH
open PySem L2
open PySem.Spec PyProof.Rows
def topS (i : Nat) : Stmt := PySem.Challenge.pw_firsthome_k08_plays_made_and_taken_back.main.body.getD i (.Pass ⟨0, 0, 0, 0⟩)
abbrev s_law_begin : Stmt := topS 13
abbrev s_law_draw : Stmt := topS 14
abbrev s_law_pick : Stmt := topS 15
abbrev s_law_names : Stmt := topS 16
abbrev s_law_mixed : Stmt := topS 17
abbrev s_law_labels : Stmt := topS 18
abbrev s_is_name : Stmt := topS 9
abbrev s_are_labels : Stmt := topS 10
abbrev s_Board__init : Stmt := inClass (topS 11) 1
abbrev s_Play__init : Stmt := inClass (topS 7) 0
abbrev s_law_after : Stmt := topS 20
abbrev s_law_here : Stmt := topS 22
abbrev s_law_movable : Stmt := topS 19
abbrev s_Board_movable : Stmt := inClass (topS 11) 17
abbrev s_Board__contains : Stmt := inClass (topS 11) 4
abbrev s_Board__rshift : Stmt := inClass (topS 11) 8
abbrev s_Play_move : Stmt := inClass (topS 7) 5
abbrev s_law_play : Stmt := topS 21
abbrev s_Play__iadd : Stmt := inClass (topS 7) 3
abbrev s_Play__isub : Stmt := inClass (topS 7) 4
abbrev s_Play_moves : Stmt := inClass (topS 7) 6
abbrev s_Board__eq : Stmt := inClass (topS 11) 7
abbrev s_Play__len : Stmt := inClass (topS 7) 2
abbrev s_Play_board : Stmt := inClass (topS 7) 1
abbrev s_law_is : Stmt := topS 23
abbrev s_law : Stmt := topS 24
structure Txt (Y : Xd) (mg : Str → Option Value) (base : Heap) : Prop where
  all_ : mg "all" = none
  bool_ : mg "bool" = none
  dict_ : mg "dict" = none
  enumerate_ : mg "enumerate" = none
  int_ : mg "int" = none
  isinstance_ : mg "isinstance" = none
  len_ : mg "len" = none
  list_ : mg "list" = none
  max_ : mg "max" = none
  min_ : mg "min" = none
  range_ : mg "range" = none
  repr_ : mg "repr" = none
  sorted_ : mg "sorted" = none
  str_ : mg "str" = none
  tuple_ : mg "tuple" = none
  c_Board : KCls Y "Board"
  g_Board : ∃ A, Y.M.cl "Board" = some A ∧ mg "Board" = some (.ref A)
  c_Play : KCls Y "Play"
  g_Play : ∃ A, Y.M.cl "Play" = some A ∧ mg "Play" = some (.ref A)
  n_Board_homes : KNo Y "Board" "homes"
  n_Play_here : KNo Y "Play" "here"
  n_Play_made : KNo Y "Play" "made"
  n_Play_start : KNo Y "Play" "start"
  i_Board : KIs Y "Board"
  k_Board_MOST : KCon Y "Board" "MOST" (.int 60)
  q_Board : KEq Y "Board"
  s_Board : KShr Y "Board"
  ip_Play : KInp Y "Play"
  sys : SysB base
  ok : True
theorem boot_all : bootBuiltins "all" = some (.builtin "all") := by decide +kernel
theorem boot_bool : bootBuiltins "bool" = some (.type "bool") := by decide +kernel
theorem boot_dict : bootBuiltins "dict" = some (.type "dict") := by decide +kernel
theorem boot_enumerate : bootBuiltins "enumerate" = some (.type "enumerate") := by decide +kernel
theorem boot_int : bootBuiltins "int" = some (.type "int") := by decide +kernel
theorem boot_isinstance : bootBuiltins "isinstance" = some (.builtin "isinstance") := by decide +kernel
theorem boot_len : bootBuiltins "len" = some (.builtin "len") := by decide +kernel
theorem boot_list : bootBuiltins "list" = some (.type "list") := by decide +kernel
theorem boot_max : bootBuiltins "max" = some (.builtin "max") := by decide +kernel
theorem boot_min : bootBuiltins "min" = some (.builtin "min") := by decide +kernel
theorem boot_range : bootBuiltins "range" = some (.type "range") := by decide +kernel
theorem boot_repr : bootBuiltins "repr" = some (.builtin "repr") := by decide +kernel
theorem boot_sorted : bootBuiltins "sorted" = some (.builtin "sorted") := by decide +kernel
theorem boot_str : bootBuiltins "str" = some (.type "str") := by decide +kernel
theorem boot_tuple : bootBuiltins "tuple" = some (.type "tuple") := by decide +kernel
section
variable {P : Program} {w : World} {Y : Xd} {mg : Str → Option Value} {base h : Heap}
theorem sc_law_begin : FnScope ["_law_cell", "_law_turn"] ["_law_cell", "_law_turn"] (defScope s_law_begin) := ⟨rfl, rfl, rfl, by decide +kernel, rfl, by decide +kernel, by decide +kernel⟩
set_option maxHeartbeats 4000000 in
theorem ok_law_begin (T : Txt Y mg base)  (cdv : Value) (f : Addr) (A : Around) (outer : List Env) (s : Shared) (H : Hp) (E : XK) (hr : Rm 1 (A.deeper (envOfC "_law_begin" (defScope s_law_begin) s.heap.objs.size f cdv))) :
  PSs (cxOf (L2.CX P w) P w Y.M.K mg base ["_law_cell", "_law_turn"] "_law_begin" (defScope s_law_begin) f cdv A outer s H E) (defBody s_law_begin) (tS Y (fun cls d _ H' => E cls d H') m_law_begin) :=
  have nd := sc_law_begin.nd
  have tk := takes_of (X := cxOf (L2.CX P w) P w Y.M.K mg base ["_law_cell", "_law_turn"] "_law_begin" (defScope s_law_begin) f cdv A outer s H E) rfl rfl rfl rfl
  have po := passes_of (X := cxOf (L2.CX P w) P w Y.M.K mg base ["_law_cell", "_law_turn"] "_law_begin" (defScope s_law_begin) f cdv A outer s H E) rfl
  (ss_one (ss_ret (se_lst true (sa_cons (se_callB (call_max2 rfl) bMax2_ok T.max_ boot_max (sa_cons se_int (sa_cons (se_op op_sub subI_ok (se_var 0) (se_op op_powW powI_ok se_int se_int)) sa_nil))) (sa_cons (se_op op_add4 (addI_ok rfl false) (se_var 0) (se_op op_mul2 (mulI_ok false) se_int (se_var 1))) (sa_cons se_int sa_nil))))))
theorem sc_law_draw : FnScope ["_law_state", "_law_size", "_law_found"] ["_law_state", "_law_size"] (defScope s_law_draw) := ⟨rfl, rfl, rfl, by decide +kernel, rfl, by decide +kernel, by decide +kernel⟩
set_option maxHeartbeats 4000000 in
theorem ok_law_draw (T : Txt Y mg base)  (cdv : Value) (f : Addr) (A : Around) (outer : List Env) (s : Shared) (H : Hp) (E : XK) (hr : Rm 1 (A.deeper (envOfC "_law_draw" (defScope s_law_draw) s.heap.objs.size f cdv))) :
  PSs (cxOf (L2.CX P w) P w Y.M.K mg base ["_law_state", "_law_size", "_law_found"] "_law_draw" (defScope s_law_draw) f cdv A outer s H E) (defBody s_law_draw) (tS Y (fun cls d _ H' => E cls d H') m_law_draw) :=
  have nd := sc_law_draw.nd
  have tk := takes_of (X := cxOf (L2.CX P w) P w Y.M.K mg base ["_law_state", "_law_size", "_law_found"] "_law_draw" (defScope s_law_draw) f cdv A outer s H E) rfl rfl rfl rfl
  have po := passes_of (X := cxOf (L2.CX P w) P w Y.M.K mg base ["_law_state", "_law_size", "_law_found"] "_law_draw" (defScope s_law_draw) f cdv A outer s H E) rfl
  (ss_cons (ss_if (st_cmp op_gt (cmpI_ok _) (se_ix (ix4 hr) (ixT_ok rfl) (se_var 0) se_int) se_int (nomark _)) (ss_cons (ss_set 2 nd (se_op op_modN modI_ok (se_callTy call_int1 bInt_ok T.int_ boot_int (sa_cons (se_ix (ix4 hr) (ixT_ok rfl) (se_var 0) se_int) sa_nil)) (se_var 1)))
  (ss_cons (ss_sub hr (se_var 0) se_int (se_op op_fdivN fdivI_ok (se_ix (ix4 hr) (ixT_ok rfl) (se_var 0) se_int) (se_var 1)))
  (ss_one (ss_ret (se_var 2))))) ss_nil)
  (ss_cons (ss_sub hr (se_var 0) se_int (se_op op_add4 (addI_ok rfl false) (se_ix (ix4 hr) (ixT_ok rfl) (se_var 0) se_int) se_int))
  (ss_cons (ss_set 2 nd (se_op op_add4 (addI_ok rfl false) (se_op op_modN modI_ok (se_callTy call_int1 bInt_ok T.int_ boot_int (sa_cons (se_ix (ix4 hr) (ixT_ok rfl) (se_var 0) se_int) sa_nil)) se_int) (se_op op_mul2 (mulI_ok false) se_int (se_ix (ix4 hr) (ixT_ok rfl) (se_var 0) se_int))))
  (ss_cons (ss_set 2 nd (se_op op_mul2 (mulI_ok false) (se_var 2) (se_op op_add4 (addI_ok rfl false) (se_op op_add4 (addI_ok rfl false) (se_op op_modN modI_ok (se_callTy call_int1 bInt_ok T.int_ boot_int (sa_cons (se_ix (ix4 hr) (ixT_ok rfl) (se_var 0) se_int) sa_nil)) se_int) (se_op op_mul2 (mulI_ok false) (se_op op_mul2 (mulI_ok false) se_int (se_ix (ix4 hr) (ixT_ok rfl) (se_var 0) se_int)) (se_ix (ix4 hr) (ixT_ok rfl) (se_var 0) se_int))) se_int)))
  (ss_one (ss_ret (se_op op_modN modI_ok (se_callTy call_int1 bInt_ok T.int_ boot_int (sa_cons (se_op op_fdivN fdivI_ok (se_op op_modN modI_ok (se_callTy call_int1 bInt_ok T.int_ boot_int (sa_cons (se_op op_powW powI_ok (se_var 2) se_int) sa_nil)) se_int) se_int) sa_nil)) (se_var 1))))))))
theorem sc_law_pick : FnScope ["_law_state", "_law_some"] ["_law_state", "_law_some"] (defScope s_law_pick) := ⟨rfl, rfl, rfl, by decide +kernel, rfl, by decide +kernel, by decide +kernel⟩
set_option maxHeartbeats 4000000 in
theorem ok_law_pick (T : Txt Y mg base) (D_law_draw : Def P w Y mg base "_law_draw" 2 ["_law_state", "_law_size"] F_law_draw []) (cdv : Value) (f : Addr) (A : Around) (outer : List Env) (s : Shared) (H : Hp) (E : XK) (hr : Rm 2 (A.deeper (envOfC "_law_pick" (defScope s_law_pick) s.heap.objs.size f cdv))) :
  PSs (cxOf (L2.CX P w) P w Y.M.K mg base ["_law_state", "_law_some"] "_law_pick" (defScope s_law_pick) f cdv A outer s H E) (defBody s_law_pick) (tS Y (fun cls d _ H' => E cls d H') m_law_pick) :=
  have nd := sc_law_pick.nd
  have tk := takes_of (X := cxOf (L2.CX P w) P w Y.M.K mg base ["_law_state", "_law_some"] "_law_pick" (defScope s_law_pick) f cdv A outer s H E) rfl rfl rfl rfl
  have po := passes_of (X := cxOf (L2.CX P w) P w Y.M.K mg base ["_law_state", "_law_some"] "_law_pick" (defScope s_law_pick) f cdv A outer s H E) rfl
  (ss_one (ss_ret (se_ix (ix4 hr) (ixT_ok rfl) (se_var 1) (sf D_law_draw (hr.mono (by decide)) tk (sa_cons (se_var 0) (sa_cons (se_callB call_len2 (bLen_ok rfl) T.len_ boot_len (sa_cons (se_var 1) sa_nil)) sa_nil))))))
theorem sc_law_names : FnScope ["_law_state", "_law_many", "_law_signs", "_law_first", "_law_found", "_law_at", "_law_last", "_law_name", "_law_sign"] ["_law_state", "_law_many"] (defScope s_law_names) := ⟨rfl, rfl, rfl, by decide +kernel, rfl, by decide +kernel, by decide +kernel⟩
set_option maxHeartbeats 4000000 in
theorem ok_law_names (T : Txt Y mg base) (D_law_draw : Def P w Y mg base "_law_draw" 2 ["_law_state", "_law_size"] F_law_draw []) (D_law_pick : Def P w Y mg base "_law_pick" 3 ["_law_state", "_law_some"] F_law_pick []) (cdv : Value) (f : Addr) (A : Around) (outer : List Env) (s : Shared) (H : Hp) (E : XK) (hr : Rm 3 (A.deeper (envOfC "_law_names" (defScope s_law_names) s.heap.objs.size f cdv))) :
  PSs (cxOf (L2.CX P w) P w Y.M.K mg base ["_law_state", "_law_many", "_law_signs", "_law_first", "_law_found", "_law_at", "_law_last", "_law_name", "_law_sign"] "_law_names" (defScope s_law_names) f cdv A outer s H E) (defBody s_law_names) (tS Y (fun cls d _ H' => E cls d H') m_law_names) :=
  have nd := sc_law_names.nd
  have tk := takes_of (X := cxOf (L2.CX P w) P w Y.M.K mg base ["_law_state", "_law_many", "_law_signs", "_law_first", "_law_found", "_law_at", "_law_last", "_law_name", "_law_sign"] "_law_names" (defScope s_law_names) f cdv A outer s H E) rfl rfl rfl rfl
  have po := passes_of (X := cxOf (L2.CX P w) P w Y.M.K mg base ["_law_state", "_law_many", "_law_signs", "_law_first", "_law_found", "_law_at", "_law_last", "_law_name", "_law_sign"] "_law_names" (defScope s_law_names) f cdv A outer s H E) rfl
  (ss_cons (ss_tgt (pg_tup (n := 2) rfl (pgs_cons (pg_name (i := 2) nd rfl (by first | exact Or.inl rfl | exact Or.inr rfl)) (pgs_cons (pg_name (i := 3) nd rfl (by first | exact Or.inl rfl | exact Or.inr rfl)) pgs_nil))) (gs_tup (gss_cons (gs_name 2) (gss_cons (gs_name 3) gss_nil))) (se_tup (sa_cons se_str (sa_cons (sf D_law_draw (hr.mono (by decide)) tk (sa_cons (se_var 0) (sa_cons se_int sa_nil))) sa_nil))))
  (ss_cons (ss_set 4 nd (se_lst true sa_nil))
  (ss_cons (ss_for po rfl (si_range1 (sa_cons (se_var 1) sa_nil) T.range_) (pg_name (i := 5) nd rfl (by first | exact Or.inl rfl | exact Or.inr rfl)) (gs_name 5) tk (fun _ tk => (ss_cons (ss_set 6 nd (se_ix (ix4 hr) (ixT_ok rfl) (se_var 2) (se_op op_modN modI_ok (se_callTy call_int1 bInt_ok T.int_ boot_int (sa_cons (se_op op_add4 (addI_ok rfl false) (se_var 3) (se_op op_mul2 (mulI_ok false) se_int (se_var 5))) sa_nil)) se_int)))
  (ss_cons (ss_if (st_cmp op_gt (cmpI_ok _) (se_var 1) se_int (nomark _)) (ss_one (ss_set 6 nd (se_op op_add4 (addI_ok rfl false) (se_ix (ix4 hr) (ixT_ok rfl) (se_var 2) (se_op op_fdivN fdivI_ok (se_var 5) se_int)) (se_var 6)))) ss_nil)
  (ss_cons (ss_set 7 nd (se_bm F.plainAttrs_str F.slot_str_join F.type_str_join mt_join (ms_join rfl) se_str (sa_cons (se_lc false [("_law_sign", 8)] nd (si_range1 (sa_cons (sf D_law_draw (hr.mono (by decide)) tk (sa_cons (se_var 0) (sa_cons (se_op op_sub subI_ok se_int (se_callB call_len2 (bLen_ok rfl) T.len_ boot_len (sa_cons (se_var 6) sa_nil))) sa_nil))) sa_nil) T.range_) (by show blkC ["_law_state", "_law_many", "_law_signs", "_law_first", "_law_found", "_law_at", "_law_last", "_law_name", "_law_sign"] (defScope s_law_names) _ _ = true; decide +kernel) (fun _ _ _ _ _ => (pg_name (i := 8) nd rfl (by first | exact Or.inl rfl | exact Or.inr rfl))) (gs_name 8) (fun _ _ _ _ _ => pt0) (fun _ _ _ _ _ => (sf D_law_pick (hr.mono (by decide)) takes0 (sa_cons (se_var 0) (sa_cons (se_var 2) sa_nil))))) sa_nil)))
  (ss_one (ss_expr (se_bm F.plainAttrs_list F.slot_list_append F.type_list_append mt_append (ms_append rfl) (se_var 4) (sa_cons (se_op op_add4 (addI_ok rfl false) (se_var 7) (se_var 6)) sa_nil)))))))))
  (ss_one (ss_ret (se_fz (se_var 4)))))))
theorem sc_law_mixed : FnScope ["_law_state", "_law_some", "_law_left", "_law_found", "_law_at"] ["_law_state", "_law_some"] (defScope s_law_mixed) := ⟨rfl, rfl, rfl, by decide +kernel, rfl, by decide +kernel, by decide +kernel⟩
set_option maxHeartbeats 4000000 in
theorem ok_law_mixed (T : Txt Y mg base) (D_law_draw : Def P w Y mg base "_law_draw" 2 ["_law_state", "_law_size"] F_law_draw []) (cdv : Value) (f : Addr) (A : Around) (outer : List Env) (s : Shared) (H : Hp) (E : XK) (hr : Rm 2 (A.deeper (envOfC "_law_mixed" (defScope s_law_mixed) s.heap.objs.size f cdv))) :
  PSs (cxOf (L2.CX P w) P w Y.M.K mg base ["_law_state", "_law_some", "_law_left", "_law_found", "_law_at"] "_law_mixed" (defScope s_law_mixed) f cdv A outer s H E) (defBody s_law_mixed) (tS Y (fun cls d _ H' => E cls d H') m_law_mixed) :=
  have nd := sc_law_mixed.nd
  have tk := takes_of (X := cxOf (L2.CX P w) P w Y.M.K mg base ["_law_state", "_law_some", "_law_left", "_law_found", "_law_at"] "_law_mixed" (defScope s_law_mixed) f cdv A outer s H E) rfl rfl rfl rfl
  have po := passes_of (X := cxOf (L2.CX P w) P w Y.M.K mg base ["_law_state", "_law_some", "_law_left", "_law_found", "_law_at"] "_law_mixed" (defScope s_law_mixed) f cdv A outer s H E) rfl
  (ss_cons (ss_par 2 3 nd (sa_cons (se_callTy (call_list2 rfl) (bList_ok rfl false) T.list_ boot_list (sa_cons (se_var 1) sa_nil)) (sa_cons (se_lst true sa_nil) sa_nil)))
  (ss_cons (ss_while 100000 po (st_cmp op_cq (neI_ok hr rfl) (se_var 2) (se_lst false sa_nil) (nomark _)) (ss_cons (ss_set 4 nd (sf D_law_draw (hr.mono (by decide)) tk (sa_cons (se_var 0) (sa_cons (se_callB call_len2 (bLen_ok rfl) T.len_ boot_len (sa_cons (se_var 2) sa_nil)) sa_nil))))
  (ss_cons (ss_expr (se_bm F.plainAttrs_list F.slot_list_append F.type_list_append mt_append (ms_append rfl) (se_var 3) (sa_cons (se_ix (ix4 hr) (ixT_ok rfl) (se_var 2) (se_var 4)) sa_nil)))
  (ss_one (ss_set 2 nd (se_op op_add4 (addI_ok rfl false) (se_slice false (se_var 2) so_no (so_some (se_var 4))) (se_slice false (se_var 2) (so_some (se_op op_add4 (addI_ok rfl false) (se_var 4) se_int)) so_no)))))))
  (ss_one (ss_ret (se_fz (se_var 3))))))
theorem sc_law_labels : FnScope ["_law_state", "_law_most", "_law_way", "_law_many", "_law_some", "_law_names_here", "_law_found", "_law_at", "_law_name"] ["_law_state", "_law_most"] (defScope s_law_labels) := ⟨rfl, rfl, rfl, by decide +kernel, rfl, by decide +kernel, by decide +kernel⟩
set_option maxHeartbeats 4000000 in
theorem ok_law_labels (T : Txt Y mg base) (D_law_draw : Def P w Y mg base "_law_draw" 2 ["_law_state", "_law_size"] F_law_draw []) (D_law_names : Def P w Y mg base "_law_names" 4 ["_law_state", "_law_many"] F_law_names []) (D_law_mixed : Def P w Y mg base "_law_mixed" 3 ["_law_state", "_law_some"] F_law_mixed []) (D_law_pick : Def P w Y mg base "_law_pick" 3 ["_law_state", "_law_some"] F_law_pick []) (cdv : Value) (f : Addr) (A : Around) (outer : List Env) (s : Shared) (H : Hp) (E : XK) (hr : Rm 4 (A.deeper (envOfC "_law_labels" (defScope s_law_labels) s.heap.objs.size f cdv))) :
  PSs (cxOf (L2.CX P w) P w Y.M.K mg base ["_law_state", "_law_most", "_law_way", "_law_many", "_law_some", "_law_names_here", "_law_found", "_law_at", "_law_name"] "_law_labels" (defScope s_law_labels) f cdv A outer s H E) (defBody s_law_labels) (tS Y (fun cls d _ H' => E cls d H') m_law_labels) :=
  have nd := sc_law_labels.nd
  have tk := takes_of (X := cxOf (L2.CX P w) P w Y.M.K mg base ["_law_state", "_law_most", "_law_way", "_law_many", "_law_some", "_law_names_here", "_law_found", "_law_at", "_law_name"] "_law_labels" (defScope s_law_labels) f cdv A outer s H E) rfl rfl rfl rfl
  have po := passes_of (X := cxOf (L2.CX P w) P w Y.M.K mg base ["_law_state", "_law_most", "_law_way", "_law_many", "_law_some", "_law_names_here", "_law_found", "_law_at", "_law_name"] "_law_labels" (defScope s_law_labels) f cdv A outer s H E) rfl
  (ss_cons (ss_par 2 3 nd (sa_cons (sf D_law_draw (hr.mono (by decide)) tk (sa_cons (se_var 0) (sa_cons se_int sa_nil))) (sa_cons (se_op op_add4 (addI_ok rfl false) se_int (sf D_law_draw (hr.mono (by decide)) tk (sa_cons (se_var 0) (sa_cons (se_var 1) sa_nil)))) sa_nil)))
  (ss_cons (ss_par3 4 5 6 nd (sa_cons (se_op op_add4 (addI_ok rfl false) se_int (sf D_law_draw (hr.mono (by decide)) tk (sa_cons (se_var 0) (sa_cons (se_var 3) sa_nil)))) (sa_cons (sf D_law_mixed (hr.mono (by decide)) tk (sa_cons (se_var 0) (sa_cons (sf D_law_names (hr.mono (by decide)) tk (sa_cons (se_var 0) (sa_cons (se_var 3) sa_nil))) sa_nil))) (sa_cons (se_dic0 true) sa_nil))))
  (ss_cons (ss_for po rfl (si_enum (sa_cons (se_var 5) sa_nil) T.enumerate_) (pg_tup (n := 2) rfl (pgs_cons (pg_name (i := 7) nd rfl (by first | exact Or.inl rfl | exact Or.inr rfl)) (pgs_cons (pg_name (i := 8) nd rfl (by first | exact Or.inl rfl | exact Or.inr rfl)) pgs_nil))) (gs_tup (gss_cons (gs_name 7) (gss_cons (gs_name 8) gss_nil))) tk (fun _ tk => (ss_cons (ss_sub hr (se_var 6) (se_var 8) (sf D_law_pick (hr.mono (by decide)) tk (sa_cons (se_var 0) (sa_cons (se_var 5) sa_nil))))
  (ss_one (ss_if (st_cmp op_cq (eqI_ok hr rfl) (se_var 2) se_int (nomark _)) (ss_one (ss_sub hr (se_var 6) (se_var 8) (se_ix (ix4 hr) (ixT_ok rfl) (se_var 5) (sf D_law_draw (hr.mono (by decide)) tk (sa_cons (se_var 0) (sa_cons (se_op op_add4 (addI_ok rfl false) (se_var 7) se_int) sa_nil)))))) (ss_one (ss_if (sw_pt (sw_and (st_cmp op_cq (eqI_ok hr rfl) (se_var 2) se_int (nomark _)) (sw_and1 (st_cmp op_lt (cmpI_ok _) (se_var 7) (se_var 4) (nomark _))))) (ss_one (ss_sub hr (se_var 6) (se_var 8) (se_ix (ix4 hr) (ixT_ok rfl) (se_var 5) (se_op op_modN modI_ok (se_callTy call_int1 bInt_ok T.int_ boot_int (sa_cons (se_op op_add4 (addI_ok rfl false) (se_var 7) se_int) sa_nil)) (se_var 4))))) (ss_one (ss_if (st_cmp op_cq (eqI_ok hr rfl) (se_var 2) se_int (nomark _)) (ss_one (ss_sub hr (se_var 6) (se_var 8) (se_ix (ix4 hr) (ixT_ok rfl) (se_var 5) (sf D_law_draw (hr.mono (by decide)) tk (sa_cons (se_var 0) (sa_cons (se_callB (call_min2 rfl) bMin2_ok T.min_ boot_min (sa_cons (se_var 7) (sa_cons (se_op op_add4 (addI_ok rfl false) (se_var 4) se_int) sa_nil))) sa_nil)))))) (ss_one (ss_if (st_cmp op_cq (eqI_ok hr rfl) (se_var 2) se_int (nomark _)) (ss_one (ss_sub hr (se_var 6) (se_var 8) (se_ix (ix4 hr) (ixT_ok rfl) (se_var 5) (sf D_law_draw (hr.mono (by decide)) tk (sa_cons (se_var 0) (sa_cons (se_var 4) sa_nil)))))) (ss_one (ss_if (sw_pt (sw_and (st_cmp op_cq (eqI_ok hr rfl) (se_var 2) se_int (nomark _)) (sw_and1 (st_cmp op_gt (cmpI_ok _) (sf D_law_draw (hr.mono (by decide)) tk (sa_cons (se_var 0) (sa_cons se_int sa_nil))) se_int (nomark _))))) (ss_one (ss_sub hr (se_var 6) (se_var 8) (se_ix (ix4 hr) (ixT_ok rfl) (se_var 5) (se_op op_modN modI_ok (se_callTy call_int1 bInt_ok T.int_ boot_int (sa_cons (se_op op_add4 (addI_ok rfl false) (se_var 7) (se_var 4)) sa_nil)) (se_var 3))))) ss_nil)))))))))))))
  (ss_one (ss_ret (se_fz (se_var 6)))))))
theorem sc_is_name : FnScope ["value"] ["value"] (defScope s_is_name) := ⟨rfl, rfl, rfl, by decide +kernel, rfl, by decide +kernel, by decide +kernel⟩
set_option maxHeartbeats 4000000 in
theorem ok_is_name (T : Txt Y mg base)  (cdv : Value) (f : Addr) (A : Around) (outer : List Env) (s : Shared) (H : Hp) (E : XK) (hr : Rm 1 (A.deeper (envOfC "is_name" (defScope s_is_name) s.heap.objs.size f cdv))) :
  PSs (cxOf (L2.CX P w) P w Y.M.K mg base ["value"] "is_name" (defScope s_is_name) f cdv A outer s H E) (defBody s_is_name) (tS Y (fun cls d _ H' => E cls d H') m_is_name) :=
  have nd := sc_is_name.nd
  have tk := takes_of (X := cxOf (L2.CX P w) P w Y.M.K mg base ["value"] "is_name" (defScope s_is_name) f cdv A outer s H E) rfl rfl rfl rfl
  have po := passes_of (X := cxOf (L2.CX P w) P w Y.M.K mg base ["value"] "is_name" (defScope s_is_name) f cdv A outer s H E) rfl
  (ss_cons (ss_if (sw_pt (sw_or (st_not (st_val (se_callB call_isi (bIsi_ok rfl) T.isinstance_ boot_isinstance (sa_cons (se_var 0) (sa_cons (se_ty T.str_ boot_str) sa_nil))))) (sw_or1 (st_not (st_chain op_le (cmpI_ok _) op_le (cmpI_ok _) se_int (se_callB call_len2 (bLen_ok rfl) T.len_ boot_len (sa_cons (se_var 0) sa_nil)) se_int))))) (ss_one (ss_ret se_bl)) ss_nil)
  (ss_one (ss_ret (se_and (se_bm0 F.plainAttrs_str F.slot_str_isascii F.type_str_isascii mt_isascii (ms_str0 _) (se_var 0)) (se_and (se_bm0 F.plainAttrs_str F.slot_str_isalpha F.type_str_isalpha mt_isalpha (ms_str0 _) (se_var 0)) (se_one (se_bm0 F.plainAttrs_str F.slot_str_islower F.type_str_islower mt_islower (ms_str0 _) (se_var 0))))))))
theorem sc_are_labels : FnScope ["value", "most", "box", "label"] ["value", "most"] (defScope s_are_labels) := ⟨rfl, rfl, rfl, by decide +kernel, rfl, by decide +kernel, by decide +kernel⟩
set_option maxHeartbeats 4000000 in
theorem ok_are_labels (T : Txt Y mg base) (D_is_name : Def P w Y mg base "is_name" 2 ["value"] F_is_name []) (cdv : Value) (f : Addr) (A : Around) (outer : List Env) (s : Shared) (H : Hp) (E : XK) (hr : Rm 2 (A.deeper (envOfC "are_labels" (defScope s_are_labels) s.heap.objs.size f cdv))) :
  PSs (cxOf (L2.CX P w) P w Y.M.K mg base ["value", "most", "box", "label"] "are_labels" (defScope s_are_labels) f cdv A outer s H E) (defBody s_are_labels) (tS Y (fun cls d _ H' => E cls d H') m_are_labels) :=
  have nd := sc_are_labels.nd
  have tk := takes_of (X := cxOf (L2.CX P w) P w Y.M.K mg base ["value", "most", "box", "label"] "are_labels" (defScope s_are_labels) f cdv A outer s H E) rfl rfl rfl rfl
  have po := passes_of (X := cxOf (L2.CX P w) P w Y.M.K mg base ["value", "most", "box", "label"] "are_labels" (defScope s_are_labels) f cdv A outer s H E) rfl
  (ss_cons (ss_if (sw_pt (sw_or (st_not (st_val (se_callB call_isi (bIsi_ok rfl) T.isinstance_ boot_isinstance (sa_cons (se_var 0) (sa_cons (se_ty T.dict_ boot_dict) sa_nil))))) (sw_or1 (st_not (st_chain op_le (cmpI_ok _) op_le (cmpI_ok _) se_int (se_callB call_len2 (bLen_ok rfl) T.len_ boot_len (sa_cons (se_var 0) sa_nil)) (se_var 1)))))) (ss_one (ss_ret se_bl)) ss_nil)
  (ss_cons (ss_if (st_not (st_val (se_callB (cr_all rfl) (bAA_ok _) T.all_ boot_all (sa_cons (se_lc false [("box", 2)] nd (si_seq (se_var 0)) (by show blkC ["value", "most", "box", "label"] (defScope s_are_labels) _ _ = true; decide +kernel) (fun _ _ _ _ _ => (pg_name (i := 2) nd rfl (by first | exact Or.inl rfl | exact Or.inr rfl))) (gs_name 2) (fun _ _ _ _ _ => pt0) (fun _ _ _ _ _ => (sf D_is_name (hr.mono (by decide)) takes0 (sa_cons (se_var 2) sa_nil)))) sa_nil)))) (ss_one (ss_ret se_bl)) ss_nil)
  (ss_one (ss_ret (se_callB (cr_all rfl) (bAA_ok _) T.all_ boot_all (sa_cons (se_lc false [("label", 3)] nd (si_vals (se_var 0)) (by show blkC ["value", "most", "box", "label"] (defScope s_are_labels) _ _ = true; decide +kernel) (fun _ _ _ _ _ => (pg_name (i := 3) nd rfl (by first | exact Or.inl rfl | exact Or.inr rfl))) (gs_name 3) (fun _ _ _ _ _ => pt0) (fun _ _ _ _ _ => (se_and (sf D_is_name (hr.mono (by decide)) takes0 (sa_cons (se_var 3) sa_nil)) (se_one (se_cmp (op_in3 hr) (inT_ok rfl false) (se_var 3) (se_var 0) rfl))))) sa_nil))))))
theorem sc_Board__init : FnScope ["self", "labels", "box"] ["self", "labels"] (defScope s_Board__init) := ⟨rfl, rfl, rfl, by decide +kernel, rfl, by decide +kernel, by decide +kernel⟩
set_option maxHeartbeats 4000000 in
theorem ok_Board__init (T : Txt Y mg base) (D_are_labels : Def P w Y mg base "are_labels" 3 ["value", "most"] F_are_labels []) (cdv : Value) (f : Addr) (A : Around) (outer : List Env) (s : Shared) (H : Hp) (E : XK) (hr : Rm 3 (A.deeper (envOfC "Board.__init__" (defScope s_Board__init) s.heap.objs.size f cdv))) :
  PSs (cxOf (L2.CX P w) P w Y.M.K mg base ["self", "labels", "box"] "Board.__init__" (defScope s_Board__init) f cdv A outer s H E) (defBody s_Board__init) (tS Y (fun cls d _ H' => E cls d H') m_Board__init) :=
  have nd := sc_Board__init.nd
  have tk := takes_of (X := cxOf (L2.CX P w) P w Y.M.K mg base ["self", "labels", "box"] "Board.__init__" (defScope s_Board__init) f cdv A outer s H E) rfl rfl rfl rfl
  have po := passes_of (X := cxOf (L2.CX P w) P w Y.M.K mg base ["self", "labels", "box"] "Board.__init__" (defScope s_Board__init) f cdv A outer s H E) rfl
  (ss_cons (ss_if (st_not (st_val (sf D_are_labels (hr.mono (by decide)) tk (sa_cons (se_var 1) (sa_cons (se_ccon T.k_Board_MOST T.g_Board) sa_nil))))) (ss_one ss_stk) ss_nil)
  (ss_one (ss_fld T.c_Board T.n_Board_homes (se_var 0) (se_dc false [("box", 2)] nd (si_seq (se_callB call_sort2 (bSort_ok rfl false) T.sorted_ boot_sorted (sa_cons (se_callTy (call_list2 rfl) (bList_ok rfl false) T.list_ boot_list (sa_cons (se_var 1) sa_nil)) sa_nil))) (by show blkC ["self", "labels", "box"] (defScope s_Board__init) _ _ = true; decide +kernel) (fun _ _ _ _ _ => (pg_name (i := 2) nd rfl (by first | exact Or.inl rfl | exact Or.inr rfl))) (gs_name 2) (fun _ _ _ _ _ => pt0) (fun _ _ _ _ _ => (se_var 2)) (fun _ _ _ _ _ => (se_ix (ix4 hr) (ixT_ok rfl) (se_var 1) (se_var 2)))))))
theorem sc_Play__init : FnScope ["self", "board"] ["self", "board"] (defScope s_Play__init) := ⟨rfl, rfl, rfl, by decide +kernel, rfl, by decide +kernel, by decide +kernel⟩
set_option maxHeartbeats 4000000 in
theorem ok_Play__init (T : Txt Y mg base)  (cdv : Value) (f : Addr) (A : Around) (outer : List Env) (s : Shared) (H : Hp) (E : XK) (hr : Rm 1 (A.deeper (envOfC "Play.__init__" (defScope s_Play__init) s.heap.objs.size f cdv))) :
  PSs (cxOf (L2.CX P w) P w Y.M.K mg base ["self", "board"] "Play.__init__" (defScope s_Play__init) f cdv A outer s H E) (defBody s_Play__init) (tS Y (fun cls d _ H' => E cls d H') m_Play__init) :=
  have nd := sc_Play__init.nd
  have tk := takes_of (X := cxOf (L2.CX P w) P w Y.M.K mg base ["self", "board"] "Play.__init__" (defScope s_Play__init) f cdv A outer s H E) rfl rfl rfl rfl
  have po := passes_of (X := cxOf (L2.CX P w) P w Y.M.K mg base ["self", "board"] "Play.__init__" (defScope s_Play__init) f cdv A outer s H E) rfl
  (ss_cons (ss_fld T.c_Play T.n_Play_start (se_var 0) (se_var 1))
  (ss_cons (ss_fld T.c_Play T.n_Play_here (se_var 0) (se_var 1))
  (ss_one (ss_fld T.c_Play T.n_Play_made (se_var 0) (se_tup sa_nil)))))
theorem sc_law_after : FnScope ["_law_labels_here", "_law_box", "_law_found"] ["_law_labels_here", "_law_box"] (defScope s_law_after) := ⟨rfl, rfl, rfl, by decide +kernel, rfl, by decide +kernel, by decide +kernel⟩
set_option maxHeartbeats 4000000 in
theorem ok_law_after (T : Txt Y mg base)  (cdv : Value) (f : Addr) (A : Around) (outer : List Env) (s : Shared) (H : Hp) (E : XK) (hr : Rm 1 (A.deeper (envOfC "_law_after" (defScope s_law_after) s.heap.objs.size f cdv))) :
  PSs (cxOf (L2.CX P w) P w Y.M.K mg base ["_law_labels_here", "_law_box", "_law_found"] "_law_after" (defScope s_law_after) f cdv A outer s H E) (defBody s_law_after) (tS Y (fun cls d _ H' => E cls d H') m_law_after) :=
  have nd := sc_law_after.nd
  have tk := takes_of (X := cxOf (L2.CX P w) P w Y.M.K mg base ["_law_labels_here", "_law_box", "_law_found"] "_law_after" (defScope s_law_after) f cdv A outer s H E) rfl rfl rfl rfl
  have po := passes_of (X := cxOf (L2.CX P w) P w Y.M.K mg base ["_law_labels_here", "_law_box", "_law_found"] "_law_after" (defScope s_law_after) f cdv A outer s H E) rfl
  (ss_cons (ss_set 2 nd (se_callTy (call_dict2 rfl) (bDict_ok rfl true) T.dict_ boot_dict (sa_cons (se_var 0) sa_nil)))
  (ss_cons (ss_sub hr (se_var 2) (se_var 1) (se_ix (ix4 hr) (ixT_ok rfl) (se_var 0) (se_ix (ix4 hr) (ixT_ok rfl) (se_var 0) (se_var 1))))
  (ss_cons (ss_sub hr (se_var 2) (se_ix (ix4 hr) (ixT_ok rfl) (se_var 0) (se_var 1)) (se_ix (ix4 hr) (ixT_ok rfl) (se_var 0) (se_var 1)))
  (ss_one (ss_ret (se_fz (se_var 2)))))))
theorem sc_law_here : FnScope ["_law_labels_here", "_law_moves", "_law_box"] ["_law_labels_here", "_law_moves"] (defScope s_law_here) := ⟨rfl, rfl, rfl, by decide +kernel, rfl, by decide +kernel, by decide +kernel⟩
set_option maxHeartbeats 4000000 in
theorem ok_law_here (T : Txt Y mg base) (D_law_after : Def P w Y mg base "_law_after" 2 ["_law_labels_here", "_law_box"] F_law_after []) (cdv : Value) (f : Addr) (A : Around) (outer : List Env) (s : Shared) (H : Hp) (E : XK) (hr : Rm 2 (A.deeper (envOfC "_law_here" (defScope s_law_here) s.heap.objs.size f cdv))) :
  PSs (cxOf (L2.CX P w) P w Y.M.K mg base ["_law_labels_here", "_law_moves", "_law_box"] "_law_here" (defScope s_law_here) f cdv A outer s H E) (defBody s_law_here) (tS Y (fun cls d _ H' => E cls d H') m_law_here) :=
  have nd := sc_law_here.nd
  have tk := takes_of (X := cxOf (L2.CX P w) P w Y.M.K mg base ["_law_labels_here", "_law_moves", "_law_box"] "_law_here" (defScope s_law_here) f cdv A outer s H E) rfl rfl rfl rfl
  have po := passes_of (X := cxOf (L2.CX P w) P w Y.M.K mg base ["_law_labels_here", "_law_moves", "_law_box"] "_law_here" (defScope s_law_here) f cdv A outer s H E) rfl
  (ss_cons (ss_for po rfl (si_seq (se_var 1)) (pg_name (i := 2) nd rfl (by first | exact Or.inl rfl | exact Or.inr rfl)) (gs_name 2) tk (fun _ tk => (ss_one (ss_set 0 nd (sf D_law_after (hr.mono (by decide)) tk (sa_cons (se_var 0) (sa_cons (se_var 2) sa_nil)))))))
  (ss_one (ss_ret (se_var 0))))
theorem sc_law_movable : FnScope ["_law_labels_here", "_law_box"] ["_law_labels_here"] (defScope s_law_movable) := ⟨rfl, rfl, rfl, by decide +kernel, rfl, by decide +kernel, by decide +kernel⟩
set_option maxHeartbeats 4000000 in
theorem ok_law_movable (T : Txt Y mg base)  (cdv : Value) (f : Addr) (A : Around) (outer : List Env) (s : Shared) (H : Hp) (E : XK) (hr : Rm 1 (A.deeper (envOfC "_law_movable" (defScope s_law_movable) s.heap.objs.size f cdv))) :
  PSs (cxOf (L2.CX P w) P w Y.M.K mg base ["_law_labels_here", "_law_box"] "_law_movable" (defScope s_law_movable) f cdv A outer s H E) (defBody s_law_movable) (tS Y (fun cls d _ H' => E cls d H') m_law_movable) :=
  have nd := sc_law_movable.nd
  have tk := takes_of (X := cxOf (L2.CX P w) P w Y.M.K mg base ["_law_labels_here", "_law_box"] "_law_movable" (defScope s_law_movable) f cdv A outer s H E) rfl rfl rfl rfl
  have po := passes_of (X := cxOf (L2.CX P w) P w Y.M.K mg base ["_law_labels_here", "_law_box"] "_law_movable" (defScope s_law_movable) f cdv A outer s H E) rfl
  (ss_one (ss_ret (se_callB call_sort2 (bSort_ok rfl false) T.sorted_ boot_sorted (sa_cons (se_lc false [("_law_box", 1)] nd (si_seq (se_var 0)) (by show blkC ["_law_labels_here", "_law_box"] (defScope s_law_movable) _ _ = true; decide +kernel) (fun _ _ _ _ _ => (pg_name (i := 1) nd rfl (by first | exact Or.inl rfl | exact Or.inr rfl))) (gs_name 1) (fun _ _ _ _ _ => (pt1 (sw_pt (sw_and (st_cmp op_cq (neI_ok hr rfl) (se_ix (ix4 hr) (ixT_ok rfl) (se_var 0) (se_var 1)) (se_var 1) (nomark _)) (sw_and1 (st_cmp op_cq (neI_ok hr rfl) (se_ix (ix4 hr) (ixT_ok rfl) (se_var 0) (se_ix (ix4 hr) (ixT_ok rfl) (se_var 0) (se_var 1))) (se_ix (ix4 hr) (ixT_ok rfl) (se_var 0) (se_var 1)) (nomark _))))))) (fun _ _ _ _ _ => (se_var 1))) sa_nil))))
theorem sc_Board_movable : FnScope ["self", "found", "box", "home"] ["self"] (defScope s_Board_movable) := ⟨rfl, rfl, rfl, by decide +kernel, rfl, by decide +kernel, by decide +kernel⟩
set_option maxHeartbeats 4000000 in
theorem ok_Board_movable (T : Txt Y mg base)  (cdv : Value) (f : Addr) (A : Around) (outer : List Env) (s : Shared) (H : Hp) (E : XK) (hr : Rm 1 (A.deeper (envOfC "Board.movable" (defScope s_Board_movable) s.heap.objs.size f cdv))) :
  PSs (cxOf (L2.CX P w) P w Y.M.K mg base ["self", "found", "box", "home"] "Board.movable" (defScope s_Board_movable) f cdv A outer s H E) (defBody s_Board_movable) (tS Y (fun cls d _ H' => E cls d H') m_Board_movable) :=
  have nd := sc_Board_movable.nd
  have tk := takes_of (X := cxOf (L2.CX P w) P w Y.M.K mg base ["self", "found", "box", "home"] "Board.movable" (defScope s_Board_movable) f cdv A outer s H E) rfl rfl rfl rfl
  have po := passes_of (X := cxOf (L2.CX P w) P w Y.M.K mg base ["self", "found", "box", "home"] "Board.movable" (defScope s_Board_movable) f cdv A outer s H E) rfl
  (ss_cons (ss_set 1 nd (se_lst true sa_nil))
  (ss_cons (ss_for po rfl (si_items (se_fld T.c_Board T.n_Board_homes (se_var 0))) (pg_tup (n := 2) rfl (pgs_cons (pg_name (i := 2) nd rfl (by first | exact Or.inl rfl | exact Or.inr rfl)) (pgs_cons (pg_name (i := 3) nd rfl (by first | exact Or.inl rfl | exact Or.inr rfl)) pgs_nil))) (gs_tup (gss_cons (gs_name 2) (gss_cons (gs_name 3) gss_nil))) tk (fun _ tk => (ss_one (ss_if (sw_pt (sw_and (st_cmp op_cq (neI_ok hr rfl) (se_var 3) (se_var 2) (nomark _)) (sw_and1 (st_cmp op_cq (neI_ok hr rfl) (se_ix (ix4 hr) (ixT_ok rfl) (se_fld T.c_Board T.n_Board_homes (se_var 0)) (se_var 3)) (se_var 3) (nomark _))))) (ss_one (ss_expr (se_bm F.plainAttrs_list F.slot_list_append F.type_list_append mt_append (ms_append rfl) (se_var 1) (sa_cons (se_var 2) sa_nil)))) ss_nil))))
  (ss_one (ss_ret (se_fz (se_var 1))))))
theorem sc_Board__contains : FnScope ["self", "name"] ["self", "name"] (defScope s_Board__contains) := ⟨rfl, rfl, rfl, by decide +kernel, rfl, by decide +kernel, by decide +kernel⟩
set_option maxHeartbeats 4000000 in
theorem ok_Board__contains (T : Txt Y mg base)  (cdv : Value) (f : Addr) (A : Around) (outer : List Env) (s : Shared) (H : Hp) (E : XK) (hr : Rm 1 (A.deeper (envOfC "Board.__contains__" (defScope s_Board__contains) s.heap.objs.size f cdv))) :
  PSs (cxOf (L2.CX P w) P w Y.M.K mg base ["self", "name"] "Board.__contains__" (defScope s_Board__contains) f cdv A outer s H E) (defBody s_Board__contains) (tS Y (fun cls d _ H' => E cls d H') m_Board__contains) :=
  have nd := sc_Board__contains.nd
  have tk := takes_of (X := cxOf (L2.CX P w) P w Y.M.K mg base ["self", "name"] "Board.__contains__" (defScope s_Board__contains) f cdv A outer s H E) rfl rfl rfl rfl
  have po := passes_of (X := cxOf (L2.CX P w) P w Y.M.K mg base ["self", "name"] "Board.__contains__" (defScope s_Board__contains) f cdv A outer s H E) rfl
  (ss_one (ss_ret (se_and (se_callB call_isi (bIsi_ok rfl) T.isinstance_ boot_isinstance (sa_cons (se_var 1) (sa_cons (se_ty T.str_ boot_str) sa_nil))) (se_one (se_cmp (op_in3 hr) (inT_ok rfl false) (se_var 1) (se_fld T.c_Board T.n_Board_homes (se_var 0)) rfl)))))
theorem sc_Board__rshift : FnScope ["self", "box", "home", "changed", "name"] ["self", "box"] (defScope s_Board__rshift) := ⟨rfl, rfl, rfl, by decide +kernel, rfl, by decide +kernel, by decide +kernel⟩
set_option maxHeartbeats 4000000 in
theorem ok_Board__rshift (T : Txt Y mg base) (D_Board_movable : MDef P w Y mg base "Board" "movable" 2 ["self"] F_Board_movable []) (D_Board__init : CDef P w Y mg base "Board" 4 ["self", "labels"] F_Board__init []) (cdv : Value) (f : Addr) (A : Around) (outer : List Env) (s : Shared) (H : Hp) (E : XK) (hr : Rm 5 (A.deeper (envOfC "Board.__rshift__" (defScope s_Board__rshift) s.heap.objs.size f cdv))) :
  PSs (cxOf (L2.CX P w) P w Y.M.K mg base ["self", "box", "home", "changed", "name"] "Board.__rshift__" (defScope s_Board__rshift) f cdv A outer s H E) (defBody s_Board__rshift) (tS Y (fun cls d _ H' => E cls d H') m_Board__rshift) :=
  have nd := sc_Board__rshift.nd
  have tk := takes_of (X := cxOf (L2.CX P w) P w Y.M.K mg base ["self", "box", "home", "changed", "name"] "Board.__rshift__" (defScope s_Board__rshift) f cdv A outer s H E) rfl rfl rfl rfl
  have po := passes_of (X := cxOf (L2.CX P w) P w Y.M.K mg base ["self", "box", "home", "changed", "name"] "Board.__rshift__" (defScope s_Board__rshift) f cdv A outer s H E) rfl
  (ss_cons (ss_if (sw_pt (sw_or (st_not (st_val (se_callB call_isi (bIsi_ok rfl) T.isinstance_ boot_isinstance (sa_cons (se_var 1) (sa_cons (se_ty T.str_ boot_str) sa_nil))))) (sw_or1 (st_cmp (op_nin3 hr) (inT_ok rfl true) (se_var 1) (se_meth0 T.c_Board D_Board_movable (hr.mono (by decide)) tk (se_var 0)) rfl)))) (ss_one ss_stk) ss_nil)
  (ss_cons (ss_set 2 nd (se_ix (ix4 hr) (ixT_ok rfl) (se_fld T.c_Board T.n_Board_homes (se_var 0)) (se_var 1)))
  (ss_cons (ss_set 3 nd (se_fz (se_disp (spr_cons (se_var 1) (se_ix (ix4 hr) (ixT_ok rfl) (se_fld T.c_Board T.n_Board_homes (se_var 0)) (se_var 2)) (spr_cons (se_var 2) (se_var 2) spr_nil)))))
  (ss_one (ss_ret (se_fz (se_make D_Board__init (hr.mono (by decide)) tk (sa_cons (se_dc false [("name", 4)] nd (si_seq (se_fld T.c_Board T.n_Board_homes (se_var 0))) (by show blkC ["self", "box", "home", "changed", "name"] (defScope s_Board__rshift) _ _ = true; decide +kernel) (fun _ _ _ _ _ => (pg_name (i := 4) nd rfl (by first | exact Or.inl rfl | exact Or.inr rfl))) (gs_name 4) (fun _ _ _ _ _ => pt0) (fun _ _ _ _ _ => (se_var 4)) (fun _ _ _ _ _ => (se_get2 hr (se_var 3) (se_var 4) (se_ix (ix4 hr) (ixT_ok rfl) (se_fld T.c_Board T.n_Board_homes (se_var 0)) (se_var 4))))) sa_nil))))))))
theorem sc_Play_move : FnScope ["self", "box"] ["self", "box"] (defScope s_Play_move) := ⟨rfl, rfl, rfl, by decide +kernel, rfl, by decide +kernel, by decide +kernel⟩
set_option maxHeartbeats 4000000 in
theorem ok_Play_move (T : Txt Y mg base) (D_Board_movable : MDef P w Y mg base "Board" "movable" 2 ["self"] F_Board_movable []) (D_Board__contains : MDef P w Y mg base "Board" "__contains__" 2 ["self", "name"] F_Board__contains []) (D_Board__rshift : MDef P w Y mg base "Board" "__rshift__" 6 ["self", "box"] F_Board__rshift []) (cdv : Value) (f : Addr) (A : Around) (outer : List Env) (s : Shared) (H : Hp) (E : XK) (hr : Rm 6 (A.deeper (envOfC "Play.move" (defScope s_Play_move) s.heap.objs.size f cdv))) :
  PSs (cxOf (L2.CX P w) P w Y.M.K mg base ["self", "box"] "Play.move" (defScope s_Play_move) f cdv A outer s H E) (defBody s_Play_move) (tS Y (fun cls d _ H' => E cls d H') m_Play_move) :=
  have nd := sc_Play_move.nd
  have tk := takes_of (X := cxOf (L2.CX P w) P w Y.M.K mg base ["self", "box"] "Play.move" (defScope s_Play_move) f cdv A outer s H E) rfl rfl rfl rfl
  have po := passes_of (X := cxOf (L2.CX P w) P w Y.M.K mg base ["self", "box"] "Play.move" (defScope s_Play_move) f cdv A outer s H E) rfl
  (ss_cons (ss_if (sw_pt (sw_or (st_cmpW (OpW.or (OpW.of (op_nin3 hr)) (in_own true D_Board__contains (hr.mono (by decide)) tk)) (inB_ok (inT_ok rfl true)) (se_var 1) (se_fld T.c_Play T.n_Play_here (se_var 0)) rfl) (sw_or1 (st_cmp (op_nin3 hr) (inT_ok rfl true) (se_var 1) (se_meth0 T.c_Board D_Board_movable (hr.mono (by decide)) tk (se_fld T.c_Play T.n_Play_here (se_var 0))) rfl)))) (ss_one ss_stk) ss_nil)
  (ss_cons (ss_fld T.c_Play T.n_Play_here (se_var 0) (se_opW (shr_own T.s_Board D_Board__rshift (hr.mono (by decide)) tk) shB_ok (se_fld T.c_Play T.n_Play_here (se_var 0)) (se_var 1)))
  (ss_one (ss_fld T.c_Play T.n_Play_made (se_var 0) (se_op op_catA (catT_ok rfl) (se_fld T.c_Play T.n_Play_made (se_var 0)) (se_tup (sa_cons (se_var 1) sa_nil)))))))
theorem sc_law_play : FnScope ["_law_state", "_law_labels_here", "_law_found", "_law_here_here", "_law_box"] ["_law_state", "_law_labels_here"] (defScope s_law_play) := ⟨rfl, rfl, rfl, by decide +kernel, rfl, by decide +kernel, by decide +kernel⟩
set_option maxHeartbeats 4000000 in
theorem ok_law_play (T : Txt Y mg base) (D_law_movable : Def P w Y mg base "_law_movable" 2 ["_law_labels_here"] F_law_movable []) (D_law_pick : Def P w Y mg base "_law_pick" 3 ["_law_state", "_law_some"] F_law_pick []) (D_law_after : Def P w Y mg base "_law_after" 2 ["_law_labels_here", "_law_box"] F_law_after []) (cdv : Value) (f : Addr) (A : Around) (outer : List Env) (s : Shared) (H : Hp) (E : XK) (hr : Rm 3 (A.deeper (envOfC "_law_play" (defScope s_law_play) s.heap.objs.size f cdv))) :
  PSs (cxOf (L2.CX P w) P w Y.M.K mg base ["_law_state", "_law_labels_here", "_law_found", "_law_here_here", "_law_box"] "_law_play" (defScope s_law_play) f cdv A outer s H E) (defBody s_law_play) (tS Y (fun cls d _ H' => E cls d H') m_law_play) :=
  have nd := sc_law_play.nd
  have tk := takes_of (X := cxOf (L2.CX P w) P w Y.M.K mg base ["_law_state", "_law_labels_here", "_law_found", "_law_here_here", "_law_box"] "_law_play" (defScope s_law_play) f cdv A outer s H E) rfl rfl rfl rfl
  have po := passes_of (X := cxOf (L2.CX P w) P w Y.M.K mg base ["_law_state", "_law_labels_here", "_law_found", "_law_here_here", "_law_box"] "_law_play" (defScope s_law_play) f cdv A outer s H E) rfl
  (ss_cons (ss_par 2 3 nd (sa_cons (se_lst true sa_nil) (sa_cons (se_var 1) sa_nil)))
  (ss_cons (ss_while 100000 po (st_cmp op_cq (neI_ok hr rfl) (sf D_law_movable (hr.mono (by decide)) tk (sa_cons (se_var 3) sa_nil)) (se_lst false sa_nil) (nomark _)) (ss_cons (ss_set 4 nd (sf D_law_pick (hr.mono (by decide)) tk (sa_cons (se_var 0) (sa_cons (sf D_law_movable (hr.mono (by decide)) tk (sa_cons (se_var 3) sa_nil)) sa_nil))))
  (ss_cons (ss_expr (se_bm F.plainAttrs_list F.slot_list_append F.type_list_append mt_append (ms_append rfl) (se_var 2) (sa_cons (se_var 4) sa_nil)))
  (ss_one (ss_set 3 nd (sf D_law_after (hr.mono (by decide)) tk (sa_cons (se_var 3) (sa_cons (se_var 4) sa_nil))))))))
  (ss_one (ss_ret (se_fz (se_var 2))))))
theorem sc_Play__iadd : FnScope ["self", "boxes", "here", "at", "box"] ["self", "boxes"] (defScope s_Play__iadd) := ⟨rfl, rfl, rfl, by decide +kernel, rfl, by decide +kernel, by decide +kernel⟩
set_option maxHeartbeats 4000000 in
theorem ok_Play__iadd (T : Txt Y mg base) (D_Board_movable : MDef P w Y mg base "Board" "movable" 2 ["self"] F_Board_movable []) (D_Board__contains : MDef P w Y mg base "Board" "__contains__" 2 ["self", "name"] F_Board__contains []) (D_Board__rshift : MDef P w Y mg base "Board" "__rshift__" 6 ["self", "box"] F_Board__rshift []) (cdv : Value) (f : Addr) (A : Around) (outer : List Env) (s : Shared) (H : Hp) (E : XK) (hr : Rm 6 (A.deeper (envOfC "Play.__iadd__" (defScope s_Play__iadd) s.heap.objs.size f cdv))) :
  PSs (cxOf (L2.CX P w) P w Y.M.K mg base ["self", "boxes", "here", "at", "box"] "Play.__iadd__" (defScope s_Play__iadd) f cdv A outer s H E) (defBody s_Play__iadd) (tS Y (fun cls d _ H' => E cls d H') m_Play__iadd) :=
  have nd := sc_Play__iadd.nd
  have tk := takes_of (X := cxOf (L2.CX P w) P w Y.M.K mg base ["self", "boxes", "here", "at", "box"] "Play.__iadd__" (defScope s_Play__iadd) f cdv A outer s H E) rfl rfl rfl rfl
  have po := passes_of (X := cxOf (L2.CX P w) P w Y.M.K mg base ["self", "boxes", "here", "at", "box"] "Play.__iadd__" (defScope s_Play__iadd) f cdv A outer s H E) rfl
  (ss_cons (ss_if (st_not (st_val (se_is2 (se_var 1) T.isinstance_ boot_isinstance T.list_ boot_list T.tuple_ boot_tuple))) (ss_one ss_stk) ss_nil)
  (ss_cons (ss_set 2 nd (se_fld T.c_Play T.n_Play_here (se_var 0)))
  (ss_cons (ss_for po rfl (si_enumB (sa_cons (se_var 1) sa_nil) T.enumerate_) (pg_tup (n := 2) rfl (pgs_cons (pg_name (i := 3) nd rfl (by first | exact Or.inl rfl | exact Or.inr rfl)) (pgs_cons (pg_name (i := 4) nd rfl (by first | exact Or.inl rfl | exact Or.inr rfl)) pgs_nil))) (gs_tup (gss_cons (gs_name 3) (gss_cons (gs_name 4) gss_nil))) tk (fun _ tk => (ss_cons (ss_if (sw_pt (sw_or (st_cmpW (OpW.or (OpW.of (op_nin3 hr)) (in_own true D_Board__contains (hr.mono (by decide)) tk)) (inB_ok (inT_ok rfl true)) (se_var 4) (se_var 2) rfl) (sw_or1 (st_cmp (op_nin3 hr) (inT_ok rfl true) (se_var 4) (se_meth0 T.c_Board D_Board_movable (hr.mono (by decide)) tk (se_var 2)) rfl)))) (ss_one ss_stk) ss_nil)
  (ss_one (ss_set 2 nd (se_opW (shr_own T.s_Board D_Board__rshift (hr.mono (by decide)) tk) shB_ok (se_var 2) (se_var 4)))))))
  (ss_cons (ss_fld T.c_Play T.n_Play_made (se_var 0) (se_op op_catA (catT_ok rfl) (se_fld T.c_Play T.n_Play_made (se_var 0)) (se_callTy (call_tup4 rfl) (bTuple2_ok rfl) T.tuple_ boot_tuple (sa_cons (se_var 1) sa_nil))))
  (ss_cons (ss_fld T.c_Play T.n_Play_here (se_var 0) (se_var 2))
  (ss_one (ss_ret (se_var 0))))))))
theorem sc_Play__isub : FnScope ["self", "many", "box"] ["self", "many"] (defScope s_Play__isub) := ⟨rfl, rfl, rfl, by decide +kernel, rfl, by decide +kernel, by decide +kernel⟩
set_option maxHeartbeats 4000000 in
theorem ok_Play__isub (T : Txt Y mg base) (D_Board__rshift : MDef P w Y mg base "Board" "__rshift__" 6 ["self", "box"] F_Board__rshift []) (cdv : Value) (f : Addr) (A : Around) (outer : List Env) (s : Shared) (H : Hp) (E : XK) (hr : Rm 6 (A.deeper (envOfC "Play.__isub__" (defScope s_Play__isub) s.heap.objs.size f cdv))) :
  PSs (cxOf (L2.CX P w) P w Y.M.K mg base ["self", "many", "box"] "Play.__isub__" (defScope s_Play__isub) f cdv A outer s H E) (defBody s_Play__isub) (tS Y (fun cls d _ H' => E cls d H') m_Play__isub) :=
  have nd := sc_Play__isub.nd
  have tk := takes_of (X := cxOf (L2.CX P w) P w Y.M.K mg base ["self", "many", "box"] "Play.__isub__" (defScope s_Play__isub) f cdv A outer s H E) rfl rfl rfl rfl
  have po := passes_of (X := cxOf (L2.CX P w) P w Y.M.K mg base ["self", "many", "box"] "Play.__isub__" (defScope s_Play__isub) f cdv A outer s H E) rfl
  (ss_cons (ss_if (sw_pt (sw_or (st_not (st_val (se_callB call_isi (bIsi_ok rfl) T.isinstance_ boot_isinstance (sa_cons (se_var 1) (sa_cons (se_ty T.int_ boot_int) sa_nil))))) (sw_or (st_val (se_callB call_isi (bIsi_ok rfl) T.isinstance_ boot_isinstance (sa_cons (se_var 1) (sa_cons (se_ty T.bool_ boot_bool) sa_nil)))) (sw_or1 (st_not (st_chain op_le (cmpI_ok _) op_le (cmpI_ok _) se_int (se_var 1) (se_callB call_len2 (bLen_ok rfl) T.len_ boot_len (sa_cons (se_fld T.c_Play T.n_Play_made (se_var 0)) sa_nil)))))))) (ss_one ss_stk) ss_nil)
  (ss_cons (ss_fld T.c_Play T.n_Play_made (se_var 0) (se_sliceA false (se_fld T.c_Play T.n_Play_made (se_var 0)) so_no (so_some (se_op op_sub subI_ok (se_callB call_len2 (bLen_ok rfl) T.len_ boot_len (sa_cons (se_fld T.c_Play T.n_Play_made (se_var 0)) sa_nil)) (se_var 1)))))
  (ss_cons (ss_fld T.c_Play T.n_Play_here (se_var 0) (se_fld T.c_Play T.n_Play_start (se_var 0)))
  (ss_cons (ss_for po rfl (si_seq (se_fld T.c_Play T.n_Play_made (se_var 0))) (pg_name (i := 2) nd rfl (by first | exact Or.inl rfl | exact Or.inr rfl)) (gs_name 2) tk (fun _ tk => (ss_one (ss_fld T.c_Play T.n_Play_here (se_var 0) (se_opW (shr_own T.s_Board D_Board__rshift (hr.mono (by decide)) tk) shB_ok (se_fld T.c_Play T.n_Play_here (se_var 0)) (se_var 2))))))
  (ss_one (ss_ret (se_var 0)))))))
theorem sc_Play_moves : FnScope ["self"] ["self"] (defScope s_Play_moves) := ⟨rfl, rfl, rfl, by decide +kernel, rfl, by decide +kernel, by decide +kernel⟩
set_option maxHeartbeats 4000000 in
theorem ok_Play_moves (T : Txt Y mg base)  (cdv : Value) (f : Addr) (A : Around) (outer : List Env) (s : Shared) (H : Hp) (E : XK) (hr : Rm 1 (A.deeper (envOfC "Play.moves" (defScope s_Play_moves) s.heap.objs.size f cdv))) :
  PSs (cxOf (L2.CX P w) P w Y.M.K mg base ["self"] "Play.moves" (defScope s_Play_moves) f cdv A outer s H E) (defBody s_Play_moves) (tS Y (fun cls d _ H' => E cls d H') m_Play_moves) :=
  have nd := sc_Play_moves.nd
  have tk := takes_of (X := cxOf (L2.CX P w) P w Y.M.K mg base ["self"] "Play.moves" (defScope s_Play_moves) f cdv A outer s H E) rfl rfl rfl rfl
  have po := passes_of (X := cxOf (L2.CX P w) P w Y.M.K mg base ["self"] "Play.moves" (defScope s_Play_moves) f cdv A outer s H E) rfl
  (ss_one (ss_ret (se_callTy (call_list2 rfl) (bList_ok rfl true) T.list_ boot_list (sa_cons (se_fld T.c_Play T.n_Play_made (se_var 0)) sa_nil))))
theorem sc_Board__eq : FnScope ["self", "other"] ["self", "other"] (defScope s_Board__eq) := ⟨rfl, rfl, rfl, by decide +kernel, rfl, by decide +kernel, by decide +kernel⟩
set_option maxHeartbeats 4000000 in
theorem ok_Board__eq (T : Txt Y mg base)  (cdv : Value) (f : Addr) (A : Around) (outer : List Env) (s : Shared) (H : Hp) (E : XK) (hr : Rm 1 (A.deeper (envOfC "Board.__eq__" (defScope s_Board__eq) s.heap.objs.size f cdv))) :
  PSs (cxOf (L2.CX P w) P w Y.M.K mg base ["self", "other"] "Board.__eq__" (defScope s_Board__eq) f cdv A outer s H E) (defBody s_Board__eq) (tS Y (fun cls d _ H' => E cls d H') m_Board__eq) :=
  have nd := sc_Board__eq.nd
  have tk := takes_of (X := cxOf (L2.CX P w) P w Y.M.K mg base ["self", "other"] "Board.__eq__" (defScope s_Board__eq) f cdv A outer s H E) rfl rfl rfl rfl
  have po := passes_of (X := cxOf (L2.CX P w) P w Y.M.K mg base ["self", "other"] "Board.__eq__" (defScope s_Board__eq) f cdv A outer s H E) rfl
  (ss_one (ss_ret (se_and (se_isC T.i_Board T.g_Board (se_var 1) T.isinstance_ boot_isinstance) (se_one (se_cmp op_cq (eqI_ok hr rfl) (se_fld T.c_Board T.n_Board_homes (se_var 0)) (se_fld T.c_Board T.n_Board_homes (se_var 1)) (nomark _))))))
theorem sc_Play__len : FnScope ["self"] ["self"] (defScope s_Play__len) := ⟨rfl, rfl, rfl, by decide +kernel, rfl, by decide +kernel, by decide +kernel⟩
set_option maxHeartbeats 4000000 in
theorem ok_Play__len (T : Txt Y mg base)  (cdv : Value) (f : Addr) (A : Around) (outer : List Env) (s : Shared) (H : Hp) (E : XK) (hr : Rm 1 (A.deeper (envOfC "Play.__len__" (defScope s_Play__len) s.heap.objs.size f cdv))) :
  PSs (cxOf (L2.CX P w) P w Y.M.K mg base ["self"] "Play.__len__" (defScope s_Play__len) f cdv A outer s H E) (defBody s_Play__len) (tS Y (fun cls d _ H' => E cls d H') m_Play__len) :=
  have nd := sc_Play__len.nd
  have tk := takes_of (X := cxOf (L2.CX P w) P w Y.M.K mg base ["self"] "Play.__len__" (defScope s_Play__len) f cdv A outer s H E) rfl rfl rfl rfl
  have po := passes_of (X := cxOf (L2.CX P w) P w Y.M.K mg base ["self"] "Play.__len__" (defScope s_Play__len) f cdv A outer s H E) rfl
  (ss_one (ss_ret (se_callB call_len2 (bLen_ok rfl) T.len_ boot_len (sa_cons (se_fld T.c_Play T.n_Play_made (se_var 0)) sa_nil))))
theorem sc_Play_board : FnScope ["self"] ["self"] (defScope s_Play_board) := ⟨rfl, rfl, rfl, by decide +kernel, rfl, by decide +kernel, by decide +kernel⟩
set_option maxHeartbeats 4000000 in
theorem ok_Play_board (T : Txt Y mg base)  (cdv : Value) (f : Addr) (A : Around) (outer : List Env) (s : Shared) (H : Hp) (E : XK) (hr : Rm 1 (A.deeper (envOfC "Play.board" (defScope s_Play_board) s.heap.objs.size f cdv))) :
  PSs (cxOf (L2.CX P w) P w Y.M.K mg base ["self"] "Play.board" (defScope s_Play_board) f cdv A outer s H E) (defBody s_Play_board) (tS Y (fun cls d _ H' => E cls d H') m_Play_board) :=
  have nd := sc_Play_board.nd
  have tk := takes_of (X := cxOf (L2.CX P w) P w Y.M.K mg base ["self"] "Play.board" (defScope s_Play_board) f cdv A outer s H E) rfl rfl rfl rfl
  have po := passes_of (X := cxOf (L2.CX P w) P w Y.M.K mg base ["self"] "Play.board" (defScope s_Play_board) f cdv A outer s H E) rfl
  (ss_one (ss_ret (se_fld T.c_Play T.n_Play_here (se_var 0))))
theorem sc_law_is : FnScope ["_law_play_here", "_law_labels_here", "_law_moves"] ["_law_play_here", "_law_labels_here", "_law_moves"] (defScope s_law_is) := ⟨rfl, rfl, rfl, by decide +kernel, rfl, by decide +kernel, by decide +kernel⟩
set_option maxHeartbeats 4000000 in
theorem ok_law_is (T : Txt Y mg base) (D_Board__init : CDef P w Y mg base "Board" 4 ["self", "labels"] F_Board__init []) (D_Board__eq : MDef P w Y mg base "Board" "__eq__" 2 ["self", "other"] F_Board__eq []) (D_Play__len : MDef P w Y mg base "Play" "__len__" 2 ["self"] F_Play__len []) (D_Play_moves : MDef P w Y mg base "Play" "moves" 2 ["self"] F_Play_moves []) (D_Play_board : PDef P w Y mg base "Play" "board" 2 F_Play_board) (D_law_here : Def P w Y mg base "_law_here" 3 ["_law_labels_here", "_law_moves"] F_law_here []) (cdv : Value) (f : Addr) (A : Around) (outer : List Env) (s : Shared) (H : Hp) (E : XK) (hr : Rm 5 (A.deeper (envOfC "_law_is" (defScope s_law_is) s.heap.objs.size f cdv))) :
  PSs (cxOf (L2.CX P w) P w Y.M.K mg base ["_law_play_here", "_law_labels_here", "_law_moves"] "_law_is" (defScope s_law_is) f cdv A outer s H E) (defBody s_law_is) (tS Y (fun cls d _ H' => E cls d H') m_law_is) :=
  have nd := sc_law_is.nd
  have tk := takes_of (X := cxOf (L2.CX P w) P w Y.M.K mg base ["_law_play_here", "_law_labels_here", "_law_moves"] "_law_is" (defScope s_law_is) f cdv A outer s H E) rfl rfl rfl rfl
  have po := passes_of (X := cxOf (L2.CX P w) P w Y.M.K mg base ["_law_play_here", "_law_labels_here", "_law_moves"] "_law_is" (defScope s_law_is) f cdv A outer s H E) rfl
  (ss_cons (ss_if (sw_pt (sw_or (st_cmp op_cq (neI_ok hr rfl) (se_callB (call_reprN hr T.sys) (bReprN_ok rfl) T.repr_ boot_repr (sa_cons (se_meth0 T.c_Play D_Play_moves (hr.mono (by decide)) tk (se_var 0)) sa_nil)) (se_callB (call_reprN hr T.sys) (bReprN_ok rfl) T.repr_ boot_repr (sa_cons (se_var 2) sa_nil)) (nomark _)) (sw_or (st_cmp op_cq (neI_ok hr rfl) (se_callB (call_lenO D_Play__len (hr.mono (by decide)) takes0) bLenO_ok T.len_ boot_len (sa_cons (se_var 0) sa_nil)) (se_callB call_len2 (bLen_ok rfl) T.len_ boot_len (sa_cons (se_var 2) sa_nil)) (nomark _)) (sw_or1 (st_not (st_cmpW (OpW.or (OpW.of op_cq) (eq_own D_Board__eq (hr.mono (by decide)) tk)) (eqB_ok (eqI_ok hr rfl)) (se_fld T.c_Play T.n_Play_start (se_var 0)) (se_fz (se_make D_Board__init (hr.mono (by decide)) tk (sa_cons (se_var 1) sa_nil))) (nomark _))))))) (ss_one (ss_ret se_bl)) ss_nil)
  (ss_one (ss_ret (se_cmpW (OpW.or (OpW.of op_cq) (eq_own D_Board__eq (hr.mono (by decide)) tk)) (eqB_ok (eqI_ok hr rfl)) (se_prop T.c_Play D_Play_board (hr.mono (by decide)) (se_var 0)) (se_fz (se_make D_Board__init (hr.mono (by decide)) tk (sa_cons (sf D_law_here (hr.mono (by decide)) tk (sa_cons (se_var 1) (sa_cons (se_var 2) sa_nil))) sa_nil))) (nomark _)))))
theorem sc_law : FnScope ["_law_script", "_law_turn", "_law_cell", "_law_state", "_law_labels_here", "_law_moves", "_law_board", "_law_play_here", "_law_other", "_law_deed", "_law_way", "_law_here_here", "_law_box", "_law_more", "_law_handed", "_law_many"] ["_law_script"] (defScope s_law) := ⟨rfl, rfl, rfl, by decide +kernel, rfl, by decide +kernel, by decide +kernel⟩
set_option maxHeartbeats 4000000 in
theorem ok_law (T : Txt Y mg base) (D_law_begin : Def P w Y mg base "_law_begin" 2 ["_law_cell", "_law_turn"] F_law_begin []) (D_law_labels : Def P w Y mg base "_law_labels" 5 ["_law_state", "_law_most"] F_law_labels []) (D_Board__init : CDef P w Y mg base "Board" 4 ["self", "labels"] F_Board__init []) (D_Play__init : CDef P w Y mg base "Play" 2 ["self", "board"] F_Play__init []) (D_law_here : Def P w Y mg base "_law_here" 3 ["_law_labels_here", "_law_moves"] F_law_here []) (D_law_draw : Def P w Y mg base "_law_draw" 2 ["_law_state", "_law_size"] F_law_draw []) (D_law_movable : Def P w Y mg base "_law_movable" 2 ["_law_labels_here"] F_law_movable []) (D_law_pick : Def P w Y mg base "_law_pick" 3 ["_law_state", "_law_some"] F_law_pick []) (D_Play_move : MDef P w Y mg base "Play" "move" 7 ["self", "box"] F_Play_move []) (D_law_play : Def P w Y mg base "_law_play" 4 ["_law_state", "_law_labels_here"] F_law_play []) (D_Play__iadd : MDef P w Y mg base "Play" "__iadd__" 7 ["self", "boxes"] F_Play__iadd []) (D_Play__isub : MDef P w Y mg base "Play" "__isub__" 7 ["self", "many"] F_Play__isub []) (D_Play_moves : MDef P w Y mg base "Play" "moves" 2 ["self"] F_Play_moves []) (D_Board__eq : MDef P w Y mg base "Board" "__eq__" 2 ["self", "other"] F_Board__eq []) (D_law_is : Def P w Y mg base "_law_is" 6 ["_law_play_here", "_law_labels_here", "_law_moves"] F_law_is []) (cdv : Value) (f : Addr) (A : Around) (outer : List Env) (s : Shared) (H : Hp) (E : XK) (hr : Rm 7 (A.deeper (envOfC "law" (defScope s_law) s.heap.objs.size f cdv))) :
  PSs (cxOf (L2.CX P w) P w Y.M.K mg base ["_law_script", "_law_turn", "_law_cell", "_law_state", "_law_labels_here", "_law_moves", "_law_board", "_law_play_here", "_law_other", "_law_deed", "_law_way", "_law_here_here", "_law_box", "_law_more", "_law_handed", "_law_many"] "law" (defScope s_law) f cdv A outer s H E) (defBody s_law) (tS Y (fun cls d _ H' => E cls d H') m_law) :=
  have nd := sc_law.nd
  have tk := takes_of (X := cxOf (L2.CX P w) P w Y.M.K mg base ["_law_script", "_law_turn", "_law_cell", "_law_state", "_law_labels_here", "_law_moves", "_law_board", "_law_play_here", "_law_other", "_law_deed", "_law_way", "_law_here_here", "_law_box", "_law_more", "_law_handed", "_law_many"] "law" (defScope s_law) f cdv A outer s H E) rfl rfl rfl rfl
  have po := passes_of (X := cxOf (L2.CX P w) P w Y.M.K mg base ["_law_script", "_law_turn", "_law_cell", "_law_state", "_law_labels_here", "_law_moves", "_law_board", "_law_play_here", "_law_other", "_law_deed", "_law_way", "_law_here_here", "_law_box", "_law_more", "_law_handed", "_law_many"] "law" (defScope s_law) f cdv A outer s H E) rfl
  (ss_cons (ss_for po rfl (si_enum (sa_cons (se_slice false (se_orT (se_var 0) (se_one (se_lst false (sa_cons se_int sa_nil)))) so_no (so_some se_int)) sa_nil) T.enumerate_) (pg_tup (n := 2) rfl (pgs_cons (pg_name (i := 1) nd rfl (by first | exact Or.inl rfl | exact Or.inr rfl)) (pgs_cons (pg_name (i := 2) nd rfl (by first | exact Or.inl rfl | exact Or.inr rfl)) pgs_nil))) (gs_tup (gss_cons (gs_name 1) (gss_cons (gs_name 2) gss_nil))) tk (fun _ tk => (ss_cons (ss_set 3 nd (sf D_law_begin (hr.mono (by decide)) tk (sa_cons (se_var 2) (sa_cons (se_var 1) sa_nil))))
  (ss_cons (ss_par 4 5 nd (sa_cons (sf D_law_labels (hr.mono (by decide)) tk (sa_cons (se_var 3) (sa_cons se_int sa_nil))) (sa_cons (se_lst false sa_nil) sa_nil)))
  (ss_cons (ss_set 6 nd (se_fz (se_make D_Board__init (hr.mono (by decide)) tk (sa_cons (se_var 4) sa_nil))))
  (ss_cons (ss_set 7 nd (se_make D_Play__init (hr.mono (by decide)) tk (sa_cons (se_var 6) sa_nil)))
  (ss_cons (ss_set 8 nd (se_var 7))
  (ss_one (ss_for po rfl (si_range1 (sa_cons se_int sa_nil) T.range_) (pg_name (i := 9) nd rfl (by first | exact Or.inl rfl | exact Or.inr rfl)) (gs_name 9) tk (fun _ tk => (ss_cons (ss_par 10 11 nd (sa_cons (sf D_law_draw (hr.mono (by decide)) tk (sa_cons (se_var 3) (sa_cons se_int sa_nil))) (sa_cons (sf D_law_here (hr.mono (by decide)) tk (sa_cons (se_var 4) (sa_cons (se_var 5) sa_nil))) sa_nil)))
  (ss_cons (ss_if (sw_pt (sw_and (st_cmp op_cq (eqI_ok hr rfl) (se_var 10) se_int (nomark _)) (sw_and1 (st_cmp op_cq (neI_ok hr rfl) (sf D_law_movable (hr.mono (by decide)) tk (sa_cons (se_var 11) sa_nil)) (se_lst false sa_nil) (nomark _))))) (ss_cons (ss_set 12 nd (sf D_law_pick (hr.mono (by decide)) tk (sa_cons (se_var 3) (sa_cons (sf D_law_movable (hr.mono (by decide)) tk (sa_cons (se_var 11) sa_nil)) sa_nil))))
  (ss_cons (ss_if (st_cmp op_notN notN_ok (se_meth T.c_Play D_Play_move (hr.mono (by decide)) tk (se_var 7) (sa_cons (se_var 12) sa_nil)) se_non (nomark _)) (ss_one (ss_ret se_bl)) ss_nil)
  (ss_one (ss_set 5 nd (se_op op_add4 (addI_ok rfl false) (se_var 5) (se_lst false (sa_cons (se_var 12) sa_nil))))))) (ss_one (ss_if (st_cmp op_lt (cmpI_ok _) (se_var 10) se_int (nomark _)) (ss_cons (ss_set 13 nd (sf D_law_play (hr.mono (by decide)) tk (sa_cons (se_var 3) (sa_cons (se_var 11) sa_nil))))
  (ss_cons (ss_set 13 nd (se_slice false (se_var 13) so_no (so_some (sf D_law_draw (hr.mono (by decide)) tk (sa_cons (se_var 3) (sa_cons (se_op op_add4 (addI_ok rfl false) (se_callB call_len2 (bLen_ok rfl) T.len_ boot_len (sa_cons (se_var 13) sa_nil)) se_int) sa_nil))))))
  (ss_cons (ss_set 14 nd (se_callTy (call_list2 rfl) (bList_ok rfl true) T.list_ boot_list (sa_cons (se_var 13) sa_nil)))
  (ss_cons (ss_aug 7 nd (inp_own rfl T.ip_Play D_Play__iadd (hr.mono (by decide)) tk) inpB_ok (se_if (st_cmp op_cq (eqI_ok hr rfl) (se_var 10) se_int (nomark _)) (se_callTy (call_tup4 rfl) (bTuple2_ok rfl) T.tuple_ boot_tuple (sa_cons (se_var 13) sa_nil)) (se_var 14)))
  (ss_cons (ss_expr (se_bm F.plainAttrs_list F.slot_list_append F.type_list_append mt_append (ms_append rfl) (se_var 14) (sa_cons se_str sa_nil)))
  (ss_one (ss_set 5 nd (se_op op_add4 (addI_ok rfl false) (se_var 5) (se_var 13))))))))) (ss_cons (ss_set 15 nd (sf D_law_draw (hr.mono (by decide)) tk (sa_cons (se_var 3) (sa_cons (se_op op_add4 (addI_ok rfl false) (se_callB call_len2 (bLen_ok rfl) T.len_ boot_len (sa_cons (se_var 5) sa_nil)) se_int) sa_nil))))
  (ss_cons (ss_aug 7 nd (inp_own rfl T.ip_Play D_Play__isub (hr.mono (by decide)) tk) inpB_ok (se_var 15))
  (ss_one (ss_set 5 nd (se_slice false (se_var 5) so_no (so_some (se_op op_sub subI_ok (se_callB call_len2 (bLen_ok rfl) T.len_ boot_len (sa_cons (se_var 5) sa_nil)) (se_var 15)))))))))))
  (ss_cons (ss_expr (se_bm F.plainAttrs_list F.slot_list_append F.type_list_append mt_append (ms_append rfl) (se_meth0 T.c_Play D_Play_moves (hr.mono (by decide)) tk (se_var 7)) (sa_cons se_str sa_nil)))
  (ss_one (ss_if (sw_pt (sw_or (st_not (st_val (sf D_law_is (hr.mono (by decide)) tk (sa_cons (se_var 7) (sa_cons (se_var 4) (sa_cons (se_var 5) sa_nil)))))) (sw_or (st_not (st_val (sf D_law_is (hr.mono (by decide)) tk (sa_cons (se_var 8) (sa_cons (se_var 4) (sa_cons (se_var 5) sa_nil)))))) (sw_or1 (st_cmpW (OpW.or (OpW.of op_cq) (cmp_own true T.q_Board D_Board__eq (hr.mono (by decide)) tk)) (cmB_ok (neI_ok hr rfl)) (se_var 6) (se_fz (se_make D_Board__init (hr.mono (by decide)) tk (sa_cons (se_var 4) sa_nil))) (nomark _)))))) (ss_one (ss_ret se_bl)) ss_nil)))))))))))))))
  (ss_one (ss_ret se_bl)))
set_option maxHeartbeats 8000000
theorem all_mk {l : PySem.W.OpenLaw} {w : World} {K : PySem.W.Frag} {h : Heap} {mg : Str → Option Value} {fa : Addr} {A_Board : Addr} {A_Play : Addr} {tk_Board_MOST : Tok} (X : K.In h) (G : h.Ns mainGlobals mg) (hfa : mg "law" = some (.ref fa))
    (aC_Board : PySem.W.nsIn K mainGlobals "Board" = some (some (.ref A_Board)))
    (pg_Board : PySem.W.plainGet K A_Board Str.empty = true)
    (hd_Board : PySem.W.hasDictIn K A_Board = true)
    (po_Board : PySem.W.plainOver K A_Board = true)
    (sa_Board : PySem.W.findIn K (.ref A_Board) "__setattr__" = some (some (.builtin "object.__setattr__")))
    (mk_Board : PySem.W.makesIn K A_Board = true)
    (kc_Board : PySem.W.keepIn K (.ref A_Board) = true)
    (aC_Play : PySem.W.nsIn K mainGlobals "Play" = some (some (.ref A_Play)))
    (pg_Play : PySem.W.plainGet K A_Play Str.empty = true)
    (hd_Play : PySem.W.hasDictIn K A_Play = true)
    (po_Play : PySem.W.plainOver K A_Play = true)
    (sa_Play : PySem.W.findIn K (.ref A_Play) "__setattr__" = some (some (.builtin "object.__setattr__")))
    (mk_Play : PySem.W.makesIn K A_Play = true)
    (kc_Play : PySem.W.keepIn K (.ref A_Play) = true)
    (nf_Board_homes : PySem.W.findIn K (.ref A_Board) "homes" = some none)
    (nf_Play_here : PySem.W.findIn K (.ref A_Play) "here" = some none)
    (nf_Play_made : PySem.W.findIn K (.ref A_Play) "made" = some none)
    (nf_Play_start : PySem.W.findIn K (.ref A_Play) "start" = some none)
    (s_cls : PySem.W.specialIn K (.builtin "object.__class__") "__get__" = some (some (.builtin "getset_descriptor.__get__")))
    (t_cls : PySem.W.takesIn K (.builtin "object.__class__") = some true)
    (ha_Board : PySem.W.findIn K (.ref A_Board) "__class__" = some (some (.builtin "object.__class__")))
    (hm_Board : PySem.W.mroIn K A_Board (.type "object") = some true)
    (ic_Board : PySem.W.isClsIn K A_Board = true)
    (ty_Board : PySem.W.typeIn K (.ref A_Board) = some (.type "type"))
    (no_Board_NoneType : PySem.W.subIn K (.type "NoneType") (.ref A_Board) = some false)
    (no_Board_bool : PySem.W.subIn K (.type "bool") (.ref A_Board) = some false)
    (no_Board_int : PySem.W.subIn K (.type "int") (.ref A_Board) = some false)
    (no_Board_str : PySem.W.subIn K (.type "str") (.ref A_Board) = some false)
    (no_Board_list : PySem.W.subIn K (.type "list") (.ref A_Board) = some false)
    (no_Board_tuple : PySem.W.subIn K (.type "tuple") (.ref A_Board) = some false)
    (no_Board_dict : PySem.W.subIn K (.type "dict") (.ref A_Board) = some false)
    (rd_Board : PySem.W.readsIn K A_Board (.type "type") = true)
    (ga_Board : PySem.W.specialIn K (.ref A_Board) "__getattribute__" = some (some (.builtin "type.__getattribute__")))
    (fc_Board_MOST : PySem.W.findCls K (.ref A_Board) (.type "type") "MOST" = some (.val (.int 60 tk_Board_MOST)))
    (sf_Board : PySem.W.selfFirst K A_Board = true)
    (sr_Board : PySem.W.findIn K (.ref A_Board) "__rrshift__" = some none)
    (sf_Play : PySem.W.selfFirst K A_Play = true)
    (qn_Board : PySem.W.findIn K (.ref A_Board) "__ne__" = some (some (.builtin "object.__ne__")))
    (qo_Board : PySem.W.subIn K (.ref A_Board) (.type "object") = some true)
    (d_law_begin : DF K "_law_begin" s_law_begin)
    (d_law_draw : DF K "_law_draw" s_law_draw)
    (d_law_pick : DF K "_law_pick" s_law_pick)
    (d_law_names : DF K "_law_names" s_law_names)
    (d_law_mixed : DF K "_law_mixed" s_law_mixed)
    (d_law_labels : DF K "_law_labels" s_law_labels)
    (d_is_name : DF K "is_name" s_is_name)
    (d_are_labels : DF K "are_labels" s_are_labels)
    (d_Board__init : DM K A_Board "__init__" "Board.__init__" s_Board__init)
    (d_Play__init : DM K A_Play "__init__" "Play.__init__" s_Play__init)
    (d_law_after : DF K "_law_after" s_law_after)
    (d_law_here : DF K "_law_here" s_law_here)
    (d_law_movable : DF K "_law_movable" s_law_movable)
    (d_Board_movable : DM K A_Board "movable" "Board.movable" s_Board_movable)
    (d_Board__contains : DM K A_Board "__contains__" "Board.__contains__" s_Board__contains)
    (d_Board__rshift : DM K A_Board "__rshift__" "Board.__rshift__" s_Board__rshift)
    (d_Play_move : DM K A_Play "move" "Play.move" s_Play_move)
    (d_law_play : DF K "_law_play" s_law_play)
    (d_Play__iadd : DM K A_Play "__iadd__" "Play.__iadd__" s_Play__iadd)
    (d_Play__isub : DM K A_Play "__isub__" "Play.__isub__" s_Play__isub)
    (d_Play_moves : DM K A_Play "moves" "Play.moves" s_Play_moves)
    (d_Board__eq : DM K A_Board "__eq__" "Board.__eq__" s_Board__eq)
    (d_Play__len : DM K A_Play "__len__" "Play.__len__" s_Play__len)
    (d_Play_board : DP K A_Play "board" "Play.board" s_Play_board)
    (d_law_is : DF K "_law_is" s_law_is)
    (d_law : DF K "law" s_law)
    (z_all : PySem.W.nsIn K mainGlobals "all" = some none)
    (z_bool : PySem.W.nsIn K mainGlobals "bool" = some none)
    (z_dict : PySem.W.nsIn K mainGlobals "dict" = some none)
    (z_enumerate : PySem.W.nsIn K mainGlobals "enumerate" = some none)
    (z_int : PySem.W.nsIn K mainGlobals "int" = some none)
    (z_isinstance : PySem.W.nsIn K mainGlobals "isinstance" = some none)
    (z_len : PySem.W.nsIn K mainGlobals "len" = some none)
    (z_list : PySem.W.nsIn K mainGlobals "list" = some none)
    (z_max : PySem.W.nsIn K mainGlobals "max" = some none)
    (z_min : PySem.W.nsIn K mainGlobals "min" = some none)
    (z_range : PySem.W.nsIn K mainGlobals "range" = some none)
    (z_repr : PySem.W.nsIn K mainGlobals "repr" = some none)
    (z_sorted : PySem.W.nsIn K mainGlobals "sorted" = some none)
    (z_str : PySem.W.nsIn K mainGlobals "str" = some none)
    (z_tuple : PySem.W.nsIn K mainGlobals "tuple" = some none)
    :
    ∃ fd : FuncData, (∀ (s : Shared) (u : Value), BindsTo s fd ⟨[u], []⟩ [("_law_script", u)]) ∧ ∀ base : Heap, K.In base → base.Ns mainGlobals mg → SysB base → FnT l.prog w (Yx K) mg base 8 fa fd ["_law_script"] F_law := by
  have hB_Board : (Yx K).M.cl "Board" = some A_Board := clOf_at aC_Board
  have CB_Board : DC (Yx K).M.K "Board" A_Board := ⟨aC_Board, ⟨pg_Board, hd_Board, po_Board, sa_Board⟩, mk_Board, kc_Board⟩
  have hB_Play : (Yx K).M.cl "Play" = some A_Play := clOf_at aC_Play
  have CB_Play : DC (Yx K).M.K "Play" A_Play := ⟨aC_Play, ⟨pg_Play, hd_Play, po_Play, sa_Play⟩, mk_Play, kc_Play⟩
  have T : ∀ base : Heap, K.In base → base.Ns mainGlobals mg → SysB base → Txt (Yx K) mg base := fun base KB GB SB => ⟨PySem.W.mg_none_of X G z_all, PySem.W.mg_none_of X G z_bool, PySem.W.mg_none_of X G z_dict, PySem.W.mg_none_of X G z_enumerate, PySem.W.mg_none_of X G z_int, PySem.W.mg_none_of X G z_isinstance, PySem.W.mg_none_of X G z_len, PySem.W.mg_none_of X G z_list, PySem.W.mg_none_of X G z_max, PySem.W.mg_none_of X G z_min, PySem.W.mg_none_of X G z_range, PySem.W.mg_none_of X G z_repr, PySem.W.mg_none_of X G z_sorted, PySem.W.mg_none_of X G z_str, PySem.W.mg_none_of X G z_tuple, kcls_of hB_Board CB_Board, ⟨A_Board, hB_Board, PySem.W.mg_of X G aC_Board⟩, kcls_of hB_Play CB_Play, ⟨A_Play, hB_Play, PySem.W.mg_of X G aC_Play⟩, kno_of hB_Board nf_Board_homes, kno_of hB_Play nf_Play_here, kno_of hB_Play nf_Play_made, kno_of hB_Play nf_Play_start, kis_of hB_Board CB_Board ha_Board s_cls t_cls hm_Board ic_Board ty_Board no_Board_NoneType no_Board_bool no_Board_int no_Board_str no_Board_list no_Board_tuple no_Board_dict, kcon_of (v := .int 60) hB_Board rd_Board ga_Board fc_Board_MOST ⟨_, rfl⟩ .int, keq_of hB_Board qn_Board qo_Board no_Board_NoneType no_Board_bool no_Board_int no_Board_str no_Board_list no_Board_tuple no_Board_dict, kshr_of hB_Board sf_Board sr_Board no_Board_NoneType no_Board_bool no_Board_int no_Board_str no_Board_list no_Board_tuple no_Board_dict, kinp_of hB_Play sf_Play, SB, trivial⟩
  have D_law_begin : ∀ base : Heap, K.In base → base.Ns mainGlobals mg → SysB base → Def l.prog w (Yx K) mg base "_law_begin" 2 ["_law_cell", "_law_turn"] F_law_begin [] := fun base KB GB SB => Def.of d_law_begin X G sc_law_begin (fun _ _ _ _ _ _ us hl => match us, hl with | [_, _], _ => rfl) (fun cdv f A outer s H E hr => ok_law_begin (T base KB GB SB)  cdv f A outer s H E hr) fun ts C _ => lv_of ts C
  have D_law_draw : ∀ base : Heap, K.In base → base.Ns mainGlobals mg → SysB base → Def l.prog w (Yx K) mg base "_law_draw" 2 ["_law_state", "_law_size"] F_law_draw [] := fun base KB GB SB => Def.of d_law_draw X G sc_law_draw (fun _ _ _ _ _ _ us hl => match us, hl with | [_, _], _ => rfl) (fun cdv f A outer s H E hr => ok_law_draw (T base KB GB SB)  cdv f A outer s H E hr) fun ts C _ => lv_of ts C
  have D_law_pick : ∀ base : Heap, K.In base → base.Ns mainGlobals mg → SysB base → Def l.prog w (Yx K) mg base "_law_pick" 3 ["_law_state", "_law_some"] F_law_pick [] := fun base KB GB SB => Def.of d_law_pick X G sc_law_pick (fun _ _ _ _ _ _ us hl => match us, hl with | [_, _], _ => rfl) (fun cdv f A outer s H E hr => ok_law_pick (T base KB GB SB) (D_law_draw base KB GB SB) cdv f A outer s H E hr) fun ts C _ => lv_of ts C
  have D_law_names : ∀ base : Heap, K.In base → base.Ns mainGlobals mg → SysB base → Def l.prog w (Yx K) mg base "_law_names" 4 ["_law_state", "_law_many"] F_law_names [] := fun base KB GB SB => Def.of d_law_names X G sc_law_names (fun _ _ _ _ _ _ us hl => match us, hl with | [_, _], _ => rfl) (fun cdv f A outer s H E hr => ok_law_names (T base KB GB SB) (D_law_draw base KB GB SB) (D_law_pick base KB GB SB) cdv f A outer s H E hr) fun ts C _ => lv_of ts C
  have D_law_mixed : ∀ base : Heap, K.In base → base.Ns mainGlobals mg → SysB base → Def l.prog w (Yx K) mg base "_law_mixed" 3 ["_law_state", "_law_some"] F_law_mixed [] := fun base KB GB SB => Def.of d_law_mixed X G sc_law_mixed (fun _ _ _ _ _ _ us hl => match us, hl with | [_, _], _ => rfl) (fun cdv f A outer s H E hr => ok_law_mixed (T base KB GB SB) (D_law_draw base KB GB SB) cdv f A outer s H E hr) fun ts C _ => lv_of ts C
  have D_law_labels : ∀ base : Heap, K.In base → base.Ns mainGlobals mg → SysB base → Def l.prog w (Yx K) mg base "_law_labels" 5 ["_law_state", "_law_most"] F_law_labels [] := fun base KB GB SB => Def.of d_law_labels X G sc_law_labels (fun _ _ _ _ _ _ us hl => match us, hl with | [_, _], _ => rfl) (fun cdv f A outer s H E hr => ok_law_labels (T base KB GB SB) (D_law_draw base KB GB SB) (D_law_names base KB GB SB) (D_law_mixed base KB GB SB) (D_law_pick base KB GB SB) cdv f A outer s H E hr) fun ts C _ => lv_of ts C
  have D_is_name : ∀ base : Heap, K.In base → base.Ns mainGlobals mg → SysB base → Def l.prog w (Yx K) mg base "is_name" 2 ["value"] F_is_name [] := fun base KB GB SB => Def.of d_is_name X G sc_is_name (fun _ _ _ _ _ _ us hl => match us, hl with | [_], _ => rfl) (fun cdv f A outer s H E hr => ok_is_name (T base KB GB SB)  cdv f A outer s H E hr) fun ts C _ => lv_of ts C
  have D_are_labels : ∀ base : Heap, K.In base → base.Ns mainGlobals mg → SysB base → Def l.prog w (Yx K) mg base "are_labels" 3 ["value", "most"] F_are_labels [] := fun base KB GB SB => Def.of d_are_labels X G sc_are_labels (fun _ _ _ _ _ _ us hl => match us, hl with | [_, _], _ => rfl) (fun cdv f A outer s H E hr => ok_are_labels (T base KB GB SB) (D_is_name base KB GB SB) cdv f A outer s H E hr) fun ts C _ => lv_of ts C
  have D_Board__init : ∀ base : Heap, K.In base → base.Ns mainGlobals mg → SysB base → CDef l.prog w (Yx K) mg base "Board" 4 ["self", "labels"] F_Board__init [] := fun base KB GB SB => CDef.of hB_Board CB_Board X G d_Board__init sc_Board__init (fun _ _ _ _ _ _ us hl => match us, hl with | [_, _], _ => rfl) (fun cdv f A outer s H E hr => ok_Board__init (T base KB GB SB) (D_are_labels base KB GB SB) cdv f A outer s H E hr) fun ts C _ => lv_of ts C
  have D_Play__init : ∀ base : Heap, K.In base → base.Ns mainGlobals mg → SysB base → CDef l.prog w (Yx K) mg base "Play" 2 ["self", "board"] F_Play__init [] := fun base KB GB SB => CDef.of hB_Play CB_Play X G d_Play__init sc_Play__init (fun _ _ _ _ _ _ us hl => match us, hl with | [_, _], _ => rfl) (fun cdv f A outer s H E hr => ok_Play__init (T base KB GB SB)  cdv f A outer s H E hr) fun ts C _ => lv_of ts C
  have D_law_after : ∀ base : Heap, K.In base → base.Ns mainGlobals mg → SysB base → Def l.prog w (Yx K) mg base "_law_after" 2 ["_law_labels_here", "_law_box"] F_law_after [] := fun base KB GB SB => Def.of d_law_after X G sc_law_after (fun _ _ _ _ _ _ us hl => match us, hl with | [_, _], _ => rfl) (fun cdv f A outer s H E hr => ok_law_after (T base KB GB SB)  cdv f A outer s H E hr) fun ts C _ => lv_of ts C
  have D_law_here : ∀ base : Heap, K.In base → base.Ns mainGlobals mg → SysB base → Def l.prog w (Yx K) mg base "_law_here" 3 ["_law_labels_here", "_law_moves"] F_law_here [] := fun base KB GB SB => Def.of d_law_here X G sc_law_here (fun _ _ _ _ _ _ us hl => match us, hl with | [_, _], _ => rfl) (fun cdv f A outer s H E hr => ok_law_here (T base KB GB SB) (D_law_after base KB GB SB) cdv f A outer s H E hr) fun ts C _ => lv_of ts C
  have D_law_movable : ∀ base : Heap, K.In base → base.Ns mainGlobals mg → SysB base → Def l.prog w (Yx K) mg base "_law_movable" 2 ["_law_labels_here"] F_law_movable [] := fun base KB GB SB => Def.of d_law_movable X G sc_law_movable (fun _ _ _ _ _ _ us hl => match us, hl with | [_], _ => rfl) (fun cdv f A outer s H E hr => ok_law_movable (T base KB GB SB)  cdv f A outer s H E hr) fun ts C _ => lv_of ts C
  have D_Board_movable : ∀ base : Heap, K.In base → base.Ns mainGlobals mg → SysB base → MDef l.prog w (Yx K) mg base "Board" "movable" 2 ["self"] F_Board_movable [] := fun base KB GB SB => MDef.of hB_Board d_Board_movable sc_Board_movable (fun _ _ _ _ _ _ us hl => match us, hl with | [_], _ => rfl) (fun cdv f A outer s H E hr => ok_Board_movable (T base KB GB SB)  cdv f A outer s H E hr) fun ts C _ => lv_of ts C
  have D_Board__contains : ∀ base : Heap, K.In base → base.Ns mainGlobals mg → SysB base → MDef l.prog w (Yx K) mg base "Board" "__contains__" 2 ["self", "name"] F_Board__contains [] := fun base KB GB SB => MDef.of hB_Board d_Board__contains sc_Board__contains (fun _ _ _ _ _ _ us hl => match us, hl with | [_, _], _ => rfl) (fun cdv f A outer s H E hr => ok_Board__contains (T base KB GB SB)  cdv f A outer s H E hr) fun ts C _ => lv_of ts C
  have D_Board__rshift : ∀ base : Heap, K.In base → base.Ns mainGlobals mg → SysB base → MDef l.prog w (Yx K) mg base "Board" "__rshift__" 6 ["self", "box"] F_Board__rshift [] := fun base KB GB SB => MDef.of hB_Board d_Board__rshift sc_Board__rshift (fun _ _ _ _ _ _ us hl => match us, hl with | [_, _], _ => rfl) (fun cdv f A outer s H E hr => ok_Board__rshift (T base KB GB SB) (D_Board_movable base KB GB SB) (D_Board__init base KB GB SB) cdv f A outer s H E hr) fun ts C _ => lv_of ts C
  have D_Play_move : ∀ base : Heap, K.In base → base.Ns mainGlobals mg → SysB base → MDef l.prog w (Yx K) mg base "Play" "move" 7 ["self", "box"] F_Play_move [] := fun base KB GB SB => MDef.of hB_Play d_Play_move sc_Play_move (fun _ _ _ _ _ _ us hl => match us, hl with | [_, _], _ => rfl) (fun cdv f A outer s H E hr => ok_Play_move (T base KB GB SB) (D_Board_movable base KB GB SB) (D_Board__contains base KB GB SB) (D_Board__rshift base KB GB SB) cdv f A outer s H E hr) fun ts C _ => lv_of ts C
  have D_law_play : ∀ base : Heap, K.In base → base.Ns mainGlobals mg → SysB base → Def l.prog w (Yx K) mg base "_law_play" 4 ["_law_state", "_law_labels_here"] F_law_play [] := fun base KB GB SB => Def.of d_law_play X G sc_law_play (fun _ _ _ _ _ _ us hl => match us, hl with | [_, _], _ => rfl) (fun cdv f A outer s H E hr => ok_law_play (T base KB GB SB) (D_law_movable base KB GB SB) (D_law_pick base KB GB SB) (D_law_after base KB GB SB) cdv f A outer s H E hr) fun ts C _ => lv_of ts C
  have D_Play__iadd : ∀ base : Heap, K.In base → base.Ns mainGlobals mg → SysB base → MDef l.prog w (Yx K) mg base "Play" "__iadd__" 7 ["self", "boxes"] F_Play__iadd [] := fun base KB GB SB => MDef.of hB_Play d_Play__iadd sc_Play__iadd (fun _ _ _ _ _ _ us hl => match us, hl with | [_, _], _ => rfl) (fun cdv f A outer s H E hr => ok_Play__iadd (T base KB GB SB) (D_Board_movable base KB GB SB) (D_Board__contains base KB GB SB) (D_Board__rshift base KB GB SB) cdv f A outer s H E hr) fun ts C _ => lv_of ts C
  have D_Play__isub : ∀ base : Heap, K.In base → base.Ns mainGlobals mg → SysB base → MDef l.prog w (Yx K) mg base "Play" "__isub__" 7 ["self", "many"] F_Play__isub [] := fun base KB GB SB => MDef.of hB_Play d_Play__isub sc_Play__isub (fun _ _ _ _ _ _ us hl => match us, hl with | [_, _], _ => rfl) (fun cdv f A outer s H E hr => ok_Play__isub (T base KB GB SB) (D_Board__rshift base KB GB SB) cdv f A outer s H E hr) fun ts C _ => lv_of ts C
  have D_Play_moves : ∀ base : Heap, K.In base → base.Ns mainGlobals mg → SysB base → MDef l.prog w (Yx K) mg base "Play" "moves" 2 ["self"] F_Play_moves [] := fun base KB GB SB => MDef.of hB_Play d_Play_moves sc_Play_moves (fun _ _ _ _ _ _ us hl => match us, hl with | [_], _ => rfl) (fun cdv f A outer s H E hr => ok_Play_moves (T base KB GB SB)  cdv f A outer s H E hr) fun ts C _ => lv_of ts C
  have D_Board__eq : ∀ base : Heap, K.In base → base.Ns mainGlobals mg → SysB base → MDef l.prog w (Yx K) mg base "Board" "__eq__" 2 ["self", "other"] F_Board__eq [] := fun base KB GB SB => MDef.of hB_Board d_Board__eq sc_Board__eq (fun _ _ _ _ _ _ us hl => match us, hl with | [_, _], _ => rfl) (fun cdv f A outer s H E hr => ok_Board__eq (T base KB GB SB)  cdv f A outer s H E hr) fun ts C _ => lv_of ts C
  have D_Play__len : ∀ base : Heap, K.In base → base.Ns mainGlobals mg → SysB base → MDef l.prog w (Yx K) mg base "Play" "__len__" 2 ["self"] F_Play__len [] := fun base KB GB SB => MDef.of hB_Play d_Play__len sc_Play__len (fun _ _ _ _ _ _ us hl => match us, hl with | [_], _ => rfl) (fun cdv f A outer s H E hr => ok_Play__len (T base KB GB SB)  cdv f A outer s H E hr) fun ts C _ => lv_of ts C
  have D_Play_board : ∀ base : Heap, K.In base → base.Ns mainGlobals mg → SysB base → PDef l.prog w (Yx K) mg base "Play" "board" 2 F_Play_board := fun base KB GB SB => PDef.of hB_Play d_Play_board sc_Play_board (fun _ _ _ _ _ _ us hl => match us, hl with | [_], _ => rfl) (fun cdv f A outer s H E hr => ok_Play_board (T base KB GB SB)  cdv f A outer s H E hr) fun ts C _ => lv_of ts C
  have D_law_is : ∀ base : Heap, K.In base → base.Ns mainGlobals mg → SysB base → Def l.prog w (Yx K) mg base "_law_is" 6 ["_law_play_here", "_law_labels_here", "_law_moves"] F_law_is [] := fun base KB GB SB => Def.of d_law_is X G sc_law_is (fun _ _ _ _ _ _ us hl => match us, hl with | [_, _, _], _ => rfl) (fun cdv f A outer s H E hr => ok_law_is (T base KB GB SB) (D_Board__init base KB GB SB) (D_Board__eq base KB GB SB) (D_Play__len base KB GB SB) (D_Play_moves base KB GB SB) (D_Play_board base KB GB SB) (D_law_here base KB GB SB) cdv f A outer s H E hr) fun ts C _ => lv_of ts C
  exact law_GB d_law X G hfa sc_law (fun _ _ _ _ _ _ _ => rfl) (fun base KB GB SB cdv f A outer s H E hr => ok_law (T base KB GB SB) (D_law_begin base KB GB SB) (D_law_labels base KB GB SB) (D_Board__init base KB GB SB) (D_Play__init base KB GB SB) (D_law_here base KB GB SB) (D_law_draw base KB GB SB) (D_law_movable base KB GB SB) (D_law_pick base KB GB SB) (D_Play_move base KB GB SB) (D_law_play base KB GB SB) (D_Play__iadd base KB GB SB) (D_Play__isub base KB GB SB) (D_Play_moves base KB GB SB) (D_Board__eq base KB GB SB) (D_law_is base KB GB SB) cdv f A outer s H E hr) fun ts C _ => lv_of ts C
end
end FH
open PySem PySem.W PyProof.Rows
set_option maxRecDepth 100000 in
set_option maxHeartbeats 0 in
theorem PySem.Challenge.cw_firsthome_k08_plays_made_and_taken_back_holds : PySem.Challenge.rw_firsthome_k08_plays_made_and_taken_back.Holds := by
  w_on; o_law; k_head; (case hw => w_witness2)
  k_fill
  refine FH.walk_S (l := PySem.Challenge.rw_firsthome_k08_plays_made_and_taken_back) (k := 8) (x := "_law_script") FH.Yx (fun _ => rfl) (by decide +kernel) rfl rfl ⟨⟨rfl, by decide, by decide⟩, rfl⟩ (fun w h Y => PySem.W.kIn_of Y) ?F FH.law_holds
  case F =>
    intro w mg fa h KX G hmg
    refine' FH.all_mk KX G hmg ?aC_Board ?pg_Board ?hd_Board ?po_Board ?sa_Board ?mk_Board ?kc_Board ?aC_Play ?pg_Play ?hd_Play ?po_Play ?sa_Play ?mk_Play ?kc_Play ?nf_Board_homes ?nf_Play_here ?nf_Play_made ?nf_Play_start ?s_cls ?t_cls ?ha_Board ?hm_Board ?ic_Board ?ty_Board ?no_Board_NoneType ?no_Board_bool ?no_Board_int ?no_Board_str ?no_Board_list ?no_Board_tuple ?no_Board_dict ?rd_Board ?ga_Board ?fc_Board_MOST ?sf_Board ?sr_Board ?sf_Play ?qn_Board ?qo_Board (FH.df_mk ?a0 ?l0 ?c0 ?k0) (FH.df_mk ?a1 ?l1 ?c1 ?k1) (FH.df_mk ?a2 ?l2 ?c2 ?k2) (FH.df_mk ?a3 ?l3 ?c3 ?k3) (FH.df_mk ?a4 ?l4 ?c4 ?k4) (FH.df_mk ?a5 ?l5 ?c5 ?k5) (FH.df_mk ?a6 ?l6 ?c6 ?k6) (FH.df_mk ?a7 ?l7 ?c7 ?k7) (FH.dm_mk ?a8 ?i8 ?l8 ?c8 ?k8) (FH.dm_mk ?a9 ?i9 ?l9 ?c9 ?k9) (FH.df_mk ?a10 ?l10 ?c10 ?k10) (FH.df_mk ?a11 ?l11 ?c11 ?k11) (FH.df_mk ?a12 ?l12 ?c12 ?k12) (FH.dm_mk ?a13 ?i13 ?l13 ?c13 ?k13) (FH.dm_mk ?a14 ?i14 ?l14 ?c14 ?k14) (FH.dm_mk ?a15 ?i15 ?l15 ?c15 ?k15) (FH.dm_mk ?a16 ?i16 ?l16 ?c16 ?k16) (FH.df_mk ?a17 ?l17 ?c17 ?k17) (FH.dm_mk ?a18 ?i18 ?l18 ?c18 ?k18) (FH.dm_mk ?a19 ?i19 ?l19 ?c19 ?k19) (FH.dm_mk ?a20 ?i20 ?l20 ?c20 ?k20) (FH.dm_mk ?a21 ?i21 ?l21 ?c21 ?k21) (FH.dm_mk ?a22 ?i22 ?l22 ?c22 ?k22) (FH.dp_mk ?a23 ?g23 ?t23 ?r23 ?l23 ?c23 ?k23) (FH.df_mk ?a24 ?l24 ?c24 ?k24) (FH.df_mk ?a25 ?l25 ?c25 ?k25) ?z_all ?z_bool ?z_dict ?z_enumerate ?z_int ?z_isinstance ?z_len ?z_list ?z_max ?z_min ?z_range ?z_repr ?z_sorted ?z_str ?z_tuple
    (case aC_Board => k_is)
    (case pg_Board => k_is)
    (case hd_Board => k_is)
    (case po_Board => k_is)
    (case sa_Board => k_is)
    (case mk_Board => k_is)
    (case kc_Board => k_is)
    (case aC_Play => k_is)
    (case pg_Play => k_is)
    (case hd_Play => k_is)
    (case po_Play => k_is)
    (case sa_Play => k_is)
    (case mk_Play => k_is)
    (case kc_Play => k_is)
    (case nf_Board_homes => k_is)
    (case nf_Play_here => k_is)
    (case nf_Play_made => k_is)
    (case nf_Play_start => k_is)
    (case s_cls => k_is)
    (case t_cls => k_is)
    (case ha_Board => k_is)
    (case hm_Board => k_is)
    (case ic_Board => k_is)
    (case ty_Board => k_is)
    (case no_Board_NoneType => k_is)
    (case no_Board_bool => k_is)
    (case no_Board_int => k_is)
    (case no_Board_str => k_is)
    (case no_Board_list => k_is)
    (case no_Board_tuple => k_is)
    (case no_Board_dict => k_is)
    (case rd_Board => k_is)
    (case ga_Board => k_is)
    (case fc_Board_MOST => k_is)
    (case sf_Board => k_is)
    (case sr_Board => k_is)
    (case sf_Play => k_is)
    (case qn_Board => k_is)
    (case qo_Board => k_is)
    (case a0 => k_is); (case l0 => k_is); (case c0 => k_is); (case k0 => k_is)
    (case a1 => k_is); (case l1 => k_is); (case c1 => k_is); (case k1 => k_is)
    (case a2 => k_is); (case l2 => k_is); (case c2 => k_is); (case k2 => k_is)
    (case a3 => k_is); (case l3 => k_is); (case c3 => k_is); (case k3 => k_is)
    (case a4 => k_is); (case l4 => k_is); (case c4 => k_is); (case k4 => k_is)
    (case a5 => k_is); (case l5 => k_is); (case c5 => k_is); (case k5 => k_is)
    (case a6 => k_is); (case l6 => k_is); (case c6 => k_is); (case k6 => k_is)
    (case a7 => k_is); (case l7 => k_is); (case c7 => k_is); (case k7 => k_is)
    (case a8 => k_is); (case i8 => k_is); (case l8 => k_is); (case c8 => k_is); (case k8 => k_is)
    (case a9 => k_is); (case i9 => k_is); (case l9 => k_is); (case c9 => k_is); (case k9 => k_is)
    (case a10 => k_is); (case l10 => k_is); (case c10 => k_is); (case k10 => k_is)
    (case a11 => k_is); (case l11 => k_is); (case c11 => k_is); (case k11 => k_is)
    (case a12 => k_is); (case l12 => k_is); (case c12 => k_is); (case k12 => k_is)
    (case a13 => k_is); (case i13 => k_is); (case l13 => k_is); (case c13 => k_is); (case k13 => k_is)
    (case a14 => k_is); (case i14 => k_is); (case l14 => k_is); (case c14 => k_is); (case k14 => k_is)
    (case a15 => k_is); (case i15 => k_is); (case l15 => k_is); (case c15 => k_is); (case k15 => k_is)
    (case a16 => k_is); (case i16 => k_is); (case l16 => k_is); (case c16 => k_is); (case k16 => k_is)
    (case a17 => k_is); (case l17 => k_is); (case c17 => k_is); (case k17 => k_is)
    (case a18 => k_is); (case i18 => k_is); (case l18 => k_is); (case c18 => k_is); (case k18 => k_is)
    (case a19 => k_is); (case i19 => k_is); (case l19 => k_is); (case c19 => k_is); (case k19 => k_is)
    (case a20 => k_is); (case i20 => k_is); (case l20 => k_is); (case c20 => k_is); (case k20 => k_is)
    (case a21 => k_is); (case i21 => k_is); (case l21 => k_is); (case c21 => k_is); (case k21 => k_is)
    (case a22 => k_is); (case i22 => k_is); (case l22 => k_is); (case c22 => k_is); (case k22 => k_is)
    (case a23 => k_is); (case g23 => k_is); (case t23 => k_is); (case r23 => k_is); (case l23 => k_is); (case c23 => k_is); (case k23 => k_is)
    (case a24 => k_is); (case l24 => k_is); (case c24 => k_is); (case k24 => k_is)
    (case a25 => k_is); (case l25 => k_is); (case c25 => k_is); (case k25 => k_is)
    (case z_all => k_is)
    (case z_bool => k_is)
    (case z_dict => k_is)
    (case z_enumerate => k_is)
    (case z_int => k_is)
    (case z_isinstance => k_is)
    (case z_len => k_is)
    (case z_list => k_is)
    (case z_max => k_is)
    (case z_min => k_is)
    (case z_range => k_is)
    (case z_repr => k_is)
    (case z_sorted => k_is)
    (case z_str => k_is)
    (case z_tuple => k_is)
