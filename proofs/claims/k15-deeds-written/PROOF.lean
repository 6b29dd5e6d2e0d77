import PyProof.Rows.All
import Wide.All
import OpenK.AllK
import Wide.FinOn
import HandS.ForMost
import HandS.Walk
import HandS.IsInst
import HandS.Conv
import HandS.Wide
import HandS.SortInts
import HandS.TupAny
import HandS.Zip
import HandS.Rev
import HandS.Exc
import HandS.TryOnly
import HandS.ExcOwn
import HandS.ExcIs
import HandS.WordsExc
import HandS.SuiteRaise
import HandS.Deep
import KE.GoesEnum
import HandS.EndBits
import HandS.More
import HandS.SetFor
import HandS.ExcValue
import HandS.Small
import PyProof.ListStr
import HandS.Text
import HandS.RaiseMore
import KE.DataMinMax
import HandS.TupLe
import PyProof.Rows.StrMul
import HandS.Strs
import HandS.SortKw
import KE.KDictWalk
import HandS.SortRule
import KE.KSortTupAny
import KE.LtData
import KE.KDictCopyH
import HandS.WideBits
import KE.KeyNested
import HandS.TupSets
import HandS.SetBool
import PyProof.EqKinds
import KE.KDictDisplayH
import PyProof.DictUpdate
import KE.KSliceW
import KE.GoesRaise
import PySem.Challenge.RW_claspwork_k15_deeds_written
set_option Elab.async false
set_option linter.all false
set_option maxRecDepth 100000
set_option maxHeartbeats 4000000
/-! Den: a pure layer. A frame of plain data, each reading refined by a pure function of the frame. -/
namespace Dn
open PySem L2

/-! ### outcomes -/
inductive M (α : Type) where
  | ok (a : α) | exc (n : Str) | stuck
def M.bind {α β : Type} (x : M α) (f : α → M β) : M β := match x with
  | .ok a => f a
  | .exc n => .exc n
  | .stuck => .stuck
@[simp] theorem M.bind_ok {α β : Type} (a : α) (f : α → M β) : (M.ok a).bind f = f a := rfl
@[simp] theorem M.bind_exc {α β : Type} (n : Str) (f : α → M β) : (M.exc n : M α).bind f = .exc n := rfl
@[simp] theorem M.bind_stuck {α β : Type} (f : α → M β) : (M.stuck : M α).bind f = .stuck := rfl

abbrev D := PyData
/-- what may change: a list, a dict with keys that are ints and texts, one with keys that are tuples of such -/
inductive OD where
  | lst (ds : List D) | dK (kvs : List (Key × D)) | dT (kvs : List (List Key × D))
/-- a slot: empty, a value, a thing of one's own that may change, the thing handed in to be changed, an error -/
inductive S where
  | none | val (d : D) | own (o : OD) | pin (o : OD) | err (n : Str)
def keyD : Key → D
  | .inl i => .int i
  | .inr x => .str x
def dkD (kvs : List (Key × D)) : List (D × D) := (.bool false, .none) :: kvs.map fun p => (keyD p.1, p.2)
def dtD (kvs : List (List Key × D)) : List (D × D) := (.bool true, .none) :: kvs.map fun p => (.tuple (p.1.map keyD), p.2)
/-- a dict that is known to its object, as data -/
def kdK (kvs : List (Key × D)) : List (D × D) := (.bool false, .bool true) :: kvs.map fun p => (keyD p.1, p.2)
def kdT (kvs : List (List Key × D)) : List (D × D) := (.bool true, .bool true) :: kvs.map fun p => (.tuple (p.1.map keyD), p.2)
/-- no tuple -/
def NTup (o : HO) : Prop := ∀ xs, o ≠ .tup xs
/-- a thing as data -/
def OD.d : OD → D
  | .lst ds => .list ds
  | .dK kvs => .dict (dkD kvs)
  | .dT kvs => .dict (dtD kvs)
abbrev Fr := List S
abbrev ME := Fr → M D
abbrev ML := Fr → M (List D)
abbrev MT := Fr → M Bool
inductive Out where
  | nx (ρ : Fr) | ret (d : D) (ρ : Fr) | retL (ds : List D) (ρ : Fr) | brk (ρ : Fr) | cont (ρ : Fr) | exc (n : Str) (ρ : Fr) | stuck
abbrev MS := Fr → Out

/-! ### data that stands in a heap -/
/-- an error that is held: an object at a, of the own class at C -/
def ExH (C a : Addr) : HO := .ext fun h => ∃ (oe : Obj) (vs : Array Value), h.get? a = some oe ∧ Zc (.ref C) none oe ∧ oe.data = .fields vs
/-- the own class of errors named n -/
def Nm (K : PySem.W.Frag) (C : Addr) (n : Str) : Prop := PySem.W.nsIn K mainGlobals n = some (some (.ref C)) ∧ ExcC K C
/-- a tuple whose object is known, as data -/
abbrev ktD (ds : List D) : D := .dict [(.none, .tuple ds)]
/-- a def of one's own, as data -/
abbrev fnD (n : Str) : D := .dict [(.str n, .none)]
/-- .. as data -/
def excD (n : Str) : D := .dict [(.int 0, .str n)]
section
variable (K : PySem.W.Frag)
mutual
inductive Rep (H : Hp) : V → D → Prop
  | non : Rep H .non .none
  | bl (b : Bool) : Rep H (.bl b) (.bool b)
  | int (i : Int) : Rep H (.int i) (.int i)
  | str (x : Str) : Rep H (.str x) (.str x)
  | lst {a : Addr} {xs : List V} {ds : List D} : H a = some (.lst xs) → RepL H xs ds → Rep H (.ref a) (.list ds)
  | tup {a : Addr} {xs : List V} {ds : List D} : H a = some (.tup xs) → RepL H xs ds → Rep H (.ref a) (.tuple ds)
  | scr {a : Addr} {xs : List V} {ds : List D} {es : List (D × D)} : SqL K H a xs → RepL H xs ds → es = [(.none, .list ds)] → Rep H (.ref a) (.dict es)
  | dK {a : Addr} {xs : List (Key × V)} {ds : List (Key × D)} {es : List (D × D)} : H a = some (.dK xs) → RepK H xs ds → es = dkD ds → Rep H (.ref a) (.dict es)
  | dT {a : Addr} {xs : List (List Key × V)} {ds : List (List Key × D)} {es : List (D × D)} : H a = some (.dT xs) → RepT H xs ds → es = dtD ds → Rep H (.ref a) (.dict es)
  | dKf {a : Addr} {xs : List (Key × V)} {ds : List (Key × D)} {es : List (D × D)} {o : Obj} : H a = some (.frz o (.dK xs)) → RepK H xs ds → es = kdK ds → Rep H (.ref a) (.dict es)
  | dTf {a : Addr} {xs : List (List Key × V)} {ds : List (List Key × D)} {es : List (D × D)} {o : Obj} : H a = some (.frz o (.dT xs)) → RepT H xs ds → es = kdT ds → Rep H (.ref a) (.dict es)
  | ktp {a : Addr} {xs : List V} {ds : List D} {es : List (D × D)} {o : Obj} : H a = some (.frz o (.tup xs)) → o.cls = .type "tuple" → o.dict = none → RepL H xs ds → es = [(.none, .tuple ds)] → Rep H (.ref a) (.dict es)
  | fnc {a : Addr} {n : Str} {es : List (D × D)} : PySem.W.nsIn K mainGlobals n = some (some (.ref a)) → es = [(.str n, .none)] → Rep H (.ref a) (.dict es)
  | exc {a C : Addr} {n : Str} {es : List (D × D)} : H a = some (ExH C a) → Nm K C n → es = [(.int 0, .str n)] → Rep H (.ref a) (.dict es)
inductive RepL (H : Hp) : List V → List D → Prop
  | nil : RepL H [] []
  | cons {v : V} {vs : List V} {d : D} {ds : List D} : Rep H v d → RepL H vs ds → RepL H (v :: vs) (d :: ds)
inductive RepK (H : Hp) : List (Key × V) → List (Key × D) → Prop
  | nil : RepK H [] []
  | cons {k : Key} {v : V} {vs : List (Key × V)} {d : D} {ds : List (Key × D)} : Rep H v d → RepK H vs ds → RepK H ((k, v) :: vs) ((k, d) :: ds)
inductive RepT (H : Hp) : List (List Key × V) → List (List Key × D) → Prop
  | nil : RepT H [] []
  | cons {k : List Key} {v : V} {vs : List (List Key × V)} {d : D} {ds : List (List Key × D)} : Rep H v d → RepT H vs ds → RepT H ((k, v) :: vs) ((k, d) :: ds)
end
/-- a thing as it stands -/
inductive RepO (H : Hp) : HO → OD → Prop
  | lst {vs : List V} {ds : List D} : RepL K H vs ds → RepO H (.lst vs) (.lst ds)
  | dK {vs : List (Key × V)} {ds : List (Key × D)} : RepK K H vs ds → RepO H (.dK vs) (.dK ds)
  | dT {vs : List (List Key × V)} {ds : List (List Key × D)} : RepT K H vs ds → RepO H (.dT vs) (.dT ds)
end

def Ex (H H' : Hp) : Prop := ∀ a o, H a = some o → H' a = some o
theorem Ex.refl (H : Hp) : Ex H H := fun _ _ h => h
theorem Ex.trans {H H1 H2 : Hp} (a : Ex H H1) (b : Ex H1 H2) : Ex H H2 := fun x o h => b x o (a x o h)
theorem Ex.new {H : Hp} {p : Addr} {o : HO} (h : H p = none) : Ex H (upd H p o) := fun a u e => by
  rw [upd_ne (ne_of_none e h)]
  exact e
theorem Ex.free {H H' : Hp} {p : Addr} (e : Ex H H') (h : H' p = none) : H p = none := by
  cases h1 : H p with
  | none => rfl
  | some o =>
    rw [e p o h1] at h
    cases h
theorem ex_rd {H H' : Hp} {a : Addr} {u : HO} (e : Ex H H') (h : Rd H a u) : Rd H' a u := by
  rcases h with h | ⟨o, h⟩
  · exact Or.inl (e a _ h)
  · exact Or.inr ⟨o, e a _ h⟩
theorem ex_l {K : PySem.W.Frag} {H H' : Hp} {a : Addr} {xs : List V} (e : Ex H H') (h : SqL K H a xs) : SqL K H' a xs := by
  rcases h with h | h
  · exact Or.inl (ex_rd e h)
  · exact Or.inr h
theorem ex_t {K : PySem.W.Frag} {H H' : Hp} {a : Addr} {xs : List V} (e : Ex H H') (h : SqT K H a xs) : SqT K H' a xs := by
  rcases h with h | h
  · exact Or.inl (ex_rd e h)
  · exact Or.inr h
mutual
theorem Rep.mono {K : PySem.W.Frag} {H H' : Hp} (e : Ex H H') : ∀ {v : V} {d : D}, Rep K H v d → Rep K H' v d
  | _, _, .non => .non
  | _, _, .bl b => .bl b
  | _, _, .int i => .int i
  | _, _, .str x => .str x
  | _, _, .lst h r => .lst (e _ _ h) (RepL.mono e r)
  | _, _, .scr h r q => .scr (ex_l e h) (RepL.mono e r) q
  | _, _, .dK h r q => .dK (e _ _ h) (RepK.mono e r) q
  | _, _, .dT h r q => .dT (e _ _ h) (RepT.mono e r) q
  | _, _, .dKf h r q => .dKf (e _ _ h) (RepK.mono e r) q
  | _, _, .dTf h r q => .dTf (e _ _ h) (RepT.mono e r) q
  | _, _, .exc h r q => .exc (e _ _ h) r q
  | _, _, .ktp h c d r q => .ktp (e _ _ h) c d (RepL.mono e r) q
  | _, _, .fnc h q => .fnc h q
  | _, _, .tup h r => .tup (e _ _ h) (RepL.mono e r)
theorem RepL.mono {K : PySem.W.Frag} {H H' : Hp} (e : Ex H H') : ∀ {vs : List V} {ds : List D}, RepL K H vs ds → RepL K H' vs ds
  | _, _, .nil => .nil
  | _, _, .cons h r => .cons (Rep.mono e h) (RepL.mono e r)
theorem RepK.mono {K : PySem.W.Frag} {H H' : Hp} (e : Ex H H') : ∀ {vs : List (Key × V)} {ds : List (Key × D)}, RepK K H vs ds → RepK K H' vs ds
  | _, _, .nil => .nil
  | _, _, .cons h r => .cons (Rep.mono e h) (RepK.mono e r)
theorem RepT.mono {K : PySem.W.Frag} {H H' : Hp} (e : Ex H H') : ∀ {vs : List (List Key × V)} {ds : List (List Key × D)}, RepT K H vs ds → RepT K H' vs ds
  | _, _, .nil => .nil
  | _, _, .cons h r => .cons (Rep.mono e h) (RepT.mono e r)
end
theorem RepO.mono {K : PySem.W.Frag} {H H' : Hp} (e : Ex H H') {ho : HO} {o : OD} (h : RepO K H ho o) : RepO K H' ho o := by
  cases h with
  | lst r => exact .lst (r.mono e)
  | dK r => exact .dK (r.mono e)
  | dT r => exact .dT (r.mono e)
theorem RepO.nt {K : PySem.W.Frag} {H : Hp} {ho : HO} {o : OD} (h : RepO K H ho o) : NTup ho := by
  cases h <;> exact fun xs z => nomatch z
theorem RepO.frz {K : PySem.W.Frag} {H : Hp} {a : Addr} {ho : HO} {o : OD} (h : RepO K H ho o) (e : H a = some ho) : Rep K H (.ref a) o.d := by
  cases h with
  | lst r => exact .lst e r
  | dK r => exact .dK e r rfl
  | dT r => exact .dT e r rfl
mutual
theorem Rep.dp {K : PySem.W.Frag} {H : Hp} : ∀ {v : V} {d : D}, d.canLay0 = true → Rep K H v d → Dp K H v d
  | _, _, _, .non => .non
  | _, _, _, .bl b => .bl b
  | _, _, _, .int i => .int i
  | _, _, _, .str x => .str x
  | _, _, c, .lst h r => .lst (SqL.of h) (RepL.dp (by simpa [PyData.canLay0] using c) r)
  | _, _, c, .tup h r => .tup (.inl (.inl h)) (RepL.dp (by simpa [PyData.canLay0] using c) r)
  | _, _, c, .scr h r q => by simp [PyData.canLay0] at c
  | _, _, c, .dK h r q => by simp [PyData.canLay0] at c
  | _, _, c, .dT h r q => by simp [PyData.canLay0] at c
  | _, _, c, .dKf h r q => by simp [PyData.canLay0] at c
  | _, _, c, .dTf h r q => by simp [PyData.canLay0] at c
  | _, _, c, .ktp h _ _ r q => by simp [PyData.canLay0] at c
  | _, _, c, .fnc h q => by simp [PyData.canLay0] at c
theorem RepL.dp {K : PySem.W.Frag} {H : Hp} : ∀ {vs : List V} {ds : List D}, PyData.canLayAll0 ds = true → RepL K H vs ds → DpAll K H vs ds
  | _, _, _, .nil => .nil
  | _, _, c, .cons h r => by
    simp [PyData.canLayAll0] at c
    exact .cons (Rep.dp c.1 h) (RepL.dp c.2 r)
end
section
variable {K : PySem.W.Frag} {H : Hp} {vs ws : List V} {ds es : List D}
theorem RepL.length (h : RepL K H vs ds) : vs.length = ds.length := by
  induction ds generalizing vs with
  | nil => cases h; rfl
  | cons d ds ih =>
    cases h with
    | cons _ r => rw [List.length_cons, List.length_cons, ih r]
theorem RepL.append (h : RepL K H vs ds) (g : RepL K H ws es) : RepL K H (vs ++ ws) (ds ++ es) := by
  induction ds generalizing vs with
  | nil => cases h; exact g
  | cons d ds ih =>
    cases h with
    | cons a r => exact .cons a (ih r)
theorem RepL.get (h : RepL K H vs ds) {i : Nat} {v : V} (e : vs[i]? = some v) : ∃ d, ds[i]? = some d ∧ Rep K H v d := by
  induction ds generalizing vs i with
  | nil => cases h; simp at e
  | cons d ds ih =>
    cases h with
    | cons a r =>
      cases i with
      | zero => simp at e; subst e; exact ⟨d, rfl, a⟩
      | succ i => simp at e; simpa using ih r e
theorem RepL.get' (h : RepL K H vs ds) {i : Nat} {d : D} (e : ds[i]? = some d) : ∃ v, vs[i]? = some v ∧ Rep K H v d := by
  induction ds generalizing vs i with
  | nil => simp at e
  | cons d ds ih =>
    cases h with
    | cons a r =>
      cases i with
      | zero => simp at e; subst e; exact ⟨_, rfl, a⟩
      | succ i => simp at e; simpa using ih r e
theorem RepL.set (h : RepL K H vs ds) {v : V} {d : D} (r : Rep K H v d) (i : Nat) : RepL K H (vs.set i v) (ds.set i d) := by
  induction ds generalizing vs i with
  | nil => cases h; exact .nil
  | cons e ds ih =>
    cases h with
    | cons a q =>
      cases i with
      | zero => exact .cons r q
      | succ i => exact .cons a (ih q i)
theorem RepL.take (h : RepL K H vs ds) (n : Nat) : RepL K H (vs.take n) (ds.take n) := by
  induction ds generalizing vs n with
  | nil => cases h; simp; exact .nil
  | cons e ds ih =>
    cases h with
    | cons a q =>
      cases n with
      | zero => simp; exact .nil
      | succ n => simp only [List.take_succ_cons]; exact .cons a (ih q n)
theorem RepL.drop (h : RepL K H vs ds) (n : Nat) : RepL K H (vs.drop n) (ds.drop n) := by
  induction ds generalizing vs n with
  | nil => cases h; simp; exact .nil
  | cons e ds ih =>
    cases h with
    | cons a q =>
      cases n with
      | zero => exact .cons a q
      | succ n => simp only [List.drop_succ_cons]; exact ih q n
theorem RepL.reverse (h : RepL K H vs ds) : RepL K H vs.reverse ds.reverse := by
  induction ds generalizing vs with
  | nil => cases h; exact .nil
  | cons e ds ih =>
    cases h with
    | cons a q => simp only [List.reverse_cons]; exact (ih q).append (.cons a .nil)
theorem repL_ints (ns : List Int) : RepL K H (ns.map V.int) (ns.map PyData.int) := by
  induction ns with
  | nil => exact .nil
  | cons n ns ih => exact .cons (.int n) ih
/-- a list of ints in data is one of ints in values -/
theorem RepL.ints {ns : List Int} (h : RepL K H vs (ns.map PyData.int)) : vs = ns.map V.int := by
  induction ns generalizing vs with
  | nil => cases h; rfl
  | cons n ns ih =>
    cases h with
    | cons a r =>
      cases a
      rw [ih r]
      rfl
theorem RepL.bools {ns : List Bool} (h : RepL K H vs (ns.map PyData.bool)) : vs = ns.map V.bl := by
  induction ns generalizing vs with
  | nil => cases h; rfl
  | cons n ns ih =>
    cases h with
    | cons a r =>
      cases a
      rw [ih r]
      rfl
end

/-- one step: the frozen heap F and the heap H grow, what is newly frozen is new -/
structure Step (F H F' H' : Hp) : Prop where
  ff : Ex F F'
  hh : Ex H H'
  nw : ∀ a o, F a = none → H a = some o → NTup o → F' a = none
  fh : Ex F' H'
section
variable {F H F' H' F'' H'' : Hp}
theorem Step.refl (e : Ex F H) : Step F H F H := ⟨Ex.refl _, Ex.refl _, fun _ _ h _ _ => h, e⟩
theorem some_of {a : Addr} (e : Ex H H') (h : H a ≠ none) : H' a ≠ none := by
  cases q : H a with
  | none => exact absurd q h
  | some o => rw [e a o q]; exact fun z => nomatch z
theorem Step.trans (s : Step F H F' H') (t : Step F' H' F'' H'') : Step F H F'' H'' :=
  ⟨s.ff.trans t.ff, s.hh.trans t.hh, fun a o h1 h2 h3 => t.nw a o (s.nw a o h1 h2 h3) (s.hh a o h2) h3, t.fh⟩
theorem Ex.upd {p : Addr} {o : HO} (e : Ex F H) : Ex (upd F p o) (upd H p o) := fun a u h => by
  by_cases q : a = p
  · subst q; rw [upd_same] at h ⊢; exact h
  · rw [upd_ne q] at h ⊢; exact e a u h
/-- a new object, frozen -/
theorem Step.new {p : Addr} {o : HO} (e : Ex F H) (h : H p = none) : Step F H (L2.upd F p o) (L2.upd H p o) :=
  ⟨Ex.new (e.free h), Ex.new h, fun a o' h1 h2 _ => by
    have q : a ≠ p := ne_of_none h2 h
    rw [upd_ne q]; exact h1, e.upd⟩
/-- a new object, not frozen -/
theorem Step.new0 {p : Addr} {o : HO} (e : Ex F H) (h : H p = none) : Step F H F (L2.upd H p o) :=
  ⟨Ex.refl _, Ex.new h, fun a o' h1 h2 _ => h1, e.trans (Ex.new h)⟩
end

section
variable (K : PySem.W.Frag)
/-- a value that stands for data now: frozen, or a thing as it stands -/
inductive RepB (F H : Hp) : V → D → Prop
  | frz {v : V} {d : D} : Rep K F v d → RepB F H v d
  | thg {a : Addr} {ho : HO} {o : OD} : H a = some ho → RepO K F ho o → RepB F H (.ref a) o.d
/-- what a slot holds; L: where the thing handed in stands, where the error that is held -/
def SlotR (L : Addr × Addr) (F H0 H : Hp) : S → Option V → Prop
  | .none, _ => True
  | .val d, o => ∃ v, o = some v ∧ Rep K F v d
  | .own od, o => ∃ l ho, o = some (.ref l) ∧ F l = none ∧ H0 l = none ∧ H l = some ho ∧ RepO K F ho od
  | .pin od, o => o = some (.ref L.1) ∧ F L.1 = none ∧ H0 L.1 = none ∧ ∃ ho, H L.1 = some ho ∧ RepO K F ho od
  | .err _, o => o = some (.ref L.2)
def ownO : Option S → Option OD
  | some (.own o) => some o
  | some (.pin o) => some o
  | _ => none
def isOwn (s : Option S) : Prop := (ownO s).isSome = true
structure Env (L : Addr × Addr) (F0 H0 F H : Hp) (σ : St) (ρ : Fr) : Prop where
  st : Step F0 H0 F H
  len : σ.length = ρ.length
  sl : ∀ (i : Nat) (s : S), ρ[i]? = some s → SlotR K L F H0 H s (σ[i]?.join)
  sep : ∀ (i j : Nat) (l : Addr), isOwn ρ[i]? → isOwn ρ[j]? → σ[i]? = some (some (.ref l)) → σ[j]? = some (some (.ref l)) → i = j
end
section
variable {K : PySem.W.Frag} {L : Addr × Addr} {F0 H0 F H F' H' : Hp} {σ : St} {ρ : Fr} {v : V} {d : D}
theorem RepB.step (s : Step F H F' H') (h : RepB K F H v d) : RepB K F' H' v d := by
  cases h with
  | frz r => exact .frz (r.mono s.ff)
  | thg q r => exact .thg (s.hh _ _ q) (r.mono s.ff)
/-- for reading, all is as if frozen -/
theorem RepB.now (e : Ex F H) (h : RepB K F H v d) : Rep K H v d := by
  cases h with
  | frz r => exact r.mono e
  | thg q r => exact (r.mono e).frz q
theorem Env.step (E : Env K L F0 H0 F H σ ρ) (s : Step F H F' H') : Env K L F0 H0 F' H' σ ρ where
  st := E.st.trans s
  len := E.len
  sep := E.sep
  sl := fun i t h => by
    have q := E.sl i t h
    cases t with
    | none => trivial
    | err n => exact q
    | val d => obtain ⟨v, e, r⟩ := q; exact ⟨v, e, r.mono s.ff⟩
    | own ds =>
      obtain ⟨l, ho, e, f, h0, hl, r⟩ := q
      exact ⟨l, ho, e, s.nw l ho f hl r.nt, h0, s.hh _ _ hl, r.mono s.ff⟩
    | pin ds =>
      obtain ⟨e, f, h0, ho, hl, r⟩ := q
      exact ⟨e, s.nw L.1 ho f hl r.nt, h0, ho, s.hh _ _ hl, r.mono s.ff⟩
theorem join_some {α : Type} {o : Option (Option α)} {x : α} (h : o.join = some x) : o = some (some x) := by
  cases o with
  | none => cases h
  | some y => simp at h; rw [h]
theorem Env.var (E : Env K L F0 H0 F H σ ρ) {i : Nat} (h : ρ[i]? = some (.val d)) : ∃ v, σ[i]? = some (some v) ∧ Rep K F v d := by
  obtain ⟨v, e, r⟩ := E.sl i _ h
  exact ⟨v, join_some e, r⟩
theorem Env.ownv (E : Env K L F0 H0 F H σ ρ) {i : Nat} {o : OD} (h : ownO ρ[i]? = some o) : ∃ l ho, σ[i]? = some (some (.ref l)) ∧ F l = none ∧ H0 l = none ∧ H l = some ho ∧ RepO K F ho o ∧ (∀ o', ρ[i]? = some (.pin o') → l = L.1) := by
  cases q : ρ[i]? with
  | none => rw [q] at h; cases h
  | some s =>
    rw [q] at h
    cases s with
    | own od =>
      cases h
      obtain ⟨l, ho, e, r1, r2, r3, r4⟩ := E.sl i _ q
      exact ⟨l, ho, join_some e, r1, r2, r3, r4, fun o' z => by cases z⟩
    | pin od =>
      cases h
      obtain ⟨e, r1, r2, ho, r3, r4⟩ := E.sl i _ q
      exact ⟨L.1, ho, join_some e, r1, r2, r3, r4, fun _ _ => rfl⟩
    | none => cases h
    | val d => cases h
    | err n => cases h
theorem set_get {α : Type} {l : List α} {i j : Nat} {x y : α} (h : (l.set i x)[j]? = some y) : (i = j ∧ y = x ∧ i < l.length) ∨ (i ≠ j ∧ l[j]? = some y) := by
  rw [List.getElem?_set] at h
  by_cases q : i = j
  · rw [if_pos q] at h
    split at h
    · left; exact ⟨q, (Option.some.inj h).symm, by assumption⟩
    · cases h
  · rw [if_neg q] at h
    exact .inr ⟨q, h⟩
/-- a slot that is no thing of one's own any more -/
theorem own_ne {i j : Nat} {s : S} (hs : ownO (some s) = none) (h : isOwn (ρ.set i s)[j]?) : i ≠ j := fun z => by
  subst z
  unfold isOwn at h
  by_cases q : i < ρ.length
  · rw [List.getElem?_set_self q, hs] at h; cases h
  · rw [List.getElem?_eq_none (by rw [List.length_set]; omega)] at h; cases h
/-- a slot gets a value, or is emptied -/
theorem Env.setx (E : Env K L F0 H0 F H σ ρ) {s : S} {o : Option V} (hs : ownO (some s) = none) (r : SlotR K L F H0 H s o) (i : Nat) : Env K L F0 H0 F H (σ.set i o) (ρ.set i s) where
  st := E.st
  len := by rw [List.length_set, List.length_set]; exact E.len
  sl := fun j t h => by
    rcases set_get h with ⟨e, es, hl⟩ | ⟨ne, h'⟩
    · subst e; subst es
      rw [List.getElem?_set_self (by rw [E.len]; exact hl)]
      exact r
    · rw [List.getElem?_set_ne ne]
      exact E.sl j t h'
  sep := fun j k l h1 h2 e1 e2 => by
    have nj := own_ne hs h1
    have nk := own_ne hs h2
    rw [List.getElem?_set_ne nj] at h1 e1
    rw [List.getElem?_set_ne nk] at h2 e2
    exact E.sep j k l h1 h2 e1 e2
theorem Env.setv (E : Env K L F0 H0 F H σ ρ) (r : Rep K F v d) (i : Nat) : Env K L F0 H0 F H (σ.set i (some v)) (ρ.set i (.val d)) := E.setx (s := .val d) rfl (show SlotR K L F H0 H (.val d) (some v) from ⟨v, rfl, r⟩) i
/-- a slot gets a new thing -/
theorem Env.seto (E : Env K L F0 H0 F H σ ρ) {p : Addr} {ho : HO} {o : OD} (hp : H p = none) (r : RepO K F ho o) (i : Nat) : Env K L F0 H0 F (upd H p ho) (σ.set i (some (.ref p))) (ρ.set i (.own o)) where
  st := E.st.trans (Step.new0 E.st.fh hp)
  len := by rw [List.length_set, List.length_set]; exact E.len
  sl := fun j s h => by
    rcases set_get h with ⟨e, es, hl⟩ | ⟨ne, h'⟩
    · subst e; subst es
      rw [List.getElem?_set_self (by rw [E.len]; exact hl)]
      exact ⟨p, ho, rfl, E.st.fh.free hp, E.st.hh.free hp, upd_same, r⟩
    · rw [List.getElem?_set_ne ne]
      exact (E.step (Step.new0 E.st.fh hp)).sl j s h'
  sep := fun j k l h1 h2 e1 e2 => by
    have no : ∀ {m : Nat}, isOwn ρ[m]? → σ[m]? = some (some (.ref p)) → False := fun {m} hm em => by
      cases q : ownO ρ[m]? with
      | none => unfold isOwn at hm; rw [q] at hm; cases hm
      | some o =>
        obtain ⟨l', ho', el, _, _, hl, _⟩ := E.ownv q
        rw [el] at em
        cases em
        rw [hp] at hl
        cases hl
    by_cases nj : i = j
    · by_cases nk : i = k
      · exact nj.symm.trans nk
      · subst nj
        rw [List.getElem?_set_ne nk] at h2 e2
        rw [List.getElem?_set] at e1
        simp at e1
        obtain ⟨_, e1⟩ := e1
        subst e1
        exact (no h2 e2).elim
    · rw [List.getElem?_set_ne nj] at h1 e1
      by_cases nk : i = k
      · subst nk
        rw [List.getElem?_set] at e2
        simp at e2
        obtain ⟨_, e2⟩ := e2
        subst e2
        exact (no h1 e1).elim
      · rw [List.getElem?_set_ne nk] at h2 e2
        exact E.sep j k l h1 h2 e1 e2
/-- the thing of one's own in a slot as it is now -/
def putO (i : Nat) (o : OD) (ρ : Fr) : Fr := match ρ[i]? with
  | some (.pin _) => ρ.set i (.pin o)
  | _ => ρ.set i (.own o)
theorem putO_get {i j : Nat} {o o0 : OD} {s : S} (h0 : ownO ρ[i]? = some o0) (h : (putO i o ρ)[j]? = some s) : (i = j ∧ ((s = .own o ∧ ∃ o', ρ[i]? = some (.own o')) ∨ (s = .pin o ∧ ∃ o', ρ[i]? = some (.pin o')))) ∨ (i ≠ j ∧ ρ[j]? = some s) := by
  unfold putO at h
  cases q : ρ[i]? with
  | none => rw [q] at h0; cases h0
  | some t =>
    rw [q] at h h0
    cases t with
    | own o' =>
      rcases set_get h with ⟨e, es, _⟩ | z
      · exact .inl ⟨e, .inl ⟨es, o', rfl⟩⟩
      · exact .inr z
    | pin o' =>
      rcases set_get h with ⟨e, es, _⟩ | z
      · exact .inl ⟨e, .inr ⟨es, o', rfl⟩⟩
      · exact .inr z
    | none => cases h0
    | val _ => cases h0
    | err _ => cases h0
theorem putO_len {i : Nat} {o : OD} : (putO i o ρ).length = ρ.length := by
  unfold putO
  split <;> rw [List.length_set]
theorem putO_own {i j : Nat} {o o0 : OD} (h0 : ownO ρ[i]? = some o0) (h : isOwn (putO i o ρ)[j]?) : isOwn ρ[j]? := by
  cases q : (putO i o ρ)[j]? with
  | none => rw [q] at h; cases h
  | some s =>
    rcases putO_get h0 q with ⟨e, _⟩ | ⟨_, z⟩
    · subst e; unfold isOwn; rw [h0]; rfl
    · rw [z, ← q]; exact h
/-- another slot's thing stands elsewhere -/
theorem Env.apart (E : Env K L F0 H0 F H σ ρ) {i j : Nat} {l m : Addr} {o u : OD} (h : ownO ρ[i]? = some o) (h' : ownO ρ[j]? = some u) (hl : σ[i]? = some (some (.ref l))) (hm : σ[j]? = some (some (.ref m))) (ne : i ≠ j) : m ≠ l := fun z => by
  subst z
  exact ne (E.sep i j m (by unfold isOwn; rw [h]; rfl) (by unfold isOwn; rw [h']; rfl) hl hm)
/-- the thing of one's own in slot i changes -/
theorem Env.mut (E : Env K L F0 H0 F H σ ρ) {i : Nat} {l : Addr} {o u : OD} {ho : HO} (h : ownO ρ[i]? = some o) (hl : σ[i]? = some (some (.ref l))) (r : RepO K F ho u) : Env K L F0 H0 F (upd H l ho) σ (putO i u ρ) where
  st := by
    obtain ⟨l', ho', e, f, h0, hH, _⟩ := E.ownv h
    rw [hl] at e
    cases e
    refine ⟨E.st.ff, fun a o q => ?_, E.st.nw, fun a o q => ?_⟩
    · rw [upd_ne (ne_of_none q h0)]; exact E.st.hh a o q
    · rw [upd_ne (ne_of_none q f)]; exact E.st.fh a o q
  len := by rw [putO_len]; exact E.len
  sl := fun j s q => by
    obtain ⟨l', ho', e, f, h0, hH, _, hpin⟩ := E.ownv h
    rw [hl] at e
    cases e
    rcases putO_get h q with ⟨e, z⟩ | ⟨ne, h'⟩
    · subst e
      rw [hl]
      rcases z with ⟨rfl, o', ho'⟩ | ⟨rfl, o', ho'⟩
      · exact ⟨l, ho, rfl, f, h0, upd_same, r⟩
      · have el := hpin o' ho'
        subst el
        exact ⟨rfl, f, h0, ho, upd_same, r⟩
    · have z := E.sl j s h'
      cases s with
      | none => trivial
      | err n => exact z
      | val d => exact z
      | own us =>
        obtain ⟨m, ho2, e, f2, h2, hH2, rr⟩ := z
        refine ⟨m, ho2, e, f2, h2, ?_, rr⟩
        rw [upd_ne (E.apart h (by rw [h']; rfl) hl (join_some e) ne)]
        exact hH2
      | pin us =>
        obtain ⟨e, f2, h2, ho2, hH2, rr⟩ := z
        refine ⟨e, f2, h2, ho2, ?_, rr⟩
        rw [upd_ne (E.apart h (by rw [h']; rfl) hl (join_some e) ne)]
        exact hH2
  sep := fun j k m h1 h2 e1 e2 => E.sep j k m (putO_own h h1) (putO_own h h2) e1 e2
/-- the thing of one's own in slot i is frozen -/
theorem Env.frz (E : Env K L F0 H0 F H σ ρ) {i : Nat} {o : OD} (h : ρ[i]? = some (.own o)) : ∃ F', Ex F F' ∧ Env K L F0 H0 F' H σ (ρ.set i (.val o.d)) := by
  have h1 : ownO ρ[i]? = some o := by rw [h]; rfl
  obtain ⟨l, ho, e, f, h0, hH, r, _⟩ := E.ownv h1
  have ef : Ex F (upd F l ho) := Ex.new f
  refine ⟨upd F l ho, ef, ⟨?_, by rw [List.length_set]; exact E.len, fun j s q => ?_, fun j k m h1 h2 e1 e2 => ?_⟩⟩
  · refine ⟨E.st.ff.trans ef, E.st.hh, fun a o' h1 h2 h3 => ?_, fun a o q => ?_⟩
    · rw [upd_ne (ne_of_none h2 h0)]; exact E.st.nw a o' h1 h2 h3
    · by_cases z : a = l
      · subst z; rw [upd_same] at q; cases q; exact hH
      · rw [upd_ne z] at q; exact E.st.fh a o q
  · rcases set_get q with ⟨e', es', hl'⟩ | ⟨ne, h'⟩
    · subst e'; subst es'
      rw [e]
      exact ⟨.ref l, rfl, (r.mono ef).frz upd_same⟩
    · have z := E.sl j s h'
      cases s with
      | none => trivial
      | err n => exact z
      | val d => obtain ⟨v, e, rr⟩ := z; exact ⟨v, e, rr.mono ef⟩
      | own us =>
        obtain ⟨m, vs', e', f', h0', hH', rr⟩ := z
        refine ⟨m, vs', e', ?_, h0', hH', rr.mono ef⟩
        rw [upd_ne (E.apart h1 (by rw [h']; rfl) e (join_some e') ne)]
        exact f'
      | pin us =>
        obtain ⟨e', f', h0', ho', hH', rr⟩ := z
        refine ⟨e', ?_, h0', ho', hH', rr.mono ef⟩
        rw [upd_ne (E.apart h1 (by rw [h']; rfl) e (join_some e') ne)]
        exact f'
  · have nj := own_ne rfl h1
    have nk := own_ne rfl h2
    rw [List.getElem?_set_ne nj] at h1
    rw [List.getElem?_set_ne nk] at h2
    exact E.sep j k m h1 h2 e1 e2
/-- the heap without one object -/
def del (H : Hp) (p : Addr) : Hp := fun b => if b = p then none else H b
theorem del_same {p : Addr} : del H p p = none := if_pos rfl
theorem del_ne {p b : Addr} (h : b ≠ p) : del H p b = H b := if_neg h
theorem del_upd {p : Addr} {o : HO} (h : H p = some o) : upd (del H p) p o = H := by
  funext b
  by_cases q : b = p
  · subst q; rw [upd_same, h]
  · rw [upd_ne q, del_ne q]
/-- the thing of one's own in slot i is let go -/
theorem Env.drop (E : Env K L F0 H0 F H σ ρ) {i : Nat} {l : Addr} {o : OD} (h : ρ[i]? = some (.own o)) (hl : σ[i]? = some (some (.ref l))) : Env K L F0 H0 F (del H l) σ (ρ.set i .none) where
  st := by
    have h1 : ownO ρ[i]? = some o := by rw [h]; rfl
    obtain ⟨l', ho, e, f, h0, hH, r, _⟩ := E.ownv h1
    rw [hl] at e
    cases e
    refine ⟨E.st.ff, fun a o q => ?_, E.st.nw, fun a o q => ?_⟩
    · rw [del_ne (ne_of_none q h0)]; exact E.st.hh a o q
    · rw [del_ne (ne_of_none q f)]; exact E.st.fh a o q
  len := by rw [List.length_set]; exact E.len
  sl := fun j s q => by
    have h1 : ownO ρ[i]? = some o := by rw [h]; rfl
    rcases set_get q with ⟨e', es', hl'⟩ | ⟨ne, h'⟩
    · subst es'; trivial
    · have z := E.sl j s h'
      cases s with
      | none => trivial
      | err n => exact z
      | val d => exact z
      | own us =>
        obtain ⟨m, vs', e', f', h0', hH', rr⟩ := z
        refine ⟨m, vs', e', f', h0', ?_, rr⟩
        rw [del_ne (E.apart h1 (by rw [h']; rfl) hl (join_some e') ne)]
        exact hH'
      | pin us =>
        obtain ⟨e', f', h0', ho', hH', rr⟩ := z
        refine ⟨e', f', h0', ho', ?_, rr⟩
        rw [del_ne (E.apart h1 (by rw [h']; rfl) hl (join_some e') ne)]
        exact hH'
  sep := fun j k m h1 h2 e1 e2 => by
    have nj := own_ne rfl h1
    have nk := own_ne rfl h2
    rw [List.getElem?_set_ne nj] at h1
    rw [List.getElem?_set_ne nk] at h2
    exact E.sep j k m h1 h2 e1 e2
end
end Dn

set_option Elab.async false
set_option linter.all false
set_option maxRecDepth 100000
set_option maxHeartbeats 4000000
/-! DenB: expressions -/
namespace Dn
open PySem L2

/-! ### pure wishes -/
def post {α : Type} (m : M α) (kx : α → Prop) (ke : Str → Prop) : Prop := match m with
  | .ok a => kx a
  | .exc n => ke n
  | .stuck => False
@[simp] theorem post_ok {α : Type} {a : α} {kx : α → Prop} {ke : Str → Prop} : post (.ok a) kx ke = kx a := rfl
@[simp] theorem post_exc {α : Type} {n : Str} {kx : α → Prop} {ke : Str → Prop} : post (.exc n : M α) kx ke = ke n := rfl
@[simp] theorem post_stuck {α : Type} {kx : α → Prop} {ke : Str → Prop} : post (.stuck : M α) kx ke = False := rfl
theorem post_mono {α : Type} {m : M α} {kx kx' : α → Prop} {ke ke' : Str → Prop} (h : post m kx ke) (f : ∀ a, kx a → kx' a) (g : ∀ n, ke n → ke' n) : post m kx' ke' := by
  cases m with
  | ok a => exact f a h
  | exc n => exact g n h
  | stuck => exact h
theorem post_bind {α β : Type} {m : M α} {f : α → M β} {kx : β → Prop} {ke : Str → Prop} (h : post (m.bind f) kx ke) : post m (fun a => post (f a) kx ke) ke := by
  cases m with
  | ok a => exact h
  | exc n => exact h
  | stuck => exact h

inductive RepBL (K : PySem.W.Frag) (F H : Hp) : List V → List D → Prop
  | nil : RepBL K F H [] []
  | cons {v : V} {vs : List V} {d : D} {ds : List D} : RepB K F H v d → RepBL K F H vs ds → RepBL K F H (v :: vs) (d :: ds)
theorem RepBL.step {K : PySem.W.Frag} {F H F' H' : Hp} (s : Step F H F' H') : ∀ {vs : List V} {ds : List D}, RepBL K F H vs ds → RepBL K F' H' vs ds
  | _, _, .nil => .nil
  | _, _, .cons r t => .cons (r.step s) (RepBL.step s t)
theorem RepL.b {K : PySem.W.Frag} {F H : Hp} : ∀ {vs : List V} {ds : List D}, RepL K F vs ds → RepBL K F H vs ds
  | _, _, .nil => .nil
  | _, _, .cons r t => .cons (.frz r) (RepL.b t)

section
variable (K : PySem.W.Frag) (L : Addr × Addr) (mg : Str → Option Value) (W : WX)
def Wm (n : Str) (σ : St) (H : Hp) : Prop := ∀ C, mg n = some (.ref C) → W (.ref C) none σ H
/-- what is wanted of a value -/
abbrev WV (F H : Hp) (d : D) (Q : VK) : Prop := ∀ F' H' v, Step F H F' H' → RepB K F' H' v d → Q v H'
abbrev WF (F H : Hp) (d : D) (Q : VK) : Prop := ∀ F' H' v, Step F H F' H' → Rep K F' v d → Q v H'
abbrev WN (F H : Hp) (ds : List D) (Q : VK) : Prop := ∀ F' H1 p vs, Step F H F' H1 → H1 p = none → RepL K F' vs ds → Q (.ref p) (upd H1 p (.lst vs))
abbrev WE' (F H : Hp) (σ : St) (n : Str) : Prop := ∀ F' H', Step F H F' H' → Wm mg W n σ H'
/-- an expression, as it is -/
def DE (t : TE) (f : ME) : Prop := ∀ F0 H0 F H σ ρ Q, Env K L F0 H0 F H σ ρ → post (f ρ) (fun d => WV K F H d Q) (WE' mg W F H σ) → t σ H Q
/-- .. frozen -/
def DF (t : TE) (f : ME) : Prop := ∀ F0 H0 F H σ ρ Q, Env K L F0 H0 F H σ ρ → post (f ρ) (fun d => WF K F H d Q) (WE' mg W F H σ) → t σ H Q
/-- .. a new list -/
def DL (t : TE) (f : ML) : Prop := ∀ F0 H0 F H σ ρ Q, Env K L F0 H0 F H σ ρ → post (f ρ) (fun ds => WN K F H ds Q) (WE' mg W F H σ) → t σ H Q
/-- a test -/
def DT (t : TT) (f : MT) : Prop := ∀ F0 H0 F H σ ρ Q, Env K L F0 H0 F H σ ρ → post (f ρ) (fun b => ∀ F' H', Step F H F' H' → Q b H') (WE' mg W F H σ) → t σ H Q
/-- arguments, as they are; frozen -/
def DA (t : TA) (f : ML) : Prop := ∀ F0 H0 F H σ ρ (Q : List V → Hp → Prop), Env K L F0 H0 F H σ ρ → post (f ρ) (fun ds => ∀ F' H' vs, Step F H F' H' → RepBL K F' H' vs ds → Q vs H') (WE' mg W F H σ) → t σ H Q
def DAF (t : TA) (f : ML) : Prop := ∀ F0 H0 F H σ ρ (Q : List V → Hp → Prop), Env K L F0 H0 F H σ ρ → post (f ρ) (fun ds => ∀ F' H' vs, Step F H F' H' → RepL K F' vs ds → Q vs H') (WE' mg W F H σ) → t σ H Q
/-- a slice's part -/
def DO (t : TO) (f : Fr → M (Option Int)) : Prop := ∀ F0 H0 F H σ ρ (Q : Option Int → Hp → Prop), Env K L F0 H0 F H σ ρ → post (f ρ) (fun o => ∀ F' H', Step F H F' H' → Q o H') (WE' mg W F H σ) → t σ H Q
/-- an operation on values -/
def R2D (r : R2) (f : D → D → Option D) : Prop := ∀ F H x y d e Q z, Ex F H → RepB K F H x d → RepB K F H y e → f d e = some z → WF K F H z Q → r x y H Q
def R2L (r : R2) (f : D → D → Option (List D)) : Prop := ∀ F H x y d e Q z, Ex F H → RepB K F H x d → RepB K F H y e → f d e = some z → WN K F H z Q → r x y H Q
def R1D (r : V → Hp → VK → Prop) (f : D → Option D) : Prop := ∀ F H x d Q z, Ex F H → RepB K F H x d → f d = some z → WF K F H z Q → r x H Q
def RCD (r : List V → Hp → VK → Prop) (f : List D → Option D) : Prop := ∀ F H xs ds Q z, Ex F H → RepBL K F H xs ds → f ds = some z → WF K F H z Q → r xs H Q
def RCL (r : List V → Hp → VK → Prop) (f : List D → Option (List D)) : Prop := ∀ F H xs ds Q z, Ex F H → RepBL K F H xs ds → f ds = some z → WN K F H z Q → r xs H Q
def RSD (r : V → Option Int → Option Int → Hp → VK → Prop) (f : D → Option Int → Option Int → Option D) : Prop := ∀ F H x d lo hi Q z, Ex F H → RepB K F H x d → f d lo hi = some z → WF K F H z Q → r x lo hi H Q
def RSL (r : V → Option Int → Option Int → Hp → VK → Prop) (f : D → Option Int → Option Int → Option (List D)) : Prop := ∀ F H x d lo hi Q z, Ex F H → RepB K F H x d → f d lo hi = some z → WN K F H z Q → r x lo hi H Q
end

/-! ### pure expressions -/
def eC (d : D) : ME := fun _ => .ok d
def eVar (i : Nat) : ME := fun ρ => match ρ[i]? with
  | some (.val d) => .ok d
  | some (.own o) => .ok o.d
  | some (.pin o) => .ok o.d
  | _ => .stuck
def eVarF (i : Nat) : ME := fun ρ => match ρ[i]? with
  | some (.val d) => .ok d
  | _ => .stuck
def lift {α : Type} : Option α → M α
  | some a => .ok a
  | none => .stuck
@[simp] theorem lift_some {α : Type} {a : α} : lift (some a) = .ok a := rfl
@[simp] theorem lift_none {α : Type} : lift (none : Option α) = .stuck := rfl
def e2 (f : D → D → Option D) (a b : ME) : ME := fun ρ => (a ρ).bind fun x => (b ρ).bind fun y => lift (f x y)
def e2L (f : D → D → Option (List D)) (a b : ME) : ML := fun ρ => (a ρ).bind fun x => (b ρ).bind fun y => lift (f x y)
def e1 (f : D → Option D) (a : ME) : ME := fun ρ => (a ρ).bind fun x => lift (f x)
def eL (f : ML) : ME := fun ρ => (f ρ).bind fun ds => .ok (.list ds)
def toB : D → M Bool
  | .bool b => .ok b
  | _ => .stuck
def tE (a : ME) : MT := fun ρ => (a ρ).bind toB
def tA (a b : MT) : MT := fun ρ => (a ρ).bind fun c => if c = true then b ρ else .ok false
def tO (a b : MT) : MT := fun ρ => (a ρ).bind fun c => if c = true then .ok true else b ρ
def tN (a : MT) : MT := fun ρ => (a ρ).bind fun c => .ok (!c)
def eAnd (a b : ME) : ME := fun ρ => (a ρ).bind fun x => (toB x).bind fun c => if c = true then b ρ else .ok (.bool false)
def eOr (a b : ME) : ME := fun ρ => (a ρ).bind fun x => (toB x).bind fun c => if c = true then .ok (.bool true) else b ρ
def eNot (a : ME) : ME := fun ρ => (a ρ).bind fun x => (toB x).bind fun c => .ok (.bool (!c))
def eIf (t : MT) (a b : ME) : ME := fun ρ => (t ρ).bind fun c => if c = true then a ρ else b ρ
def aNil : ML := fun _ => .ok []
def aCons (a : ME) (as : ML) : ML := fun ρ => (a ρ).bind fun d => (as ρ).bind fun ds => .ok (d :: ds)
/-- a call of a def of one's own -/
def eCall (f : List D → M D) (as : ML) : ME := fun ρ => (as ρ).bind f
/-- of a built-in -/
def eB (f : List D → Option D) (as : ML) : ME := fun ρ => (as ρ).bind fun ds => lift (f ds)
def eBL (f : List D → Option (List D)) (as : ML) : ML := fun ρ => (as ρ).bind fun ds => lift (f ds)
def eTup (as : ML) : ME := fun ρ => (as ρ).bind fun ds => .ok (.tuple ds)
def oNone : Fr → M (Option Int) := fun _ => .ok none
def toI : D → M Int
  | .int i => .ok i
  | _ => .stuck
def oSome (a : ME) : Fr → M (Option Int) := fun ρ => (a ρ).bind fun d => (toI d).bind fun i => .ok (some i)
def eSl (f : D → Option Int → Option Int → Option D) (a : ME) (lo hi : Fr → M (Option Int)) : ME := fun ρ => (a ρ).bind fun x => (lo ρ).bind fun l => (hi ρ).bind fun h => lift (f x l h)
def eSlL (f : D → Option Int → Option Int → Option (List D)) (a : ME) (lo hi : Fr → M (Option Int)) : ML := fun ρ => (a ρ).bind fun x => (lo ρ).bind fun l => (hi ρ).bind fun h => lift (f x l h)
def eCh (f g : D → D → Option D) (a b c : ME) : ME := fun ρ => (a ρ).bind fun x => (b ρ).bind fun y => (lift (f x y)).bind fun z => (toB z).bind fun k => if k = true then (c ρ).bind fun w => lift (g y w) else .ok (.bool false)

section
variable {K : PySem.W.Frag} {L : Addr × Addr} {mg : Str → Option Value} {W : WX} {t ta tb tc : TE} {f a b c : ME} {r r' : R2} {g g' : D → D → Option D} {tt uu : TT} {tf uf : MT} {tas : TA} {as : ML}

theorem DF.e (h : DF K L mg W t f) : DE K L mg W t f := fun F0 H0 F H σ ρ Q E p => h F0 H0 F H σ ρ Q E (post_mono p (fun d k F' H' v s r => k F' H' v s (.frz r)) fun _ z => z)
theorem DL.fz {fl : ML} (h : DL K L mg W t fl) : DF K L mg W t (eL fl) := fun F0 H0 F H σ ρ Q E p => by
  refine h F0 H0 F H σ ρ Q E ?_
  refine post_mono (post_bind p) (fun ds k F' H1 q vs s n r => ?_) fun _ z => z
  exact k _ _ _ (s.trans (Step.new s.fh n)) (.lst upd_same (r.mono (Ex.new (s.fh.free n))))
theorem de_var {i : Nat} : DE K L mg W (tVar i) (eVar i) := fun F0 H0 F H σ ρ Q E p => by
  unfold eVar at p
  cases q : ρ[i]? with
  | none => rw [q] at p; exact p.elim
  | some s =>
    rw [q] at p
    cases s with
    | none => exact p.elim
    | err n => exact p.elim
    | val d =>
      obtain ⟨v, e, r⟩ := E.var q
      exact ⟨v, e, p F H v (Step.refl E.st.fh) (.frz r)⟩
    | own o =>
      obtain ⟨l, vs, e, _, _, hl, r, _⟩ := E.ownv (i := i) (o := o) (by rw [q]; rfl)
      exact ⟨_, e, p F H _ (Step.refl E.st.fh) (.thg hl r)⟩
    | pin o =>
      obtain ⟨l, vs, e, _, _, hl, r, _⟩ := E.ownv (i := i) (o := o) (by rw [q]; rfl)
      exact ⟨_, e, p F H _ (Step.refl E.st.fh) (.thg hl r)⟩
theorem df_var {i : Nat} : DF K L mg W (tVar i) (eVarF i) := fun F0 H0 F H σ ρ Q E p => by
  unfold eVarF at p
  cases q : ρ[i]? with
  | none => rw [q] at p; exact p.elim
  | some s =>
    rw [q] at p
    cases s with
    | none => exact p.elim
    | err n => exact p.elim
    | own _ => exact p.elim
    | pin _ => exact p.elim
    | val d =>
      obtain ⟨v, e, r⟩ := E.var q
      exact ⟨v, e, p F H v (Step.refl E.st.fh) r⟩
theorem df_int {i : Int} : DF K L mg W (tC (.int i)) (eC (.int i)) := fun F0 H0 F H σ ρ Q E p => p F H _ (Step.refl E.st.fh) (.int i)
theorem df_bl {b : Bool} : DF K L mg W (tC (.bl b)) (eC (.bool b)) := fun F0 H0 F H σ ρ Q E p => p F H _ (Step.refl E.st.fh) (.bl b)
theorem df_str {x : Str} : DF K L mg W (tC (.str x)) (eC (.str x)) := fun F0 H0 F H σ ρ Q E p => p F H _ (Step.refl E.st.fh) (.str x)
theorem df_non : DF K L mg W (tC .non) (eC .none) := fun F0 H0 F H σ ρ Q E p => p F H _ (Step.refl E.st.fh) .non
theorem WV.on {F H F1 H1 : Hp} {d : D} {Q : VK} (s : Step F H F1 H1) (k : WV K F H d Q) : WV K F1 H1 d Q := fun F' H' v s' r => k F' H' v (s.trans s') r
theorem WF.on {F H F1 H1 : Hp} {d : D} {Q : VK} (s : Step F H F1 H1) (k : WF K F H d Q) : WF K F1 H1 d Q := fun F' H' v s' r => k F' H' v (s.trans s') r
theorem WN.on {F H F1 H1 : Hp} {d : List D} {Q : VK} (s : Step F H F1 H1) (k : WN K F H d Q) : WN K F1 H1 d Q := fun F' H' p vs s' r => k F' H' p vs (s.trans s') r
theorem WE'.on {F H F1 H1 : Hp} {σ : St} {n : Str} (s : Step F H F1 H1) (k : WE' mg W F H σ n) : WE' mg W F1 H1 σ n := fun F' H' s' => k F' H' (s.trans s')
theorem post_lift {α : Type} {o : Option α} {kx : α → Prop} {ke : Str → Prop} (h : post (lift o) kx ke) : ∃ a, o = some a ∧ kx a := by
  cases o with
  | none => exact h.elim
  | some a => exact ⟨a, rfl, h⟩
theorem df_op (hr : R2D K r g) (ha : DE K L mg W ta a) (hb : DE K L mg W tb b) : DF K L mg W (tOp r ta tb) (e2 g a b) := fun F0 H0 F H σ ρ Q E p => by
  refine ha F0 H0 F H σ ρ _ E (post_mono (post_bind p) (fun d k F1 H1 x s1 r1 => ?_) fun _ z => z)
  refine hb F0 H0 F1 H1 σ ρ _ (E.step s1) (post_mono (post_bind k) (fun e k2 F2 H2 y s2 r2 => ?_) fun n z => WE'.on s1 z)
  obtain ⟨z, ez, k3⟩ := post_lift k2
  exact hr F2 H2 x y d e Q z s2.fh (r1.step s2) r2 ez (WF.on (s1.trans s2) k3)
theorem dl_op {g : D → D → Option (List D)} (hr : R2L K r g) (ha : DE K L mg W ta a) (hb : DE K L mg W tb b) : DL K L mg W (tOp r ta tb) (e2L g a b) := fun F0 H0 F H σ ρ Q E p => by
  refine ha F0 H0 F H σ ρ _ E (post_mono (post_bind p) (fun d k F1 H1 x s1 r1 => ?_) fun _ z => z)
  refine hb F0 H0 F1 H1 σ ρ _ (E.step s1) (post_mono (post_bind k) (fun e k2 F2 H2 y s2 r2 => ?_) fun n z => WE'.on s1 z)
  obtain ⟨z, ez, k3⟩ := post_lift k2
  exact hr F2 H2 x y d e Q z s2.fh (r1.step s2) r2 ez (WN.on (s1.trans s2) k3)
theorem df_un {r : V → Hp → VK → Prop} {g : D → Option D} (hr : R1D K r g) (ha : DE K L mg W ta a) : DF K L mg W (tUn r ta) (e1 g a) := fun F0 H0 F H σ ρ Q E p => by
  refine ha F0 H0 F H σ ρ _ E (post_mono (post_bind p) (fun d k F1 H1 x s1 r1 => ?_) fun _ z => z)
  obtain ⟨z, ez, k3⟩ := post_lift k
  exact hr F1 H1 x d Q z s1.fh r1 ez (WF.on s1 k3)
theorem toB_post {d : D} {kx : Bool → Prop} {ke : Str → Prop} (h : post (toB d) kx ke) : ∃ c, d = .bool c ∧ kx c := by
  cases d with
  | bool b => exact ⟨b, rfl, h⟩
  | none => exact h.elim
  | int _ => exact h.elim
  | str _ => exact h.elim
  | list _ => exact h.elim
  | tuple _ => exact h.elim
  | dict _ => exact h.elim
theorem RepB.isb {F H : Hp} {v : V} {c : Bool} (r : RepB K F H v (.bool c)) : v = .bl c := by
  generalize hd : ((.bool c) : D) = d at r
  cases r with
  | frz r => subst hd; cases r; rfl
  | thg h r => cases r <;> cases hd
theorem RepB.isi {F H : Hp} {v : V} {c : Int} (r : RepB K F H v (.int c)) : v = .int c := by
  generalize hd : ((.int c) : D) = d at r
  cases r with
  | frz r => subst hd; cases r; rfl
  | thg h r => cases r <;> cases hd
theorem RepB.iss {F H : Hp} {v : V} {c : Str} (r : RepB K F H v (.str c)) : v = .str c := by
  generalize hd : ((.str c) : D) = d at r
  cases r with
  | frz r => subst hd; cases r; rfl
  | thg h r => cases r <;> cases hd
theorem RepB.isn {F H : Hp} {v : V} (r : RepB K F H v .none) : v = .non := by
  generalize hd : (.none : D) = d at r
  cases r with
  | frz r => subst hd; cases r; rfl
  | thg h r => cases r <;> cases hd
theorem dt_B (ha : DE K L mg W ta a) : DT K L mg W (tB ta) (tE a) := fun F0 H0 F H σ ρ Q E p => by
  refine ha F0 H0 F H σ ρ _ E (post_mono (post_bind p) (fun d k F1 H1 x s1 r1 => ?_) fun _ z => z)
  obtain ⟨c, rfl, k⟩ := toB_post k
  exact ⟨c, r1.isb, k F1 H1 s1⟩
theorem dt_test (ha : DE K L mg W ta a) : DT K L mg W (tTest ta) (tE a) := dt_B ha
theorem dt_and (ha : DT K L mg W tt tf) (hb : DT K L mg W uu uf) : DT K L mg W (tAnd tt uu) (tA tf uf) := fun F0 H0 F H σ ρ Q E p => by
  refine ha F0 H0 F H σ ρ _ E (post_mono (post_bind p) (fun c k F1 H1 s1 => ?_) fun _ z => z)
  cases c with
  | true =>
    refine iteT ?_
    exact hb F0 H0 F1 H1 σ ρ Q (E.step s1) (post_mono k (fun b k F' H' s' => k F' H' (s1.trans s')) fun n z => WE'.on s1 z)
  | false => exact iteF (k F1 H1 s1)
theorem dt_or (ha : DT K L mg W tt tf) (hb : DT K L mg W uu uf) : DT K L mg W (tOr tt uu) (tO tf uf) := fun F0 H0 F H σ ρ Q E p => by
  refine ha F0 H0 F H σ ρ _ E (post_mono (post_bind p) (fun c k F1 H1 s1 => ?_) fun _ z => z)
  cases c with
  | true => exact iteT (k F1 H1 s1)
  | false =>
    refine iteF ?_
    exact hb F0 H0 F1 H1 σ ρ Q (E.step s1) (post_mono k (fun b k F' H' s' => k F' H' (s1.trans s')) fun n z => WE'.on s1 z)
theorem dt_not (ha : DT K L mg W tt tf) : DT K L mg W (tNot tt) (tN tf) := fun F0 H0 F H σ ρ Q E p => by
  refine ha F0 H0 F H σ ρ _ E (post_mono (post_bind p) (fun c k F1 H1 s1 => ?_) fun _ z => z)
  exact k F1 H1 s1
theorem de_and (ha : DE K L mg W ta a) (hb : DE K L mg W tb b) : DE K L mg W (tAndV ta tb) (eAnd a b) := fun F0 H0 F H σ ρ Q E p => by
  refine ha F0 H0 F H σ ρ _ E (post_mono (post_bind p) (fun d k F1 H1 x s1 r1 => ?_) fun _ z => z)
  obtain ⟨c, rfl, k⟩ := toB_post (post_bind k)
  refine ⟨c, r1.isb, ?_⟩
  cases c with
  | true =>
    refine iteT ?_
    exact hb F0 H0 F1 H1 σ ρ Q (E.step s1) (post_mono k (fun b k => WV.on s1 k) fun n z => WE'.on s1 z)
  | false => exact iteF (k F1 H1 _ s1 (.frz (.bl false)))
theorem de_or (ha : DE K L mg W ta a) (hb : DE K L mg W tb b) : DE K L mg W (tOrV ta tb) (eOr a b) := fun F0 H0 F H σ ρ Q E p => by
  refine ha F0 H0 F H σ ρ _ E (post_mono (post_bind p) (fun d k F1 H1 x s1 r1 => ?_) fun _ z => z)
  obtain ⟨c, rfl, k⟩ := toB_post (post_bind k)
  refine ⟨c, r1.isb, ?_⟩
  cases c with
  | true => exact iteT (k F1 H1 _ s1 (.frz (.bl true)))
  | false =>
    refine iteF ?_
    exact hb F0 H0 F1 H1 σ ρ Q (E.step s1) (post_mono k (fun b k => WV.on s1 k) fun n z => WE'.on s1 z)
theorem df_not (ha : DE K L mg W ta a) : DF K L mg W (tNotV ta) (eNot a) := fun F0 H0 F H σ ρ Q E p => by
  refine ha F0 H0 F H σ ρ _ E (post_mono (post_bind p) (fun d k F1 H1 x s1 r1 => ?_) fun _ z => z)
  obtain ⟨c, rfl, k⟩ := toB_post (post_bind k)
  exact ⟨c, r1.isb, k F1 H1 _ s1 (.bl _)⟩
theorem de_if (ht : DT K L mg W tt tf) (ha : DE K L mg W ta a) (hb : DE K L mg W tb b) : DE K L mg W (tIf tt ta tb) (eIf tf a b) := fun F0 H0 F H σ ρ Q E p => by
  refine ht F0 H0 F H σ ρ _ E (post_mono (post_bind p) (fun c k F1 H1 s1 => ?_) fun _ z => z)
  cases c with
  | true =>
    refine iteT ?_
    exact ha F0 H0 F1 H1 σ ρ Q (E.step s1) (post_mono k (fun b k => WV.on s1 k) fun n z => WE'.on s1 z)
  | false =>
    refine iteF ?_
    exact hb F0 H0 F1 H1 σ ρ Q (E.step s1) (post_mono k (fun b k => WV.on s1 k) fun n z => WE'.on s1 z)
theorem df_if (ht : DT K L mg W tt tf) (ha : DF K L mg W ta a) (hb : DF K L mg W tb b) : DF K L mg W (tIf tt ta tb) (eIf tf a b) := fun F0 H0 F H σ ρ Q E p => by
  refine ht F0 H0 F H σ ρ _ E (post_mono (post_bind p) (fun c k F1 H1 s1 => ?_) fun _ z => z)
  cases c with
  | true =>
    refine iteT ?_
    exact ha F0 H0 F1 H1 σ ρ Q (E.step s1) (post_mono k (fun b k => WF.on s1 k) fun n z => WE'.on s1 z)
  | false =>
    refine iteF ?_
    exact hb F0 H0 F1 H1 σ ρ Q (E.step s1) (post_mono k (fun b k => WF.on s1 k) fun n z => WE'.on s1 z)
theorem da_nil : DA K L mg W tNil aNil := fun F0 H0 F H σ ρ Q E p => p F H _ (Step.refl E.st.fh) .nil
theorem da_cons (ha : DE K L mg W ta a) (hb : DA K L mg W tas as) : DA K L mg W (tCons ta tas) (aCons a as) := fun F0 H0 F H σ ρ Q E p => by
  refine ha F0 H0 F H σ ρ _ E (post_mono (post_bind p) (fun d k F1 H1 x s1 r1 => ?_) fun _ z => z)
  refine hb F0 H0 F1 H1 σ ρ _ (E.step s1) (post_mono (post_bind k) (fun e k2 F2 H2 ys s2 r2 => ?_) fun n z => WE'.on s1 z)
  exact k2 F2 H2 _ (s1.trans s2) (.cons (r1.step s2) r2)
theorem daf_nil : DAF K L mg W tNil aNil := fun F0 H0 F H σ ρ Q E p => p F H _ (Step.refl E.st.fh) .nil
theorem daf_cons (ha : DF K L mg W ta a) (hb : DAF K L mg W tas as) : DAF K L mg W (tCons ta tas) (aCons a as) := fun F0 H0 F H σ ρ Q E p => by
  refine ha F0 H0 F H σ ρ _ E (post_mono (post_bind p) (fun d k F1 H1 x s1 r1 => ?_) fun _ z => z)
  refine hb F0 H0 F1 H1 σ ρ _ (E.step s1) (post_mono (post_bind k) (fun e k2 F2 H2 ys s2 r2 => ?_) fun n z => WE'.on s1 z)
  exact k2 F2 H2 _ (s1.trans s2) (.cons (r1.mono s2.ff) r2)
theorem df_B {r : List V → Hp → VK → Prop} {g : List D → Option D} (hr : RCD K r g) (ha : DA K L mg W tas as) : DF K L mg W (tCB r tas) (eB g as) := fun F0 H0 F H σ ρ Q E p => by
  refine ha F0 H0 F H σ ρ _ E (post_mono (post_bind p) (fun ds k F1 H1 xs s1 r1 => ?_) fun _ z => z)
  obtain ⟨z, ez, k3⟩ := post_lift k
  exact hr F1 H1 xs ds Q z s1.fh r1 ez (WF.on s1 k3)
theorem dl_B {r : List V → Hp → VK → Prop} {g : List D → Option (List D)} (hr : RCL K r g) (ha : DA K L mg W tas as) : DL K L mg W (tCB r tas) (eBL g as) := fun F0 H0 F H σ ρ Q E p => by
  refine ha F0 H0 F H σ ρ _ E (post_mono (post_bind p) (fun ds k F1 H1 xs s1 r1 => ?_) fun _ z => z)
  obtain ⟨z, ez, k3⟩ := post_lift k
  exact hr F1 H1 xs ds Q z s1.fh r1 ez (WN.on s1 k3)
/-- a tuple, a list made -/
theorem lt_line {n : Nat} (h : n ≤ 100000) : n ≤ sizeLine := Nat.le_trans h (by decide)
def fewA (f : ML) (n : Nat) : Prop := ∀ ρ ds, f ρ = .ok ds → ds.length = n
theorem few_nil : fewA aNil 0 := fun ρ ds h => by cases h; rfl
theorem few_cons {n : Nat} (h : fewA as n) : fewA (aCons a as) (n + 1) := fun ρ ds q => by
  unfold aCons at q
  cases e : a ρ with
  | ok d =>
    rw [e] at q
    cases e2 : as ρ with
    | ok es => rw [M.bind_ok, e2] at q; cases q; rw [List.length_cons, h ρ es e2]
    | exc n => rw [M.bind_ok, e2] at q; cases q
    | stuck => rw [M.bind_ok, e2] at q; cases q
  | exc n => rw [e] at q; cases q
  | stuck => rw [e] at q; cases q
theorem df_tup {n : Nat} (ha : DAF K L mg W tas as) (hf : fewA as n) (hn : n ≤ 100000 := by decide) : DF K L mg W (tTup tas) (eTup as) := fun F0 H0 F H σ ρ Q E p => by
  refine ha F0 H0 F H σ ρ _ E ?_
  cases q : as ρ with
  | ok ds =>
    unfold eTup at p
    rw [q] at p
    intro F1 H1 xs s1 r1
    refine ⟨lt_line (by rw [r1.length, hf ρ ds q]; exact hn), fun l hl => ?_⟩
    exact p _ _ _ (s1.trans (Step.new s1.fh hl)) (.tup upd_same (r1.mono (Ex.new (s1.fh.free hl))))
  | exc n => unfold eTup at p; rw [q] at p; exact p
  | stuck => unfold eTup at p; rw [q] at p; exact p
theorem dl_lst {n : Nat} (ha : DAF K L mg W tas as) (hf : fewA as n) (hn : n ≤ 100000 := by decide) : DL K L mg W (tLst tas) as := fun F0 H0 F H σ ρ Q E p => by
  refine ha F0 H0 F H σ ρ _ E ?_
  cases q : as ρ with
  | ok ds =>
    rw [q] at p
    intro F1 H1 xs s1 r1
    refine ⟨lt_line (by rw [r1.length, hf ρ ds q]; exact hn), fun l hl => ?_⟩
    exact p _ _ _ _ s1 hl r1
  | exc n => rw [q] at p; exact p
  | stuck => rw [q] at p; exact p
theorem toI_post {d : D} {kx : Int → Prop} {ke : Str → Prop} (h : post (toI d) kx ke) : ∃ c, d = .int c ∧ kx c := by
  cases d with
  | int b => exact ⟨b, rfl, h⟩
  | none => exact h.elim
  | bool _ => exact h.elim
  | str _ => exact h.elim
  | list _ => exact h.elim
  | tuple _ => exact h.elim
  | dict _ => exact h.elim
theorem do_none : DO K L mg W tNoPart oNone := fun F0 H0 F H σ ρ Q E p => p F H (Step.refl E.st.fh)
theorem do_some (ha : DE K L mg W ta a) : DO K L mg W (tPart ta) (oSome a) := fun F0 H0 F H σ ρ Q E p => by
  refine ha F0 H0 F H σ ρ _ E (post_mono (post_bind p) (fun d k F1 H1 x s1 r1 => ?_) fun _ z => z)
  obtain ⟨c, rfl, k⟩ := toI_post (post_bind k)
  exact ⟨c, r1.isi, k F1 H1 s1⟩
theorem df_sl {r : V → Option Int → Option Int → Hp → VK → Prop} {g : D → Option Int → Option Int → Option D} {tl th : TO} {fl fh : Fr → M (Option Int)} (hr : RSD K r g) (ha : DE K L mg W ta a) (hl : DO K L mg W tl fl) (hh : DO K L mg W th fh) :
    DF K L mg W (tSl r ta tl th) (eSl g a fl fh) := fun F0 H0 F H σ ρ Q E p => by
  refine ha F0 H0 F H σ ρ _ E (post_mono (post_bind p) (fun d k F1 H1 x s1 r1 => ?_) fun _ z => z)
  refine hl F0 H0 F1 H1 σ ρ _ (E.step s1) (post_mono (post_bind k) (fun lo k2 F2 H2 s2 => ?_) fun n z => WE'.on s1 z)
  refine hh F0 H0 F2 H2 σ ρ _ ((E.step s1).step s2) (post_mono (post_bind k2) (fun hi k3 F3 H3 s3 => ?_) fun n z => WE'.on (s1.trans s2) z)
  obtain ⟨z, ez, k4⟩ := post_lift k3
  exact hr F3 H3 x d lo hi Q z s3.fh (r1.step (s2.trans s3)) ez (WF.on ((s1.trans s2).trans s3) k4)
theorem dl_sl {r : V → Option Int → Option Int → Hp → VK → Prop} {g : D → Option Int → Option Int → Option (List D)} {tl th : TO} {fl fh : Fr → M (Option Int)} (hr : RSL K r g) (ha : DE K L mg W ta a) (hl : DO K L mg W tl fl) (hh : DO K L mg W th fh) :
    DL K L mg W (tSl r ta tl th) (eSlL g a fl fh) := fun F0 H0 F H σ ρ Q E p => by
  refine ha F0 H0 F H σ ρ _ E (post_mono (post_bind p) (fun d k F1 H1 x s1 r1 => ?_) fun _ z => z)
  refine hl F0 H0 F1 H1 σ ρ _ (E.step s1) (post_mono (post_bind k) (fun lo k2 F2 H2 s2 => ?_) fun n z => WE'.on s1 z)
  refine hh F0 H0 F2 H2 σ ρ _ ((E.step s1).step s2) (post_mono (post_bind k2) (fun hi k3 F3 H3 s3 => ?_) fun n z => WE'.on (s1.trans s2) z)
  obtain ⟨z, ez, k4⟩ := post_lift k3
  exact hr F3 H3 x d lo hi Q z s3.fh (r1.step (s2.trans s3)) ez (WN.on ((s1.trans s2).trans s3) k4)
theorem de_chain (hr : R2D K r g) (hr' : R2D K r' g') (ha : DE K L mg W ta a) (hb : DE K L mg W tb b) (hc : DE K L mg W tc c) : DE K L mg W (tChain r r' ta tb tc) (eCh g g' a b c) := fun F0 H0 F H σ ρ Q E p => by
  refine ha F0 H0 F H σ ρ _ E (post_mono (post_bind p) (fun d k F1 H1 x s1 r1 => ?_) fun _ z => z)
  refine hb F0 H0 F1 H1 σ ρ _ (E.step s1) (post_mono (post_bind k) (fun e k2 F2 H2 y s2 r2 => ?_) fun n z => WE'.on s1 z)
  obtain ⟨z, ez, k3⟩ := post_lift (post_bind k2)
  obtain ⟨q, rfl, k4⟩ := toB_post (post_bind k3)
  refine hr F2 H2 x y d e _ _ s2.fh (r1.step s2) r2 ez fun F3 H3 v s3 rz => ?_
  cases rz
  refine ⟨q, rfl, ?_⟩
  have s := (s1.trans s2).trans s3
  cases q with
  | false => exact iteF (k4 F3 H3 _ s (.frz (.bl false)))
  | true =>
    refine iteT ?_
    refine hc F0 H0 F3 H3 σ ρ _ (((E.step s1).step s2).step s3) (post_mono (post_bind k4) (fun u k5 F4 H4 w s4 rw => ?_) fun n z => WE'.on s z)
    obtain ⟨z', ez', k6⟩ := post_lift k5
    exact hr' F4 H4 y w e u Q z' s4.fh (r2.step (s3.trans s4)) rw ez' fun F' H' v s' r' => k6 F' H' v ((s.trans s4).trans s') (.frz r')
end
end Dn

set_option Elab.async false
set_option linter.all false
set_option maxRecDepth 100000
set_option maxHeartbeats 4000000
/-! DenC: operations on data -/
namespace Dn
open PySem L2

def rOr (r s : R2) : R2 := fun x y H Q => r x y H Q ∨ s x y H Q
theorem opOr {X : Cx} {f : Value → Value → Sem Value} {r s : R2} (h : OpR X f r) (k : OpR X f s) : OpR X f (rOr r s) := by
  intro pins s' σ H x y v u Q I rx ry q
  rcases q with q | q
  · exact h pins s' σ H x y v u Q I rx ry q
  · exact k pins s' σ H x y v u Q I rx ry q
def rcOr (r s : List V → Hp → VK → Prop) : List V → Hp → VK → Prop := fun xs H Q => r xs H Q ∨ s xs H Q
theorem callOr {X : Cx} {f : Value} {r s : List V → Hp → VK → Prop} (h : CallR X f r) (k : CallR X f s) : CallR X f (rcOr r s) := by
  intro pins s' σ H xs us Q I rv q
  rcases q with q | q
  · exact h pins s' σ H xs us Q I rv q
  · exact k pins s' σ H xs us Q I rv q

section
variable {K : PySem.W.Frag} {F H : Hp} {v : V} {ds : List D}
theorem RepB.isl (e : Ex F H) (r : RepB K F H v (.list ds)) : ∃ l vs, v = .ref l ∧ H l = some (.lst vs) ∧ RepL K F vs ds := by
  generalize hd : ((.list ds) : D) = d at r
  cases r with
  | frz r => subst hd; cases r with
    | lst h q => exact ⟨_, _, rfl, e _ _ h, q⟩
  | thg h q => cases q with
    | lst r => cases hd; exact ⟨_, _, rfl, h, r⟩
    | dK r => cases hd
    | dT r => cases hd
theorem RepB.ist (e : Ex F H) (r : RepB K F H v (.tuple ds)) : ∃ l vs, v = .ref l ∧ SqT K H l vs ∧ RepL K F vs ds ∧ Rep K F v (.tuple ds) := by
  generalize hd : ((.tuple ds) : D) = d at r
  cases r with
  | frz r => subst hd; cases r with
    | tup h q => exact ⟨_, _, rfl, .inl (.inl (e _ _ h)), q, .tup h q⟩
  | thg h q => cases q <;> cases hd
theorem dkD_scr {kvs : List (Key × D)} (h : dkD kvs = [(.none, .list ds)]) : False := by
  unfold dkD at h
  injection h with h1 _
  injection h1 with h2 _
  cases h2
theorem dtD_scr {kvs : List (List Key × D)} (h : dtD kvs = [(.none, .list ds)]) : False := by
  unfold dtD at h
  injection h with h1 _
  injection h1 with h2 _
  cases h2
theorem Rep.iscr (r : Rep K F v (.dict [(.none, .list ds)])) : ∃ l vs, v = .ref l ∧ SqL K F l vs ∧ RepL K F vs ds := by
  cases r with
  | scr h q e => injection e with e1 _; injection e1 with _ e2; injection e2 with e3; subst e3; exact ⟨_, _, rfl, h, q⟩
  | dK h q e => exact (dkD_scr e.symm).elim
  | dT h q e => exact (dtD_scr e.symm).elim
  | dKf h q e => unfold kdK at e; injection e with e1 _; injection e1 with e2 _; cases e2
  | dTf h q e => unfold kdT at e; injection e with e1 _; injection e1 with e2 _; cases e2
  | exc h q e => injection e with e1 _; injection e1 with e2 _; cases e2
  | ktp h _ _ q e => injection e with e1 _; injection e1 with _ e2; cases e2
  | fnc h e => injection e with e1 _; injection e1 with e2 _; cases e2
/-- a def of one's own -/
theorem Rep.ifn {n : Str} (r : Rep K F v (fnD n)) : ∃ a, v = .ref a ∧ PySem.W.nsIn K mainGlobals n = some (some (.ref a)) := by
  cases r with
  | fnc h e => injection e with e1 _; injection e1 with e2 _; injection e2 with e3; subst e3; exact ⟨_, rfl, h⟩
  | ktp h _ _ q e => injection e with e1 _; injection e1 with e2 _; cases e2
  | scr h q e => injection e with e1 _; injection e1 with e2 _; cases e2
  | dK h q e => unfold dkD at e; injection e with e1 _; injection e1 with e2 _; cases e2
  | dT h q e => unfold dtD at e; injection e with e1 _; injection e1 with e2 _; cases e2
  | dKf h q e => unfold kdK at e; injection e with e1 _; injection e1 with e2 _; cases e2
  | dTf h q e => unfold kdT at e; injection e with e1 _; injection e1 with e2 _; cases e2
  | exc h q e => injection e with e1 _; injection e1 with e2 _; cases e2
/-- a tuple whose object is known -/
theorem Rep.iktp (r : Rep K F v (ktD ds)) : ∃ l vs o, v = .ref l ∧ F l = some (.frz o (.tup vs)) ∧ o.cls = .type "tuple" ∧ o.dict = none ∧ RepL K F vs ds := by
  cases r with
  | ktp h c d q e => injection e with e1 _; injection e1 with _ e2; injection e2 with e3; subst e3; exact ⟨_, _, _, rfl, h, c, d, q⟩
  | scr h q e => injection e with e1 _; injection e1 with _ e2; cases e2
  | dK h q e => unfold dkD at e; injection e with e1 _; injection e1 with e2 _; cases e2
  | dT h q e => unfold dtD at e; injection e with e1 _; injection e1 with e2 _; cases e2
  | dKf h q e => unfold kdK at e; injection e with e1 _; injection e1 with e2 _; cases e2
  | dTf h q e => unfold kdT at e; injection e with e1 _; injection e1 with e2 _; cases e2
  | exc h q e => injection e with e1 _; injection e1 with e2 _; cases e2
  | fnc h e => injection e with e1 _; injection e1 with e2 _; cases e2
theorem RepB.iktp {H : Hp} (r : RepB K F H v (ktD ds)) : ∃ l vs o, v = .ref l ∧ F l = some (.frz o (.tup vs)) ∧ o.cls = .type "tuple" ∧ o.dict = none ∧ RepL K F vs ds ∧ Rep K F v (ktD ds) := by
  have z : Rep K F v (ktD ds) := by
    generalize hd : (ktD ds : D) = d at r
    cases r with
    | frz r => subst hd; exact r
    | thg h q => cases q with
      | lst r => cases hd
      | dK r => injection hd with hd; unfold dkD at hd; injection hd with e1 _; injection e1 with e2 _; cases e2
      | dT r => injection hd with hd; unfold dtD at hd; injection hd with e1 _; injection e1 with e2 _; cases e2
  obtain ⟨l, vs, o, h1, h2, h3, h4, h5⟩ := z.iktp
  exact ⟨l, vs, o, h1, h2, h3, h4, h5, z⟩
theorem RepB.iktT {H : Hp} (e : Ex F H) (r : RepB K F H v (ktD ds)) : ∃ l vs, v = .ref l ∧ SqT K H l vs ∧ RepL K F vs ds ∧ Rep K F v (ktD ds) := by
  obtain ⟨l, vs, o, rfl, h2, _, _, h5, h6⟩ := r.iktp
  exact ⟨l, vs, rfl, .inl (.inr ⟨o, e _ _ h2⟩), h5, h6⟩
theorem RepB.iscrF (r : RepB K F H v (.dict [(.none, .list ds)])) : Rep K F v (.dict [(.none, .list ds)]) := by
  generalize hd : ((.dict [(.none, .list ds)]) : D) = d at r
  cases r with
  | frz r => subst hd; exact r
  | thg h q => cases q with
    | lst r => cases hd
    | dK r => injection hd with hd; exact (dkD_scr hd.symm).elim
    | dT r => injection hd with hd; exact (dtD_scr hd.symm).elim
theorem RepB.iscr (e : Ex F H) (r : RepB K F H v (.dict [(.none, .list ds)])) : ∃ l vs, v = .ref l ∧ SqL K H l vs ∧ RepL K F vs ds := by
  obtain ⟨l, vs, h1, h2, h3⟩ := r.iscrF.iscr
  exact ⟨l, vs, h1, ex_l e h2, h3⟩
/-- frozen at a new place -/
theorem WF.newT {z : List D} {Q : VK} {vs : List V} (e : Ex F H) (k : WF K F H (.tuple z) Q) (r : RepL K F vs z) : ∀ p, H p = none → Q (.ref p) (upd H p (.tup vs)) :=
  fun p hp => k _ _ _ (Step.new e hp) (.tup upd_same (r.mono (Ex.new (e.free hp))))
theorem WF.newL {z : List D} {Q : VK} {vs : List V} (e : Ex F H) (k : WF K F H (.list z) Q) (r : RepL K F vs z) : ∀ p, H p = none → Q (.ref p) (upd H p (.lst vs)) :=
  fun p hp => k _ _ _ (Step.new e hp) (.lst upd_same (r.mono (Ex.new (e.free hp))))
theorem WF.here {d : D} {Q : VK} (e : Ex F H) (k : WF K F H d Q) (r : Rep K F v d) : Q v H := k F H v (Step.refl e) r
theorem WN.new {z : List D} {Q : VK} {vs : List V} (e : Ex F H) (k : WN K F H z Q) (r : RepL K F vs z) : ∀ p, H p = none → Q (.ref p) (upd H p (.lst vs)) :=
  fun p hp => k F H p vs (Step.refl e) hp r
end

theorem canLay_sh {d : PyData} (h : SeqAt.shaped d = true) : d.canLay0 = true := (Bool.and_eq_true_iff.mp h).1
/-- within the bounds of an index, of a range -/
def In63 (i : Int) : Prop := -(2 ^ 63) ≤ i ∧ i < 2 ^ 63
def In62 (i : Int) : Prop := -(2 ^ 62) ≤ i ∧ i < 2 ^ 62
theorem in63 {i : Int} (h : -1000000000 ≤ i ∧ i ≤ 1000000000) : In63 i := by unfold In63; omega
theorem in62 {i : Int} (h : -1000000000 ≤ i ∧ i ≤ 1000000000) : In62 i := by unfold In62; omega
/-! ### + - * // % ** -/
section
variable {K : PySem.W.Frag}
open Classical in
noncomputable def addD : D → D → Option D
  | .int i, .int j => some (.int (i + j))
  | .str x, .str y => if x.length + y.length ≤ sizeLine then some (.str (x ++ y)) else none
  | .tuple a, .tuple b => if a.length + b.length ≤ sizeLine then some (.tuple (a ++ b)) else none
  | .dict [(.none, .tuple a)], .tuple b => if a.length + b.length ≤ sizeLine then some (if b = [] ∧ a ≠ [] then ktD a else .tuple (a ++ b)) else none
  | .tuple a, .dict [(.none, .tuple b)] => if a.length + b.length ≤ sizeLine then some (if a = [] then ktD b else .tuple (a ++ b)) else none
  | .list a, .list b => if a.length + b.length ≤ sizeLine then some (.list (a ++ b)) else none
  | _, _ => none
noncomputable def catD : D → D → Option (List D)
  | .list a, .list b => if a.length + b.length ≤ sizeLine then some (a ++ b) else none
  | _, _ => none
def rStrAdd : R2 := fun x y H Q => ∃ i j, x = .str i ∧ y = .str j ∧ i.length + j.length ≤ sizeLine ∧ Q (.str (i ++ j)) H
def oAdd (K : PySem.W.Frag) : R2 := rOr (rI0 fun i j => .int (i + j)) (rOr rStrAdd (rOr (rCatA K) rCat))
theorem op_addU {X : Cx} : OpR X (binaryOp .Add) (oAdd X.K) := opOr op_add (opOr op_add_str (opOr op_catA op_cat))
theorem rd_add : R2D K (oAdd K) addD := by
  intro F H x y d e Q z ex rx ry h k
  unfold addD at h
  split at h
  · cases h; obtain rfl := rx.isi; obtain rfl := ry.isi
    exact .inl ⟨_, _, rfl, rfl, k.here ex (.int _)⟩
  · split at h
    · cases h; obtain rfl := rx.iss; obtain rfl := ry.iss
      exact .inr (.inl ⟨_, _, rfl, rfl, by assumption, k.here ex (.str _)⟩)
    · cases h
  · split at h
    · rename_i a b hz
      cases h
      obtain ⟨l, vs, rfl, h1, r1, f1⟩ := rx.ist ex
      obtain ⟨m, ws, rfl, h2, r2, f2⟩ := ry.ist ex
      refine .inr (.inr (.inl ⟨l, m, vs, ws, rfl, rfl, h1, h2, by rw [r1.length, r2.length]; exact hz, fun e => ?_, fun e e2 => ?_, fun _ _ => ?_⟩))
      · subst e; cases r1; exact k.here ex f2
      · subst e2; cases r2; refine k.here ex ?_; rw [List.append_nil]; exact f1
      · exact k.newT ex (r1.append r2)
    · cases h
  · split at h
    · rename_i a b hz
      cases h
      obtain ⟨l, vs, rfl, h1, r1, f1⟩ := rx.iktT ex
      obtain ⟨m, ws, rfl, h2, r2, f2⟩ := ry.ist ex
      refine .inr (.inr (.inl ⟨l, m, vs, ws, rfl, rfl, h1, h2, by rw [r1.length, r2.length]; exact hz, fun e => ?_, fun e e2 => ?_, fun n1 n2 => ?_⟩))
      · subst e; cases r1; rw [if_neg (fun z => z.2 rfl)] at k; exact k.here ex f2
      · subst e2; cases r2
        rw [if_pos ⟨rfl, fun z => e (by subst z; cases r1; rfl)⟩] at k
        exact k.here ex f1
      · rw [if_neg (fun z => n2 (by have := z.1; subst this; cases r2; rfl))] at k
        exact k.newT ex (r1.append r2)
    · cases h
  · split at h
    · rename_i a b hz
      cases h
      obtain ⟨l, vs, rfl, h1, r1, f1⟩ := rx.ist ex
      obtain ⟨m, ws, rfl, h2, r2, f2⟩ := ry.iktT ex
      refine .inr (.inr (.inl ⟨l, m, vs, ws, rfl, rfl, h1, h2, by rw [r1.length, r2.length]; exact hz, fun e => ?_, fun e e2 => ?_, fun n1 n2 => ?_⟩))
      · subst e; cases r1; rw [if_pos rfl] at k; exact k.here ex f2
      · subst e2; cases r2
        rw [if_neg (fun z => e (by subst z; cases r1; rfl))] at k
        refine k.here ex ?_
        rw [List.append_nil]; exact f1
      · rw [if_neg (fun z => n1 (by subst z; cases r1; rfl))] at k
        exact k.newT ex (r1.append r2)
    · cases h
  · split at h
    · rename_i a b hz
      cases h
      obtain ⟨l, vs, rfl, h1, r1⟩ := rx.isl ex
      obtain ⟨m, ws, rfl, h2, r2⟩ := ry.isl ex
      exact .inr (.inr (.inr ⟨l, m, vs, ws, rfl, rfl, h1, h2, by rw [r1.length, r2.length]; exact hz, k.newL ex (r1.append r2)⟩))
    · cases h
  · cases h
theorem rl_add : R2L K (oAdd K) catD := by
  intro F H x y d e Q z ex rx ry h k
  unfold catD at h
  split at h
  · split at h
    · rename_i a b hz
      cases h
      obtain ⟨l, vs, rfl, h1, r1⟩ := rx.isl ex
      obtain ⟨m, ws, rfl, h2, r2⟩ := ry.isl ex
      exact .inr (.inr (.inr ⟨l, m, vs, ws, rfl, rfl, h1, h2, by rw [r1.length, r2.length]; exact hz, k.new ex (r1.append r2)⟩))
    · cases h
  · cases h
def subD : D → D → Option D
  | .int i, .int j => some (.int (i - j))
  | _, _ => none
theorem rd_sub : R2D K (rI0 fun i j => .int (i - j)) subD := by
  intro F H x y d e Q z ex rx ry h k
  unfold subD at h
  split at h
  · cases h; obtain rfl := rx.isi; obtain rfl := ry.isi
    exact ⟨_, _, rfl, rfl, k.here ex (.int _)⟩
  · cases h
open Classical in
noncomputable def mulD : D → D → Option D
  | .int i, .int j => if CMul i j ∨ CMulW i j then some (.int (i * j)) else none
  | .list a, .int k => if In63 k ∧ a.length * k.toNat ≤ sizeLine then some (.list (List.replicate k.toNat a).flatten) else none
  | _, _ => none
open Classical in
noncomputable def repD : D → D → Option (List D)
  | .list a, .int k => if In63 k ∧ a.length * k.toNat ≤ sizeLine then some (List.replicate k.toNat a).flatten else none
  | _, _ => none
def oMul : R2 := rOr (rI CMul fun i j => .int (i * j)) (rOr (rI CMulW fun i j => .int (i * j)) rRep)
theorem op_mulU {X : Cx} : OpR X (binaryOp .Mult) oMul := opOr op_mul (opOr op_mulW op_rep)
theorem RepL.rep {F : Hp} {vs : List V} {ds : List D} (r : RepL K F vs ds) : ∀ n : Nat, RepL K F (List.replicate n vs).flatten (List.replicate n ds).flatten
  | 0 => .nil
  | n + 1 => by
    rw [List.replicate_succ, List.replicate_succ, List.flatten_cons, List.flatten_cons]
    exact r.append (RepL.rep r n)
theorem rd_mul : R2D K oMul mulD := by
  intro F H x y d e Q z ex rx ry h k
  unfold mulD at h
  split at h
  · split at h
    · rename_i c
      cases h; obtain rfl := rx.isi; obtain rfl := ry.isi
      rcases c with c | c
      · exact .inl ⟨_, _, rfl, rfl, c, k.here ex (.int _)⟩
      · exact .inr (.inl ⟨_, _, rfl, rfl, c, k.here ex (.int _)⟩)
    · cases h
  · split at h
    · rename_i c
      cases h
      obtain ⟨l, vs, rfl, h1, r1⟩ := rx.isl ex
      obtain rfl := ry.isi
      exact .inr (.inr ⟨l, _, vs, rfl, rfl, h1, c.1.1, c.1.2, by rw [r1.length]; exact c.2, k.newL ex (r1.rep _)⟩)
    · cases h
  · cases h
theorem rl_mul : R2L K oMul repD := by
  intro F H x y d e Q z ex rx ry h k
  unfold repD at h
  split at h
  · split at h
    · rename_i c
      cases h
      obtain ⟨l, vs, rfl, h1, r1⟩ := rx.isl ex
      obtain rfl := ry.isi
      exact .inr (.inr ⟨l, _, vs, rfl, rfl, h1, c.1.1, c.1.2, by rw [r1.length]; exact c.2, k.new ex (r1.rep _)⟩)
    · cases h
  · cases h
open Classical in
noncomputable def divD : D → D → Option D
  | .int i, .int j => if 0 < j ∧ j.natAbs.log2 < 9000 then some (.int (i / j)) else none
  | _, _ => none
theorem rd_div : R2D K (rI CDivW fun i j => .int (i / j)) divD := by
  intro F H x y d e Q z ex rx ry h k
  unfold divD at h
  split at h
  · split at h
    · rename_i c
      cases h; obtain rfl := rx.isi; obtain rfl := ry.isi
      exact ⟨_, _, rfl, rfl, c, k.here ex (.int _)⟩
    · cases h
  · cases h
open Classical in
noncomputable def modD : D → D → Option D
  | .int i, .int j => if 0 < j then some (.int (i % j)) else none
  | _, _ => none
theorem rd_mod : R2D K (rI (fun _ j => 0 < j) fun i j => .int (i % j)) modD := by
  intro F H x y d e Q z ex rx ry h k
  unfold modD at h
  split at h
  · split at h
    · rename_i c
      cases h; obtain rfl := rx.isi; obtain rfl := ry.isi
      exact ⟨_, _, rfl, rfl, c, k.here ex (.int _)⟩
    · cases h
  · cases h
open Classical in
noncomputable def powD : D → D → Option D
  | .int i, .int j => if CPow i j then some (.int (i ^ j.toNat)) else none
  | _, _ => none
theorem rd_pow : R2D K (rI CPow fun i j => .int (i ^ j.toNat)) powD := by
  intro F H x y d e Q z ex rx ry h k
  unfold powD at h
  split at h
  · split at h
    · rename_i c
      cases h; obtain rfl := rx.isi; obtain rfl := ry.isi
      exact ⟨_, _, rfl, rfl, c, k.here ex (.int _)⟩
    · cases h
  · cases h
def negD : D → Option D
  | .int i => some (.int (-i))
  | _ => none
theorem rd_neg : R1D K (rU fun i => .int (-i)) negD := by
  intro F H x d Q z ex rx h k
  unfold negD at h
  split at h
  · cases h; obtain rfl := rx.isi
    exact ⟨_, rfl, k.here ex (.int _)⟩
  · cases h

/-! ### comparisons -/
def cmpD (p : Int → Int → Bool) : D → D → Option D
  | .int i, .int j => some (.bool (p i j))
  | _, _ => none
theorem rd_cmp {p : Int → Int → Bool} : R2D K (rI0 fun i j => .bl (p i j)) (cmpD p) := by
  intro F H x y d e Q z ex rx ry h k
  unfold cmpD at h
  split at h
  · cases h; obtain rfl := rx.isi; obtain rfl := ry.isi
    exact ⟨_, _, rfl, rfl, k.here ex (.bl _)⟩
  · cases h
abbrev ltD := cmpD fun i j => decide (i < j)
abbrev leD := cmpD fun i j => decide (i ≤ j)
abbrev gtD := cmpD fun i j => decide (j < i)
abbrev geD := cmpD fun i j => decide (j ≤ i)
/-- a tuple whose object is known as any tuple -/
def unk : D → D
  | .dict [(.none, .tuple ds)] => .tuple ds
  | d => d
/-- == -/
def eqB0 : D → D → Option Bool
  | .int i, .int j => some (decide (i = j))
  | .str i, .str j => some (decide (i = j))
  | .bool i, .bool j => some (decide (i = j))
  | .none, .none => some true
  | d, e => if SeqAt.shaped d && SeqAt.shaped e then some (PyData.eqv d e) else none
def eqB (d e : D) : Option Bool := eqB0 (unk d) (unk e)
def eqD (d e : D) : Option D := (eqB d e).map .bool
def neD (d e : D) : Option D := (eqB d e).map fun b => .bool (!b)
def oEq (K : PySem.W.Frag) : R2 := rOr rEq (rEqD K)
def oNe (K : PySem.W.Frag) : R2 := rOr rNe (rNeD K)
theorem op_eqU {X : Cx} (hu : X.A.units + 64 < cLine) : OpR X (compareOp .Eq) (oEq X.K) := opOr op_eq (op_eqD hu)
theorem op_neU {X : Cx} (hu : X.A.units + 64 < cLine) : OpR X (compareOp .NotEq) (oNe X.K) := opOr op_ne (op_neD hu)
theorem scal_dp {F H : Hp} {x : V} {d : D} (ex : Ex F H) (rx : RepB K F H x d) (c : SeqAt.shaped (unk d) = true) : Dp K H x (unk d) := by
  by_cases h : ∃ ds, d = ktD ds
  · obtain ⟨ds, rfl⟩ := h
    obtain ⟨l, vs, rfl, a, b, _⟩ := rx.iktT ex
    have c2 : (PyData.tuple ds).canLay0 = true := canLay_sh c
    exact .tup (a.elim (fun z => .inl z) (fun z => .inr z)) (RepL.dp (by simpa [PyData.canLay0] using c2) (b.mono ex))
  · have e : unk d = d := by
      unfold unk
      split
      · rename_i ds; exact (h ⟨ds, rfl⟩).elim
      · rfl
    rw [e] at c ⊢
    exact (rx.now ex).dp (canLay_sh c)
theorem unk_i {d : D} {i : Int} (h : unk d = .int i) : d = .int i := by unfold unk at h; split at h <;> first | exact h | cases h
theorem unk_s {d : D} {i : Str} (h : unk d = .str i) : d = .str i := by unfold unk at h; split at h <;> first | exact h | cases h
theorem unk_b {d : D} {i : Bool} (h : unk d = .bool i) : d = .bool i := by unfold unk at h; split at h <;> first | exact h | cases h
theorem unk_n {d : D} (h : unk d = .none) : d = .none := by unfold unk at h; split at h <;> first | exact h | cases h
theorem eqB_cases {F H : Hp} {x y : V} {d e : D} {b : Bool} (ex : Ex F H) (rx : RepB K F H x d) (ry : RepB K F H y e) (h : eqB d e = some b) :
    (scal x y = true ∧ b = decide (x = y)) ∨ (∃ d e, Dp K H x d ∧ Dp K H y e ∧ SeqAt.shaped d = true ∧ SeqAt.shaped e = true ∧ b = PyData.eqv d e) := by
  unfold eqB eqB0 at h
  split at h
  · rename_i q1 q2
    rw [unk_i q1] at rx
    rw [unk_i q2] at ry
    cases h; obtain rfl := rx.isi; obtain rfl := ry.isi
    exact .inl ⟨rfl, by simp⟩
  · rename_i q1 q2
    rw [unk_s q1] at rx
    rw [unk_s q2] at ry
    cases h; obtain rfl := rx.iss; obtain rfl := ry.iss
    exact .inl ⟨rfl, by simp⟩
  · rename_i q1 q2
    rw [unk_b q1] at rx
    rw [unk_b q2] at ry
    cases h; obtain rfl := rx.isb; obtain rfl := ry.isb
    exact .inl ⟨rfl, by simp⟩
  · rename_i q1 q2
    rw [unk_n q1] at rx
    rw [unk_n q2] at ry
    cases h; obtain rfl := rx.isn; obtain rfl := ry.isn
    exact .inl ⟨rfl, by simp⟩
  · split at h
    · rename_i c
      cases h
      rw [Bool.and_eq_true] at c
      exact .inr ⟨_, _, scal_dp ex rx c.1, scal_dp ex ry c.2, c.1, c.2, rfl⟩
    · cases h
theorem rd_eq : R2D K (oEq K) eqD := by
  intro F H x y d e Q z ex rx ry h k
  unfold eqD at h
  cases q : eqB d e with
  | none => rw [q] at h; cases h
  | some b =>
    rw [q] at h
    cases h
    rcases eqB_cases ex rx ry q with ⟨s, rfl⟩ | ⟨d', e', h1, h2, s1, s2, rfl⟩
    · exact .inl ⟨s, k.here ex (.bl _)⟩
    · exact .inr ⟨d', e', h1, h2, s1, s2, k.here ex (.bl _)⟩
theorem rd_ne : R2D K (oNe K) neD := by
  intro F H x y d e Q z ex rx ry h k
  unfold neD at h
  cases q : eqB d e with
  | none => rw [q] at h; cases h
  | some b =>
    rw [q] at h
    cases h
    rcases eqB_cases ex rx ry q with ⟨s, rfl⟩ | ⟨d', e', h1, h2, s1, s2, rfl⟩
    · exact .inl ⟨s, k.here ex (.bl _)⟩
    · exact .inr ⟨d', e', h1, h2, s1, s2, k.here ex (.bl _)⟩
def isNone : D → Bool
  | .none => true
  | _ => false
def isD : D → D → Option D
  | d, .none => some (.bool (isNone d))
  | _, _ => none
def isnD : D → D → Option D
  | d, .none => some (.bool (!isNone d))
  | _, _ => none
theorem none_iff {F H : Hp} {x : V} {d : D} (rx : RepB K F H x d) : decide (x = .non) = isNone d := by
  cases rx with
  | frz r => cases r <;> rfl
  | thg _ r => cases r <;> rfl
def oIs : R2 := fun x y H Q => y = .non ∧ Q (.bl (decide (x = .non))) H
def oIsn : R2 := fun x y H Q => y = .non ∧ Q (.bl (!decide (x = .non))) H
theorem op_isU {X : Cx} : OpR X (compareOp .Is) oIs := op_isN
theorem op_isnU {X : Cx} : OpR X (compareOp .IsNot) oIsn := op_notN
theorem rd_is : R2D K oIs isD := by
  intro F H x y d e Q z ex rx ry h k
  unfold isD at h
  split at h
  · cases h; obtain rfl := ry.isn
    exact ⟨rfl, by rw [none_iff rx]; exact k.here ex (.bl _)⟩
  · cases h
theorem rd_isn : R2D K oIsn isnD := by
  intro F H x y d e Q z ex rx ry h k
  unfold isnD at h
  split at h
  · cases h; obtain rfl := ry.isn
    exact ⟨rfl, by rw [none_iff rx]; exact k.here ex (.bl _)⟩
  · cases h
end
end Dn

set_option Elab.async false
set_option linter.all false
set_option maxRecDepth 100000
set_option maxHeartbeats 4000000
/-! DenE: built-ins on data -/
namespace Dn
open PySem L2

/-! ### lists of ints, of bools -/
def ints? : List D → Option (List Int)
  | [] => some []
  | .int i :: ds => (ints? ds).map (i :: ·)
  | _ => none
@[simp] theorem ints?_map (ns : List Int) : ints? (ns.map PyData.int) = some ns := by
  induction ns with
  | nil => rfl
  | cons n ns ih => show (ints? (ns.map PyData.int)).map (n :: ·) = some (n :: ns); rw [ih]; rfl
theorem ints?_eq : ∀ {ds : List D} {ns : List Int}, ints? ds = some ns → ds = ns.map PyData.int
  | [], _, h => by cases h; rfl
  | .int i :: ds, ns, h => by
    unfold ints? at h
    cases q : ints? ds with
    | none => rw [q] at h; cases h
    | some ms => rw [q] at h; cases h; rw [ints?_eq q]; rfl
  | .none :: _, _, h => by cases h
  | .bool _ :: _, _, h => by cases h
  | .str _ :: _, _, h => by cases h
  | .list _ :: _, _, h => by cases h
  | .tuple _ :: _, _, h => by cases h
  | .dict _ :: _, _, h => by cases h
def bools? : List D → Option (List Bool)
  | [] => some []
  | .bool i :: ds => (bools? ds).map (i :: ·)
  | _ => none
@[simp] theorem bools?_map (ns : List Bool) : bools? (ns.map PyData.bool) = some ns := by
  induction ns with
  | nil => rfl
  | cons n ns ih => show (bools? (ns.map PyData.bool)).map (n :: ·) = some (n :: ns); rw [ih]; rfl
theorem bools?_eq : ∀ {ds : List D} {ns : List Bool}, bools? ds = some ns → ds = ns.map PyData.bool
  | [], _, h => by cases h; rfl
  | .bool i :: ds, ns, h => by
    unfold bools? at h
    cases q : bools? ds with
    | none => rw [q] at h; cases h
    | some ms => rw [q] at h; cases h; rw [bools?_eq q]; rfl
  | .none :: _, _, h => by cases h
  | .int _ :: _, _, h => by cases h
  | .str _ :: _, _, h => by cases h
  | .list _ :: _, _, h => by cases h
  | .tuple _ :: _, _, h => by cases h
  | .dict _ :: _, _, h => by cases h
/-- a list or a tuple, or the script: its items -/
def seq? : D → Option (List D)
  | .list ds => some ds
  | .tuple ds => some ds
  | .dict [(.none, .list ds)] => some ds
  | .dict [(.none, .tuple ds)] => some ds
  | _ => none

section
variable {K : PySem.W.Frag}
theorem RepB.seq {F H : Hp} {v : V} {d : D} {ds : List D} (ex : Ex F H) (r : RepB K F H v d) (h : seq? d = some ds) : ∃ l vs, v = .ref l ∧ (SqL K H l vs ∨ SqT K H l vs) ∧ RepL K F vs ds := by
  unfold seq? at h
  split at h
  · cases h; obtain ⟨l, vs, e, a, b⟩ := r.isl ex; exact ⟨l, vs, e, .inl (.of a), b⟩
  · cases h; obtain ⟨l, vs, e, a, b, _⟩ := r.ist ex; exact ⟨l, vs, e, .inr a, b⟩
  · cases h; obtain ⟨l, vs, e, a, b⟩ := r.iscr ex; exact ⟨l, vs, e, .inl a, b⟩
  · cases h; obtain ⟨l, vs, e, a, b, _⟩ := r.iktT ex; exact ⟨l, vs, e, .inr a, b⟩
  · cases h
theorem RepBL.one {F H : Hp} {xs : List V} {d : D} (r : RepBL K F H xs [d]) : ∃ x, xs = [x] ∧ RepB K F H x d := by
  cases r with
  | cons a b => cases b; exact ⟨_, rfl, a⟩
theorem RepBL.two {F H : Hp} {xs : List V} {d e : D} (r : RepBL K F H xs [d, e]) : ∃ x y, xs = [x, y] ∧ RepB K F H x d ∧ RepB K F H y e := by
  cases r with
  | cons a b =>
    obtain ⟨y, rfl, c⟩ := b.one
    exact ⟨_, _, rfl, a, c⟩
open Classical in
/-- len -/
noncomputable def lenD : List D → Option D
  | [.str s] => if s.length ≤ sizeLine then some (.int s.length) else none
  | [d] => (seq? d).map fun ds => .int ds.length
  | _ => none
def oLen (K : PySem.W.Frag) : List V → Hp → VK → Prop := fun xs H Q => ∃ x n, xs = [x] ∧ LenV K x H n ∧ Q (.int n) H
theorem call_lenU {X : Cx} : CallR X (.builtin "len") (oLen X.K) := call_len
theorem rc_len : RCD K (oLen K) lenD := by
  intro F H xs ds Q z ex rx h k
  unfold lenD at h
  split at h
  · obtain ⟨x, rfl, r⟩ := rx.one
    split at h
    · cases h
      obtain rfl := r.iss
      exact ⟨_, _, rfl, ⟨by assumption, rfl⟩, k.here ex (.int _)⟩
    · cases h
  · obtain ⟨x, rfl, r⟩ := rx.one
    cases q : seq? _ with
    | none => rw [q] at h; cases h
    | some es =>
      rw [q] at h
      cases h
      obtain ⟨l, vs, rfl, a, b⟩ := r.seq ex q
      refine ⟨_, es.length, rfl, ?_, k.here ex (.int _)⟩
      rcases a with a | a
      · exact .inl ⟨vs, a, b.length.symm⟩
      · exact .inr ⟨vs, a, b.length.symm⟩
  · cases h
/-- list(..) of a list, a tuple -/
def listD : List D → Option (List D)
  | [d] => seq? d
  | _ => none
def oList (K : PySem.W.Frag) : List V → Hp → VK → Prop := fun xs H Q => ∃ p ys, xs = [.ref p] ∧ (SqL K H p ys ∨ SqT K H p ys) ∧ ∀ l, H l = none → Q (.ref l) (upd H l (.lst ys))
theorem call_listU {X : Cx} : CallR X (.type "list") (oList X.K) := call_list_of
theorem rc_list : RCL K (oList K) listD := by
  intro F H xs ds Q z ex rx h k
  unfold listD at h
  split at h
  · obtain ⟨x, rfl, r⟩ := rx.one
    obtain ⟨l, vs, rfl, a, b⟩ := r.seq ex h
    exact ⟨l, vs, rfl, a, k.new ex b⟩
  · cases h
/-- tuple(..) of a list, a tuple -/
def tupOf : D → List D → D
  | .dict [(.none, .tuple _)], ds => ktD ds
  | _, ds => .tuple ds
def tupleD : List D → Option D
  | [d] => (seq? d).map (tupOf d)
  | _ => none
def oTuple (K : PySem.W.Frag) : List V → Hp → VK → Prop := fun xs H Q => ∃ p ys, xs = [.ref p] ∧ ((SqL K H p ys ∧ ∀ l, H l = none → Q (.ref l) (upd H l (.tup ys))) ∨ (SqT K H p ys ∧ Q (.ref p) H))
theorem call_tupleU {X : Cx} : CallR X (.type "tuple") (oTuple X.K) := call_tuple_of
theorem rc_tuple : RCD K (oTuple K) tupleD := by
  intro F H xs ds Q z ex rx h k
  unfold tupleD at h
  split at h
  · obtain ⟨x, rfl, r⟩ := rx.one
    rename_i d
    cases q : seq? d with
    | none => rw [q] at h; cases h
    | some es =>
      rw [q] at h
      cases h
      unfold seq? at q
      split at q
      · cases q; obtain ⟨l, vs, rfl, a, b⟩ := r.isl ex
        exact ⟨l, vs, rfl, .inl ⟨.of a, k.newT ex b⟩⟩
      · cases q; obtain ⟨l, vs, rfl, a, b, c⟩ := r.ist ex
        exact ⟨l, vs, rfl, .inr ⟨a, k.here ex c⟩⟩
      · cases q; obtain ⟨l, vs, rfl, a, b⟩ := r.iscr ex
        exact ⟨l, vs, rfl, .inl ⟨a, k.newT ex b⟩⟩
      · cases q; obtain ⟨l, vs, rfl, a, b, c⟩ := r.iktT ex
        exact ⟨l, vs, rfl, .inr ⟨a, k.here ex c⟩⟩
      · cases q
  · cases h
/-- abs, max, min, sum, any, all -/
def absD : List D → Option D
  | [.int i] => some (.int (if i < 0 then -i else i))
  | _ => none
def oAbs : List V → Hp → VK → Prop := fun xs H Q => ∃ i, xs = [.int i] ∧ Q (.int (if i < 0 then -i else i)) H
theorem call_absU {X : Cx} : CallR X (.builtin "abs") oAbs := call_abs
theorem rc_abs : RCD K oAbs absD := by
  intro F H xs ds Q z ex rx h k
  unfold absD at h
  split at h
  · cases h
    obtain ⟨x, rfl, r⟩ := rx.one
    obtain rfl := r.isi
    exact ⟨_, rfl, k.here ex (.int _)⟩
  · cases h
/-- greatest, least of a list (the first is given) -/
def maxL : Int → List Int → Int := List.foldl max
def minL : Int → List Int → Int := List.foldl min
theorem maxL_ge : ∀ (ns : List Int) (a : Int), a ≤ maxL a ns ∧ ∀ y ∈ ns, y ≤ maxL a ns
  | [], a => ⟨Int.le_refl _, fun y h => by cases h⟩
  | n :: ns, a => by
    obtain ⟨h1, h2⟩ := maxL_ge ns (max a n)
    refine ⟨Int.le_trans (Int.le_max_left a n) h1, fun y hy => ?_⟩
    rcases List.mem_cons.mp hy with rfl | hy
    · exact Int.le_trans (Int.le_max_right a _) h1
    · exact h2 y hy
theorem maxL_mem : ∀ (ns : List Int) (a : Int), maxL a ns = a ∨ maxL a ns ∈ ns
  | [], a => .inl rfl
  | n :: ns, a => by
    show maxL (max a n) ns = a ∨ maxL (max a n) ns ∈ n :: ns
    rcases maxL_mem ns (max a n) with h | h
    · rw [h]
      by_cases q : a ≤ n
      · rw [Int.max_eq_right q]; exact .inr (List.mem_cons_self ..)
      · rw [Int.max_eq_left (by omega)]; exact .inl rfl
    · exact .inr (List.mem_cons_of_mem _ h)
theorem minL_le : ∀ (ns : List Int) (a : Int), minL a ns ≤ a ∧ ∀ y ∈ ns, minL a ns ≤ y
  | [], a => ⟨Int.le_refl _, fun y h => by cases h⟩
  | n :: ns, a => by
    obtain ⟨h1, h2⟩ := minL_le ns (min a n)
    refine ⟨Int.le_trans h1 (Int.min_le_left a n), fun y hy => ?_⟩
    rcases List.mem_cons.mp hy with rfl | hy
    · exact Int.le_trans h1 (Int.min_le_right a _)
    · exact h2 y hy
theorem minL_mem : ∀ (ns : List Int) (a : Int), minL a ns = a ∨ minL a ns ∈ ns
  | [], a => .inl rfl
  | n :: ns, a => by
    show minL (min a n) ns = a ∨ minL (min a n) ns ∈ n :: ns
    rcases minL_mem ns (min a n) with h | h
    · rw [h]
      by_cases q : a ≤ n
      · rw [Int.min_eq_left q]; exact .inl rfl
      · rw [Int.min_eq_right (by omega)]; exact .inr (List.mem_cons_self ..)
    · exact .inr (List.mem_cons_of_mem _ h)
def maxD : List D → Option D
  | [.int i, .int j] => some (.int (max i j))
  | [.list ds] => (ints? ds).bind fun ns => match ns with
    | n :: ns => some (.int (maxL n ns))
    | [] => none
  | _ => none
def minD : List D → Option D
  | [.int i, .int j] => some (.int (min i j))
  | [.list ds] => (ints? ds).bind fun ns => match ns with
    | n :: ns => some (.int (minL n ns))
    | [] => none
  | _ => none
def oMax2 : List V → Hp → VK → Prop := fun xs H Q => ∃ i j, xs = [.int i, .int j] ∧ Q (.int (if j > i then j else i)) H
def oMin2 : List V → Hp → VK → Prop := fun xs H Q => ∃ i j, xs = [.int i, .int j] ∧ Q (.int (if j < i then j else i)) H
def oMax (K : PySem.W.Frag) := rcOr oMax2 (rMax K)
def oMin (K : PySem.W.Frag) := rcOr oMin2 (rMin K)
theorem call_maxU {X : Cx} (hc : X.calm = true) : CallR X (.builtin "max") (oMax X.K) := callOr (call_max2 hc) (cr_max hc)
theorem call_minU {X : Cx} (hc : X.calm = true) : CallR X (.builtin "min") (oMin X.K) := callOr (call_min2 hc) (cr_min hc)
theorem rc_max : RCD K (oMax K) maxD := by
  intro F H xs ds Q z ex rx h k
  unfold maxD at h
  split at h
  · cases h
    obtain ⟨x, y, rfl, r, r'⟩ := rx.two
    obtain rfl := r.isi
    obtain rfl := r'.isi
    refine .inl ⟨_, _, rfl, ?_⟩
    rename_i i j
    have e : (if j > i then j else i) = max i j := by split <;> omega
    rw [e]
    exact k.here ex (.int _)
  · obtain ⟨x, rfl, r⟩ := rx.one
    obtain ⟨l, vs, rfl, a, b⟩ := r.isl ex
    rename_i es
    cases q : ints? es with
    | none => rw [q] at h; cases h
    | some ns =>
      rw [q] at h
      obtain rfl := ints?_eq q
      obtain rfl := b.ints
      cases ns with
      | nil => cases h
      | cons n ns =>
        cases h
        refine .inr ⟨l, n :: ns, rfl, .of a, Nat.succ_pos _, fun m h1 h2 => ?_⟩
        have e : m = maxL n ns := by
          have g := maxL_ge ns n
          have m2 := maxL_mem ns n
          have h3 : m ≤ maxL n ns := by
            rcases List.mem_cons.mp h1 with rfl | h1
            · exact g.1
            · exact g.2 _ h1
          have h4 : maxL n ns ≤ m := by
            rcases m2 with e | e
            · rw [e]; exact h2 _ (List.mem_cons_self ..)
            · exact h2 _ (List.mem_cons_of_mem _ e)
          omega
        rw [e]
        exact k.here ex (.int _)
  · cases h
theorem rc_min : RCD K (oMin K) minD := by
  intro F H xs ds Q z ex rx h k
  unfold minD at h
  split at h
  · cases h
    obtain ⟨x, y, rfl, r, r'⟩ := rx.two
    obtain rfl := r.isi
    obtain rfl := r'.isi
    refine .inl ⟨_, _, rfl, ?_⟩
    rename_i i j
    have e : (if j < i then j else i) = min i j := by split <;> omega
    rw [e]
    exact k.here ex (.int _)
  · obtain ⟨x, rfl, r⟩ := rx.one
    obtain ⟨l, vs, rfl, a, b⟩ := r.isl ex
    rename_i es
    cases q : ints? es with
    | none => rw [q] at h; cases h
    | some ns =>
      rw [q] at h
      obtain rfl := ints?_eq q
      obtain rfl := b.ints
      cases ns with
      | nil => cases h
      | cons n ns =>
        cases h
        refine .inr ⟨l, n :: ns, rfl, .of a, Nat.succ_pos _, fun m h1 h2 => ?_⟩
        have e : m = minL n ns := by
          have g := minL_le ns n
          have m2 := minL_mem ns n
          have h3 : minL n ns ≤ m := by
            rcases List.mem_cons.mp h1 with rfl | h1
            · exact g.1
            · exact g.2 _ h1
          have h4 : m ≤ minL n ns := by
            rcases m2 with e | e
            · rw [e]; exact h2 _ (List.mem_cons_self ..)
            · exact h2 _ (List.mem_cons_of_mem _ e)
          omega
        rw [e]
        exact k.here ex (.int _)
  · cases h
def sumD : List D → Option D
  | [.list ds] => (ints? ds).map fun ns => .int ns.sum
  | _ => none
theorem rc_sum : RCD K (rSum K) sumD := by
  intro F H xs ds Q z ex rx h k
  unfold sumD at h
  split at h
  · obtain ⟨x, rfl, r⟩ := rx.one
    obtain ⟨l, vs, rfl, a, b⟩ := r.isl ex
    rename_i es
    cases q : ints? es with
    | none => rw [q] at h; cases h
    | some ns =>
      rw [q] at h
      cases h
      obtain rfl := ints?_eq q
      obtain rfl := b.ints
      exact ⟨l, ns, rfl, .of a, k.here ex (.int _)⟩
  · cases h
def anyD : List D → Option D
  | [.list ds] => (bools? ds).map fun ns => .bool (ns.any id)
  | _ => none
def allD : List D → Option D
  | [.list ds] => (bools? ds).map fun ns => .bool (ns.all id)
  | _ => none
theorem rc_any : RCD K (rAny K) anyD := by
  intro F H xs ds Q z ex rx h k
  unfold anyD at h
  split at h
  · obtain ⟨x, rfl, r⟩ := rx.one
    obtain ⟨l, vs, rfl, a, b⟩ := r.isl ex
    rename_i es
    cases q : bools? es with
    | none => rw [q] at h; cases h
    | some ns =>
      rw [q] at h
      cases h
      obtain rfl := bools?_eq q
      obtain rfl := b.bools
      exact ⟨l, ns, rfl, .of a, k.here ex (.bl _)⟩
  · cases h
theorem rc_all : RCD K (rAll K) allD := by
  intro F H xs ds Q z ex rx h k
  unfold allD at h
  split at h
  · obtain ⟨x, rfl, r⟩ := rx.one
    obtain ⟨l, vs, rfl, a, b⟩ := r.isl ex
    rename_i es
    cases q : bools? es with
    | none => rw [q] at h; cases h
    | some ns =>
      rw [q] at h
      cases h
      obtain rfl := bools?_eq q
      obtain rfl := b.bools
      exact ⟨l, ns, rfl, .of a, k.here ex (.bl _)⟩
  · cases h
/-- sorted of a list of ints -/
def sortI (ns : List Int) : List Int := ns.mergeSort (fun a b => decide (a ≤ b))
theorem sortI_perm (ns : List Int) : (sortI ns).Perm ns := List.mergeSort_perm _ _
theorem sortI_sorted (ns : List Int) : (sortI ns).Pairwise (· ≤ ·) := by
  have h := List.pairwise_mergeSort (le := fun a b : Int => decide (a ≤ b)) (fun a b c h1 h2 => by simp at *; omega) (fun a b => by simp; omega) ns
  exact h.imp fun h => by simpa using h
theorem sorted_one : ∀ {xs ys : List Int}, xs.Perm ys → xs.Pairwise (· ≤ ·) → ys.Pairwise (· ≤ ·) → xs = ys := fun {xs ys} p h1 h2 =>
  List.Perm.eq_of_pairwise (le := (· ≤ ·)) (fun a b _ _ h1 h2 => Int.le_antisymm h1 h2) h1 h2 p
def sortD : List D → Option (List D)
  | [.list ds] => (ints? ds).map fun ns => (sortI ns).map .int
  | _ => none
theorem rc_sort : RCL K (rSortedI K) sortD := by
  intro F H xs ds Q z ex rx h k
  unfold sortD at h
  split at h
  · obtain ⟨x, rfl, r⟩ := rx.one
    obtain ⟨l, vs, rfl, a, b⟩ := r.isl ex
    rename_i es
    cases q : ints? es with
    | none => rw [q] at h; cases h
    | some ns =>
      rw [q] at h
      cases h
      obtain rfl := ints?_eq q
      obtain rfl := b.ints
      refine ⟨l, ns, rfl, .of a, fun ns' p hp hs hn => ?_⟩
      have e : ns' = sortI ns := sorted_one (hp.trans (sortI_perm ns).symm) hs (sortI_sorted ns)
      rw [e]
      exact k.new ex (repL_ints _) p hn
  · cases h
/-- int(..) of an int, a bool; str(..) of an int -/
def intD : List D → Option D
  | [.int i] => some (.int i)
  | [.bool b] => some (.int (if b then 1 else 0))
  | _ => none
def oInt : List V → Hp → VK → Prop := fun xs H Q => (∃ i, xs = [.int i] ∧ Q (.int i) H) ∨ ∃ k, xs = [.bl k] ∧ Q (.int (if k then 1 else 0)) H
theorem call_intU {X : Cx} : CallR X (.type "int") oInt := call_int1
theorem rc_int : RCD K oInt intD := by
  intro F H xs ds Q z ex rx h k
  unfold intD at h
  split at h
  · cases h
    obtain ⟨x, rfl, r⟩ := rx.one
    obtain rfl := r.isi
    exact .inl ⟨_, rfl, k.here ex (.int _)⟩
  · cases h
    obtain ⟨x, rfl, r⟩ := rx.one
    obtain rfl := r.isb
    exact .inr ⟨_, rfl, k.here ex (.int _)⟩
  · cases h
/-- isinstance(x, T), T a built-in type -/
def tyN : D → String
  | .none => "NoneType" | .bool _ => "bool" | .int _ => "int" | .str _ => "str" | .list _ => "list" | .tuple _ => "tuple" | .dict [(.none, .list _)] => "list" | .dict [(.none, .tuple _)] => "tuple" | .dict _ => "dict"
/-- an error that is held -/
def isExc : D → Bool
  | .dict [(.int _, _)] => true
  | .dict [(.str _, _)] => true
  | .dict ((.bool true, .bool true) :: _) => true
  | _ => false
def isiD (T : String) (d : D) : Option D := if isExc d = true then none else (kitB (tyN d) T).map .bool
theorem ty_of {F H : Hp} {v : V} {d : D} (ex : Ex F H) (r : RepB K F H v d) (he : isExc d = false) : TyX K H v (.type (tyN d)) := by
  cases r with
  | thg h q => cases q with
    | lst r => exact .base (.lst h)
    | dK r => exact .base (.dK h)
    | dT r => exact .base (.dT h)
  | frz r =>
    cases r with
    | non => exact .base .non
    | bl b => exact .base (.bl b)
    | int i => exact .base (.int i)
    | str x => exact .base (.str x)
    | lst h q => exact .base (.lst (ex _ _ h))
    | dK h q e => subst e; exact .base (.dK (ex _ _ h))
    | dT h q e => subst e; exact .base (.dT (ex _ _ h))
    | dKf h q e => subst e; exact .fDict (ex _ _ h)
    | dTf h q e => subst e; cases he
    | exc h q e => subst e; cases he
    | fnc h e => subst e; cases he
    | ktp h _ _ q e => subst e; exact .fTuple (ex _ _ h)
    | tup h q => exact .base (.tup (ex _ _ h))
    | scr h q e =>
      subst e
      rcases h with (h | ⟨o, h⟩) | ⟨o, its, n, h, c, _⟩
      · exact .base (.lst (ex _ _ h))
      · exact .base (.frz (ex _ _ h))
      · exact .kList h c
theorem df_isi {L : Addr × Addr} {mg : Str → Option Value} {W : WX} {ta : TE} {a : ME} {T : String} (ha : DE K L mg W ta a) : DF K L mg W (tCB (rIsi K) (tCons ta (tCons (tC (.ty T)) tNil))) (e1 (isiD T) a) := fun F0 H0 F H σ ρ Q E p => by
  refine ha F0 H0 F H σ ρ _ E (post_mono (post_bind p) (fun d k F1 H1 x s1 r1 => ?_) fun _ z => z)
  obtain ⟨z, ez, k3⟩ := post_lift k
  unfold isiD at ez
  cases he : isExc d with
  | true => rw [if_pos he] at ez; cases ez
  | false =>
  rw [if_neg (by rw [he]; exact Bool.false_ne_true)] at ez
  cases q : kitB (tyN d) T with
  | none => rw [q] at ez; cases ez
  | some b =>
    rw [q] at ez
    cases ez
    exact ⟨x, .ty T, _, _, b, rfl, .ty T, ty_of s1.fh r1 he, kit_ty q, k3 F1 H1 _ s1 (.bl _)⟩
open Classical in
/-- a[i] -/
noncomputable def ixD : D → D → Option D
  | .str z, .int i => if z.length ≤ sizeLine then (atI z.cps.toList i).map fun c => .str ⟨#[c]⟩ else none
  | d, .int i => (seq? d).bind fun ds => atI ds i
  | _, _ => none
theorem RepL.at {F : Hp} {vs : List V} {ds : List D} (r : RepL K F vs ds) {i : Int} {d : D} (h : atI ds i = some d) : ∃ v, atI vs i = some v ∧ Rep K F v d := by
  unfold atI at h ⊢
  rw [r.length]
  cases q : ixN ds.length i with
  | none => rw [q] at h; cases h
  | some j => rw [q] at h; exact r.get' h
theorem rd_ix : R2D K (rIx K) ixD := by
  intro F H x y d e Q z ex rx ry h k
  unfold ixD at h
  split at h
  · obtain rfl := rx.iss
    obtain rfl := ry.isi
    split at h
    · rename_i zz i hz
      cases q : atI zz.cps.toList i with
      | none => rw [q] at h; cases h
      | some c =>
        rw [q] at h
        cases h
        exact .inr (.inr ⟨_, _, c, rfl, rfl, hz, q, k.here ex (.str _)⟩)
    · cases h
  · obtain rfl := ry.isi
    cases q : seq? d with
    | none => rw [q] at h; cases h
    | some ds =>
      rw [q] at h
      obtain ⟨l, vs, rfl, a, b⟩ := rx.seq ex q
      obtain ⟨v, hv, rv⟩ := b.at h
      rcases a with a | a
      · exact .inl ⟨l, vs, _, v, rfl, rfl, a, hv, k.here ex rv⟩
      · exact .inr (.inl ⟨l, vs, _, v, rfl, rfl, a, hv, k.here ex rv⟩)
  · cases h
/-- a[lo:hi] -/
def cutL {α : Type} (xs : List α) (lo hi : Option Int) : List α := (xs.drop (HT.sIx xs.length 0 lo)).take (HT.sIx xs.length xs.length hi - HT.sIx xs.length 0 lo)
theorem RepL.cut {F : Hp} {vs : List V} {ds : List D} (r : RepL K F vs ds) (lo hi : Option Int) : RepL K F (cutV vs lo hi) (cutL ds lo hi) := by
  unfold cutV cutL
  rw [r.length]
  exact (r.drop _).take _
open Classical in
noncomputable def slD : D → Option Int → Option Int → Option D
  | .str z, lo, hi => if z.length ≤ sizeLine then some (.str (cutS z lo hi)) else none
  | .tuple ds, lo, hi => some (.tuple (cutL ds lo hi))
  | .list ds, lo, hi => some (.list (cutL ds lo hi))
  | .dict [(.none, .list ds)], lo, hi => some (.list (cutL ds lo hi))
  | .dict [(.none, .tuple ds)], lo, hi => some (if (cutL ds lo hi).length = ds.length then ktD ds else .tuple (cutL ds lo hi))
  | _, _, _ => none
def slLD : D → Option Int → Option Int → Option (List D)
  | .list ds, lo, hi => some (cutL ds lo hi)
  | .dict [(.none, .list ds)], lo, hi => some (cutL ds lo hi)
  | _, _, _ => none
def oSl (K : PySem.W.Frag) : V → Option Int → Option Int → Hp → VK → Prop := fun x lo hi H Q => rSlL K x lo hi H Q ∨ (fun x lo hi H Q => rSlA K x lo hi H Q ∨ rSlS x lo hi H Q) x lo hi H Q
theorem sl_any {X : Cx} : SlR X (oSl X.K) := sl_list.or (sl_tupA.or sl_str)
theorem sIx_le' (n d : Nat) (hd : d ≤ n) (o : Option Int) : HT.sIx n d o ≤ n := HT.sIx_le n d hd o
theorem rs_sl : RSD K (oSl K) slD := by
  intro F H x d lo hi Q z ex rx h k
  unfold slD at h
  split at h
  · split at h
    · cases h
      obtain rfl := rx.iss
      exact .inr (.inr ⟨_, rfl, by assumption, k.here ex (.str _)⟩)
    · cases h
  · cases h
    obtain ⟨l, vs, rfl, a, b, c⟩ := rx.ist ex
    refine .inr (.inl ⟨l, vs, rfl, a, fun hw => ?_, fun _ => k.newT ex (b.cut lo hi)⟩)
    refine k.here ex ?_
    rename_i ds
    have e : cutL ds lo hi = ds := by
      unfold cutL
      rw [← b.length, hw.1, hw.2, List.drop_zero]
      rw [b.length, Nat.sub_zero, List.take_length]
    rw [e]
    exact c
  · cases h
    obtain ⟨l, vs, rfl, a, b⟩ := rx.isl ex
    exact .inl ⟨l, vs, rfl, .of a, k.newL ex (b.cut lo hi)⟩
  · cases h
    obtain ⟨l, vs, rfl, a, b⟩ := rx.iscr ex
    exact .inl ⟨l, vs, rfl, a, k.newL ex (b.cut lo hi)⟩
  · cases h
    rename_i ds
    obtain ⟨l, vs, rfl, a, b, c⟩ := rx.iktT ex
    have l1 := sIx_le' ds.length 0 (Nat.zero_le _) lo
    have l2 := sIx_le' ds.length ds.length (Nat.le_refl _) hi
    have cl : (cutL ds lo hi).length = min (HT.sIx ds.length ds.length hi - HT.sIx ds.length 0 lo) (ds.length - HT.sIx ds.length 0 lo) := by
      unfold cutL
      rw [List.length_take, List.length_drop]
    refine .inr (.inl ⟨l, vs, rfl, a, fun hw => ?_, fun hw => ?_⟩)
    · rw [b.length] at hw
      rw [if_pos (by omega)] at k
      exact k.here ex c
    · rw [b.length] at hw
      rw [if_neg (by omega)] at k
      exact k.newT ex (b.cut lo hi)
  · cases h
theorem rs_slL : RSL K (oSl K) slLD := by
  intro F H x d lo hi Q z ex rx h k
  unfold slLD at h
  split at h
  · cases h
    obtain ⟨l, vs, rfl, a, b⟩ := rx.isl ex
    exact .inl ⟨l, vs, rfl, .of a, k.new ex (b.cut lo hi)⟩
  · cases h
    obtain ⟨l, vs, rfl, a, b⟩ := rx.iscr ex
    exact .inl ⟨l, vs, rfl, a, k.new ex (b.cut lo hi)⟩
  · cases h
/-- x in y -/
def inB : D → D → Option Bool
  | d, .list ds => if SeqAt.shaped d && SeqAt.shaped (.list ds) then some (ds.any fun z => PyData.eqv z d) else none
  | _, _ => none
def inD (d e : D) : Option D := (inB d e).map .bool
def ninD (d e : D) : Option D := (inB d e).map fun b => .bool (!b)
def oIn (K : PySem.W.Frag) : R2 := rOr (rInD K) (rIn K false)
def oNin (K : PySem.W.Frag) : R2 := rOr (rNotInD K) (rIn K true)
theorem op_inU {X : Cx} (hu : X.A.units + 65 < cLine) : OpR X (compareOp .In) (oIn X.K) := opOr (op_inD hu) op_in_seq
theorem op_ninU {X : Cx} (hu : X.A.units + 65 < cLine) : OpR X (compareOp .NotIn) (oNin X.K) := opOr (op_notInD hu) op_notIn_seq
theorem rd_in : R2D K (oIn K) inD := by
  intro F H x y d e Q z ex rx ry h k
  unfold inD inB at h
  split at h
  · split at h
    · rename_i ds c
      cases h
      rw [Bool.and_eq_true] at c
      exact .inl ⟨d, ds, (rx.now ex).dp (canLay_sh c.1), (ry.now ex).dp (canLay_sh c.2), c.1, c.2, k.here ex (.bl _)⟩
    · cases h
  · cases h
theorem rd_nin : R2D K (oNin K) ninD := by
  intro F H x y d e Q z ex rx ry h k
  unfold ninD inB at h
  split at h
  · split at h
    · rename_i ds c
      cases h
      rw [Bool.and_eq_true] at c
      exact .inl ⟨d, ds, (rx.now ex).dp (canLay_sh c.1), (ry.now ex).dp (canLay_sh c.2), c.1, c.2, k.here ex (.bl _)⟩
    · cases h
  · cases h
end
end Dn

set_option Elab.async false
set_option linter.all false
set_option maxRecDepth 100000
set_option maxHeartbeats 4000000
/-! DenF: statements, loops, comprehensions, calls -/
namespace Dn
open PySem L2

section
variable (K : PySem.W.Frag)
/-- what is wanted of an outcome -/
def WO (mg : Str → Option Value) (W : WX) (L : Addr × Addr) (F0 H0 F : Hp) (D : Ends) : Out → Prop
  | .nx ρ => ∀ F' H' σ', Ex F F' → Env K L F0 H0 F' H' σ' ρ → D.nx σ' H'
  | .brk ρ => ∀ F' H' σ', Ex F F' → Env K L F0 H0 F' H' σ' ρ → D.bk σ' H'
  | .cont ρ => ∀ F' H' σ', Ex F F' → Env K L F0 H0 F' H' σ' ρ → D.ct σ' H'
  | .ret d ρ => ∀ F' H' σ' v, Ex F F' → Env K L F0 H0 F' H' σ' ρ → Rep K F' v d → D.rt v H'
  | .retL ds ρ => ∀ F' H1 σ' p vs, Ex F F' → Env K L F0 H0 F' H1 σ' ρ → H1 p = none → RepL K F' vs ds → D.rt (.ref p) (upd H1 p (.lst vs))
  | .exc n ρ => ∀ F' H' σ', Ex F F' → Env K L F0 H0 F' H' σ' ρ → Wm mg W n σ' H'
  | .stuck => False
variable (L : Addr × Addr) (mg : Str → Option Value) (W : WX)
def DS (t : TS) (g : MS) : Prop := ∀ F0 H0 F H σ ρ D, Env K L F0 H0 F H σ ρ → WO K mg W L F0 H0 F D (g ρ) → t D σ H
/-- a target: what it does, the slots that it fills -/
def DG (g : TG) (tg : D → Fr → Option Fr) (is : List Nat) : Prop := ∀ F0 H0 F H σ ρ v d (Q : St → Hp → Prop) ρ', Env K L F0 H0 F H σ ρ → Rep K F v d → tg d ρ = some ρ' →
  (∀ σ', Env K L F0 H0 F H σ' ρ' → (∀ vs : List Nat, (∀ i ∈ is, i ∈ vs) → wipe σ' vs = wipe σ vs) → Q σ' H) → g v σ H Q
def DGs (g : TGs) (tg : List D → Fr → Option Fr) (is : List Nat) : Prop := ∀ F0 H0 F H σ ρ vs ds (Q : St → Hp → Prop) ρ', Env K L F0 H0 F H σ ρ → RepL K F vs ds → tg ds ρ = some ρ' →
  (∀ σ', Env K L F0 H0 F H σ' ρ' → (∀ vs : List Nat, (∀ i ∈ is, i ∈ vs) → wipe σ' vs = wipe σ vs) → Q σ' H) → g vs σ H Q
/-- what is walked: items that stay, items that stand as long as nothing is written -/
def Src (J : It) (F1 : Hp) (ds : List D) : Prop := ∃ G Y, Walk J ds.length G Y ∧ (∀ F H, Ex F1 F → Ex F H → G H) ∧
  (∀ i F H x H', i < ds.length → Ex F1 F → Ex F H → Y i H x H' → ∃ F' d, Step F H F' H' ∧ ds[i]? = some d ∧ Rep K F' x d)
def SrcB (J : It) (F1 H1 : Hp) (ds : List D) : Prop := ∃ G Y, Walk J ds.length G Y ∧ (∀ F H, Ex F1 F → Ex H1 H → Ex F H → G H) ∧
  (∀ i F H x H', i < ds.length → Ex F1 F → Ex H1 H → Ex F H → Y i H x H' → ∃ F' d, Step F H F' H' ∧ ds[i]? = some d ∧ Rep K F' x d)
def DI (wi : TI) (f : ML) : Prop := ∀ F0 H0 F H σ ρ (R : It → Hp → Prop), Env K L F0 H0 F H σ ρ → post (f ρ) (fun ds => ∀ F' H' J, Step F H F' H' → Src K J F' ds → R J H') (WE' mg W F H σ) → wi σ H R
def DIB (wi : TI) (f : ML) : Prop := ∀ F0 H0 F H σ ρ (R : It → Hp → Prop), Env K L F0 H0 F H σ ρ → post (f ρ) (fun ds => ∀ F' H' J, Step F H F' H' → SrcB K J F' H' ds → R J H') (WE' mg W F H σ) → wi σ H R
end

def Out.of {α : Type} (m : M α) (ρ : Fr) (k : α → Out) : Out := match m with
  | .ok a => k a
  | .exc n => .exc n ρ
  | .stuck => .stuck
@[simp] theorem of_ok {α : Type} {a : α} {ρ : Fr} {k : α → Out} : Out.of (.ok a) ρ k = k a := rfl
@[simp] theorem of_exc {α : Type} {n : Str} {ρ : Fr} {k : α → Out} : Out.of (.exc n : M α) ρ k = .exc n ρ := rfl
@[simp] theorem of_stuck {α : Type} {ρ : Fr} {k : α → Out} : Out.of (.stuck : M α) ρ k = .stuck := rfl
def Out.ofO {α : Type} (m : Option α) (k : α → Out) : Out := match m with
  | some a => k a
  | none => .stuck
@[simp] theorem ofO_some {α : Type} {a : α} {k : α → Out} : Out.ofO (some a) k = k a := rfl
@[simp] theorem ofO_none {α : Type} {k : α → Out} : Out.ofO (none : Option α) k = .stuck := rfl

/-! ### pure statements -/
def sNext : MS := fun ρ => .nx ρ
def sBrk : MS := fun ρ => .brk ρ
def sCont : MS := fun ρ => .cont ρ
def sSeq (a b : MS) : MS := fun ρ => match a ρ with
  | .nx ρ' => b ρ'
  | o => o
def sAsg (tg : D → Fr → Option Fr) (e : ME) : MS := fun ρ => Out.of (e ρ) ρ fun d => Out.ofO (tg d ρ) .nx
def sAsgL (i : Nat) (e : ML) : MS := fun ρ => Out.of (e ρ) ρ fun ds => .nx (ρ.set i (.own (.lst ds)))
def sExpr (e : ME) : MS := fun ρ => Out.of (e ρ) ρ fun _ => .nx ρ
def sRet (e : ME) : MS := fun ρ => Out.of (e ρ) ρ fun d => .ret d ρ
def sRetL (e : ML) : MS := fun ρ => Out.of (e ρ) ρ fun ds => .retL ds ρ
/-- the list of one's own in slot i is handed back -/
def sRetO (i : Nat) : MS := fun ρ => match ρ[i]? with
  | some (.own (.lst ds)) => .retL ds (ρ.set i .none)
  | _ => .stuck
def sRetN : MS := fun ρ => .ret .none ρ
def sRaise (n : Str) : MS := fun ρ => .exc n ρ
def sIf (t : MT) (a b : MS) : MS := fun ρ => Out.of (t ρ) ρ fun c => if c = true then a ρ else b ρ
/-- the list in slot i is from here on nobody's -/
def frz (i : Nat) (ρ : Fr) : Fr := match ρ[i]? with
  | some (.own o) => ρ.set i (.val o.d)
  | _ => ρ
def sFrz (i : Nat) (g : MS) : MS := fun ρ => g (frz i ρ)
def loopFor (body : D → Fr → Out) : List D → Fr → Out
  | [], ρ => .nx ρ
  | d :: ds, ρ => match body d ρ with
    | .nx ρ' => loopFor body ds ρ'
    | .cont ρ' => loopFor body ds ρ'
    | .brk ρ' => .nx ρ'
    | o => o
def forB (tg : D → Fr → Option Fr) (g : MS) : D → Fr → Out := fun d ρ => Out.ofO (tg d ρ) g
def sFor (f : ML) (tg : D → Fr → Option Fr) (g : MS) : MS := fun ρ => Out.of (f ρ) ρ fun ds => loopFor (forB tg g) ds ρ
def loopWhile (c : MT) (g : MS) : Nat → Fr → Out
  | 0, _ => .stuck
  | n + 1, ρ => Out.of (c ρ) ρ fun b => if b = true then (match g ρ with
      | .nx ρ' => loopWhile c g n ρ'
      | .cont ρ' => loopWhile c g n ρ'
      | .brk ρ' => .nx ρ'
      | o => o) else .nx ρ
@[irreducible] def fuel : Nat := 1000000
def sWhile (c : MT) (g : MS) : MS := fun ρ => loopWhile c g fuel ρ
def gN (i : Nat) : D → Fr → Option Fr := fun d ρ => some (ρ.set i (.val d))
def gNil' : List D → Fr → Option Fr := fun ds ρ => match ds with
  | [] => some ρ
  | _ => none
def gC (g : D → Fr → Option Fr) (gs : List D → Fr → Option Fr) : List D → Fr → Option Fr := fun ds ρ => match ds with
  | d :: ds => (g d ρ).bind fun ρ' => gs ds ρ'
  | [] => none
def gT (gs : List D → Fr → Option Fr) : D → Fr → Option Fr := fun d ρ => match d with
  | .tuple ds => gs ds ρ
  | _ => none
def gL (gs : List D → Fr → Option Fr) : D → Fr → Option Fr := fun d ρ => match d with
  | .list ds => gs ds ρ
  | _ => none
def ownAt (i : Nat) (ρ : Fr) : Option (List D) := match ρ[i]? with
  | some (.own (.lst ds)) => some ds
  | some (.pin (.lst ds)) => some ds
  | _ => none
def setL (ds : List D) (k v : D) : Option (List D) := match k with
  | .int j => (ixN ds.length j).map fun n => ds.set n v
  | _ => none
def putL (i : Nat) (ds : List D) (ρ : Fr) : Fr := putO i (.lst ds) ρ
/-- l[k] = v in slot i -/
def sSet (i : Nat) (k e : ME) : MS := fun ρ => Out.of (e ρ) ρ fun v => Out.ofO (ownAt i ρ) fun ds => Out.of (k ρ) ρ fun j => Out.ofO (setL ds j v) fun ds' => .nx (putL i ds' ρ)
/-- a method that changes the list in slot i -/
def sMut (i : Nat) (fm : List D → List D → Option (List D × D)) (as : ML) : MS := fun ρ => Out.ofO (ownAt i ρ) fun ds => Out.of (as ρ) ρ fun es => Out.ofO (fm ds es) fun r => .nx (putL i r.1 ρ)
def sMutA (j i : Nat) (fm : List D → List D → Option (List D × D)) (as : ML) : MS := fun ρ => Out.ofO (ownAt i ρ) fun ds => Out.of (as ρ) ρ fun es => Out.ofO (fm ds es) fun r => .nx ((putL i r.1 ρ).set j (.val r.2))
/-- what a def hands back -/
def Out.m : Out → M D
  | .nx _ => .ok .none
  | .ret d _ => .ok d
  | .retL ds _ => .ok (.list ds)
  | .exc n _ => .exc n
  | _ => .stuck
def start' (N : Nat) (ds : List D) : Fr := ds.map .val ++ List.replicate (N - ds.length) .none
def mFn (np N : Nat) (g : MS) (ds : List D) : M D := if ds.length = np then (g (start' N ds)).m else .stuck
/-- comprehensions -/
def wipeF (ρ : Fr) : List Nat → Fr
  | [] => ρ
  | v :: vs => (wipeF ρ vs).set v .none
def noX {α : Type} : M α → M α
  | .exc _ => .stuck
  | m => m
def loopLc (tg : D → Fr → Option Fr) (t : MT) (e : ME) (vs : List Nat) (ρ : Fr) : List D → List D → M (List D)
  | [], acc => .ok acc
  | d :: ds, acc => match tg d (wipeF ρ vs) with
    | none => .stuck
    | some ρ' => (noX (t ρ')).bind fun b => if b = true then (noX (e ρ')).bind fun y => if acc.length < sizeLine then loopLc tg t e vs ρ ds (acc ++ [y]) else .stuck else loopLc tg t e vs ρ ds acc
def eLc (f : ML) (tg : D → Fr → Option Fr) (t : MT) (e : ME) (vs : List Nat) : ML := fun ρ => (f ρ).bind fun ds => loopLc tg t e vs ρ ds []
def tYesF : MT := fun _ => .ok true

section
variable {K : PySem.W.Frag} {mg : Str → Option Value} {W : WX} {te ta : TE} {e a : ME} {t u : TS} {g h : MS} {L : Addr × Addr} {F0 H0 F H F' H' : Hp} {D : Ends} {σ : St} {ρ : Fr} {tt : TT} {tf : MT} {gg : TG} {tg : Dn.D → Fr → Option Fr} {is : List Nat}

theorem WO.mono {o : Out} (s : Ex F F') (w : WO K mg W L F0 H0 F D o) : WO K mg W L F0 H0 F' D o := by
  cases o with
  | nx ρ => exact fun F1 H1 σ1 e => w F1 H1 σ1 (s.trans e)
  | brk ρ => exact fun F1 H1 σ1 e => w F1 H1 σ1 (s.trans e)
  | cont ρ => exact fun F1 H1 σ1 e => w F1 H1 σ1 (s.trans e)
  | ret d ρ => exact fun F1 H1 σ1 v e => w F1 H1 σ1 v (s.trans e)
  | retL ds ρ => exact fun F1 H1 σ1 p vs e => w F1 H1 σ1 p vs (s.trans e)
  | exc n ρ => exact fun F1 H1 σ1 e => w F1 H1 σ1 (s.trans e)
  | stuck => exact w
/-- an expression ahead -/
theorem WO.of {α : Type} {m : M α} {k : α → Out} (E : Env K L F0 H0 F H σ ρ) (w : WO K mg W L F0 H0 F D (Out.of m ρ k)) : post m (fun a => WO K mg W L F0 H0 F D (k a)) (WE' mg W F H σ) := by
  cases m with
  | ok a => exact w
  | exc n => exact fun F1 H1 s => w F1 H1 σ s.ff (E.step s)
  | stuck => exact w.elim
theorem WO.ofO {α : Type} {m : Option α} {k : α → Out} (w : WO K mg W L F0 H0 F D (Out.ofO m k)) : ∃ a, m = some a ∧ WO K mg W L F0 H0 F D (k a) := by
  cases m with
  | some a => exact ⟨a, rfl, w⟩
  | none => exact w.elim
theorem ds_next : DS K L mg W tNext sNext := fun F0 H0 F H σ ρ D E w => w F H σ (Ex.refl _) E
theorem ds_brk : DS K L mg W tBreak sBrk := fun F0 H0 F H σ ρ D E w => w F H σ (Ex.refl _) E
theorem ds_cont : DS K L mg W tCont sCont := fun F0 H0 F H σ ρ D E w => w F H σ (Ex.refl _) E
theorem ds_seq (h1 : DS K L mg W t g) (h2 : DS K L mg W u h) : DS K L mg W (tSeq t u) (sSeq g h) := fun F0 H0 F H σ ρ D E w => by
  refine h1 F0 H0 F H σ ρ _ E ?_
  unfold sSeq at w
  cases q : g ρ with
  | nx ρ' => rw [q] at w; exact fun F1 H1 σ1 e E1 => h2 F0 H0 F1 H1 σ1 ρ' D E1 (w.mono e)
  | brk ρ => rw [q] at w; exact w
  | cont ρ => rw [q] at w; exact w
  | ret d ρ => rw [q] at w; exact w
  | retL ds ρ => rw [q] at w; exact w
  | exc n ρ => rw [q] at w; exact w
  | stuck => rw [q] at w; exact w
theorem ds_asg (he : DF K L mg W te e) (hg : DG K L gg tg is) : DS K L mg W (tAsg te gg) (sAsg tg e) := fun F0 H0 F H σ ρ D E w => by
  refine he F0 H0 F H σ ρ _ E (post_mono (WO.of E w) (fun d k F1 H1 v s r => ?_) fun _ z => z)
  obtain ⟨ρ', q, k⟩ := WO.ofO k
  exact hg F0 H0 F1 H1 σ ρ v d _ ρ' (E.step s) r q fun σ' E' _ => k F1 H1 σ' s.ff E'
theorem ds_asgL {i : Nat} {f : ML} (he : DL K L mg W te f) : DS K L mg W (tAsg te (gName i)) (sAsgL i f) := fun F0 H0 F H σ ρ D E w => by
  refine he F0 H0 F H σ ρ _ E (post_mono (WO.of E w) (fun ds k F1 H1 p vs s n r => ?_) fun _ z => z)
  exact k F1 _ _ s.ff ((E.step s).seto n (.lst r) i)
theorem ds_expr (he : DE K L mg W te e) : DS K L mg W (tDrop te) (sExpr e) := fun F0 H0 F H σ ρ D E w => by
  refine he F0 H0 F H σ ρ _ E (post_mono (WO.of E w) (fun d k F1 H1 v s r => ?_) fun _ z => z)
  exact k F1 H1 σ s.ff (E.step s)
theorem ds_ret (he : DF K L mg W te e) : DS K L mg W (tRet te) (sRet e) := fun F0 H0 F H σ ρ D E w => by
  refine he F0 H0 F H σ ρ _ E (post_mono (WO.of E w) (fun d k F1 H1 v s r => ?_) fun _ z => z)
  exact k F1 H1 σ v s.ff (E.step s) r
theorem ds_retN : DS K L mg W tRetN sRetN := fun F0 H0 F H σ ρ D E w => w F H σ _ (Ex.refl _) E .non
theorem ds_retL {f : ML} (he : DL K L mg W te f) : DS K L mg W (tRet te) (sRetL f) := fun F0 H0 F H σ ρ D E w => by
  refine he F0 H0 F H σ ρ _ E (post_mono (WO.of E w) (fun d k F1 H1 p vs s n r => ?_) fun _ z => z)
  exact k F1 H1 σ p vs s.ff (E.step s) n r
theorem ds_retO {i : Nat} : DS K L mg W (tRet (tVar i)) (sRetO i) := fun F0 H0 F H σ ρ D E w => by
  unfold sRetO at w
  split at w
  · rename_i ds q
    obtain ⟨l, ho, e, f, h0, hl, r, _⟩ := E.ownv (i := i) (o := .lst ds) (by rw [q]; rfl)
    cases r with
    | lst r =>
      refine ⟨_, e, ?_⟩
      have z := w F (del H l) σ l _ (Ex.refl _) (E.drop q e) del_same r
      rw [del_upd hl] at z
      exact z
  · exact w.elim
theorem ds_raise {n : Str} {C : Addr} (hC : mg n = some (.ref C)) : DS K L mg W (fun _ σ H => W (.ref C) none σ H) (sRaise n) := fun F0 H0 F H σ ρ D E w => w F H σ (Ex.refl _) E C hC
theorem ds_if (ht : DT K L mg W tt tf) (h1 : DS K L mg W t g) (h2 : DS K L mg W u h) : DS K L mg W (tIfS tt t u) (sIf tf g h) := fun F0 H0 F H σ ρ D E w => by
  refine ht F0 H0 F H σ ρ _ E (post_mono (WO.of E w) (fun c k F1 H1 s => ?_) fun _ z => z)
  cases c with
  | true => exact iteT (h1 F0 H0 F1 H1 σ ρ D (E.step s) (WO.mono s.ff k))
  | false => exact iteF (h2 F0 H0 F1 H1 σ ρ D (E.step s) (WO.mono s.ff k))
theorem ds_frz {i : Nat} (h1 : DS K L mg W t g) : DS K L mg W t (sFrz i g) := fun F0 H0 F H σ ρ D E w => by
  unfold sFrz frz at w
  cases q : ρ[i]? with
  | none => rw [q] at w; exact h1 F0 H0 F H σ ρ D E w
  | some s =>
    rw [q] at w
    cases s with
    | own ds =>
      obtain ⟨F', ef, E'⟩ := E.frz q
      exact h1 F0 H0 F' H σ _ D E' (WO.mono ef w)
    | none => exact h1 F0 H0 F H σ ρ D E w
    | pin _ => exact h1 F0 H0 F H σ ρ D E w
    | val d => exact h1 F0 H0 F H σ ρ D E w
    | err n => exact h1 F0 H0 F H σ ρ D E w

/-! ### targets -/
theorem wipe_get (σ : St) : ∀ (vs : List Nat) (j : Nat), (wipe σ vs)[j]? = if j ∈ vs then (σ[j]?).map (fun _ => none) else σ[j]?
  | [], j => by simp [wipe]
  | v :: vs, j => by
    unfold wipe
    rw [List.getElem?_set, wipe_length]
    by_cases q : v = j
    · subst q
      simp
      cases r : σ[v]? with
      | none => rw [List.getElem?_eq_none_iff] at r; rw [if_neg (by omega)]; rfl
      | some o => obtain ⟨hl, _⟩ := List.getElem?_eq_some_iff.mp r; rw [if_pos hl]; rfl
    · rw [if_neg q, wipe_get σ vs j]
      have e : (j ∈ v :: vs) ↔ j ∈ vs := ⟨fun h => (List.mem_cons.mp h).resolve_left fun z => q z.symm, List.mem_cons_of_mem _⟩
      simp only [e]
theorem wipe_set {σ : St} {i : Nat} {o : Option V} {vs : List Nat} (h : i ∈ vs) : wipe (σ.set i o) vs = wipe σ vs := by
  refine List.ext_getElem? fun j => ?_
  rw [wipe_get, wipe_get, List.getElem?_set]
  by_cases q : i = j
  · subst q
    rw [if_pos h, if_pos h, if_pos rfl]
    split
    · rw [List.getElem?_eq_getElem (by assumption)]; rfl
    · rw [List.getElem?_eq_none (by omega)]
  · rw [if_neg q]
theorem wipe_wipe {σ : St} {vs : List Nat} : wipe (wipe σ vs) vs = wipe σ vs := by
  refine List.ext_getElem? fun j => ?_
  rw [wipe_get, wipe_get]
  split
  · cases σ[j]? <;> rfl
  · rfl
theorem dg_name {i : Nat} : DG K L (gName i) (gN i) [i] := fun F0 H0 F H σ ρ v d Q ρ' E r q k => by
  cases q
  exact k _ (E.setv r i) fun vs h => wipe_set (h i (List.mem_singleton.mpr rfl))
theorem dgs_nil : DGs K L gNil gNil' [] := fun F0 H0 F H σ ρ vs ds Q ρ' E r q k => by
  unfold gNil' at q
  split at q
  · cases q; cases r; exact ⟨rfl, k σ E fun _ _ => rfl⟩
  · cases q
theorem dgs_cons {gs : TGs} {tgs : List Dn.D → Fr → Option Fr} {js : List Nat} (h1 : DG K L gg tg is) (h2 : DGs K L gs tgs js) : DGs K L (gCons gg gs) (gC tg tgs) (is ++ js) := fun F0 H0 F H σ ρ vs ds Q ρ' E r q k => by
  unfold gC at q
  split at q
  · rename_i d ds
    cases r with
    | cons r1 r2 =>
      cases q1 : tg d ρ with
      | none => rw [q1] at q; cases q
      | some ρ1 =>
        rw [q1] at q
        refine ⟨_, _, rfl, ?_⟩
        refine h1 F0 H0 F H σ ρ _ d _ ρ1 E r1 q1 fun σ1 E1 w1 => ?_
        refine h2 F0 H0 F H σ1 ρ1 _ ds _ ρ' E1 r2 q fun σ2 E2 w2 => ?_
        exact k σ2 E2 fun vs h => (w2 vs fun i hi => h i (List.mem_append_right _ hi)).trans (w1 vs fun i hi => h i (List.mem_append_left _ hi))
  · cases q
theorem dg_tup {gs : TGs} {tgs : List Dn.D → Fr → Option Fr} {n : Nat} (h : DGs K L gs tgs is) (hn : ∀ ds ρ ρ', tgs ds ρ = some ρ' → ds.length = n) : DG K L (gTup K n gs) (gT tgs) is := fun F0 H0 F H σ ρ v d Q ρ' E r q k => by
  unfold gT at q
  split at q
  · cases r with
    | tup a b => exact ⟨_, _, rfl, ex_t E.st.fh (.inl (.inl a)), by rw [b.length]; exact hn _ _ _ q, h F0 H0 F H σ ρ _ _ Q ρ' E b q k⟩
  · cases q
theorem gnil_len {ds : List Dn.D} {ρ ρ' : Fr} (h : gNil' ds ρ = some ρ') : ds.length = 0 := by
  unfold gNil' at h
  split at h
  · rfl
  · cases h
theorem gC_len {tgs : List Dn.D → Fr → Option Fr} {n : Nat} (hn : ∀ ds ρ ρ', tgs ds ρ = some ρ' → ds.length = n) (ds : List Dn.D) (ρ ρ' : Fr) (h : gC tg tgs ds ρ = some ρ') : ds.length = n + 1 := by
  unfold gC at h
  split at h
  · rename_i d ds
    cases q1 : tg d ρ with
    | none => rw [q1] at h; cases h
    | some ρ1 => rw [q1] at h; rw [List.length_cons, hn _ _ _ h]
  · cases h

/-! ### l[k] = v, methods that change -/
theorem ownAt_eq {i : Nat} {ds : List Dn.D} (h : ownAt i ρ = some ds) : ownO ρ[i]? = some (.lst ds) := by
  unfold ownAt at h
  split at h
  · cases h; rename_i q; rw [q]; rfl
  · cases h; rename_i q; rw [q]; rfl
  · cases h
theorem RepO.isl {ho : HO} {ds : List Dn.D} (r : RepO K F ho (.lst ds)) : ∃ vs, ho = .lst vs ∧ RepL K F vs ds := by
  cases r with
  | lst r => exact ⟨_, rfl, r⟩
theorem ds_set {i : Nat} {tk : TE} {k : ME} (he : DF K L mg W te e) (hk : DE K L mg W tk k) : DS K L mg W (tAsg te (gSub (tVar i) tk rSetL)) (sSet i k e) := fun F0 H0 F H σ ρ D E w => by
  refine he F0 H0 F H σ ρ _ E (post_mono (WO.of E w) (fun d w1 F1 H1 v s r => ?_) fun _ z => z)
  have E1 := E.step s
  obtain ⟨ds, q, w2⟩ := WO.ofO w1
  have q := ownAt_eq q
  obtain ⟨l, ho, el, _⟩ := E1.ownv q
  refine ⟨_, el, ?_⟩
  refine hk F0 H0 F1 H1 σ ρ _ E1 (post_mono (WO.of E1 (WO.mono s.ff w2)) (fun j w3 F2 H2 x s2 r2 => ?_) fun _ z => z)
  have E2 := E1.step s2
  obtain ⟨ds', q3, w4⟩ := WO.ofO w3
  obtain ⟨l', ho', el', _, _, hl, rl, _⟩ := E2.ownv q
  rw [el] at el'
  cases el'
  obtain ⟨vs', rfl, rl'⟩ := rl.isl
  unfold setL at q3
  split at q3
  · rename_i jj
    cases qj : ixN ds.length jj with
    | none => rw [qj] at q3; cases q3
    | some n =>
      rw [qj] at q3
      cases q3
      obtain rfl := r2.isi
      refine ⟨l, vs', jj, n, rfl, rfl, hl, by rw [rl'.length]; exact qj, ?_⟩
      exact w4 F2 _ σ s2.ff (E2.mut q el (.lst (rl'.set (r.mono s2.ff) n)))
  · cases q3
/-- a method of a list that changes it -/
def RMD (K : PySem.W.Frag) (r : V → List V → Hp → VK → Prop) (fm : List Dn.D → List Dn.D → Option (List Dn.D × Dn.D)) : Prop :=
  ∀ F H l vs ds xs es ds' z (Q : VK), Ex F H → H l = some (.lst vs) → RepL K F vs ds → RepL K F xs es → fm ds es = some (ds', z) → (∀ ws v, RepL K F ws ds' → Rep K F v z → Q v (upd H l (.lst ws))) → r (.ref l) xs H Q
theorem tm_core {i : Nat} {r : V → List V → Hp → VK → Prop} {fm : List Dn.D → List Dn.D → Option (List Dn.D × Dn.D)} {tas : TA} {as : ML} (hr : RMD K r fm) (ha : DAF K L mg W tas as) (F0 H0 F H : Hp) (σ : St) (ρ : Fr) (D : Ends) (Q : VK) (kk : List Dn.D × Dn.D → Out) (E : Env K L F0 H0 F H σ ρ)
    (w : WO K mg W L F0 H0 F D (Out.ofO (ownAt i ρ) fun ds => Out.of (as ρ) ρ fun es => Out.ofO (fm ds es) kk))
    (kq : ∀ ds' z F1 H1 v, Ex F F1 → WO K mg W L F0 H0 F1 D (kk (ds', z)) → Env K L F0 H0 F1 H1 σ (putL i ds' ρ) → Rep K F1 v z → Q v H1) :
    tBM K "list" r (tVar i) tas σ H Q := by
  obtain ⟨ds, q, w2⟩ := WO.ofO w
  have q := ownAt_eq q
  obtain ⟨l, ho, el, _, _, hl0, rl0, _⟩ := E.ownv q
  obtain ⟨vs, rfl, _⟩ := rl0.isl
  refine ⟨_, el, .inl ⟨rfl, _, .of hl0⟩, ?_⟩
  refine ha F0 H0 F H σ ρ _ E (post_mono (WO.of E w2) (fun es w3 F1 H1 xs s r1 => ?_) fun _ z => z)
  have E1 := E.step s
  obtain ⟨⟨ds', z⟩, q3, w4⟩ := WO.ofO w3
  obtain ⟨l', ho', el', _, _, hl, rl, _⟩ := E1.ownv q
  rw [el] at el'
  cases el'
  obtain ⟨vs', rfl, rl'⟩ := rl.isl
  refine hr F1 H1 l vs' ds xs es ds' z _ s.fh hl rl' r1 q3 fun ws v rw' rz => ?_
  exact kq ds' z F1 _ v s.ff (WO.mono s.ff w4) (E1.mut q el (.lst rw')) rz
theorem ds_mut {i : Nat} {r : V → List V → Hp → VK → Prop} {fm : List Dn.D → List Dn.D → Option (List Dn.D × Dn.D)} {tas : TA} {as : ML} (hr : RMD K r fm) (ha : DAF K L mg W tas as) : DS K L mg W (tDrop (tBM K "list" r (tVar i) tas)) (sMut i fm as) := fun F0 H0 F H σ ρ D E w =>
  tm_core hr ha F0 H0 F H σ ρ D _ _ E w fun ds' z F1 H1 v e w1 E1 rz => w1 F1 H1 σ (Ex.refl _) E1
theorem ds_mutA {i j : Nat} {r : V → List V → Hp → VK → Prop} {fm : List Dn.D → List Dn.D → Option (List Dn.D × Dn.D)} {tas : TA} {as : ML} (hr : RMD K r fm) (ha : DAF K L mg W tas as) : DS K L mg W (tAsg (tBM K "list" r (tVar i) tas) (gName j)) (sMutA j i fm as) := fun F0 H0 F H σ ρ D E w =>
  tm_core hr ha F0 H0 F H σ ρ D _ _ E w fun ds' z F1 H1 v e w1 E1 rz => w1 F1 H1 _ (Ex.refl _) (E1.setv rz j)
theorem bm0_eq {r : V → List V → Hp → VK → Prop} {T : String} : tBM0 K T r te = tBM K T r te tNil := rfl
theorem ds_mut0 {i : Nat} {r : V → List V → Hp → VK → Prop} {fm : List Dn.D → List Dn.D → Option (List Dn.D × Dn.D)} (hr : RMD K r fm) : DS K L mg W (tDrop (tBM0 K "list" r (tVar i))) (sMut i fm aNil) := ds_mut hr daf_nil
theorem ds_mutA0 {i j : Nat} {r : V → List V → Hp → VK → Prop} {fm : List Dn.D → List Dn.D → Option (List Dn.D × Dn.D)} (hr : RMD K r fm) : DS K L mg W (tAsg (tBM0 K "list" r (tVar i)) (gName j)) (sMutA j i fm aNil) := ds_mutA hr daf_nil

/-! ### loops -/
theorem ds_for {wi : TI} {f : ML} (hi : DI K L mg W wi f) (hg : DG K L gg tg is) (hb : DS K L mg W t g) : DS K L mg W (tFor wi gg t) (sFor f tg g) := fun F0 H0 F H σ ρ D E w => by
  refine hi F0 H0 F H σ ρ _ E (post_mono (WO.of E w) (fun ds w1 F1 H1 J s src => ?_) fun _ z => z)
  obtain ⟨G, Y, wk, hG, hY⟩ := src
  refine for_it wk (fun i σ H => ∃ F ρ, Ex F1 F ∧ Env K L F0 H0 F H σ ρ ∧ WO K mg W L F0 H0 F D (loopFor (forB tg g) (ds.drop i) ρ)) ⟨F1, ρ, Ex.refl _, E.step s, by rw [List.drop_zero]; exact WO.mono s.ff w1⟩
    (fun i σ H _ ⟨F, ρ, e, E, _⟩ => hG F H e E.st.fh) ?_ ?_
  · rintro i x σ2 H2 H3 hlt ⟨F2, ρ2, e2, E2, w2⟩ y
    obtain ⟨F3, d, s3, hd, r3⟩ := hY i F2 H2 x H3 hlt e2 E2.st.fh y
    have ed : ds.drop i = d :: ds.drop (i + 1) := by
      obtain ⟨h1, h2⟩ := List.getElem?_eq_some_iff.mp hd
      rw [List.drop_eq_getElem_cons h1, h2]
    rw [ed] at w2
    have w3 := WO.mono s3.ff w2
    unfold loopFor forB at w3
    cases q : tg d ρ2 with
    | none => rw [q] at w3; exact w3.elim
    | some ρ3 =>
      rw [q] at w3
      refine hg F0 H0 F3 H3 σ2 ρ2 x d _ ρ3 (E2.step s3) r3 q fun σ3 E3 _ => ?_
      refine hb F0 H0 F3 H3 σ3 ρ3 _ E3 ?_
      have w4 : WO K mg W L F0 H0 F3 D (match g ρ3 with
        | .nx ρ' => loopFor (forB tg g) (ds.drop (i + 1)) ρ'
        | .cont ρ' => loopFor (forB tg g) (ds.drop (i + 1)) ρ'
        | .brk ρ' => .nx ρ'
        | o => o) := w3
      cases qq : g ρ3 with
      | nx ρ4 => rw [qq] at w4; exact fun F4 H4 σ4 e4 E4 => ⟨F4, ρ4, e2.trans (s3.ff.trans e4), E4, WO.mono e4 w4⟩
      | cont ρ4 => rw [qq] at w4; exact fun F4 H4 σ4 e4 E4 => ⟨F4, ρ4, e2.trans (s3.ff.trans e4), E4, WO.mono e4 w4⟩
      | brk ρ4 => rw [qq] at w4; exact w4
      | ret d ρ => rw [qq] at w4; exact w4
      | retL ds ρ => rw [qq] at w4; exact w4
      | exc n ρ => rw [qq] at w4; exact w4
      | stuck => rw [qq] at w4; exact w4
  · rintro σ2 H2 ⟨F2, ρ2, e2, E2, w2⟩
    rw [List.drop_length] at w2
    exact w2 F2 H2 σ2 (Ex.refl _) E2
theorem ds_while (hc : DT K L mg W tt tf) (hb : DS K L mg W t g) : DS K L mg W (tWhile tt t) (sWhile tf g) := fun F0 H0 F H σ ρ D E w => by
  refine ⟨fun m σ H => ∃ F ρ, Env K L F0 H0 F H σ ρ ∧ WO K mg W L F0 H0 F D (loopWhile tf g m ρ), ⟨fuel, F, ρ, E, w⟩, ?_⟩
  rintro m σ2 H2 ⟨F2, ρ2, E2, w2⟩
  cases m with
  | zero => exact w2.elim
  | succ m =>
    have w3 : WO K mg W L F0 H0 F2 D (Out.of (tf ρ2) ρ2 fun b => if b = true then (match g ρ2 with
      | .nx ρ' => loopWhile tf g m ρ'
      | .cont ρ' => loopWhile tf g m ρ'
      | .brk ρ' => .nx ρ'
      | o => o) else .nx ρ2) := w2
    refine hc F0 H0 F2 H2 σ2 ρ2 _ E2 (post_mono (WO.of E2 w3) (fun b w4 F3 H3 s3 => ?_) fun _ z => z)
    cases b with
    | false => exact iteF ((WO.mono s3.ff w4) F3 H3 σ2 (Ex.refl _) (E2.step s3))
    | true =>
      refine iteT ⟨fun σ' H' => ∃ m', m' < m + 1 ∧ ∃ F ρ, Env K L F0 H0 F H' σ' ρ ∧ WO K mg W L F0 H0 F D (loopWhile tf g m' ρ), fun _ _ z => z, ?_⟩
      refine hb F0 H0 F3 H3 σ2 ρ2 _ (E2.step s3) ?_
      have w5 := WO.mono s3.ff w4
      rw [if_pos rfl] at w5
      cases qq : g ρ2 with
      | nx ρ4 => rw [qq] at w5; exact fun F4 H4 σ4 e4 E4 => ⟨m, Nat.lt_succ_self _, F4, ρ4, E4, WO.mono e4 w5⟩
      | cont ρ4 => rw [qq] at w5; exact fun F4 H4 σ4 e4 E4 => ⟨m, Nat.lt_succ_self _, F4, ρ4, E4, WO.mono e4 w5⟩
      | brk ρ4 => rw [qq] at w5; exact w5
      | ret d ρ => rw [qq] at w5; exact w5
      | retL ds ρ => rw [qq] at w5; exact w5
      | exc n ρ => rw [qq] at w5; exact w5
      | stuck => rw [qq] at w5; exact w5

/-! ### comprehensions -/
theorem wipeF_len (ρ : Fr) : ∀ vs : List Nat, (wipeF ρ vs).length = ρ.length
  | [] => rfl
  | v :: vs => by unfold wipeF; rw [List.length_set, wipeF_len ρ vs]
theorem Env.setn (E : Env K L F0 H0 F H σ ρ) (i : Nat) : Env K L F0 H0 F H (σ.set i none) (ρ.set i .none) := E.setx (s := .none) rfl trivial i
theorem Env.wipe (E : Env K L F0 H0 F H σ ρ) : ∀ vs : List Nat, Env K L F0 H0 F H (L2.wipe σ vs) (wipeF ρ vs)
  | [] => E
  | v :: vs => (E.wipe vs).setn v
theorem post_noX {α : Type} {m : M α} {kx : α → Prop} {ke : Str → Prop} (h : ∃ z, noX m = .ok z ∧ kx z) : post m kx ke := by
  obtain ⟨z, q, k⟩ := h
  cases m with
  | ok a => cases q; exact k
  | exc n => cases q
  | stuck => cases q
/-- a step beside a new object that is not frozen -/
theorem Step.beside {p : Addr} {o : HO} (ho : NTup o) (hp : H p = none) (hF : F p = none) (s : Step F (upd H p o) F' H') : Step F H F' (del H' p) ∧ F' p = none ∧ H' p = some o := by
  have h1 : F' p = none := s.nw p o hF upd_same ho
  have h2 : H' p = some o := s.hh p o upd_same
  refine ⟨⟨s.ff, fun a u q => ?_, fun a u f h h3 => ?_, fun a u q => ?_⟩, h1, h2⟩
  · have ne : a ≠ p := ne_of_none q hp
    rw [del_ne ne]
    exact s.hh a u (by rw [upd_ne ne]; exact q)
  · have ne : a ≠ p := ne_of_none h hp
    exact s.nw a u f (by rw [upd_ne ne]; exact h) h3
  · have ne : a ≠ p := ne_of_none q h1
    rw [del_ne ne]
    exact s.fh a u q
theorem dl_lc {wi : TI} {f : ML} {vs : List Nat} (hi : DIB K L mg W wi f) (hg : DG K L gg tg is) (hv : ∀ i ∈ is, i ∈ vs) (ht : DT K L mg (fun _ _ _ _ => False) tt tf) (he : DF K L mg (fun _ _ _ _ => False) te e) :
    DL K L mg W (tLc wi gg tt te vs) (eLc f tg tf e vs) := fun F0 H0 F H σ ρ Q E p => by
  refine hi F0 H0 F H σ ρ _ E (post_mono (post_bind p) (fun ds k F1 H1 J s src => ?_) fun _ z => z)
  obtain ⟨G, Y, wk, hG, hY⟩ := src
  intro Z hZ
  have E1 := E.step s
  refine lc_it wk (fun i Hc => ∃ F2 H2 acc accd, Step F1 H1 F2 H2 ∧ F2 Z = none ∧ H2 Z = none ∧ Hc = upd H2 Z (.lst acc) ∧ RepL K F2 acc accd ∧ post (loopLc tg tf e vs ρ (ds.drop i) accd) (fun ds => WN K F H ds Q) (WE' mg W F H σ))
    ⟨F1, H1, [], [], Step.refl s.fh, s.fh.free hZ, hZ, rfl, .nil, by rw [List.drop_zero]; exact k⟩ ?_ ?_ ?_
  · rintro i Hc _ ⟨F2, H2, acc, accd, s2, f2, l2, rfl, r2, k2⟩
    exact hG F2 _ s2.ff (s2.hh.trans (Ex.new l2)) (s2.fh.trans (Ex.new l2))
  · rintro i x Hc Hy hlt ⟨F2, H2, acc, accd, s2, f2, l2, rfl, r2, k2⟩ y
    obtain ⟨F3, d, s3, hd, r3⟩ := hY i F2 _ x Hy hlt s2.ff (s2.hh.trans (Ex.new l2)) (s2.fh.trans (Ex.new l2)) y
    have ed : ds.drop i = d :: ds.drop (i + 1) := by
      obtain ⟨h1, h2⟩ := List.getElem?_eq_some_iff.mp hd
      rw [List.drop_eq_getElem_cons h1, h2]
    rw [ed] at k2
    unfold loopLc at k2
    cases q : tg d (wipeF ρ vs) with
    | none => rw [q] at k2; exact k2.elim
    | some ρ' =>
      rw [q] at k2
      have E2 : Env K L F0 H0 F2 (upd H2 Z (.lst acc)) σ ρ := (E1.step s2).step (Step.new0 s2.fh l2)
      have E3 := (E2.step s3).wipe vs
      refine hg F0 H0 F3 Hy _ _ x d _ ρ' E3 r3 q fun σ' E4 wz => ⟨(wz vs hv).trans wipe_wipe, ?_⟩
      refine ht F0 H0 F3 Hy σ' ρ' _ E4 (post_noX ?_)
      have k2 : post ((noX (tf ρ')).bind fun b => if b = true then (noX (e ρ')).bind fun y => if accd.length < sizeLine then loopLc tg tf e vs ρ (ds.drop (i + 1)) (accd ++ [y]) else .stuck else loopLc tg tf e vs ρ (ds.drop (i + 1)) accd) (fun ds => WN K F H ds Q) (WE' mg W F H σ) := k2
      cases qt : noX (tf ρ') with
      | exc n =>
        exfalso
        cases z : tf ρ' with
        | ok a => rw [z] at qt; cases qt
        | exc n => rw [z] at qt; cases qt
        | stuck => rw [z] at qt; cases qt
      | stuck => rw [qt] at k2; exact k2.elim
      | ok b =>
        rw [qt, M.bind_ok] at k2
        refine ⟨b, rfl, fun F4 H4 s4 => ?_⟩
        have s24 := s3.trans s4
        cases b with
        | false =>
          rw [if_neg Bool.false_ne_true] at k2
          refine iteF ?_
          obtain ⟨sb, fb, hb⟩ := Step.beside (o := .lst _) (fun _ z => nomatch z) l2 f2 s24
          exact ⟨F4, del H4 Z, acc, accd, s2.trans sb, fb, del_same, (del_upd hb).symm, r2.mono s24.ff, k2⟩
        | true =>
          rw [if_pos rfl] at k2
          refine iteT ?_
          refine he F0 H0 F4 H4 σ' ρ' _ (E4.step s4) (post_noX ?_)
          cases qe : noX (e ρ') with
          | exc n =>
            exfalso
            cases z : e ρ' with
            | ok a => rw [z] at qe; cases qe
            | exc n => rw [z] at qe; cases qe
            | stuck => rw [z] at qe; cases qe
          | stuck => rw [qe] at k2; exact k2.elim
          | ok yd =>
            rw [qe, M.bind_ok] at k2
            refine ⟨yd, rfl, fun F5 H5 v s5 r5 => ?_⟩
            have s25 := s24.trans s5
            obtain ⟨sb, fb, hb⟩ := Step.beside (o := .lst _) (fun _ z => nomatch z) l2 f2 s25
            have ra := r2.mono s25.ff
            split at k2
            · rename_i hz
              refine ⟨acc, hb, by rw [ra.length]; exact hz, ?_⟩
              refine ⟨F5, del H5 Z, acc ++ [v], accd ++ [yd], s2.trans sb, fb, del_same, ?_, ra.append (.cons r5 .nil), k2⟩
              funext b
              by_cases qb : b = Z
              · subst qb; rw [upd_same, upd_same]
              · rw [upd_ne qb, upd_ne qb, del_ne qb]
            · exact k2.elim
  · rintro Hc ⟨F2, H2, acc, accd, s2, f2, l2, rfl, r2, k2⟩
    rw [List.drop_length] at k2
    exact k2 F2 H2 Z acc (s.trans s2) l2 r2
theorem dt_yes : DT K L mg W tYes tYesF := fun F0 H0 F H σ ρ Q E p => p F H (Step.refl E.st.fh)

/-! ### calls -/
/-- a def that reckons f -/
def spD (K : PySem.W.Frag) (mg : Str → Option Value) (f : List Dn.D → M Dn.D) : Sp := fun vs H Q E => ∃ F ds, Ex F H ∧ RepL K F vs ds ∧
  post (f ds) (fun d => WF K F H d Q) (fun n => ∀ F' H', Step F H F' H' → ∀ C, mg n = some (.ref C) → E (.ref C) none H')
theorem df_call {f : List Dn.D → M Dn.D} {tas : TA} {as : ML} (ha : DAF K L mg W tas as) : DF K L mg W (tCallS (spD K mg f) (WE W) tas) (eCall f as) := fun F0 H0 F H σ ρ Q E p => by
  refine ha F0 H0 F H σ ρ _ E (post_mono (post_bind p) (fun ds k F1 H1 xs s1 r1 => ?_) fun _ z => z)
  refine ⟨F1, ds, s1.fh, r1, post_mono k (fun d k2 => WF.on s1 k2) fun n z F' H' s' C hC => z F' H' (s1.trans s') C hC⟩
/-! .. with arguments as they are, and an answer that holds no list and no dict -/
mutual
def scalD : Dn.D → Bool
  | .none => true
  | .bool _ => true
  | .int _ => true
  | .str _ => true
  | .tuple ds => scalDs ds
  | .list _ => false
  | .dict _ => false
def scalDs : List Dn.D → Bool
  | [] => true
  | d :: ds => scalD d && scalDs ds
end
def eCallS (f : List Dn.D → M Dn.D) (as : ML) : ME := fun ρ => (as ρ).bind fun ds => (f ds).bind fun d => if scalD d = true then .ok d else .stuck
theorem rd_kind {F F' : Hp} {a : Addr} {xs : List V} (h : Rd F a (.tup xs)) (k : ∀ o, F a = some o → (∀ ys, o ≠ .lst ys) → (∀ ys, o ≠ .dK ys) → (∀ ys, o ≠ .dT ys) → F' a = some o) : Rd F' a (.tup xs) := by
  rcases h with h | ⟨o, h⟩
  · exact .inl (k _ h (fun _ => by intro z; cases z) (fun _ => by intro z; cases z) (fun _ => by intro z; cases z))
  · exact .inr ⟨o, k _ h (fun _ => by intro z; cases z) (fun _ => by intro z; cases z) (fun _ => by intro z; cases z)⟩
mutual
theorem Rep.scal {F F' : Hp} (k : ∀ a o, F a = some o → (∀ ys, o ≠ .lst ys) → (∀ ys, o ≠ .dK ys) → (∀ ys, o ≠ .dT ys) → F' a = some o) : ∀ {v : V} {d : Dn.D}, scalD d = true → Rep K F v d → Rep K F' v d
  | _, _, _, .non => .non
  | _, _, _, .bl b => .bl b
  | _, _, _, .int i => .int i
  | _, _, _, .str x => .str x
  | _, _, h, .lst _ _ => by simp [scalD] at h
  | _, _, h, .tup s r => .tup (k _ _ s (fun _ z => nomatch z) (fun _ z => nomatch z) (fun _ z => nomatch z)) (RepL.scal k (by simpa [scalD] using h) r)
  | _, _, h, .scr _ _ _ => by simp [scalD] at h
  | _, _, h, .dK _ _ _ => by simp [scalD] at h
  | _, _, h, .dT _ _ _ => by simp [scalD] at h
  | _, _, h, .dKf _ _ _ => by simp [scalD] at h
  | _, _, h, .dTf _ _ _ => by simp [scalD] at h
  | _, _, h, .exc _ _ _ => by simp [scalD] at h
  | _, _, h, .ktp _ _ _ _ _ => by simp [scalD] at h
  | _, _, h, .fnc _ _ => by simp [scalD] at h
theorem RepL.scal {F F' : Hp} (k : ∀ a o, F a = some o → (∀ ys, o ≠ .lst ys) → (∀ ys, o ≠ .dK ys) → (∀ ys, o ≠ .dT ys) → F' a = some o) : ∀ {vs : List V} {ds : List Dn.D}, scalDs ds = true → RepL K F vs ds → RepL K F' vs ds
  | _, _, _, .nil => .nil
  | _, _, h, .cons r t => by
    simp [scalDs] at h
    exact .cons (Rep.scal k h.1 r) (RepL.scal k h.2 t)
end
/-- a heap's lists and dicts are as if frozen -/
def boxes (F H : Hp) : Hp := fun a => match F a with
  | some o => some o
  | none => match H a with
    | some (.lst xs) => some (.lst xs)
    | some (.dK xs) => some (.dK xs)
    | some (.dT xs) => some (.dT xs)
    | _ => none
theorem boxes_ff {F H : Hp} : Ex F (boxes F H) := fun a o h => by
  unfold boxes
  rw [h]
theorem boxes_fh {F H : Hp} (ex : Ex F H) : Ex (boxes F H) H := fun a o h => by
  unfold boxes at h
  split at h
  · rename_i q
    cases h
    exact ex _ _ q
  · split at h
    · rename_i q; cases h; exact q
    · rename_i q; cases h; exact q
    · rename_i q; cases h; exact q
    · cases h
theorem boxes_at {F H : Hp} (ex : Ex F H) {a : Addr} {o : HO} (h : H a = some o) (k : (∃ ys, o = .lst ys) ∨ (∃ ys, o = .dK ys) ∨ ∃ ys, o = .dT ys) : boxes F H a = some o := by
  unfold boxes
  cases q : F a with
  | some u =>
    have := ex _ _ q
    rw [h] at this
    exact this.symm
  | none =>
    rw [h]
    rcases k with ⟨_, rfl⟩ | ⟨_, rfl⟩ | ⟨_, rfl⟩ <;> rfl
theorem RepB.box {v : V} {d : Dn.D} (ex : Ex F H) (h : RepB K F H v d) : Rep K (boxes F H) v d := by
  cases h with
  | frz r => exact r.mono boxes_ff
  | thg q r =>
    cases r with
    | lst r => exact .lst (boxes_at ex q (.inl ⟨_, rfl⟩)) (r.mono boxes_ff)
    | dK r => exact .dK (boxes_at ex q (.inr (.inl ⟨_, rfl⟩))) (r.mono boxes_ff) rfl
    | dT r => exact .dT (boxes_at ex q (.inr (.inr ⟨_, rfl⟩))) (r.mono boxes_ff) rfl
theorem RepBL.box (ex : Ex F H) : ∀ {vs : List V} {ds : List Dn.D}, RepBL K F H vs ds → RepL K (boxes F H) vs ds
  | _, _, .nil => .nil
  | _, _, .cons r t => .cons (r.box ex) (RepBL.box ex t)
/-- what is left of the callee's frozen heap -/
def keepN (F H F' : Hp) : Hp := fun a => match F a with
  | some o => some o
  | none => match H a with
    | some (.tup _) => F' a
    | some _ => none
    | none => F' a
theorem df_callS {f : List Dn.D → M Dn.D} {tas : TA} {as : ML} (ha : DA K L mg W tas as) : DF K L mg W (tCallS (spD K mg f) (WE W) tas) (eCallS f as) := fun F0 H0 F H σ ρ Q E p => by
  refine ha F0 H0 F H σ ρ _ E (post_mono (post_bind p) (fun ds k F1 H1 xs s1 r1 => ?_) fun _ z => z)
  have st : ∀ F' H', Step (boxes F1 H1) H1 F' H' → Step F H F1 H' := fun F' H' s' => s1.trans ⟨Ex.refl _, s'.hh, fun _ _ h _ _ => h, s1.fh.trans s'.hh⟩
  refine ⟨boxes F1 H1, ds, boxes_fh s1.fh, r1.box s1.fh, post_mono (post_bind k) (fun d k2 F' H' v s' rv => ?_) fun n z F' H' s' C hC => z F1 H' (st F' H' s') C hC⟩
  split at k2
  · rename_i hd
    have ex2 : Ex F1 (keepN F1 H1 F') := fun a o h => by unfold keepN; rw [h]
    have s2 : Step F1 H1 (keepN F1 H1 F') H' := by
      refine ⟨ex2, s'.hh, fun a u h1 h2 h3 => ?_, fun a o h => ?_⟩
      · unfold keepN
        rw [h1, h2]
        cases u with
        | tup xs => exact absurd rfl (h3 xs)
        | _ => rfl
      · unfold keepN at h
        split at h
        · rename_i q
          cases h
          exact s'.hh _ _ (s1.fh _ _ q)
        · split at h
          · exact s'.fh _ _ h
          · cases h
          · exact s'.fh _ _ h
    refine k2 _ H' v (s1.trans s2) (rv.scal (fun a o h n1 n2 n3 => ?_) hd)
    unfold keepN
    cases q : F1 a with
    | some u =>
      have := s'.ff _ _ (boxes_ff (H := H1) _ _ q)
      rw [h] at this
      exact this.symm
    | none =>
      cases q1 : H1 a with
      | none => exact h
      | some u =>
        by_cases ht : ∃ ys, u = .tup ys
        · obtain ⟨ys, rfl⟩ := ht
          exact h
        exfalso
        by_cases hk : (∃ ys, u = .lst ys) ∨ (∃ ys, u = .dK ys) ∨ ∃ ys, u = .dT ys
        · have z := s'.ff _ _ (boxes_at s1.fh q1 hk)
          rw [h] at z
          cases z
          rcases hk with ⟨ys, e⟩ | ⟨ys, e⟩ | ⟨ys, e⟩
          · exact n1 ys e
          · exact n2 ys e
          · exact n3 ys e
        · have bn : boxes F1 H1 a = none := by
            unfold boxes
            rw [q, q1]
            cases u with
            | lst ys => exact (hk (.inl ⟨_, rfl⟩)).elim
            | dK ys => exact (hk (.inr (.inl ⟨_, rfl⟩))).elim
            | dT ys => exact (hk (.inr (.inr ⟨_, rfl⟩))).elim
            | _ => rfl
          have z := s'.nw a u bn q1 (fun xs e => ht ⟨xs, e⟩)
          rw [h] at z
          cases z
  · exact k2.elim
end

/-- a call that gives a new list -/
def spL (K : PySem.W.Frag) (mg : Str → Option Value) (f : List Dn.D → M (List Dn.D)) : Sp := fun vs H Q E => ∃ F ds, Ex F H ∧ RepL K F vs ds ∧
  post (f ds) (fun d => WN K F H d Q) (fun n => ∀ F' H', Step F H F' H' → ∀ C, mg n = some (.ref C) → E (.ref C) none H')
def eCallL (f : List Dn.D → M (List Dn.D)) (as : ML) : ML := fun ρ => (as ρ).bind f
section
variable {K : PySem.W.Frag} {L : Addr × Addr} {mg : Str → Option Value} {W : WX}
theorem dl_call {f : List Dn.D → M (List Dn.D)} {tas : TA} {as : ML} (ha : DAF K L mg W tas as) : DL K L mg W (tCallS (spL K mg f) (WE W) tas) (eCallL f as) := fun F0 H0 F H σ ρ Q E p => by
  refine ha F0 H0 F H σ ρ _ E (post_mono (post_bind p) (fun ds k F1 H1 xs s1 r1 => ?_) fun _ z => z)
  refine ⟨F1, ds, s1.fh, r1, post_mono k (fun d k2 => WN.on s1 k2) fun n z F' H' s' C hC => z F' H' (s1.trans s') C hC⟩
end
/-! ### a def by its body -/
theorem env_start {K : PySem.W.Frag} {L : Addr × Addr} {F H : Hp} {N : List Str} {vs : List V} {ds : List D} (ex : Ex F H) (r : RepL K F vs ds) : Env K L F H F H (L2.start N vs) (start' N.length ds) where
  st := Step.refl ex
  len := by unfold L2.start start'; simp [r.length]
  sl := fun i s h => by
    unfold start' at h
    unfold L2.start
    rw [List.getElem?_append] at h ⊢
    simp only [List.length_map] at h ⊢
    rw [r.length]
    split at h
    · rename_i hl
      rw [if_pos hl]
      rw [List.getElem?_map] at h ⊢
      cases q : ds[i]? with
      | none => rw [q] at h; cases h
      | some d =>
        rw [q] at h
        cases h
        obtain ⟨v, e, rv⟩ := r.get' q
        rw [e]
        exact ⟨v, rfl, rv⟩
    · rw [List.getElem?_replicate] at h
      split at h
      · cases h; trivial
      · cases h
  sep := fun i j l h1 => by
    exfalso
    unfold start' isOwn at h1
    rw [List.getElem?_append] at h1
    split at h1
    · rw [List.getElem?_map] at h1
      cases q : ds[i]? with
      | none => rw [q] at h1; cases h1
      | some d => rw [q] at h1; cases h1
    · rw [List.getElem?_replicate] at h1
      split at h1 <;> cases h1
theorem body_ok {K : PySem.W.Frag} {mg : Str → Option Value} {t : TS} {g : MS} {N : List Str} {np : Nat} {vs : List V} {H : Hp} {Q : VK} {E : XK} (h : ∀ L, DS K L mg (fun cls d _ H => E cls d H) t g) (hs : spD K mg (mFn np N.length g) vs H Q E) :
    t { nx := fun _ H' => Q .non H', rt := Q } (L2.start N vs) H := by
  obtain ⟨F, ds, ex, r, p⟩ := hs
  refine h (0, 0) F H F H _ _ _ (env_start (N := N) ex r) ?_
  unfold mFn at p
  split at p
  · cases q : g (start' N.length ds) with
    | nx ρ => rw [q] at p; exact fun F' H' σ' e E' => p F' H' .non E'.st .non
    | ret d ρ => rw [q] at p; exact fun F' H' σ' v e E' rv => p F' H' v E'.st rv
    | retL ds ρ => rw [q] at p; exact fun F' H1 σ' l vs e E' n rv => p _ _ _ (E'.st.trans (Step.new E'.st.fh n)) (.lst upd_same (rv.mono (Ex.new (E'.st.fh.free n))))
    | exc n ρ => rw [q] at p; exact fun F' H' σ' e E' C hC => p F' H' E'.st C hC
    | brk ρ => rw [q] at p; exact p.elim
    | cont ρ => rw [q] at p; exact p.elim
    | stuck => rw [q] at p; exact p.elim
  · exact p.elim
/-- .. that gives a new list -/
def Out.l : Out → M (List D)
  | .retL ds _ => .ok ds
  | .exc n _ => .exc n
  | _ => .stuck
def mFnL (np N : Nat) (g : MS) (ds : List D) : M (List D) := if ds.length = np then (g (start' N ds)).l else .stuck
theorem body_okL {K : PySem.W.Frag} {mg : Str → Option Value} {t : TS} {g : MS} {N : List Str} {np : Nat} {vs : List V} {H : Hp} {Q : VK} {E : XK} (h : ∀ L, DS K L mg (fun cls d _ H => E cls d H) t g) (hs : spL K mg (mFnL np N.length g) vs H Q E) :
    t { nx := fun _ H' => Q .non H', rt := Q } (L2.start N vs) H := by
  obtain ⟨F, ds, ex, r, p⟩ := hs
  refine h (0, 0) F H F H _ _ _ (env_start (N := N) ex r) ?_
  unfold mFnL at p
  split at p
  · cases q : g (start' N.length ds) with
    | nx ρ => rw [q] at p; exact p.elim
    | ret d ρ => rw [q] at p; exact p.elim
    | retL ds ρ => rw [q] at p; exact fun F' H1 σ' l vs e E' n rv => p F' H1 l vs E'.st n rv
    | exc n ρ => rw [q] at p; exact fun F' H' σ' e E' C hC => p F' H' E'.st C hC
    | brk ρ => rw [q] at p; exact p.elim
    | cont ρ => rw [q] at p; exact p.elim
    | stuck => rw [q] at p; exact p.elim
  · exact p.elim
end Dn

set_option Elab.async false
set_option linter.all false
set_option maxRecDepth 100000
set_option maxHeartbeats 4000000
/-! DenG: enumerate over a tuple; what is walked -/
namespace PySem
set_option maxHeartbeats 2000000 in
theorem dn_enum_new1 {v : Value} {o : Obj} {H : Heap → Prop} (B : Begins v o H) :
    Meets (Builtin.«enumerate.__new__» ⟨[.type "enumerate", v], []⟩) (fun _ R s => H s.heap ∧
      R (.ok (.ret (.ref (s.heap.push o).objs.size))) { s with heap := (s.heap.push o).push { cls := .type "enumerate", data := .fields #[.none, .bool false, .ref s.heap.objs.size, rawInt 0, .none, .none] } }) :=
  .of_wp fun prog w A R s h => by
    obtain ⟨hp, g, d, tk, os⟩ := s; obtain ⟨h1, h⟩ := h
    have hsub := sub_enumerate
    have q1 : ∀ {A' : Around} {E : Value → Shared → Prop} {Q : Value → Shared → Prop}, Q (.ref hp.objs.size) ⟨hp.push o, g, d, tk, os⟩ → wpAny (model prog w) A' (pyIter v) Q E ⟨hp, g, d, tk, os⟩ :=
      fun q => B.iter prog w _ _ ⟨hp, g, d, tk, os⟩ _ h1 q
    wp_walk using q1
    refine wpAny_stack_any fun st => wpAny_pure ?_
    split
    · rename_i c _ _ _ _ _
      cases (c == Value.type "enumerate")
      · wp_walk using q1
        exact ⟨_, rfl, h⟩
      · wp_walk using q1
        exact ⟨_, rfl, h⟩
    · wp_walk using q1
      exact ⟨_, rfl, h⟩
section
variable {prog : Program} {w : World} {A : Around} {E : Value → Shared → Prop} {s : Shared}
theorem dn_enum_begins {v : Value} {o : Obj} {H : Heap → Prop} {Q : Value → Shared → Prop} (B : Begins v o H) (h1 : H s.heap)
    (h : ∀ h', IsEnum h' (s.heap.objs.size + 1) s.heap.objs.size 0 .none → h'.get? s.heap.objs.size = some o → h'.objs.size = s.heap.objs.size + 2 →
      (∀ b o, s.heap.get? b = some o → h'.get? b = some o) → Q (.ref (s.heap.objs.size + 1)) { s with heap := h' }) :
    wpAny (model prog w) A (call (.type "enumerate") [v]) Q E s := by
  refine callType_new F.called_enumerate (by decide) (F.typeCall_enumerate_1 _) (F.newCall_enumerate_1 _) (fun obj => F.args_object_init_2 obj _) F.entry_enumerate_new
    (dn_enum_new1 B) ⟨h1, ?_⟩
  have hz : (s.heap.push o).objs.size = s.heap.objs.size + 1 := Heap.size_push ..
  show _ ∧ _
  rw [hz]
  have he : IsEnum ((s.heap.push o).push { cls := .type "enumerate", data := .fields #[.none, .bool false, .ref s.heap.objs.size, rawInt 0, .none, .none] }) (s.heap.objs.size + 1) s.heap.objs.size 0 .none := by
    have := Heap.get?_push_size (s.heap.push o) (o := { cls := .type "enumerate", data := .fields #[.none, .bool false, .ref s.heap.objs.size, rawInt 0, .none, .none] }) rfl
    rw [hz] at this; exact this
  refine ⟨⟨_, he, rfl⟩, h _ he (Heap.get?_push_of_some _ (Heap.get?_push_size _ B.free)) (by rw [Heap.size_push, hz]) fun b o x => Heap.get?_push_of_some _ (Heap.get?_push_of_some _ x)⟩
end
end PySem
namespace Dn
open PySem PySem.Spec PyProof.Rows L2
/-- the tuple at a as it stands at each turn, each item in a new pair -/
def IteT (K : PySem.W.Frag) (a : Addr) : It :=
  ⟨fun i H => ∃ (xs : List V) (x : V), SqT K H a xs ∧ xs[i]? = some x, fun i H v H' => ∃ T x, v = .ref T ∧ H T = none ∧ H' = upd H T (.tup [.int (i : Nat), x]) ∧ ∀ xs, SqT K H a xs → xs[i]? = some x, fun i H => ∃ xs : List V, SqT K H a xs ∧ xs.length = i⟩
theorem turn_enumT {P : Program} {w : World} {K : PySem.W.Frag} {elts : List Expr} {kk : Nat} {tpos : Pos} (a e it : Addr) :
    Turn P w K (.Tuple elts kk tpos) (IteT K a) [e, it] e (fun i h => (∃ old, IsEnum h e it ((i : Nat) : Int) old) ∧ h.IsTupleIter it a i ∧ e ≠ it) where
  mem := by simp
  obj := fun i h st b hb => by
    obtain ⟨⟨old, he⟩, ⟨o, ho, hc, hd⟩, _⟩ := st
    have e' : b = e ∨ b = it := by simpa using hb
    rcases e' with z | z
    · rw [z]; exact ⟨_, he, fun v q => nomatch q⟩
    · rw [z]; exact ⟨o, ho, fun v q => by rw [hd] at q; cases q⟩
  keep := fun i h h' st k => let ⟨⟨old, he⟩, hi, hne⟩ := st; ⟨⟨old, k e (by simp) _ he⟩, hi.at fun o q => k it (by simp) o q, hne⟩
  item := by
    intro X hP hw hK hc i pins s σ H E I hf st hg
    subst hP hw hK
    obtain ⟨⟨old, he⟩, hit, hne⟩ := st
    obtain ⟨xs, x, hq, hx⟩ := hg
    obtain ⟨its, rv, p, hz⟩ := I.tuple hq
    obtain ⟨u, hu, ru⟩ := rv.get hx
    have hel : e < s.heap.objs.size := Heap.lt_size he
    have hil : it < s.heap.objs.size := by obtain ⟨_, q, _⟩ := hit; exact Heap.lt_size q
    have hae : a ≠ e := fun z => by
      obtain ⟨o, ho, hc, _⟩ := p
      rw [z] at ho
      rw [show s.heap.get? e = some _ from he] at ho
      cases ho
      injection hc with z2
      exact absurd z2 (by decide)
    have hai : a ≠ it := fun z => by
      obtain ⟨o, ho, hc, _⟩ := p
      obtain ⟨o2, ho2, hc2, _⟩ := hit
      rw [z, ho2] at ho
      cases ho
      rw [hc2] at hc
      injection hc with z2
      exact absurd z2 (by decide)
    have Dr := Draws.tuple (prog := X.prog) (w := X.w) (A := X.A.in1) (I.ok.hd hc) it a hai its.toArray
    have hlt : i < its.toArray.size := by
      rw [List.size_toArray]
      exact (List.getElem?_eq_some_iff.mp hu).1
    refine wpAny_pyNext_enum_itemC (c := ((i : Nat) : Int)) (i := i) Dr he ⟨hit, p⟩ hlt hne (by simp; exact ⟨hne, fun z => hae z.symm⟩) fun y h' tk hy ho st' hT hsz hk => ?_
    have hyu : y = u := by
      have hu' : its.toArray[i]? = some u := by simpa using hu
      rw [hu'] at hy
      exact (Option.some.inj hy).symm
    subst hyu
    refine ⟨_, rfl, wpAny_letOwnedTupleGo_enum (s := { s with heap := h', toks := tk + 1 }) ho fun h'' he' sb => ?_⟩
    have hT2 : h''.get? s.heap.objs.size = some { cls := .type "tuple", data := .seq #[.int i tk, y] } := (sb.2 _ (Nat.ne_of_gt hel)).trans hT
    have new : ObjOk X.prog X.w (upd H s.heap.objs.size (.tup [.int (i : Nat), x])) h'' s.heap.objs.size (.tup [.int (i : Nat), x]) :=
      ⟨by show 2 ≤ sizeLine; decide, [.int i tk, y], .cons ⟨_, rfl⟩ (.cons ru .nil), ⟨_, hT2, rfl, _, rfl⟩⟩
    have I1 : Inv X pins σ (upd H s.heap.objs.size (.tup [.int (i : Nat), x])) { s with heap := h'', toks := tk + 1 } :=
      I.turnedNew (ch := [e, it]) (fun b ob hb q => (sb.2 b (fun z => hb (by simp [z]))).trans (hk b ob (fun z => hb (by simp [z])) (fun z => hb (by simp [z])) q)) hf (Nat.le_refl _) new
    refine ⟨.ref s.heap.objs.size, _, I1, rfl, ⟨_, x, rfl, I.hok.fresh (Nat.le_refl _), rfl, fun ys hy => by rw [I.tuple_inj hy hq]; exact hx⟩, ⟨⟨y, ?_⟩, st'.1.at fun o q => (sb.2 it (Ne.symm hne)).trans q, hne⟩, fun b hb => ?_⟩
    · have e1 : ((i + 1 : Nat) : Int) = (i : Int) + 1 := by omega
      rw [e1]; exact he'
    · have hb' : b < s.heap.objs.size := by
        have e' : b = e ∨ b = it := by simpa using hb
        rcases e' with z | z
        · rw [z]; exact hel
        · rw [z]; exact hil
      rw [upd_ne (Nat.ne_of_lt hb')]
      exact (hf b hb).1
  done := by
    intro X hP hw hK hc i pins s σ H E I hf st hg
    subst hP hw hK
    obtain ⟨⟨old, he⟩, hit, hne⟩ := st
    obtain ⟨xs, hq, hx⟩ := hg
    obtain ⟨its, rv, p, hz⟩ := I.tuple hq
    obtain ⟨f0, f1, f2, f3, f4, f5⟩ := hf it (by simp)
    have hl := rv.length
    have hae : a ≠ e := fun z => by
      obtain ⟨o, ho, hc, _⟩ := p
      rw [z] at ho
      rw [show s.heap.get? e = some _ from he] at ho
      cases ho
      injection hc with z2
      exact absurd z2 (by decide)
    have hai : a ≠ it := fun z => by
      obtain ⟨o, ho, hc, _⟩ := p
      obtain ⟨o2, ho2, hc2, _⟩ := hit
      rw [z, ho2] at ho
      cases ho
      rw [hc2] at hc
      injection hc with z2
      exact absurd z2 (by decide)
    have Dr := Draws.tuple (prog := X.prog) (w := X.w) (A := X.A.in1) (I.ok.hd hc) it a hai its.toArray
    have ei : i = its.toArray.size := by rw [List.size_toArray]; omega
    subst ei
    exact wpAny_pyNext_enum_endD Dr he ⟨hit, p⟩ fun h' eb => ⟨rfl, I.turned (t' := s.toks) (fun b o hb q => eb b o hb q) f0 f1 f3 f4 f5⟩
  self := fun A i s Q E st h => let ⟨⟨_, he⟩, _⟩ := st; wpAny_pyIter_enum he h
/-- enumerate(x), x a list or a tuple -/
def iEnumU (K : PySem.W.Frag) (ta : TA) : TI := fun σ H R => ta σ H fun vs H1 => ∃ a xs, vs = [.ref a] ∧ ((SqL K H1 a xs ∧ R (Ite K a) H1) ∨ (SqT K H1 a xs ∧ R (IteT K a) H1))
theorem pi_enumU {X : Cx} {e : Expr} {ta : TA} {p pos tpos : Pos} {elts : List Expr} {kk : Nat} (hg : Gl X "enumerate") (hm : X.mg "enumerate" = none) (ha : PA X [e] ta) (hs : starEach [e] X.env = [(false, eval e X.env)] := by rfl) :
    PI X (.Tuple elts kk tpos) (.Call (.Name "enumerate" p) [e] [] pos) (iEnumU X.K ta) := by
  refine ⟨fun pins s σ H R I h => ?_⟩
  refine Call_ (ld_blt I hg hm boot_enumerate (PyProof.Rows.callWith_type1 (thn (ha.run pos pins s σ H _ I h) fun us s1 ⟨vs, H1, I1, r1, q1⟩ => ?_) hs rfl))
  obtain ⟨a, xs, ex, q⟩ := q1
  subst ex
  cases r1 with
  | cons r rr =>
    cases rr
    cases r
    have fin : ∀ (b : Addr), (b = s1.heap.objs.size + 1 ∨ b = s1.heap.objs.size) → FpOk X pins H1 b := fun b e' => by
      have hle : s1.heap.objs.size ≤ b := by
        rcases e' with z | z
        · rw [z]; exact Nat.le_add_right _ _
        · rw [z]; exact Nat.le_refl _
      exact I1.fpOk hle (I1.hok.fresh hle)
    rcases q with ⟨hq, q⟩ | ⟨hq, q⟩
    · obtain ⟨its, rv, p', hz⟩ := I1.list hq
      refine call_enumerate_list p'.isList fun h' he hit hsz hk => wpAny_pyIter_enum he ?_
      have I2 : Inv X pins σ H1 { s1 with heap := h' } := I1.kept (t' := s1.toks) hk
      exact ⟨s1.heap.objs.size + 1, [s1.heap.objs.size + 1, s1.heap.objs.size], _, _, H1, rfl, I2, turn_enum a (s1.heap.objs.size + 1) s1.heap.objs.size, ⟨⟨.none, he⟩, hit, Nat.succ_ne_self _⟩, fun b hb => fin b (by simpa using hb), q⟩
    · obtain ⟨its, rv, p', hz⟩ := I1.tuple hq
      refine dn_enum_begins (begins_tuple a its.toArray) p' fun h' he hit hsz hk => wpAny_pyIter_enum he ?_
      have I2 : Inv X pins σ H1 { s1 with heap := h' } := I1.kept (t' := s1.toks) hk
      exact ⟨s1.heap.objs.size + 1, [s1.heap.objs.size + 1, s1.heap.objs.size], _, _, H1, rfl, I2, turn_enumT a (s1.heap.objs.size + 1) s1.heap.objs.size, ⟨⟨.none, he⟩, ⟨_, hit, rfl, rfl⟩, Nat.succ_ne_self _⟩, fun b hb => fin b (by simpa using hb), q⟩
/-- x a list or a tuple -/
def iSq (K : PySem.W.Frag) (tl : TE) : TI := fun σ H R => tl σ H fun x H1 => ∃ a xs, x = .ref a ∧ ((SqL K H1 a xs ∧ R (Itl K a) H1) ∨ (SqT K H1 a xs ∧ R (Itt K a) H1))
theorem pi_sq {X : Cx} {tg : Expr} {l : Expr} {tl : TE} (hl : PE X l tl) : PI X tg l (iSq X.K tl) := by
  refine ⟨fun pins s σ H R I h => ?_⟩
  refine thn (hl.run pins s σ H _ I h) fun v s1 ⟨x, H1, I1, r1, q1⟩ => ?_
  obtain ⟨a, xs, e, q⟩ := q1
  subst e
  cases r1
  rcases q with ⟨hq, q⟩ | ⟨hq, q⟩
  · obtain ⟨its, rv, p, hz⟩ := I1.list hq
    refine wpAny_pyIter_list p.isList ?_
    refine ⟨s1.heap.objs.size, [s1.heap.objs.size], _, _, H1, rfl, I1.kept (t' := s1.toks) fun b o e => Heap.get?_push_of_some _ e, turn_list a _, ⟨_, Heap.get?_push_size _ rfl, rfl, rfl⟩, fun b hb => ?_, q⟩
    have e : b = s1.heap.objs.size := by simpa using hb
    subst e
    exact I1.fpOk (Nat.le_refl _) (I1.hok.fresh (Nat.le_refl _))
  · obtain ⟨its, rv, p, hz⟩ := I1.tuple hq
    refine wpAny_pyIter_tuple (show s1.heap.IsTuple a its.toArray from p) ?_
    refine ⟨s1.heap.objs.size, [s1.heap.objs.size], _, _, H1, rfl, I1.kept (t' := s1.toks) fun b o e => Heap.get?_push_of_some _ e, turn_tuple a _, ⟨_, Heap.get?_push_size _ rfl, rfl, rfl⟩, fun b hb => ?_, q⟩
    have e : b = s1.heap.objs.size := by simpa using hb
    subst e
    exact I1.fpOk (Nat.le_refl _) (I1.hok.fresh (Nat.le_refl _))
theorem walk_enumT {K : PySem.W.Frag} {a : Addr} {xs : List V} : Walk (IteT K a) xs.length (fun H => SqT K H a xs) (YPair (fun i => some (.int (i : Nat))) (fun i => xs[i]?)) where
  goes := fun i H hi g => ⟨xs, xs[i], g, by simp [hi]⟩
  stops := fun H g => ⟨xs, g, rfl⟩
  yields := fun i H v H' hi g y => by
    obtain ⟨T, x, e, n, eh, q⟩ := y
    exact ⟨T, _, x, e, n, eh, rfl, q xs g⟩

/-! ### the walks over data -/
def itemsD (d : D) : M (List D) := lift (seq? d)
def iE (e : ME) : ML := fun ρ => (e ρ).bind itemsD
def enumL (ds : List D) : List D := ds.mapIdx fun i d => .tuple [.int i, d]
def iEn (as : ML) : ML := fun ρ => (as ρ).bind fun xs => match xs with
  | [d] => (itemsD d).bind fun ds => .ok (enumL ds)
  | _ => .stuck
def rngL (lo hi : Int) : List D := (List.range (hi - lo).toNat).map fun i => .int (lo + (i : Nat))
open Classical in
noncomputable def iR1 (as : ML) : ML := fun ρ => (as ρ).bind fun xs => match xs with
  | [.int j] => if In62 j then .ok (rngL 0 j) else .stuck
  | _ => .stuck
open Classical in
noncomputable def iR2 (as : ML) : ML := fun ρ => (as ρ).bind fun xs => match xs with
  | [.int i, .int j] => if In62 i ∧ In62 j then .ok (rngL i j) else .stuck
  | _ => .stuck
/-- range(i, j, -1) -/
def rngDn (i j : Int) : List D := (List.range (i - j).toNat).map fun k => .int (i - (k : Nat))
open Classical in
noncomputable def iR3 (as : ML) : ML := fun ρ => (as ρ).bind fun xs => match xs with
  | [.int i, .int j, .int c] => if c = -1 ∧ In62 i ∧ In62 j then .ok (rngDn i j) else .stuck
  | _ => .stuck
def iRev' (e : ME) : ML := fun ρ => (e ρ).bind fun d => (itemsD d).bind fun ds => .ok ds.reverse
def iS (e : ME) : ML := fun ρ => (e ρ).bind fun d => match d with
  | .str z => .ok (z.cps.toList.map fun c => .str ⟨#[c]⟩)
  | _ => .stuck
section
variable {K : PySem.W.Frag} {L : Addr × Addr} {mg : Str → Option Value} {W : WX} {te : TE} {e : ME} {ta : TA} {as : ML} {F H F' H' : Hp} {J : It} {ds : List D} {a : Addr} {vs : List V}
theorem Src.b (h : Src K J F ds) : SrcB K J F H ds := by
  obtain ⟨G, Y, w, g, y⟩ := h
  exact ⟨G, Y, w, fun F1 H1 e1 _ e3 => g F1 H1 e1 e3, fun i F1 H1 x H2 hi e1 _ e3 => y i F1 H1 x H2 hi e1 e3⟩
theorem di_b {wi : TI} {f : ML} (h : DI K L mg W wi f) : DIB K L mg W wi f := fun F0 H0 F H σ ρ R E p =>
  h F0 H0 F H σ ρ R E (post_mono p (fun ds k F' H' J s q => k F' H' J s q.b) fun _ z => z)
theorem src_tup (h : SqT K F a vs) (r : RepL K F vs ds) : Src K (Itt K a) F ds :=
  ⟨_, _, r.length ▸ walk_tup (xs := vs), fun F1 H1 e1 e2 => ex_t (e1.trans e2) h, fun i F1 H1 x H2 hi e1 e2 y => by
    obtain ⟨rfl, q⟩ := y
    obtain ⟨d, hd, rd⟩ := r.get q
    exact ⟨F1, d, Step.refl e2, hd, rd.mono e1⟩⟩
theorem src_lst (h : SqL K F a vs) (r : RepL K F vs ds) : Src K (Itl K a) F ds :=
  ⟨_, _, r.length ▸ walk_list (xs := vs), fun F1 H1 e1 e2 => ex_l (e1.trans e2) h, fun i F1 H1 x H2 hi e1 e2 y => by
    obtain ⟨rfl, q⟩ := y
    obtain ⟨d, hd, rd⟩ := r.get q
    exact ⟨F1, d, Step.refl e2, hd, rd.mono e1⟩⟩
theorem srcB_lst (h : H a = some (.lst vs)) (r : RepL K F vs ds) : SrcB K (Itl K a) F H ds :=
  ⟨_, _, r.length ▸ walk_list (xs := vs), fun F1 H1 e1 e2 e3 => .of (e2 _ _ h), fun i F1 H1 x H2 hi e1 e2 e3 y => by
    obtain ⟨rfl, q⟩ := y
    obtain ⟨d, hd, rd⟩ := r.get q
    exact ⟨F1, d, Step.refl e3, hd, rd.mono e1⟩⟩
theorem enum_get {i : Nat} {d : D} (h : ds[i]? = some d) : (enumL ds)[i]? = some (.tuple [.int i, d]) := by
  unfold enumL
  rw [List.getElem?_mapIdx, h]
  rfl
theorem enum_y {F1 H1 H2 : Hp} {x : V} {i : Nat} (r : RepL K F vs ds) (e1 : Ex F F1) (e2 : Ex F1 H1) (y : YPair (fun i => some (.int (i : Nat))) (fun i => vs[i]?) i H1 x H2) : ∃ F' d, Step F1 H1 F' H2 ∧ (enumL ds)[i]? = some d ∧ Rep K F' x d := by
  obtain ⟨T, x1, y1, rfl, hn, rfl, h1, h2⟩ := y
  cases h1
  obtain ⟨d, hd, rd⟩ := r.get h2
  refine ⟨_, _, Step.new e2 hn, enum_get hd, .tup upd_same ?_⟩
  exact .cons (.int _) (.cons ((rd.mono e1).mono (Ex.new (e2.free hn))) .nil)
theorem enum_len : (enumL ds).length = ds.length := by unfold enumL; simp
theorem src_enumT (h : SqT K F a vs) (r : RepL K F vs ds) : Src K (IteT K a) F (enumL ds) :=
  ⟨_, _, (enum_len.trans r.length.symm) ▸ walk_enumT (xs := vs), fun F1 H1 e1 e2 => ex_t (e1.trans e2) h, fun i F1 H1 x H2 hi e1 e2 y => enum_y r e1 e2 y⟩
theorem src_enumL (h : SqL K F a vs) (r : RepL K F vs ds) : Src K (Ite K a) F (enumL ds) :=
  ⟨_, _, (enum_len.trans r.length.symm) ▸ walk_enum (xs := vs), fun F1 H1 e1 e2 => ex_l (e1.trans e2) h, fun i F1 H1 x H2 hi e1 e2 y => enum_y r e1 e2 y⟩
theorem srcB_enumL (h : H a = some (.lst vs)) (r : RepL K F vs ds) : SrcB K (Ite K a) F H (enumL ds) :=
  ⟨_, _, (enum_len.trans r.length.symm) ▸ walk_enum (xs := vs), fun F1 H1 e1 e2 e3 => .of (e2 _ _ h), fun i F1 H1 x H2 hi e1 e2 e3 y => enum_y r e1 e3 y⟩
theorem di_sq (he : DF K L mg W te e) : DI K L mg W (iSq K te) (iE e) := fun F0 H0 F H σ ρ R E p => by
  refine he F0 H0 F H σ ρ _ E (post_mono (post_bind p) (fun d k F1 H1 x s1 r1 => ?_) fun _ z => z)
  obtain ⟨ds, q, k⟩ := post_lift k
  unfold seq? at q
  split at q
  · cases q
    cases r1 with
    | lst h r => exact ⟨_, _, rfl, .inl ⟨.of (s1.fh _ _ h), k F1 H1 _ s1 (src_lst (.of h) r)⟩⟩
  · cases q
    cases r1 with
    | tup h r => exact ⟨_, _, rfl, .inr ⟨ex_t s1.fh (.inl (.inl h)), k F1 H1 _ s1 (src_tup (.inl (.inl h)) r)⟩⟩
  · cases q
    obtain ⟨l, vs, rfl, h, r⟩ := r1.iscr
    exact ⟨_, _, rfl, .inl ⟨ex_l s1.fh h, k F1 H1 _ s1 (src_lst h r)⟩⟩
  · cases q
    obtain ⟨l, vs, o, rfl, h, _, _, r⟩ := r1.iktp
    have h : SqT K F1 l vs := .inl (.inr ⟨o, h⟩)
    exact ⟨_, _, rfl, .inr ⟨ex_t s1.fh h, k F1 H1 _ s1 (src_tup h r)⟩⟩
  · cases q
theorem dib_sq (he : DE K L mg W te e) : DIB K L mg W (iSq K te) (iE e) := fun F0 H0 F H σ ρ R E p => by
  refine he F0 H0 F H σ ρ _ E (post_mono (post_bind p) (fun d k F1 H1 x s1 r1 => ?_) fun _ z => z)
  obtain ⟨ds, q, k⟩ := post_lift k
  unfold seq? at q
  split at q
  · cases q
    obtain ⟨l, vs, rfl, h, r⟩ := r1.isl s1.fh
    exact ⟨_, _, rfl, .inl ⟨.of h, k F1 H1 _ s1 (srcB_lst h r)⟩⟩
  · cases q
    obtain ⟨_, _, _, _, _, r1⟩ := r1.ist s1.fh
    cases r1 with
    | tup h r => exact ⟨_, _, rfl, .inr ⟨ex_t s1.fh (.inl (.inl h)), k F1 H1 _ s1 (src_tup (.inl (.inl h)) r).b⟩⟩
  · cases q
    obtain ⟨l, vs, rfl, h, r⟩ := r1.iscrF.iscr
    exact ⟨_, _, rfl, .inl ⟨ex_l s1.fh h, k F1 H1 _ s1 (src_lst h r).b⟩⟩
  · cases q
    obtain ⟨l, vs, o, rfl, h, _, _, r, _⟩ := r1.iktp
    have h : SqT K F1 l vs := .inl (.inr ⟨o, h⟩)
    exact ⟨_, _, rfl, .inr ⟨ex_t s1.fh h, k F1 H1 _ s1 (src_tup h r).b⟩⟩
  · cases q
theorem RepL.one' {d : D} (r : RepL K F vs [d]) : ∃ x, vs = [x] ∧ Rep K F x d := by
  cases r with
  | cons a b => cases b; exact ⟨_, rfl, a⟩
theorem di_enum (ha : DAF K L mg W ta as) : DI K L mg W (iEnumU K ta) (iEn as) := fun F0 H0 F H σ ρ R E p => by
  refine ha F0 H0 F H σ ρ _ E (post_mono (post_bind p) (fun xs k F1 H1 ys s1 r1 => ?_) fun _ z => z)
  split at k
  · obtain ⟨x, rfl, r2⟩ := r1.one'
    obtain ⟨ds, q, k⟩ := post_lift (post_bind k)
    unfold seq? at q
    split at q
    · cases q
      cases r2 with
      | lst h r => exact ⟨_, _, rfl, .inl ⟨.of (s1.fh _ _ h), k F1 H1 _ s1 (src_enumL (.of h) r)⟩⟩
    · cases q
      cases r2 with
      | tup h r => exact ⟨_, _, rfl, .inr ⟨ex_t s1.fh (.inl (.inl h)), k F1 H1 _ s1 (src_enumT (.inl (.inl h)) r)⟩⟩
    · cases q
      obtain ⟨l, vs, rfl, h, r⟩ := r2.iscr
      exact ⟨_, _, rfl, .inl ⟨ex_l s1.fh h, k F1 H1 _ s1 (src_enumL h r)⟩⟩
    · cases q
      obtain ⟨l, vs, o, rfl, h, _, _, r⟩ := r2.iktp
      have h : SqT K F1 l vs := .inl (.inr ⟨o, h⟩)
      exact ⟨_, _, rfl, .inr ⟨ex_t s1.fh h, k F1 H1 _ s1 (src_enumT h r)⟩⟩
    · cases q
  · exact k.elim
theorem dib_enum (ha : DA K L mg W ta as) : DIB K L mg W (iEnumU K ta) (iEn as) := fun F0 H0 F H σ ρ R E p => by
  refine ha F0 H0 F H σ ρ _ E (post_mono (post_bind p) (fun xs k F1 H1 ys s1 r1 => ?_) fun _ z => z)
  split at k
  · obtain ⟨x, rfl, r2⟩ := r1.one
    obtain ⟨ds, q, k⟩ := post_lift (post_bind k)
    unfold seq? at q
    split at q
    · cases q
      obtain ⟨l, vs, rfl, h, r⟩ := r2.isl s1.fh
      exact ⟨_, _, rfl, .inl ⟨.of h, k F1 H1 _ s1 (srcB_enumL h r)⟩⟩
    · cases q
      obtain ⟨_, _, _, _, _, r2⟩ := r2.ist s1.fh
      cases r2 with
      | tup h r => exact ⟨_, _, rfl, .inr ⟨ex_t s1.fh (.inl (.inl h)), k F1 H1 _ s1 (src_enumT (.inl (.inl h)) r).b⟩⟩
    · cases q
      obtain ⟨l, vs, rfl, h, r⟩ := r2.iscrF.iscr
      exact ⟨_, _, rfl, .inl ⟨ex_l s1.fh h, k F1 H1 _ s1 (src_enumL h r).b⟩⟩
    · cases q
      obtain ⟨l, vs, o, rfl, h, _, _, r, _⟩ := r2.iktp
      have h : SqT K F1 l vs := .inl (.inr ⟨o, h⟩)
      exact ⟨_, _, rfl, .inr ⟨ex_t s1.fh h, k F1 H1 _ s1 (src_enumT h r).b⟩⟩
    · cases q
  · exact k.elim
theorem rng_len {lo hi : Int} : (rngL lo hi).length = (hi - lo).toNat := by unfold rngL; simp
theorem src_rng {lo hi : Int} : Src K (Itr lo (hi - lo).toNat) F (rngL lo hi) := by
  have wk : Walk (Itr lo (hi - lo).toNat) (rngL lo hi).length (fun _ => True) (YFn fun i => .int (lo + i)) := by rw [rng_len]; exact walk_range
  refine ⟨_, _, wk, fun _ _ _ _ => trivial, fun i F1 H1 x H2 hi e1 e2 y => ?_⟩
  obtain ⟨rfl, rfl⟩ := y
  refine ⟨F1, .int (lo + i), Step.refl e2, ?_, .int _⟩
  rw [rng_len] at hi
  unfold rngL
  rw [List.getElem?_map, List.getElem?_range hi]
  rfl
theorem di_rng1 (ha : DA K L mg W ta as) : DI K L mg W (iRng1 ta) (iR1 as) := fun F0 H0 F H σ ρ R E p => by
  refine ha F0 H0 F H σ ρ _ E (post_mono (post_bind p) (fun xs k F1 H1 ys s1 rr => ?_) fun _ z => z)
  split at k
  · split at k
    · rename_i j c
      obtain ⟨x, rfl, r1⟩ := rr.one
      obtain rfl := r1.isi
      have q := src_rng (K := K) (F := F1) (lo := 0) (hi := j)
      rw [Int.sub_zero] at q
      exact ⟨_, rfl, c.1, c.2, k F1 H1 _ s1 q⟩
    · exact k.elim
  · exact k.elim
theorem di_rng2 (ha : DA K L mg W ta as) : DI K L mg W (iRng2 ta) (iR2 as) := fun F0 H0 F H σ ρ R E p => by
  refine ha F0 H0 F H σ ρ _ E (post_mono (post_bind p) (fun xs k F1 H1 ys s1 rr => ?_) fun _ z => z)
  split at k
  · split at k
    · rename_i i j c
      obtain ⟨x, y, rfl, r1, r2⟩ := rr.two
      obtain rfl := r1.isi
      obtain rfl := r2.isi
      exact ⟨_, _, rfl, ⟨c.1.1, c.1.2, c.2.1, c.2.2⟩, k F1 H1 _ s1 src_rng⟩
    · exact k.elim
  · exact k.elim
theorem src_rngDn {i j : Int} : Src K (Itc i (-1) (i - j).toNat) F (rngDn i j) := by
  have hl : (rngDn i j).length = (i - j).toNat := by unfold rngDn; simp
  have wk : Walk (Itc i (-1) (i - j).toNat) (rngDn i j).length (fun _ => True) (YFn fun k => .int (i + (k : Nat) * -1)) := by rw [hl]; exact walk_rangeC
  refine ⟨_, _, wk, fun _ _ _ _ => trivial, fun k F1 H1 x H2 hi e1 e2 y => ?_⟩
  obtain ⟨rfl, rfl⟩ := y
  refine ⟨F1, .int (i - k), Step.refl e2, ?_, ?_⟩
  · rw [hl] at hi
    unfold rngDn
    rw [List.getElem?_map, List.getElem?_range hi]
    rfl
  · have e : i + (k : Int) * -1 = i - k := by omega
    show Rep K F1 (V.int (i + (k : Int) * -1)) (.int (i - k))
    rw [e]
    exact .int _
theorem di_rng3 (ha : DA K L mg W ta as) : DI K L mg W (iRng3 ta) (iR3 as) := fun F0 H0 F H σ ρ R E p => by
  refine ha F0 H0 F H σ ρ _ E (post_mono (post_bind p) (fun xs k F1 H1 ys s1 rr => ?_) fun _ z => z)
  split at k
  · split at k
    · rename_i i j c hc
      cases rr with
      | cons r1 rr =>
        obtain ⟨y, z, rfl, r2, r3⟩ := rr.two
        obtain rfl := r1.isi
        obtain rfl := r2.isi
        obtain rfl := r3.isi
        obtain ⟨rfl, hb⟩ := hc
        exact ⟨i, j, -1, (i - j).toNat, rfl, RgC.neg hb.1.1 hb.1.2 hb.2.1 hb.2.2, k F1 H1 _ s1 src_rngDn⟩
    · exact k.elim
  · exact k.elim
/-- reversed(x) -/
theorem src_rev (h : SqL K F a vs) (r : RepL K F vs ds) : Src K (Itv K a vs.length) F ds.reverse := by
  have wk : Walk (Itv K a vs.length) ds.reverse.length (fun H => SqL K H a vs) (fun i H x H' => H' = H ∧ vs[vs.length - 1 - i]? = some x) := by rw [List.length_reverse, ← r.length]; exact walk_rev
  refine ⟨_, _, wk, fun F1 H1 e1 e2 => ex_l (e1.trans e2) h, fun i F1 H1 x H2 hi e1 e2 y => ?_⟩
  obtain ⟨rfl, q⟩ := y
  obtain ⟨d, hd, rd⟩ := r.get q
  rw [List.length_reverse] at hi
  refine ⟨F1, d, Step.refl e2, ?_, rd.mono e1⟩
  rw [List.getElem?_reverse hi, ← r.length]
  exact hd
theorem walk_revT {xs : List V} : Walk (RT.ItvT K a xs.length) xs.length (fun H => SqT K H a xs) (fun i H x H' => H' = H ∧ xs[xs.length - 1 - i]? = some x) where
  goes := fun i H hi g => ⟨hi, xs, xs[xs.length - 1 - i]'(by omega), g, by simp [show xs.length - 1 - i < xs.length by omega]⟩
  stops := fun H g => Nat.le_refl _
  yields := fun i H v H' hi g y => by
    obtain ⟨e, q⟩ := y
    exact ⟨e, q xs g⟩
theorem src_revT (h : SqT K F a vs) (r : RepL K F vs ds) : Src K (RT.ItvT K a vs.length) F ds.reverse := by
  have wk : Walk (RT.ItvT K a vs.length) ds.reverse.length (fun H => SqT K H a vs) (fun i H x H' => H' = H ∧ vs[vs.length - 1 - i]? = some x) := by rw [List.length_reverse, ← r.length]; exact walk_revT
  refine ⟨_, _, wk, fun F1 H1 e1 e2 => ex_t (e1.trans e2) h, fun i F1 H1 x H2 hi e1 e2 y => ?_⟩
  obtain ⟨rfl, q⟩ := y
  obtain ⟨d, hd, rd⟩ := r.get q
  rw [List.length_reverse] at hi
  refine ⟨F1, d, Step.refl e2, ?_, rd.mono e1⟩
  rw [List.getElem?_reverse hi, ← r.length]
  exact hd
theorem di_rev (he : DF K L mg W te e) : DI K L mg W (RT.iRevA K te) (iRev' e) := fun F0 H0 F H σ ρ R E p => by
  refine he F0 H0 F H σ ρ _ E (post_mono (post_bind p) (fun d k F1 H1 x s1 r1 => ?_) fun _ z => z)
  obtain ⟨ds, q, k⟩ := post_lift (post_bind k)
  unfold seq? at q
  split at q
  · cases q
    cases r1 with
    | lst h r => exact ⟨_, _, rfl, .inl ⟨.of (s1.fh _ _ h), k F1 H1 _ s1 (src_rev (.of h) r)⟩⟩
  · cases q
    cases r1 with
    | tup h r => exact ⟨_, _, rfl, .inr ⟨ex_t s1.fh (.inl (.inl h)), k F1 H1 _ s1 (src_revT (.inl (.inl h)) r)⟩⟩
  · cases q
    obtain ⟨l, vs, rfl, h, r⟩ := r1.iscr
    exact ⟨_, _, rfl, .inl ⟨ex_l s1.fh h, k F1 H1 _ s1 (src_rev h r)⟩⟩
  · cases q
    obtain ⟨l, vs, o, rfl, h, _, _, r⟩ := r1.iktp
    have h : SqT K F1 l vs := .inl (.inr ⟨o, h⟩)
    exact ⟨_, _, rfl, .inr ⟨ex_t s1.fh h, k F1 H1 _ s1 (src_revT h r)⟩⟩
  · cases q
/-- a text, sign by sign -/
theorem src_str {z : Str} : Src K (Its z) F (z.cps.toList.map fun c => .str ⟨#[c]⟩) := by
  have wk : Walk (Its z) (z.cps.toList.map fun c => (.str ⟨#[c]⟩ : D)).length (fun _ => True) (fun i H v H' => H' = H ∧ ∃ c, z.cps[i]? = some c ∧ v = .str ⟨#[c]⟩) := by rw [List.length_map, Array.length_toList]; exact walk_str
  refine ⟨_, _, wk, fun _ _ _ _ => trivial, fun i F1 H1 x H2 hi e1 e2 y => ?_⟩
  obtain ⟨rfl, c, q, rfl⟩ := y
  refine ⟨F1, .str ⟨#[c]⟩, Step.refl e2, ?_, .str _⟩
  rw [List.getElem?_map, Array.getElem?_toList, q]
  rfl
theorem di_str (he : DE K L mg W te e) : DI K L mg W (iStr te) (iS e) := fun F0 H0 F H σ ρ R E p => by
  refine he F0 H0 F H σ ρ _ E (post_mono (post_bind p) (fun d k F1 H1 x s1 r1 => ?_) fun _ z => z)
  split at k
  · obtain rfl := r1.iss
    exact ⟨_, rfl, k F1 H1 _ s1 src_str⟩
  · exact k.elim

/-! ### list(range(..)), tuple(range(..)) -/
open Classical in
noncomputable def rgLD (i j : Int) : M (List D) := if RgOk i j then .ok (rngL i j) else .stuck
theorem rgV_eq {i j : Int} : RepL K F (rgV i j) (rngL i j) := by
  have e : rngL i j = ((List.range (j - i).toNat).map fun k => i + (k : Nat)).map PyData.int := by unfold rngL; rw [List.map_map]; rfl
  have e2 : rgV i j = ((List.range (j - i).toNat).map fun k => i + (k : Nat)).map V.int := by unfold rgV; rw [List.map_map]; rfl
  rw [e, e2]
  exact repL_ints _
noncomputable def eRg1 (a : ME) : ML := fun ρ => (a ρ).bind fun x => (toI x).bind fun j => rgLD 0 j
noncomputable def eRg2 (a b : ME) : ML := fun ρ => (a ρ).bind fun x => (b ρ).bind fun y => (toI x).bind fun i => (toI y).bind fun j => rgLD i j
theorem rgLD_post {i j : Int} {kx : List D → Prop} {ke : Str → Prop} (h : post (rgLD i j) kx ke) : RgOk i j ∧ kx (rngL i j) := by
  unfold rgLD at h
  split at h
  · exact ⟨by assumption, h⟩
  · exact h.elim
variable {tb : TE} {b : ME}
theorem dl_rg1 (ha : DE K L mg W te e) : DL K L mg W (tLstRg (tRg1 te)) (eRg1 e) := fun F0 H0 F H σ ρ Q E p => by
  refine ha F0 H0 F H σ ρ _ E (post_mono (post_bind p) (fun d k F1 H1 x s1 r1 => ?_) fun _ z => z)
  obtain ⟨j, rfl, k⟩ := toI_post (post_bind k)
  obtain ⟨h1, k⟩ := rgLD_post k
  exact ⟨j, r1.isi, h1, fun q hq => k F1 H1 q _ s1 hq rgV_eq⟩
theorem dl_rg2 (ha : DE K L mg W te e) (hb : DE K L mg W tb b) : DL K L mg W (tLstRg (tRg2 te tb)) (eRg2 e b) := fun F0 H0 F H σ ρ Q E p => by
  refine ha F0 H0 F H σ ρ _ E (post_mono (post_bind p) (fun d k F1 H1 x s1 r1 => ?_) fun _ z => z)
  refine hb F0 H0 F1 H1 σ ρ _ (E.step s1) (post_mono (post_bind k) (fun d2 k2 F2 H2 y s2 r2 => ?_) fun n z => WE'.on s1 z)
  obtain ⟨i, rfl, k3⟩ := toI_post (post_bind k2)
  obtain ⟨j, rfl, k4⟩ := toI_post (post_bind k3)
  obtain ⟨h1, k5⟩ := rgLD_post k4
  exact ⟨i, j, r1.isi, r2.isi, h1, fun q hq => k5 F2 H2 q _ (s1.trans s2) hq rgV_eq⟩
def eTL (f : ML) : ME := fun ρ => (f ρ).bind fun ds => .ok (.tuple ds)
theorem df_trg1 (ha : DE K L mg W te e) : DF K L mg W (tTupRg (tRg1 te)) (eTL (eRg1 e)) := fun F0 H0 F H σ ρ Q E p => by
  refine ha F0 H0 F H σ ρ _ E (post_mono (post_bind (post_bind p)) (fun d k F1 H1 x s1 r1 => ?_) fun _ z => z)
  obtain ⟨j, rfl, k⟩ := toI_post (post_bind k)
  obtain ⟨h1, k⟩ := rgLD_post k
  refine ⟨j, r1.isi, h1, fun q hq => ?_⟩
  exact k _ _ _ (s1.trans (Step.new s1.fh hq)) (.tup upd_same rgV_eq)
theorem df_trg2 (ha : DE K L mg W te e) (hb : DE K L mg W tb b) : DF K L mg W (tTupRg (tRg2 te tb)) (eTL (eRg2 e b)) := fun F0 H0 F H σ ρ Q E p => by
  refine ha F0 H0 F H σ ρ _ E (post_mono (post_bind (post_bind p)) (fun d k F1 H1 x s1 r1 => ?_) fun _ z => z)
  refine hb F0 H0 F1 H1 σ ρ _ (E.step s1) (post_mono (post_bind k) (fun d2 k2 F2 H2 y s2 r2 => ?_) fun n z => WE'.on s1 z)
  obtain ⟨i, rfl, k3⟩ := toI_post (post_bind k2)
  obtain ⟨j, rfl, k4⟩ := toI_post (post_bind k3)
  obtain ⟨h1, k5⟩ := rgLD_post k4
  refine ⟨i, j, r1.isi, r2.isi, h1, fun q hq => ?_⟩
  exact k5 _ _ _ ((s1.trans s2).trans (Step.new s2.fh hq)) (.tup upd_same rgV_eq)

/-! ### methods that change a list -/
def appM (ds es : List D) : Option (List D × D) := match es with
  | [e] => if ds.length < sizeLine then some (ds ++ [e], .none) else none
  | _ => none
theorem rm_append : RMD K rAppend appM := by
  intro F H l vs ds xs es ds' z Q ex hl r ra h k
  unfold appM at h
  split at h
  · split at h
    · rename_i hz
      cases h
      obtain ⟨x, rfl, rx⟩ := ra.one'
      exact ⟨l, vs, x, rfl, rfl, hl, by rw [r.length]; exact hz, k _ _ (r.append (.cons rx .nil)) .non⟩
    · cases h
  · cases h
def extM (ds es : List D) : Option (List D × D) := match es with
  | [.list zs] => if ds.length + zs.length ≤ sizeLine then some (ds ++ zs, .none) else none
  | _ => none
theorem rm_extend : RMD K rExtend extM := by
  intro F H l vs ds xs es ds' z Q ex hl r ra h k
  unfold extM at h
  split at h
  · split at h
    · rename_i hz
      cases h
      obtain ⟨x, rfl, rx⟩ := ra.one'
      cases rx with
      | lst hb rb => exact ⟨l, _, vs, _, rfl, rfl, hl, ex _ _ hb, by rw [r.length, rb.length]; exact hz, k _ _ (r.append rb) .non⟩
    · cases h
  · cases h
def popM (ds es : List D) : Option (List D × D) := match es with
  | [] => (ds[ds.length - 1]?).map fun y => (ds.dropLast, y)
  | _ => none
theorem RepL.dropLast (r : RepL K F vs ds) : RepL K F vs.dropLast ds.dropLast := by
  rw [List.dropLast_eq_take, List.dropLast_eq_take, r.length]
  exact r.take _
theorem rm_pop : RMD K rPop popM := by
  intro F H l vs ds xs es ds' z Q ex hl r ra h k
  unfold popM at h
  split at h
  · cases q : ds[ds.length - 1]? with
    | none => rw [q] at h; cases h
    | some y =>
      rw [q] at h
      cases h
      cases ra
      obtain ⟨v, hv, rv⟩ := r.get' q
      exact ⟨l, vs, v, rfl, rfl, hl, by rw [r.length]; exact hv, k _ _ r.dropLast rv⟩
  · cases h
open Classical in
noncomputable def popAtM (ds es : List D) : Option (List D × D) := match es with
  | [.int i] => if In63 i then (seqIndex? i ds.length).bind fun k => (ds[k]?).map fun y => (ds.eraseIdx k, y) else none
  | _ => none
theorem RepL.erase (h : RepL K F vs ds) (i : Nat) : RepL K F (vs.eraseIdx i) (ds.eraseIdx i) := by
  induction ds generalizing vs i with
  | nil => cases h; exact .nil
  | cons e ds ih =>
    cases h with
    | cons a q =>
      cases i with
      | zero => exact q
      | succ i => exact .cons a (ih q i)
theorem rm_popAt : RMD K rPopAt popAtM := by
  intro F H l vs ds xs es ds' z Q ex hl r ra h k
  unfold popAtM at h
  split at h
  · split at h
    · rename_i hz
      obtain ⟨x, rfl, rx⟩ := ra.one'
      cases rx
      cases q : seqIndex? _ ds.length with
      | none => rw [q] at h; cases h
      | some j =>
        rw [q] at h
        cases q2 : ds[j]? with
        | none => rw [Option.bind_some, q2] at h; cases h
        | some y =>
          rw [Option.bind_some, q2] at h
          cases h
          obtain ⟨v, hv, rv⟩ := r.get' q2
          exact ⟨l, vs, _, j, v, rfl, rfl, hl, hz.1, hz.2, by rw [r.length]; exact q, hv, k _ _ (r.erase j) rv⟩
    · cases h
  · cases h
open Classical in
noncomputable def insM (ds es : List D) : Option (List D × D) := match es with
  | [.int i, y] => if ds.length < sizeLine ∧ 0 ≤ i ∧ In63 i then some (ds.take i.toNat ++ [y] ++ ds.drop i.toNat, .none) else none
  | _ => none
def rInsert : V → List V → Hp → VK → Prop := fun x vs H Q => ∃ (l : Addr) (xs : List V) (i : Int) (y : V), x = .ref l ∧ vs = [.int i, y] ∧ H l = some (.lst xs) ∧ xs.length < sizeLine ∧ 0 ≤ i ∧ i < 2 ^ 63 ∧
    Q .non (upd H l (.lst (xs.take i.toNat ++ [y] ++ xs.drop i.toNat)))
theorem rm_insert : RMD K rInsert insM := by
  intro F H l vs ds xs es ds' z Q ex hl r ra h k
  unfold insM at h
  split at h
  · split at h
    · rename_i hz
      cases h
      cases ra with
      | cons r1 ra =>
        obtain ⟨x, rfl, rx⟩ := ra.one'
        cases r1
        exact ⟨l, vs, _, x, rfl, rfl, hl, by rw [r.length]; exact hz.1, hz.2.1, hz.2.2.2, k _ _ (((r.take _).append (.cons rx .nil)).append (r.drop _)) .non⟩
    · cases h
  · cases h
def revM (ds es : List D) : Option (List D × D) := match es with
  | [] => some (ds.reverse, .none)
  | _ => none
theorem rm_reverse : RMD K rReverse revM := by
  intro F H l vs ds xs es ds' z Q ex hl r ra h k
  unfold revM at h
  split at h
  · cases h
    cases ra
    exact ⟨l, vs, rfl, rfl, hl, k _ _ r.reverse .non⟩
  · cases h
def clrM (ds es : List D) : Option (List D × D) := match es with
  | [] => some ([], .none)
  | _ => none
theorem rm_clear : RMD K rClear clrM := by
  intro F H l vs ds xs es ds' z Q ex hl r ra h k
  unfold clrM at h
  split at h
  · cases h
    cases ra
    exact ⟨l, vs, rfl, rfl, hl, k _ _ .nil .non⟩
  · cases h
end
end Dn

set_option Elab.async false
set_option linter.all false
set_option maxRecDepth 100000
set_option maxHeartbeats 4000000
/-! DenH: defs, classes of errors, the end -/
namespace Dn
open PySem PySem.Spec PyProof.Rows L2

theorem hu65 {A : Around} {k : Nat} (h : Room k A) : A.units + 65 < cLine := by have := h.un; omega
theorem hu64 {A : Around} {k : Nat} (h : Room k A) : A.units + 64 < cLine := by have := h.un; omega
/-- a def of the top -/
def DefAt (K : PySem.W.Frag) (mg : Str → Option Value) (x : Str) (st : Stmt) : Prop := ∃ f fd, mg x = some (.ref f) ∧ Fun K x x st f fd
def FnAt (P : Program) (w : World) (K : PySem.W.Frag) (mg : Str → Option Value) (base : Heap) (x : Str) (ps : List Str) (k : Nat) (f : List D → M D) : Prop :=
  ∃ a fd, mg x = some (.ref a) ∧ PySem.W.keepIn K (.ref a) = true ∧ Binds K fd ps [] ∧ FnOk P w K mg base (L2.CX P w) k a fd ps (spD K mg f)
/-- a class of errors of the top, over ValueError; bs the names above it, from the nearest on -/
structure ExcAt (K : PySem.W.Frag) (mg : Str → Option Value) (x : Str) (C : Addr) (bm : List Value) : Prop where
  g : mg x = some (.ref C)
  e : PySem.W.excIn K C bm "ValueError.__new__" = true
  k : PySem.W.keepIn K (.ref C) = true
  b : PySem.W.subIn K (.ref C) (.type "BaseException") = some true
  t : PySem.W.typeIn K (.ref C) = some (.type "type")
section
variable {P : Program} {w : World} {K : PySem.W.Frag} {mg : Str → Option Value} {base : Heap}
theorem spD_len {np N : Nat} {g : MS} {vs : List V} {H : Hp} {Q : VK} {E : XK} (h : spD K mg (mFn np N g) vs H Q E) : vs.length = np := by
  obtain ⟨F, ds, ex, r, p⟩ := h
  unfold mFn at p
  split at p
  · rw [r.length]; assumption
  · exact p.elim
theorem fn_at {x : Str} {st : Stmt} {N ps : List Str} {k : Nat} {g : MS} (Df : DefAt K mg x st) (S : FnScope N ps (defScope st))
    (hb : ∀ (kV doc pm : Value) (an : Option Addr) (cdv ct : Value) (us : List Value), us.length = ps.length → bindArgs (PySem.W.fnOf x x (defArgs st) (defBody st) (defScope st) .none kV doc pm an cdv ct) ⟨us, []⟩ = pure (ps.zip us))
    (h : ∀ (f : Addr) (cdv : Value) (A : Around) (outer : List PySem.Env) (s : Shared) (H : Hp) (E : XK), Room k (A.deeper (envOfC x (defScope st) s.heap.objs.size f cdv)) →
      ∃ t, PSs (cxOf (L2.CX P w) P w K mg base N x (defScope st) f cdv A outer s H E) (defBody st) t ∧ ∀ L, DS K L mg (fun cls d _ H => E cls d H) t g) :
    FnAt P w K mg base x ps (k + 1) (mFn ps.length N.length g) := by
  obtain ⟨f, fd, hm, F⟩ := Df
  refine ⟨f, fd, hm, F.kp, F.binds hb, ?_⟩
  refine F.okX S (fun vs H Q E h => spD_len h) fun cdv A outer s H vs Q E hr hs => ?_
  obtain ⟨t, h1, h2⟩ := h f cdv A outer s H E hr
  exact ⟨t, h1, body_ok h2 hs⟩
/-- a def that calls itself, so often at most -/
theorem fn_mono {x : Str} {ps : List Str} {j k : Nat} {f : List D → M D} (h : FnAt P w K mg base x ps j f) (e : j ≤ k) : FnAt P w K mg base x ps k f := by
  obtain ⟨a, fd, h1, h2, h3, h4⟩ := h
  exact ⟨a, fd, h1, h2, h3, h4.mono e⟩
/-- the law's promise -/
def scrD (ns : List Int) : D := .dict [(.none, .list (ns.map .int))]
def Scr (ns : List Int) : Prop := ns.length ≤ 63 ∧ ∀ z ∈ ns, Builtin.Int.intBits z ≤ 1048576
def spLaw (K : PySem.W.Frag) : Sp := fun vs H Q _ => ∃ (a : Addr) (ns : List Int), vs = [.ref a] ∧ SqL K H a (ns.map V.int) ∧ Scr ns ∧ ∀ H', Q (.bl true) H'
theorem law_at {st : Stmt} {N : List Str} {k : Nat} {g : MS} (S : FnScope N ["script"] (defScope st)) {f : Addr} {fd : FuncData} (F : Fun K "law" "law" st f fd)
    (h : ∀ (f : Addr) (cdv : Value) (A : Around) (outer : List PySem.Env) (s : Shared) (H : Hp) (E : XK), Room k (A.deeper (envOfC "law" (defScope st) s.heap.objs.size f cdv)) →
      ∃ t, PSs (cxOf CX0 P w K mg base N "law" (defScope st) f cdv A outer s H E).nox (defBody st) t ∧ ∀ L, DS K L mg (fun _ _ _ _ => False) t g)
    (law : ∀ ns, Scr ns → mFn 1 N.length g [scrD ns] = .ok (.bool true)) : FnOk P w K mg base CX0 (k + 1) f fd ["script"] (spLaw K) := by
  refine F.ok S (fun vs H Q E h => ?_) fun cdv A outer s H vs Q E hr hs => ?_
  · obtain ⟨a, ns, rfl, _⟩ := h; rfl
  · obtain ⟨t, h1, h2⟩ := h f cdv A outer s H E hr
    refine ⟨t, h1, ?_⟩
    obtain ⟨a, ns, rfl, hS, hn, kq⟩ := hs
    have e := law ns hn
    refine body_ok (K := K) (mg := mg) (np := 1) (E := fun _ _ _ => False) h2 ⟨H, [scrD ns], Ex.refl _, .cons (.scr hS (repL_ints ns) rfl) .nil, ?_⟩
    rw [e]
    intro F' H' v s r
    cases r
    exact kq H'
end
end Dn

set_option Elab.async false
set_option linter.all false
set_option maxRecDepth 100000
set_option maxHeartbeats 4000000
/-! DenI: defs that change a list handed in -/
namespace Dn
open PySem PySem.Spec PyProof.Rows L2

inductive RepJ (K : PySem.W.Frag) (F : Hp) (l : Addr) (ws : List V) : Nat → List V → List D → Prop
  | here {es : List D} {vs : List V} {ds : List D} : RepL K F ws es → RepL K F vs ds → RepJ K F l ws 0 (.ref l :: vs) (.list es :: ds)
  | next {j : Nat} {v : V} {d : D} {vs : List V} {ds : List D} : Rep K F v d → RepJ K F l ws j vs ds → RepJ K F l ws (j + 1) (v :: vs) (d :: ds)
structure StepM (F H : Hp) (l : Addr) (F' H' : Hp) : Prop where
  ff : Ex F F'
  hh : ∀ a o, a ≠ l → H a = some o → H' a = some o
  nw : ∀ a o, F a = none → H a = some o → NTup o → F' a = none
  fh : Ex F' H'
  fl : F' l = none
def spM (K : PySem.W.Frag) (mg : Str → Option Value) (j : Nat) (f : List D → M (List D × D)) : Sp := fun vs H Q E => ∃ F ds l ws, Ex F H ∧ F l = none ∧ H l = some (.lst ws) ∧ RepJ K F l ws j vs ds ∧
  post (f ds) (fun r => ∀ F' H' ws' v, StepM F H l F' H' → H' l = some (.lst ws') → RepL K F' ws' r.1 → Rep K F' v r.2 → Q v H') (fun _ => False)
section
variable {K : PySem.W.Frag} {mg : Str → Option Value} {W : WX} {L : Addr × Addr} {F0 H0 F H F' H' : Hp} {σ : L2.St} {ρ : Fr} {l : Addr} {ws : List V} {j : Nat} {vs : List V} {ds : List D}
theorem RepJ.mono (e : Ex F F') (h : RepJ K F l ws j vs ds) : RepJ K F' l ws j vs ds := by
  induction h with
  | here r q => exact .here (r.mono e) (q.mono e)
  | next r _ ih => exact .next (r.mono e) ih
theorem RepJ.len (h : RepJ K F l ws j vs ds) : vs.length = ds.length := by
  induction h with
  | here r q => simp [q.length]
  | next r _ ih => simp [ih]
theorem Env.mutM (E : Env K L F0 H0 F H σ ρ) {i : Nat} {es es' : List D} {ws' : List V} (h : ownO ρ[i]? = some (.lst es)) (hl : σ[i]? = some (some (.ref l))) (hH : H l = some (.lst ws)) (s : StepM F H l F' H') (h' : H' l = some (.lst ws')) (r : RepL K F' ws' es') :
    Env K L F0 H0 F' H' σ (putL i es' ρ) := by
  have st : Step F H F' (upd H' l (.lst ws)) := ⟨s.ff, fun a o q => by
    by_cases z : a = l
    · subst z; rw [upd_same, ← hH, q]
    · rw [upd_ne z]; exact s.hh a o z q, s.nw, fun a o q => by rw [upd_ne (ne_of_none q s.fl)]; exact s.fh a o q⟩
  have E2 := (E.step st).mut (u := .lst es') h hl (.lst r)
  rw [upd_upd] at E2
  have e : upd H' l (.lst ws') = H' := by
    funext b
    by_cases z : b = l
    · subst z; rw [upd_same, h']
    · rw [upd_ne z]
  rw [e] at E2
  exact E2
/-- arguments, the one at j the list of one's own in slot i -/
def DAJ (K : PySem.W.Frag) (L : Addr × Addr) (mg : Str → Option Value) (W : WX) (i j : Nat) (t : TA) (f : ML) : Prop := ∀ F0 H0 F H σ ρ es (Q : List V → Hp → Prop), Env K L F0 H0 F H σ ρ → ownO ρ[i]? = some (.lst es) →
  post (f ρ) (fun ds => ∀ F' H' vs l ws, Step F H F' H' → σ[i]? = some (some (.ref l)) → F' l = none → H' l = some (.lst ws) → RepL K F' ws es → RepJ K F' l ws j vs ds → Q vs H') (WE' mg W F H σ) → t σ H Q
theorem daj_here {i : Nat} {tas : TA} {as : ML} (h : DAF K L mg W tas as) : DAJ K L mg W i 0 (tCons (tVar i) tas) (aCons (eVar i) as) := fun F0 H0 F H σ ρ es Q E ho p => by
  obtain ⟨l, hho, e, f, h0, hl, r, _⟩ := E.ownv ho
  obtain ⟨ws, rfl, r'⟩ := r.isl
  refine ⟨_, e, ?_⟩
  have ev : eVar i ρ = .ok (.list es) := by
    unfold eVar
    cases q : ρ[i]? with
    | none => rw [q] at ho; cases ho
    | some s =>
      rw [q] at ho
      cases s with
      | own o => cases ho; rfl
      | pin o => cases ho; rfl
      | none => cases ho
      | val _ => cases ho
      | err _ => cases ho
  unfold aCons at p
  rw [ev, M.bind_ok] at p
  refine h F0 H0 F H σ ρ _ E (post_mono (post_bind p) (fun d k F1 H1 ys s1 r1 => ?_) fun _ z => z)
  exact k F1 H1 _ l ws s1 e (s1.nw l _ f hl (fun _ z => nomatch z)) (s1.hh _ _ hl) (r'.mono s1.ff) (.here (r'.mono s1.ff) r1)
theorem daj_next {i : Nat} {ta : TE} {a : ME} {tas : TA} {as : ML} (ha : DF K L mg W ta a) (h : DAJ K L mg W i j tas as) : DAJ K L mg W i (j + 1) (tCons ta tas) (aCons a as) := fun F0 H0 F H σ ρ es Q E ho p => by
  refine ha F0 H0 F H σ ρ _ E (post_mono (post_bind p) (fun d k F1 H1 x s1 r1 => ?_) fun _ z => z)
  refine h F0 H0 F1 H1 σ ρ es _ (E.step s1) ho (post_mono (post_bind k) (fun e k2 F2 H2 ys l ws s2 el fl hl rl rj => ?_) fun n z => WE'.on s1 z)
  exact k2 F2 H2 _ l ws (s1.trans s2) el fl hl rl (.next (r1.mono s2.ff) rj)
def sCallM (i : Nat) (f : List D → M (List D × D)) (as : ML) (k : D → Fr → Out) : MS := fun ρ => Out.ofO (ownAt i ρ) fun _ => Out.of (as ρ) ρ fun ds => match f ds with
  | .ok r => k r.2 (putL i r.1 ρ)
  | _ => .stuck
theorem callM_core {i : Nat} {f : List D → M (List D × D)} {tas : TA} {as : ML} {k : D → Fr → Out} {Dd : Ends} {Q : VK} (ha : DAJ K L mg W i j tas as) (E : Env K L F0 H0 F H σ ρ) (w : WO K mg W L F0 H0 F Dd (sCallM i f as k ρ))
    (kq : ∀ d F1 H1 v ρ1, Ex F F1 → WO K mg W L F0 H0 F1 Dd (k d ρ1) → Env K L F0 H0 F1 H1 σ ρ1 → Rep K F1 v d → Q v H1) : tCallS (spM K mg j f) (WE W) tas σ H Q := by
  obtain ⟨es, q, w2⟩ := WO.ofO w
  have q := ownAt_eq q
  refine ha F0 H0 F H σ ρ es _ E q (post_mono (WO.of E w2) (fun ds w3 F1 H1 vs l ws s el fl hl rl rj => ?_) fun _ z => z)
  refine ⟨F1, ds, l, ws, s.fh, fl, hl, rj, ?_⟩
  cases qf : f ds with
  | ok r =>
    rw [qf] at w3
    intro F2 H2 ws' v sm h2 r2 rv
    exact kq r.2 F2 H2 v _ (s.ff.trans sm.ff) (WO.mono (s.ff.trans sm.ff) w3) ((E.step s).mutM q el hl sm h2 r2) rv
  | exc n => rw [qf] at w3; exact w3.elim
  | stuck => rw [qf] at w3; exact w3.elim
theorem ds_callM {i : Nat} {f : List D → M (List D × D)} {tas : TA} {as : ML} (ha : DAJ K L mg W i j tas as) : DS K L mg W (tDrop (tCallS (spM K mg j f) (WE W) tas)) (sCallM i f as fun _ ρ => .nx ρ) := fun F0 H0 F H σ ρ Dd E w =>
  callM_core ha E w fun d F1 H1 v ρ1 e w1 E1 r => w1 F1 H1 σ (Ex.refl _) E1
theorem ds_callMA {i n : Nat} {f : List D → M (List D × D)} {tas : TA} {as : ML} (ha : DAJ K L mg W i j tas as) : DS K L mg W (tAsg (tCallS (spM K mg j f) (WE W) tas) (gName n)) (sCallM i f as fun d ρ => .nx (ρ.set n (.val d))) := fun F0 H0 F H σ ρ Dd E w =>
  callM_core ha E w fun d F1 H1 v ρ1 e w1 E1 r => w1 F1 H1 _ (Ex.refl _) (E1.setv r n)
theorem ds_callMR {i : Nat} {f : List D → M (List D × D)} {tas : TA} {as : ML} (ha : DAJ K L mg W i j tas as) : DS K L mg W (tRet (tCallS (spM K mg j f) (WE W) tas)) (sCallM i f as fun d ρ => .ret d ρ) := fun F0 H0 F H σ ρ Dd E w =>
  callM_core ha E w fun d F1 H1 v ρ1 e w1 E1 r => w1 F1 H1 σ v (Ex.refl _) E1 r
/-- arguments, the one at j a list just made -/
def DAT (K : PySem.W.Frag) (L : Addr × Addr) (mg : Str → Option Value) (W : WX) (j : Nat) (t : TA) (f : ML) : Prop := ∀ F0 H0 F H σ ρ (Q : List V → Hp → Prop), Env K L F0 H0 F H σ ρ →
  post (f ρ) (fun ds => ∀ F' H' vs l ws, Step F H F' H' → H l = none → F' l = none → H' l = some (.lst ws) → RepJ K F' l ws j vs ds → Q vs H') (WE' mg W F H σ) → t σ H Q
theorem dat_here {ta : TE} {a : ML} {tas : TA} {as : ML} (ha : DL K L mg W ta a) (h : DAF K L mg W tas as) : DAT K L mg W 0 (tCons ta tas) (aCons (eL a) as) := fun F0 H0 F H σ ρ Q E p => by
  refine ha F0 H0 F H σ ρ _ E (post_mono (post_bind (post_bind p)) (fun es k F1 H1 l ws s n r => ?_) fun _ z => z)
  have st := s.trans (Step.new0 (o := .lst ws) s.fh n)
  have k : post ((as ρ).bind fun ds => M.ok (PyData.list es :: ds)) _ _ := k
  refine h F0 H0 F1 _ σ ρ _ (E.step st) (post_mono (post_bind k) (fun e k2 F2 H2 ys s2 r2 => ?_) fun n z => WE'.on st z)
  exact k2 F2 H2 _ l ws (st.trans s2) (s.hh.free n) (s2.nw l _ (s.fh.free n) upd_same (fun _ z => nomatch z)) (s2.hh _ _ upd_same) (.here (r.mono s2.ff) r2)
theorem dat_next {ta : TE} {a : ME} {tas : TA} {as : ML} (ha : DF K L mg W ta a) (h : DAT K L mg W j tas as) : DAT K L mg W (j + 1) (tCons ta tas) (aCons a as) := fun F0 H0 F H σ ρ Q E p => by
  refine ha F0 H0 F H σ ρ _ E (post_mono (post_bind p) (fun d k F1 H1 x s1 r1 => ?_) fun _ z => z)
  refine h F0 H0 F1 H1 σ ρ _ (E.step s1) (post_mono (post_bind k) (fun e k2 F2 H2 ys l ws s2 hn fl hl rj => ?_) fun n z => WE'.on s1 z)
  exact k2 F2 H2 _ l ws (s1.trans s2) (s1.hh.free hn) fl hl (.next (r1.mono s2.ff) rj)
def noX2 {α : Type} : M α → M α
  | .exc _ => .stuck
  | m => m
def eCallT (f : List D → M (List D × D)) (as : ML) : ME := fun ρ => (as ρ).bind fun ds => (noX (f ds)).bind fun r => .ok r.2
theorem df_callT {f : List D → M (List D × D)} {tas : TA} {as : ML} (ha : DAT K L mg W j tas as) : DF K L mg W (tCallS (spM K mg j f) (WE W) tas) (eCallT f as) := fun F0 H0 F H σ ρ Q E p => by
  refine ha F0 H0 F H σ ρ _ E (post_mono (post_bind p) (fun ds k F1 H1 vs l ws s hn fl hl rj => ?_) fun _ z => z)
  refine ⟨F1, ds, l, ws, s.fh, fl, hl, rj, ?_⟩
  cases qf : f ds with
  | ok r =>
    rw [qf] at k
    intro F2 H2 ws' v sm h2 r2 rv
    have k : WF K F H r.2 Q := k
    refine k F2 H2 v ⟨s.ff.trans sm.ff, fun a o q => sm.hh a o (ne_of_none q hn) (s.hh a o q), fun a o h1 h2 h3 => sm.nw a o (s.nw a o h1 h2 h3) (s.hh a o h2) h3, sm.fh⟩ rv
  | exc n => rw [qf] at k; exact k.elim
  | stuck => rw [qf] at k; exact k.elim
/-! ### the body of such a def -/
def startM (j N : Nat) (ds : List D) : Fr := match ds[j]? with
  | some (.list es) => (start' N ds).set j (.pin (.lst es))
  | _ => start' N ds
def pinL (j : Nat) (ρ : Fr) (d : D) : M (List D × D) := match ρ[j]? with
  | some (.pin (.lst es)) => .ok (es, d)
  | _ => .stuck
theorem pinL_post {j : Nat} {ρ : Fr} {d : D} {kx : List D × D → Prop} {ke : Str → Prop} (h : post (pinL j ρ d) kx ke) : ∃ es, ρ[j]? = some (.pin (.lst es)) ∧ kx (es, d) := by
  unfold pinL at h
  split at h
  · exact ⟨_, by assumption, h⟩
  · exact h.elim
def Out.mm (j : Nat) : Out → M (List D × D)
  | .nx ρ => pinL j ρ .none
  | .ret d ρ => pinL j ρ d
  | _ => .stuck
def mFnM (j np N : Nat) (g : MS) (ds : List D) : M (List D × D) := if ds.length = np then (g (startM j N ds)).mm j else .stuck
theorem repJ_get (h : RepJ K F l ws j vs ds) : vs[j]? = some (.ref l) ∧ (∃ es, ds[j]? = some (.list es) ∧ RepL K F ws es) ∧ ∀ i v, i ≠ j → vs[i]? = some v → ∃ d, ds[i]? = some d ∧ Rep K F v d := by
  induction h with
  | here r q =>
    refine ⟨rfl, ⟨_, rfl, r⟩, fun i v hi hv => ?_⟩
    cases i with
    | zero => exact (hi rfl).elim
    | succ i => simp at hv; simpa using q.get hv
  | next r _ ih =>
    obtain ⟨h1, ⟨es, h2, h3⟩, h4⟩ := ih
    refine ⟨by simpa using h1, ⟨es, by simpa using h2, h3⟩, fun i v hi hv => ?_⟩
    cases i with
    | zero => simp at hv; subst hv; exact ⟨_, rfl, r⟩
    | succ i => simp at hv; simpa using h4 i v (by omega) hv
theorem env_startM {N : List Str} (ex : Ex F H) (fl : F l = none) (hl : H l = some (.lst ws)) (r : RepJ K F l ws j vs ds) : Env K (l, 0) F (del H l) F H (L2.start N vs) (startM j N.length ds) := by
  obtain ⟨h1, ⟨es, h2, h3⟩, h4⟩ := repJ_get r
  have hlen := r.len
  have hj : j < ds.length := (List.getElem?_eq_some_iff.mp h2).1
  have hs : startM j N.length ds = (start' N.length ds).set j (.pin (.lst es)) := by unfold startM; rw [h2]
  have hst : (start' N.length ds).length = (L2.start N vs).length := by unfold start' L2.start; simp [hlen]
  have hgv : ∀ i, i < vs.length → (L2.start N vs)[i]? = (vs[i]?).map some := fun i hi => by
    unfold L2.start
    rw [List.getElem?_append_left (by simpa using hi), List.getElem?_map]
  refine ⟨⟨Ex.refl _, fun a o q => ?_, fun a o h _ _ => h, ex⟩, by rw [hs, List.length_set]; exact hst.symm, fun i s q => ?_, fun i k m q1 q2 _ _ => ?_⟩
  · by_cases z : a = l
    · subst z; rw [del_same] at q; cases q
    · rw [del_ne z] at q; exact q
  · rw [hs] at q
    rcases set_get q with ⟨e, es', hl'⟩ | ⟨ne, h'⟩
    · subst e; subst es'
      rw [hgv j (by omega), h1]
      exact ⟨rfl, fl, del_same, _, hl, .lst h3⟩
    · unfold start' at h'
      rw [List.getElem?_append] at h'
      split at h'
      · rename_i hi
        rw [List.length_map] at hi
        rw [List.getElem?_map] at h'
        rw [hgv i (by omega)]
        cases qd : ds[i]? with
        | none => rw [qd] at h'; cases h'
        | some d =>
          rw [qd] at h'
          cases h'
          have hv : ∃ v, vs[i]? = some v := ⟨vs[i]'(by omega), by simp [show i < vs.length by omega]⟩
          obtain ⟨v, hv⟩ := hv
          obtain ⟨d', hd', rd⟩ := h4 i v (fun z => ne z.symm) hv
          rw [qd] at hd'
          cases hd'
          rw [hv]
          exact ⟨v, rfl, rd⟩
      · rw [List.getElem?_replicate] at h'
        split at h'
        · cases h'; trivial
        · cases h'
  · have no : ∀ m, m ≠ j → ¬ isOwn ((startM j N.length ds)[m]?) := fun m hm q => by
      rw [hs, List.getElem?_set_ne (Ne.symm hm)] at q
      unfold start' isOwn at q
      rw [List.getElem?_append] at q
      split at q
      · rw [List.getElem?_map] at q
        cases qq : ds[m]? with
        | none => rw [qq] at q; cases q
        | some d => rw [qq] at q; cases q
      · rw [List.getElem?_replicate] at q
        split at q <;> cases q
    have a1 : i = j := Classical.byContradiction fun z => no i z q1
    have a2 : k = j := Classical.byContradiction fun z => no k z q2
    rw [a1, a2]
theorem body_okM {t : TS} {g : MS} {N : List Str} {np : Nat} {Q : VK} {E : XK} (h : ∀ L, DS K L mg (fun cls d _ H => E cls d H) t g) (hs : spM K mg j (mFnM j np N.length g) vs H Q E) :
    t { nx := fun _ H' => Q .non H', rt := Q } (L2.start N vs) H := by
  obtain ⟨F, ds, l, ws, ex, fl, hl, r, p⟩ := hs
  refine h (l, 0) F (del H l) F H _ _ _ (env_startM (N := N) ex fl hl r) ?_
  have fin : ∀ {F' H' : Hp} {σ' : L2.St} {ρ : Fr} {es : List D}, Env K (l, 0) F (del H l) F' H' σ' ρ → ρ[j]? = some (.pin (.lst es)) → StepM F H l F' H' ∧ ∃ ws', H' l = some (.lst ws') ∧ RepL K F' ws' es := fun {F' H' σ' ρ es} E' hp => by
    obtain ⟨e, f, _, ho, hH, rr⟩ := E'.sl j _ hp
    obtain ⟨ws', rfl, rl⟩ := rr.isl
    refine ⟨⟨E'.st.ff, fun a o ne q => E'.st.hh a o (by rw [del_ne ne]; exact q), fun a o h1 h2 h3 => ?_, E'.st.fh, f⟩, ws', hH, rl⟩
    by_cases z : a = l
    · rw [z]; exact f
    · exact E'.st.nw a o h1 (by rw [del_ne z]; exact h2) h3
  unfold mFnM at p
  split at p
  · cases q : g (startM j N.length ds) with
    | nx ρ =>
      rw [q] at p
      intro F' H' σ' e E'
      obtain ⟨es, hp, p⟩ := pinL_post p
      obtain ⟨sm, ws', h1, h2⟩ := fin E' hp
      exact p F' H' ws' .non sm h1 h2 .non
    | ret d ρ =>
      rw [q] at p
      intro F' H' σ' v e E' rv
      obtain ⟨es, hp, p⟩ := pinL_post p
      obtain ⟨sm, ws', h1, h2⟩ := fin E' hp
      exact p F' H' ws' v sm h1 h2 rv
    | retL ds ρ => rw [q] at p; exact p.elim
    | exc n ρ => rw [q] at p; exact p.elim
    | brk ρ => rw [q] at p; exact p.elim
    | cont ρ => rw [q] at p; exact p.elim
    | stuck => rw [q] at p; exact p.elim
  · exact p.elim
end
/-! ### such defs at the top -/
def FnAtM (P : Program) (w : World) (K : PySem.W.Frag) (mg : Str → Option Value) (base : Heap) (x : Str) (ps : List Str) (k j : Nat) (f : List D → M (List D × D)) : Prop :=
  ∃ a fd, mg x = some (.ref a) ∧ PySem.W.keepIn K (.ref a) = true ∧ Binds K fd ps [] ∧ FnOk P w K mg base (L2.CX P w) k a fd ps (spM K mg j f)
def FnAtL (P : Program) (w : World) (K : PySem.W.Frag) (mg : Str → Option Value) (base : Heap) (x : Str) (ps : List Str) (k : Nat) (f : List D → M (List D)) : Prop :=
  ∃ a fd, mg x = some (.ref a) ∧ PySem.W.keepIn K (.ref a) = true ∧ Binds K fd ps [] ∧ FnOk P w K mg base (L2.CX P w) k a fd ps (spL K mg f)
section
variable {P : Program} {w : World} {K : PySem.W.Frag} {mg : Str → Option Value} {base : Heap}
theorem fn_atM {x : Str} {st : Stmt} {N ps : List Str} {k j : Nat} {g : MS} (Df : DefAt K mg x st) (S : FnScope N ps (defScope st))
    (hb : ∀ (kV doc pm : Value) (an : Option Addr) (cdv ct : Value) (us : List Value), us.length = ps.length → bindArgs (PySem.W.fnOf x x (defArgs st) (defBody st) (defScope st) .none kV doc pm an cdv ct) ⟨us, []⟩ = pure (ps.zip us))
    (h : ∀ (f : Addr) (cdv : Value) (A : Around) (outer : List PySem.Env) (s : Shared) (H : Hp) (E : XK), Room k (A.deeper (envOfC x (defScope st) s.heap.objs.size f cdv)) →
      ∃ t, PSs (cxOf (L2.CX P w) P w K mg base N x (defScope st) f cdv A outer s H E) (defBody st) t ∧ ∀ L, DS K L mg (fun cls d _ H => E cls d H) t g) :
    FnAtM P w K mg base x ps (k + 1) j (mFnM j ps.length N.length g) := by
  obtain ⟨f, fd, hm, F⟩ := Df
  refine ⟨f, fd, hm, F.kp, F.binds hb, ?_⟩
  refine F.okX S (fun vs H Q E h => ?_) fun cdv A outer s H vs Q E hr hs => ?_
  · obtain ⟨F, ds, l, ws, ex, fl, hl, r, p⟩ := h
    unfold mFnM at p
    split at p
    · rw [r.len]; assumption
    · exact p.elim
  · obtain ⟨t, h1, h2⟩ := h f cdv A outer s H E hr
    exact ⟨t, h1, body_okM h2 hs⟩
theorem fn_atL {x : Str} {st : Stmt} {N ps : List Str} {k : Nat} {g : MS} (Df : DefAt K mg x st) (S : FnScope N ps (defScope st))
    (hb : ∀ (kV doc pm : Value) (an : Option Addr) (cdv ct : Value) (us : List Value), us.length = ps.length → bindArgs (PySem.W.fnOf x x (defArgs st) (defBody st) (defScope st) .none kV doc pm an cdv ct) ⟨us, []⟩ = pure (ps.zip us))
    (h : ∀ (f : Addr) (cdv : Value) (A : Around) (outer : List PySem.Env) (s : Shared) (H : Hp) (E : XK), Room k (A.deeper (envOfC x (defScope st) s.heap.objs.size f cdv)) →
      ∃ t, PSs (cxOf (L2.CX P w) P w K mg base N x (defScope st) f cdv A outer s H E) (defBody st) t ∧ ∀ L, DS K L mg (fun cls d _ H => E cls d H) t g) :
    FnAtL P w K mg base x ps (k + 1) (mFnL ps.length N.length g) := by
  obtain ⟨f, fd, hm, F⟩ := Df
  refine ⟨f, fd, hm, F.kp, F.binds hb, ?_⟩
  refine F.okX S (fun vs H Q E h => ?_) fun cdv A outer s H vs Q E hr hs => ?_
  · obtain ⟨F, ds, ex, r, p⟩ := h
    unfold mFnL at p
    split at p
    · rw [r.length]; assumption
    · exact p.elim
  · obtain ⟨t, h1, h2⟩ := h f cdv A outer s H E hr
    exact ⟨t, h1, body_okL h2 hs⟩
end
end Dn

set_option Elab.async false
set_option linter.all false
set_option maxRecDepth 100000
set_option maxHeartbeats 4000000
/-! DenJ: further words -/
namespace Dn
open PySem PySem.Spec PyProof.Rows L2
def eBool (a : ME) : ME := fun ρ => (a ρ).bind fun d => (toB d).bind fun b => .ok (.bool b)
def sPar (i j : Nat) (as : ML) : MS := fun ρ => Out.of (as ρ) ρ fun ds => match ds with
  | [d, e] => .nx ((ρ.set i (.val d)).set j (.val e))
  | _ => .stuck
section
variable {K : PySem.W.Frag} {L : Addr × Addr} {mg : Str → Option Value} {W : WX} {ta : TE} {a : ME} {tas : TA} {as : ML}
theorem df_ofE_bool (ha : DE K L mg W ta a) : DF K L mg W ta (eBool a) := fun F0 H0 F H σ ρ Q E p => by
  refine ha F0 H0 F H σ ρ _ E (post_mono (post_bind p) (fun d k F1 H1 x s1 r1 => ?_) fun _ z => z)
  obtain ⟨b, rfl, k⟩ := toB_post (post_bind k)
  obtain rfl := r1.isb
  exact k F1 H1 _ s1 (.bl b)
theorem RepL.two' {F : Hp} {vs : List V} {d e : D} (r : RepL K F vs [d, e]) : ∃ x y, vs = [x, y] ∧ Rep K F x d ∧ Rep K F y e := by
  cases r with
  | cons a b =>
    obtain ⟨y, rfl, c⟩ := b.one'
    exact ⟨_, _, rfl, a, c⟩
theorem ds_par {i j : Nat} (ha : DAF K L mg W tas as) : DS K L mg W (tPar i j tas) (sPar i j as) := fun F0 H0 F H σ ρ D E w => by
  refine ha F0 H0 F H σ ρ _ E (post_mono (WO.of E w) (fun ds k F1 H1 vs s r => ?_) fun _ z => z)
  split at k
  · obtain ⟨x, y, rfl, r1, r2⟩ := r.two'
    exact ⟨x, y, rfl, k F1 H1 _ s.ff (((E.step s).setv r1 i).setv r2 j)⟩
  · exact k.elim
end
/-! ### the rules with the written part told -/
section
variable {X : Cx} {K : PySem.W.Frag}
theorem kAdd (h : X.K = K := by rfl) : OpR X (binaryOp .Add) (oAdd K) := h ▸ op_addU
theorem kEq (hu : X.A.units + 64 < cLine) (h : X.K = K := by rfl) : OpR X (compareOp .Eq) (oEq K) := h ▸ op_eqU hu
theorem kNe (hu : X.A.units + 64 < cLine) (h : X.K = K := by rfl) : OpR X (compareOp .NotEq) (oNe K) := h ▸ op_neU hu
theorem kIn (hu : X.A.units + 65 < cLine) (h : X.K = K := by rfl) : OpR X (compareOp .In) (oIn K) := h ▸ op_inU hu
theorem kNin (hu : X.A.units + 65 < cLine) (h : X.K = K := by rfl) : OpR X (compareOp .NotIn) (oNin K) := h ▸ op_ninU hu
theorem kIx (h : X.K = K := by rfl) : IxR X (rIx K) := h ▸ ix_seq
theorem kSl (h : X.K = K := by rfl) : SlR X (oSl K) := h ▸ sl_any
theorem kLen (h : X.K = K := by rfl) : CallR X (.builtin "len") (oLen K) := h ▸ call_lenU
theorem kList (h : X.K = K := by rfl) : CallR X (.type "list") (oList K) := h ▸ call_listU
theorem kTuple (h : X.K = K := by rfl) : CallR X (.type "tuple") (oTuple K) := h ▸ call_tupleU
theorem kMax (hc : X.calm = true) (h : X.K = K := by rfl) : CallR X (.builtin "max") (oMax K) := h ▸ call_maxU hc
theorem kMin (hc : X.calm = true) (h : X.K = K := by rfl) : CallR X (.builtin "min") (oMin K) := h ▸ call_minU hc
theorem kSum (hc : X.calm = true) (h : X.K = K := by rfl) : CallR X (.builtin "sum") (rSum K) := h ▸ cr_sum hc
theorem kAny (hc : X.calm = true) (h : X.K = K := by rfl) : CallR X (.builtin "any") (rAny K) := h ▸ cr_any hc
theorem kAll (hc : X.calm = true) (h : X.K = K := by rfl) : CallR X (.builtin "all") (rAll K) := h ▸ cr_all hc
theorem kSort (h : X.K = K := by rfl) : CallR X (.builtin "sorted") (rSortedI K) := h ▸ cr_sortedI
theorem kIsi (h : X.K = K := by rfl) : CallR X (.builtin "isinstance") (rIsi K) := h ▸ call_isi
theorem pi_sqK {tg l : Expr} {tl : TE} (hl : PE X l tl) (h : X.K = K := by rfl) : PI X tg l (iSq K tl) := h ▸ pi_sq hl
theorem pi_enumK {e : Expr} {ta : TA} {p pos tpos : Pos} {elts : List Expr} {kk : Nat} (hg : Gl X "enumerate") (hm : X.mg "enumerate" = none) (ha : PA X [e] ta) (h : X.K = K := by rfl) (hs : starEach [e] X.env = [(false, eval e X.env)] := by rfl) :
    PI X (.Tuple elts kk tpos) (.Call (.Name "enumerate" p) [e] [] pos) (iEnumU K ta) := h ▸ pi_enumU hg hm ha hs
theorem pi_revK {tg e : Expr} {te : TE} {p pos : Pos} (hg : Gl X "reversed") (hm : X.mg "reversed" = none) (he : PE X e te) (h : X.K = K := by rfl) (hs : starEach [e] X.env = (false, eval e X.env) :: starEach [] X.env := by rfl) : PI X tg (.Call (.Name "reversed" p) [e] [] pos) (RT.iRevA K te) := h ▸ RT.pi_revA hg hm he hs
theorem pg_tupK {es : List Expr} {k : Nat} {pos : Pos} {t : TGs} {n : Nat} (hc : X.calm = true) (hp : PGs X es t) (h : X.K = K := by rfl)
    (hn : (assignEach es X.env).length = n := by rfl) (hst : (assignEach es X.env).findIdx? (·.1) = none := by rfl) : PG X (.Tuple es k pos) (gTup K n t) := h ▸ pg_tup hc hp hn hst
end
end Dn

set_option Elab.async false
set_option linter.all false
set_option maxRecDepth 100000
set_option maxHeartbeats 4000000
/-! DenK: the end -/
namespace Dn
open PySem PySem.Spec PyProof.Rows L2
section
variable {K : PySem.W.Frag} {h : Heap} {mg : Str → Option Value}
theorem def_mk {x : Str} {st : Stmt} {f : Addr} {oc : Value} {od an : Option Addr} {osl : Array (Option Value)} {kV doc pm cdv ct : Value} (X : K.In h) (G : h.Ns mainGlobals mg)
    (a : PySem.W.nsIn K mainGlobals x = some (some (.ref f)))
    (l : K.lookup f = some ⟨oc, od, .func (PySem.W.fnOf x x (defArgs st) (defBody st) (defScope st) .none kV doc pm an cdv ct), osl⟩)
    (c : PySem.W.codeIn K cdv x = true) (k : PySem.W.keepIn K (.ref f) = true) : DefAt K mg x st := ⟨f, _, PySem.W.mg_of X G a, fun_mk l c k⟩
def BindS (fd : FuncData) : Prop := ∀ (s : Shared) (u : Value), BindsTo s fd ⟨[u], []⟩ [("script", u)]
theorem law_mk {st : Stmt} {fa f : Addr} {oc : Value} {od an : Option Addr} {osl : Array (Option Value)} {kV doc pm cdv ct : Value} (X : K.In h) (G : h.Ns mainGlobals mg) (hfa : mg "law" = some (.ref fa))
    (a : PySem.W.nsIn K mainGlobals "law" = some (some (.ref f)))
    (l : K.lookup f = some ⟨oc, od, .func (PySem.W.fnOf "law" "law" (defArgs st) (defBody st) (defScope st) .none kV doc pm an cdv ct), osl⟩)
    (c : PySem.W.codeIn K cdv "law" = true) (k : PySem.W.keepIn K (.ref f) = true)
    (hb : ∀ (s : Shared) (u : Value), BindsTo s (PySem.W.fnOf "law" "law" (defArgs st) (defBody st) (defScope st) .none kV doc pm an cdv ct) ⟨[u], []⟩ [("script", u)]) :
    ∃ fd : FuncData, BindS fd ∧ Fun K "law" "law" st fa fd := by
  have e := hfa.symm.trans (PySem.W.mg_of X G a)
  cases e
  exact ⟨_, hb, fun_mk l c k⟩
theorem exc_mk {x : Str} {C : Addr} {bm : List Value} (X : K.In h) (G : h.Ns mainGlobals mg) (a : PySem.W.nsIn K mainGlobals x = some (some (.ref C))) (e : PySem.W.excIn K C bm "ValueError.__new__" = true)
    (k : PySem.W.keepIn K (.ref C) = true) (b : PySem.W.subIn K (.ref C) (.type "BaseException") = some true) (t : PySem.W.typeIn K (.ref C) = some (.type "type")) : ∃ C, ExcAt K mg x C bm := ⟨C, PySem.W.mg_of X G a, e, k, b, t⟩
end
abbrev kOf {K : PySem.W.Frag} {h : Heap} (_ : K.In h) : PySem.W.Frag := K
theorem walk_law {l : PySem.W.OpenLaw} {k : Nat} {q : Program} {loose : List Str} {XP : (Str → Option Value) → Heap → Prop} {YP : World → Heap → Prop} {d : DefRec} {K : Params → PySem.W.Frag} (hn : l.most = some 63) (hdf : d.params.defaults = []) (hr : Room k callerA)
    (hY : ∀ (w : World) (h : Heap), YP w h → (K w.params).In h)
    (F : ∀ (w : World) (mg : Str → Option Value) (fa : Addr) (h : Heap), (K w.params).In h → h.Ns mainGlobals mg → mg d.name = some (.ref fa) →
      ∃ fd : FuncData, (∀ (s : Shared) (u : Value), BindsTo s fd ⟨[u], []⟩ [("script", u)]) ∧ ∀ base : Heap, (K w.params).In base → base.Ns mainGlobals mg → FnOk l.prog w (K w.params) mg base CX0 k fa fd ["script"] (spLaw (K w.params))) :
    PySem.W.WalkO q loose XP YP l.row.toRowW d [] (fun f vs => PySem.call f vs) :=
  L2.walk_ofB (n := 63) (k := k) (x := "script") (CX := fun _ => CX0) (sp := fun w => spLaw (K w.params)) hn (by decide) hdf hr hY F (fun _ _ a ns hl hb _ hS => ⟨a, ns, rfl, hS, ⟨hl, hb⟩, fun _ => rfl⟩) fun _ _ _ _ _ z => z
end Dn

set_option Elab.async false
set_option linter.all false
set_option maxRecDepth 100000
set_option maxHeartbeats 4000000
/-! DenL: the pure layer made plain -/
namespace Dn
open PySem L2
variable {ρ : Fr} {a b c : ME} {as : ML} {tf uf : MT} {g h : MS} {i j : Nat}
/-! ### slots -/
def getV : Option S → M D
  | some (.val d) => .ok d
  | _ => .stuck
@[simp] theorem getV_val {d : D} : getV (some (.val d)) = .ok d := rfl
def getB : Option S → M D
  | some (.val d) => .ok d
  | some (.own o) => .ok o.d
  | some (.pin o) => .ok o.d
  | _ => .stuck
@[simp] theorem getB_val {d : D} : getB (some (.val d)) = .ok d := rfl
@[simp] theorem getB_own {ds : List D} : getB (some (.own (.lst ds))) = .ok (.list ds) := rfl
@[simp] theorem getB_pin {ds : List D} : getB (some (.pin (.lst ds))) = .ok (.list ds) := rfl
@[simp] theorem eVarF_ap : eVarF i ρ = getV ρ[i]? := rfl
@[simp] theorem eVar_ap : eVar i ρ = getB ρ[i]? := rfl
@[simp] theorem eC_ap {d : D} : eC d ρ = .ok d := rfl
@[simp] theorem e2_ap {f : D → D → Option D} : e2 f a b ρ = (a ρ).bind fun x => (b ρ).bind fun y => lift (f x y) := rfl
@[simp] theorem e2L_ap {f : D → D → Option (List D)} : e2L f a b ρ = (a ρ).bind fun x => (b ρ).bind fun y => lift (f x y) := rfl
@[simp] theorem e1_ap {f : D → Option D} : e1 f a ρ = (a ρ).bind fun x => lift (f x) := rfl
@[simp] theorem eL_ap : eL as ρ = (as ρ).bind fun ds => .ok (.list ds) := rfl
@[simp] theorem toB_bool {b : Bool} : toB (.bool b) = .ok b := rfl
@[simp] theorem tE_ap : tE a ρ = (a ρ).bind toB := rfl
@[simp] theorem tA_ap : tA tf uf ρ = (tf ρ).bind fun c => if c = true then uf ρ else .ok false := rfl
@[simp] theorem tO_ap : tO tf uf ρ = (tf ρ).bind fun c => if c = true then .ok true else uf ρ := rfl
@[simp] theorem tN_ap : tN tf ρ = (tf ρ).bind fun c => .ok (!c) := rfl
@[simp] theorem eAnd_ap : eAnd a b ρ = (a ρ).bind fun x => (toB x).bind fun c => if c = true then b ρ else .ok (.bool false) := rfl
@[simp] theorem eOr_ap : eOr a b ρ = (a ρ).bind fun x => (toB x).bind fun c => if c = true then .ok (.bool true) else b ρ := rfl
@[simp] theorem eNot_ap : eNot a ρ = (a ρ).bind fun x => (toB x).bind fun c => .ok (.bool (!c)) := rfl
@[simp] theorem eIf_ap : eIf tf a b ρ = (tf ρ).bind fun c => if c = true then a ρ else b ρ := rfl
@[simp] theorem eBool_ap : eBool a ρ = (a ρ).bind fun d => (toB d).bind fun b => .ok (.bool b) := rfl
@[simp] theorem aNil_ap : aNil ρ = .ok [] := rfl
@[simp] theorem aCons_ap : aCons a as ρ = (a ρ).bind fun d => (as ρ).bind fun ds => .ok (d :: ds) := rfl
@[simp] theorem eCall_ap {f : List D → M D} : eCall f as ρ = (as ρ).bind f := rfl
@[simp] theorem eCallL_ap {f : List D → M (List D)} : eCallL f as ρ = (as ρ).bind f := rfl
@[simp] theorem eCallS_ap {f : List D → M D} : eCallS f as ρ = (as ρ).bind fun ds => (f ds).bind fun d => if scalD d = true then .ok d else .stuck := rfl
@[simp] theorem scalD_b {x : Bool} : scalD (.bool x) = true := by simp [scalD]
@[simp] theorem scalD_i {x : Int} : scalD (.int x) = true := by simp [scalD]
@[simp] theorem scalD_s {x : Str} : scalD (.str x) = true := by simp [scalD]
@[simp] theorem scalD_n : scalD .none = true := by simp [scalD]
@[simp] theorem eB_ap {f : List D → Option D} : eB f as ρ = (as ρ).bind fun ds => lift (f ds) := rfl
@[simp] theorem eBL_ap {f : List D → Option (List D)} : eBL f as ρ = (as ρ).bind fun ds => lift (f ds) := rfl
@[simp] theorem eTup_ap : eTup as ρ = (as ρ).bind fun ds => .ok (.tuple ds) := rfl
@[simp] theorem oNone_ap : oNone ρ = .ok none := rfl
@[simp] theorem toI_int {i : Int} : toI (.int i) = .ok i := rfl
@[simp] theorem oSome_ap : oSome a ρ = (a ρ).bind fun d => (toI d).bind fun i => .ok (some i) := rfl
@[simp] theorem eSl_ap {f : D → Option Int → Option Int → Option D} {lo hi : Fr → M (Option Int)} : eSl f a lo hi ρ = (a ρ).bind fun x => (lo ρ).bind fun l => (hi ρ).bind fun h => lift (f x l h) := rfl
@[simp] theorem eSlL_ap {f : D → Option Int → Option Int → Option (List D)} {lo hi : Fr → M (Option Int)} : eSlL f a lo hi ρ = (a ρ).bind fun x => (lo ρ).bind fun l => (hi ρ).bind fun h => lift (f x l h) := rfl
@[simp] theorem eCh_ap {f g : D → D → Option D} : eCh f g a b c ρ = (a ρ).bind fun x => (b ρ).bind fun y => (lift (f x y)).bind fun z => (toB z).bind fun k => if k = true then (c ρ).bind fun w => lift (g y w) else .ok (.bool false) := rfl
@[simp] theorem eRg1_ap : eRg1 a ρ = (a ρ).bind fun x => (toI x).bind fun j => rgLD 0 j := rfl
@[simp] theorem eRg2_ap : eRg2 a b ρ = (a ρ).bind fun x => (b ρ).bind fun y => (toI x).bind fun i => (toI y).bind fun j => rgLD i j := rfl
@[simp] theorem eTL_ap : eTL as ρ = (as ρ).bind fun ds => .ok (.tuple ds) := rfl
@[simp] theorem tYesF_ap : tYesF ρ = .ok true := rfl
theorem scalDs_map {α : Type} {f : α → D} (h : ∀ a, scalD (f a) = true) : ∀ xs : List α, scalDs (xs.map f) = true
  | [] => by simp [scalDs]
  | x :: xs => by rw [List.map_cons]; simp [scalDs, h x, scalDs_map h xs]
theorem scalD_map {α : Type} {f : α → D} (h : ∀ a, scalD (f a) = true) (xs : List α) : scalD (.tuple (xs.map f)) = true := by
  rw [scalD]
  exact scalDs_map h xs
@[simp] theorem scalD_it {xs : List Int} : scalD (.tuple (xs.map .int)) = true := scalD_map (fun _ => by simp) xs
/-! ### operations on ints, bools -/
@[simp] theorem addD_int {x y : Int} : addD (.int x) (.int y) = some (.int (x + y)) := rfl
@[simp] theorem subD_int {x y : Int} : subD (.int x) (.int y) = some (.int (x - y)) := rfl
@[simp] theorem negD_int {x : Int} : negD (.int x) = some (.int (-x)) := rfl
@[simp] theorem cmpD_int {p : Int → Int → Bool} {x y : Int} : cmpD p (.int x) (.int y) = some (.bool (p x y)) := rfl
@[simp] theorem eqD_int {x y : Int} : eqD (.int x) (.int y) = some (.bool (decide (x = y))) := rfl
@[simp] theorem neD_int {x y : Int} : neD (.int x) (.int y) = some (.bool (!decide (x = y))) := rfl
@[simp] theorem eqD_bool {x y : Bool} : eqD (.bool x) (.bool y) = some (.bool (decide (x = y))) := rfl
@[simp] theorem neD_bool {x y : Bool} : neD (.bool x) (.bool y) = some (.bool (!decide (x = y))) := rfl
@[simp] theorem eqD_str {x y : Str} : eqD (.str x) (.str y) = some (.bool (decide (x = y))) := rfl
@[simp] theorem neD_str {x y : Str} : neD (.str x) (.str y) = some (.bool (!decide (x = y))) := rfl
@[simp] theorem isD_none {d : D} : isD d .none = some (.bool (isNone d)) := rfl
@[simp] theorem isnD_none {d : D} : isnD d .none = some (.bool (!isNone d)) := rfl
@[simp] theorem isNone_i {x : Int} : isNone (.int x) = false := rfl
@[simp] theorem isNone_t {x : List D} : isNone (.tuple x) = false := rfl
@[simp] theorem isNone_l {x : List D} : isNone (.list x) = false := rfl
@[simp] theorem isNone_n : isNone .none = true := rfl
@[simp] theorem mulD_small {x y : Int} (h : -(2 ^ 64) < x ∧ x < 2 ^ 64) : mulD (.int x) (.int y) = some (.int (x * y)) := if_pos (.inl (.inl h))
@[simp] theorem mulD_smallR {x y : Int} (h : -(2 ^ 64) < y ∧ y < 2 ^ 64) : mulD (.int x) (.int y) = some (.int (x * y)) := if_pos (.inl (.inr h))
theorem log_small {y : Int} (h : 0 < y) (h2 : y < 2 ^ 62) : y.natAbs.log2 < 9000 := by
  have h3 : y.natAbs < 2 ^ 62 := by omega
  have h4 : y.natAbs ≠ 0 := by omega
  have h5 := (Nat.log2_lt h4).mpr h3
  omega
@[simp] theorem divD_pos {x y : Int} (h : 0 < y) (h2 : y < 2 ^ 62) : divD (.int x) (.int y) = some (.int (x / y)) := if_pos ⟨h, log_small h h2⟩
@[simp] theorem modD_pos {x y : Int} (h : 0 < y) : modD (.int x) (.int y) = some (.int (x % y)) := if_pos h
/-! ### statements -/
def Out.seq (o : Out) (b : MS) : Out := match o with
  | .nx ρ' => b ρ'
  | o => o
@[simp] theorem seq_nx {b : MS} : (Out.nx ρ).seq b = b ρ := rfl
@[simp] theorem seq_brk {b : MS} : (Out.brk ρ).seq b = .brk ρ := rfl
@[simp] theorem seq_cont {b : MS} : (Out.cont ρ).seq b = .cont ρ := rfl
@[simp] theorem seq_ret {b : MS} {d : D} : (Out.ret d ρ).seq b = .ret d ρ := rfl
@[simp] theorem seq_retL {b : MS} {d : List D} : (Out.retL d ρ).seq b = .retL d ρ := rfl
@[simp] theorem seq_exc {b : MS} {n : Str} : (Out.exc n ρ).seq b = .exc n ρ := rfl
@[simp] theorem seq_stuck {b : MS} : (Out.stuck).seq b = .stuck := rfl
@[simp] theorem sNext_ap : sNext ρ = .nx ρ := rfl
@[simp] theorem sBrk_ap : sBrk ρ = .brk ρ := rfl
@[simp] theorem sCont_ap : sCont ρ = .cont ρ := rfl
@[simp] theorem sSeq_ap : sSeq g h ρ = (g ρ).seq h := by unfold sSeq Out.seq; cases g ρ <;> rfl
@[simp] theorem sAsg_ap {tg : D → Fr → Option Fr} : sAsg tg a ρ = Out.of (a ρ) ρ fun d => Out.ofO (tg d ρ) .nx := rfl
@[simp] theorem sAsgL_ap : sAsgL i as ρ = Out.of (as ρ) ρ fun ds => .nx (ρ.set i (.own (.lst ds))) := rfl
@[simp] theorem sExpr_ap : sExpr a ρ = Out.of (a ρ) ρ fun _ => .nx ρ := rfl
@[simp] theorem sRet_ap : sRet a ρ = Out.of (a ρ) ρ fun d => .ret d ρ := rfl
@[simp] theorem sRetL_ap : sRetL as ρ = Out.of (as ρ) ρ fun d => .retL d ρ := rfl
@[simp] theorem sRetN_ap : sRetN ρ = .ret .none ρ := rfl
@[simp] theorem sRaise_ap {n : Str} : sRaise n ρ = .exc n ρ := rfl
@[simp] theorem sIf_ap : sIf tf g h ρ = Out.of (tf ρ) ρ fun c => if c = true then g ρ else h ρ := rfl
@[simp] theorem sFrz_ap : sFrz i g ρ = g (frz i ρ) := rfl
def frzS : Option S → Fr → Nat → Fr
  | some (.own o), ρ, i => ρ.set i (.val o.d)
  | _, ρ, _ => ρ
@[simp] theorem frzS_own {ds : List D} : frzS (some (.own (.lst ds))) ρ i = ρ.set i (.val (.list ds)) := rfl
@[simp] theorem frzS_val {d : D} : frzS (some (.val d)) ρ i = ρ := rfl
@[simp] theorem frz_ap : frz i ρ = frzS ρ[i]? ρ i := by
  unfold frz frzS
  cases ρ[i]? with
  | none => rfl
  | some s => cases s <;> rfl
@[simp] theorem sFor_ap {tg : D → Fr → Option Fr} : sFor as tg g ρ = Out.of (as ρ) ρ fun ds => loopFor (forB tg g) ds ρ := rfl
@[simp] theorem forB_ap {tg : D → Fr → Option Fr} {d : D} : forB tg g d ρ = Out.ofO (tg d ρ) g := rfl
@[simp] theorem gN_ap {d : D} : gN i d ρ = some (ρ.set i (.val d)) := rfl
@[simp] theorem gNil_ap : gNil' [] ρ = some ρ := rfl
@[simp] theorem gC_ap {tg : D → Fr → Option Fr} {tgs : List D → Fr → Option Fr} {d : D} {ds : List D} : gC tg tgs (d :: ds) ρ = (tg d ρ).bind fun ρ' => tgs ds ρ' := rfl
@[simp] theorem gT_ap {tgs : List D → Fr → Option Fr} {ds : List D} : gT tgs (.tuple ds) ρ = tgs ds ρ := rfl
@[simp] theorem gL_ap {tgs : List D → Fr → Option Fr} {ds : List D} : gL tgs (.list ds) ρ = tgs ds ρ := rfl
def ownL : Option S → Option (List D)
  | some (.own (.lst ds)) => some ds
  | some (.pin (.lst ds)) => some ds
  | _ => none
@[simp] theorem ownL_own {ds : List D} : ownL (some (.own (.lst ds))) = some ds := rfl
@[simp] theorem ownL_pin {ds : List D} : ownL (some (.pin (.lst ds))) = some ds := rfl
@[simp] theorem ownAt_ap : ownAt i ρ = ownL ρ[i]? := rfl
def putS : Option S → List D → S
  | some (.pin _), ds => .pin (.lst ds)
  | _, ds => .own (.lst ds)
@[simp] theorem putS_own {o : OD} {ds : List D} : putS (some (.own o)) ds = .own (.lst ds) := rfl
@[simp] theorem putS_pin {o : OD} {ds : List D} : putS (some (.pin o)) ds = .pin (.lst ds) := rfl
@[simp] theorem putL_ap {ds : List D} : putL i ds ρ = ρ.set i (putS ρ[i]? ds) := by
  unfold putL putO putS
  cases ρ[i]? with
  | none => rfl
  | some s => cases s <;> rfl
@[simp] theorem sSet_ap {k e : ME} : sSet i k e ρ = Out.of (e ρ) ρ fun v => Out.ofO (ownAt i ρ) fun ds => Out.of (k ρ) ρ fun j => Out.ofO (setL ds j v) fun ds' => .nx (putL i ds' ρ) := rfl
@[simp] theorem sMut_ap {fm : List D → List D → Option (List D × D)} : sMut i fm as ρ = Out.ofO (ownAt i ρ) fun ds => Out.of (as ρ) ρ fun es => Out.ofO (fm ds es) fun r => .nx (putL i r.1 ρ) := rfl
@[simp] theorem sMutA_ap {fm : List D → List D → Option (List D × D)} : sMutA j i fm as ρ = Out.ofO (ownAt i ρ) fun ds => Out.of (as ρ) ρ fun es => Out.ofO (fm ds es) fun r => .nx ((putL i r.1 ρ).set j (.val r.2)) := rfl
@[simp] theorem m_nx : (Out.nx ρ).m = .ok .none := rfl
@[simp] theorem m_ret {d : D} : (Out.ret d ρ).m = .ok d := rfl
@[simp] theorem m_retL {d : List D} : (Out.retL d ρ).m = .ok (.list d) := rfl
@[simp] theorem m_exc {n : Str} : (Out.exc n ρ).m = .exc n := rfl
@[simp] theorem l_retL {d : List D} : (Out.retL d ρ).l = .ok d := rfl
@[simp] theorem l_exc {n : Str} : (Out.exc n ρ).l = .exc n := rfl
/-! ### walks -/
@[simp] theorem iE_ap : iE a ρ = (a ρ).bind itemsD := rfl
@[simp] theorem itemsD_l {ds : List D} : itemsD (.list ds) = .ok ds := rfl
@[simp] theorem itemsD_t {ds : List D} : itemsD (.tuple ds) = .ok ds := rfl
@[simp] theorem itemsD_s {ns : List Int} : itemsD (scrD ns) = .ok (ns.map .int) := rfl
@[simp] theorem seq_l {ds : List D} : seq? (.list ds) = some ds := rfl
@[simp] theorem seq_t {ds : List D} : seq? (.tuple ds) = some ds := rfl
@[simp] theorem seq_s {ns : List Int} : seq? (scrD ns) = some (ns.map .int) := rfl
def enumM : List D → M (List D)
  | [d] => (itemsD d).bind fun ds => .ok (enumL ds)
  | _ => .stuck
@[simp] theorem enumM_one {d : D} : enumM [d] = (itemsD d).bind fun ds => .ok (enumL ds) := rfl
@[simp] theorem iEn_ap : iEn as ρ = (as ρ).bind enumM := rfl
open Classical in
noncomputable def rngM1 : List D → M (List D)
  | [.int j] => if In62 j then .ok (rngL 0 j) else .stuck
  | _ => .stuck
open Classical in
noncomputable def rngM2 : List D → M (List D)
  | [.int i, .int j] => if In62 i ∧ In62 j then .ok (rngL i j) else .stuck
  | _ => .stuck
theorem rngM1_ok {j : Int} (h : In62 j) : rngM1 [.int j] = .ok (rngL 0 j) := if_pos h
theorem rngM2_ok {i j : Int} (h : In62 i) (h' : In62 j) : rngM2 [.int i, .int j] = .ok (rngL i j) := if_pos ⟨h, h'⟩
@[simp] theorem iR1_ap : iR1 as ρ = (as ρ).bind rngM1 := Eq.trans rfl rfl
@[simp] theorem iR2_ap : iR2 as ρ = (as ρ).bind rngM2 := Eq.trans rfl rfl
@[simp] theorem eLc_ap {tg : D → Fr → Option Fr} {vs : List Nat} : eLc as tg tf a vs ρ = (as ρ).bind fun ds => loopLc tg tf a vs ρ ds [] := rfl
theorem rgLD_ok {i j : Int} (h : RgOk i j) : rgLD i j = .ok (rngL i j) := if_pos h
theorem mFn_ok {np N : Nat} {g : MS} {ds : List D} (h : ds.length = np) : mFn np N g ds = (g (start' N ds)).m := if_pos h
theorem mFnL_ok {np N : Nat} {g : MS} {ds : List D} (h : ds.length = np) : mFnL np N g ds = (g (start' N ds)).l := if_pos h
/-! ### loops -/
/-- what is wanted behind a turn -/
def Turn' (Post : Out → Prop) (I : Fr → Prop) : Out → Prop
  | .nx ρ => I ρ
  | .cont ρ => I ρ
  | .brk ρ => Post (.nx ρ)
  | o => Post o
theorem loopFor_inv {body : D → Fr → Out} {Post : Out → Prop} (I : Nat → Fr → Prop) : ∀ (ds : List D) (k : Nat) (ρ : Fr), I k ρ →
    (∀ i d ρ, ds[i]? = some d → I (k + i) ρ → Turn' Post (I (k + i + 1)) (body d ρ)) → (∀ ρ, I (k + ds.length) ρ → Post (.nx ρ)) → Post (loopFor body ds ρ)
  | [], k, ρ, h0, _, hd => hd ρ h0
  | d :: ds, k, ρ, h0, hs, hd => by
    have h1 := hs 0 d ρ rfl h0
    have rc : ∀ ρ', I (k + 1) ρ' → Post (loopFor body ds ρ') := fun ρ' h => loopFor_inv I ds (k + 1) ρ' h
      (fun i d' ρ' q hi => by
        have z := hs (i + 1) d' ρ' (by simpa using q) (by rw [show k + (i + 1) = k + 1 + i by omega]; exact hi)
        rw [show k + (i + 1) + 1 = k + 1 + i + 1 by omega] at z
        exact z)
      (fun ρ' h => hd ρ' (by rw [List.length_cons, show k + (ds.length + 1) = k + 1 + ds.length by omega]; exact h))
    unfold loopFor
    cases q : body d ρ with
    | nx ρ' => rw [q] at h1; exact rc ρ' h1
    | cont ρ' => rw [q] at h1; exact rc ρ' h1
    | brk ρ' => rw [q] at h1; exact h1
    | ret d ρ => rw [q] at h1; exact h1
    | retL d ρ => rw [q] at h1; exact h1
    | exc n ρ => rw [q] at h1; exact h1
    | stuck => rw [q] at h1; exact h1
/-- a loop by an invariant -/
theorem for_inv {body : D → Fr → Out} {Post : Out → Prop} {ds : List D} {ρ : Fr} (I : Nat → Fr → Prop) (h0 : I 0 ρ)
    (hs : ∀ i d ρ, ds[i]? = some d → I i ρ → Turn' Post (I (i + 1)) (body d ρ)) (hd : ∀ ρ, I ds.length ρ → Post (.nx ρ)) : Post (loopFor body ds ρ) :=
  loopFor_inv I ds 0 ρ h0 (fun i d ρ q h => by rw [Nat.zero_add] at h ⊢; exact hs i d ρ q h) (fun ρ h => hd ρ (by rw [Nat.zero_add] at h; exact h))
/-- a comprehension without a test whose element is a function of the item -/
theorem loopLc_map {tg : D → Fr → Option Fr} {e : ME} {vs : List Nat} {ρ : Fr} (f : D → D) : ∀ (ds acc : List D), acc.length + ds.length < sizeLine →
    (∀ d ∈ ds, ∃ ρ', tg d (wipeF ρ vs) = some ρ' ∧ e ρ' = .ok (f d)) → loopLc tg tYesF e vs ρ ds acc = .ok (acc ++ ds.map f)
  | [], acc, _, _ => by unfold loopLc; simp
  | d :: ds, acc, hz, h => by
    obtain ⟨ρ', h1, h2⟩ := h d (List.mem_cons_self ..)
    rw [List.length_cons] at hz
    unfold loopLc
    rw [h1]
    show (noX (.ok true)).bind _ = _
    rw [show noX (M.ok true) = .ok true from rfl, M.bind_ok, if_pos rfl, h2, show noX (M.ok (f d)) = .ok (f d) from rfl, M.bind_ok, if_pos (by omega)]
    rw [loopLc_map f ds (acc ++ [f d]) (by rw [List.length_append, List.length_singleton]; omega) fun d hd => h d (List.mem_cons_of_mem _ hd)]
    simp
/-- .. with a test -/
theorem loopLc_filter {tg : D → Fr → Option Fr} {t : MT} {e : ME} {vs : List Nat} {ρ : Fr} (p : D → Bool) (f : D → D) : ∀ (ds acc : List D), acc.length + ds.length < sizeLine →
    (∀ d ∈ ds, ∃ ρ', tg d (wipeF ρ vs) = some ρ' ∧ t ρ' = .ok (p d) ∧ (p d = true → e ρ' = .ok (f d))) → loopLc tg t e vs ρ ds acc = .ok (acc ++ (ds.filter p).map f)
  | [], acc, _, _ => by unfold loopLc; simp
  | d :: ds, acc, hz, h => by
    obtain ⟨ρ', h1, h2, h3⟩ := h d (List.mem_cons_self ..)
    rw [List.length_cons] at hz
    unfold loopLc
    rw [h1]
    show (noX (t ρ')).bind _ = _
    rw [h2, show noX (M.ok (p d)) = .ok (p d) from rfl, M.bind_ok]
    cases q : p d with
    | true =>
      rw [if_pos rfl, h3 q, show noX (M.ok (f d)) = .ok (f d) from rfl, M.bind_ok, if_pos (by omega)]
      rw [loopLc_filter p f ds (acc ++ [f d]) (by rw [List.length_append, List.length_singleton]; omega) fun d hd => h d (List.mem_cons_of_mem _ hd)]
      simp [q]
    | false =>
      rw [if_neg Bool.false_ne_true]
      rw [loopLc_filter p f ds acc (by omega) fun d hd => h d (List.mem_cons_of_mem _ hd)]
      simp [q]
/-! ### isinstance -/
theorem kit_NoneType_int : L2.kitB "NoneType" "int" = some false := by decide +kernel
@[simp] theorem isi_NoneType_int  : isiD "int" .none = some (.bool false) := by show (L2.kitB "NoneType" "int").map _ = _; rw [kit_NoneType_int]; rfl
theorem kit_bool_int : L2.kitB "bool" "int" = some true := by decide +kernel
@[simp] theorem isi_bool_int {x : Bool} : isiD "int" (.bool x) = some (.bool true) := by show (L2.kitB "bool" "int").map _ = _; rw [kit_bool_int]; rfl
theorem kit_int_int : L2.kitB "int" "int" = some true := by decide +kernel
@[simp] theorem isi_int_int {x : Int} : isiD "int" (.int x) = some (.bool true) := by show (L2.kitB "int" "int").map _ = _; rw [kit_int_int]; rfl
theorem kit_str_int : L2.kitB "str" "int" = some false := by decide +kernel
@[simp] theorem isi_str_int {x : Str} : isiD "int" (.str x) = some (.bool false) := by show (L2.kitB "str" "int").map _ = _; rw [kit_str_int]; rfl
theorem kit_list_int : L2.kitB "list" "int" = some false := by decide +kernel
@[simp] theorem isi_list_int {x : List D} : isiD "int" (.list x) = some (.bool false) := by show (L2.kitB "list" "int").map _ = _; rw [kit_list_int]; rfl
theorem kit_tuple_int : L2.kitB "tuple" "int" = some false := by decide +kernel
@[simp] theorem isi_tuple_int {x : List D} : isiD "int" (.tuple x) = some (.bool false) := by show (L2.kitB "tuple" "int").map _ = _; rw [kit_tuple_int]; rfl
theorem kit_NoneType_bool : L2.kitB "NoneType" "bool" = some false := by decide +kernel
@[simp] theorem isi_NoneType_bool  : isiD "bool" .none = some (.bool false) := by show (L2.kitB "NoneType" "bool").map _ = _; rw [kit_NoneType_bool]; rfl
theorem kit_bool_bool : L2.kitB "bool" "bool" = some true := by decide +kernel
@[simp] theorem isi_bool_bool {x : Bool} : isiD "bool" (.bool x) = some (.bool true) := by show (L2.kitB "bool" "bool").map _ = _; rw [kit_bool_bool]; rfl
theorem kit_int_bool : L2.kitB "int" "bool" = some false := by decide +kernel
@[simp] theorem isi_int_bool {x : Int} : isiD "bool" (.int x) = some (.bool false) := by show (L2.kitB "int" "bool").map _ = _; rw [kit_int_bool]; rfl
theorem kit_str_bool : L2.kitB "str" "bool" = some false := by decide +kernel
@[simp] theorem isi_str_bool {x : Str} : isiD "bool" (.str x) = some (.bool false) := by show (L2.kitB "str" "bool").map _ = _; rw [kit_str_bool]; rfl
theorem kit_list_bool : L2.kitB "list" "bool" = some false := by decide +kernel
@[simp] theorem isi_list_bool {x : List D} : isiD "bool" (.list x) = some (.bool false) := by show (L2.kitB "list" "bool").map _ = _; rw [kit_list_bool]; rfl
theorem kit_tuple_bool : L2.kitB "tuple" "bool" = some false := by decide +kernel
@[simp] theorem isi_tuple_bool {x : List D} : isiD "bool" (.tuple x) = some (.bool false) := by show (L2.kitB "tuple" "bool").map _ = _; rw [kit_tuple_bool]; rfl
theorem kit_NoneType_str : L2.kitB "NoneType" "str" = some false := by decide +kernel
@[simp] theorem isi_NoneType_str  : isiD "str" .none = some (.bool false) := by show (L2.kitB "NoneType" "str").map _ = _; rw [kit_NoneType_str]; rfl
theorem kit_bool_str : L2.kitB "bool" "str" = some false := by decide +kernel
@[simp] theorem isi_bool_str {x : Bool} : isiD "str" (.bool x) = some (.bool false) := by show (L2.kitB "bool" "str").map _ = _; rw [kit_bool_str]; rfl
theorem kit_int_str : L2.kitB "int" "str" = some false := by decide +kernel
@[simp] theorem isi_int_str {x : Int} : isiD "str" (.int x) = some (.bool false) := by show (L2.kitB "int" "str").map _ = _; rw [kit_int_str]; rfl
theorem kit_str_str : L2.kitB "str" "str" = some true := by decide +kernel
@[simp] theorem isi_str_str {x : Str} : isiD "str" (.str x) = some (.bool true) := by show (L2.kitB "str" "str").map _ = _; rw [kit_str_str]; rfl
theorem kit_list_str : L2.kitB "list" "str" = some false := by decide +kernel
@[simp] theorem isi_list_str {x : List D} : isiD "str" (.list x) = some (.bool false) := by show (L2.kitB "list" "str").map _ = _; rw [kit_list_str]; rfl
theorem kit_tuple_str : L2.kitB "tuple" "str" = some false := by decide +kernel
@[simp] theorem isi_tuple_str {x : List D} : isiD "str" (.tuple x) = some (.bool false) := by show (L2.kitB "tuple" "str").map _ = _; rw [kit_tuple_str]; rfl
theorem kit_NoneType_list : L2.kitB "NoneType" "list" = some false := by decide +kernel
@[simp] theorem isi_NoneType_list  : isiD "list" .none = some (.bool false) := by show (L2.kitB "NoneType" "list").map _ = _; rw [kit_NoneType_list]; rfl
theorem kit_bool_list : L2.kitB "bool" "list" = some false := by decide +kernel
@[simp] theorem isi_bool_list {x : Bool} : isiD "list" (.bool x) = some (.bool false) := by show (L2.kitB "bool" "list").map _ = _; rw [kit_bool_list]; rfl
theorem kit_int_list : L2.kitB "int" "list" = some false := by decide +kernel
@[simp] theorem isi_int_list {x : Int} : isiD "list" (.int x) = some (.bool false) := by show (L2.kitB "int" "list").map _ = _; rw [kit_int_list]; rfl
theorem kit_str_list : L2.kitB "str" "list" = some false := by decide +kernel
@[simp] theorem isi_str_list {x : Str} : isiD "list" (.str x) = some (.bool false) := by show (L2.kitB "str" "list").map _ = _; rw [kit_str_list]; rfl
theorem kit_list_list : L2.kitB "list" "list" = some true := by decide +kernel
@[simp] theorem isi_list_list {x : List D} : isiD "list" (.list x) = some (.bool true) := by show (L2.kitB "list" "list").map _ = _; rw [kit_list_list]; rfl
theorem kit_tuple_list : L2.kitB "tuple" "list" = some false := by decide +kernel
@[simp] theorem isi_tuple_list {x : List D} : isiD "list" (.tuple x) = some (.bool false) := by show (L2.kitB "tuple" "list").map _ = _; rw [kit_tuple_list]; rfl
theorem kit_NoneType_tuple : L2.kitB "NoneType" "tuple" = some false := by decide +kernel
@[simp] theorem isi_NoneType_tuple  : isiD "tuple" .none = some (.bool false) := by show (L2.kitB "NoneType" "tuple").map _ = _; rw [kit_NoneType_tuple]; rfl
theorem kit_bool_tuple : L2.kitB "bool" "tuple" = some false := by decide +kernel
@[simp] theorem isi_bool_tuple {x : Bool} : isiD "tuple" (.bool x) = some (.bool false) := by show (L2.kitB "bool" "tuple").map _ = _; rw [kit_bool_tuple]; rfl
theorem kit_int_tuple : L2.kitB "int" "tuple" = some false := by decide +kernel
@[simp] theorem isi_int_tuple {x : Int} : isiD "tuple" (.int x) = some (.bool false) := by show (L2.kitB "int" "tuple").map _ = _; rw [kit_int_tuple]; rfl
theorem kit_str_tuple : L2.kitB "str" "tuple" = some false := by decide +kernel
@[simp] theorem isi_str_tuple {x : Str} : isiD "tuple" (.str x) = some (.bool false) := by show (L2.kitB "str" "tuple").map _ = _; rw [kit_str_tuple]; rfl
theorem kit_list_tuple : L2.kitB "list" "tuple" = some false := by decide +kernel
@[simp] theorem isi_list_tuple {x : List D} : isiD "tuple" (.list x) = some (.bool false) := by show (L2.kitB "list" "tuple").map _ = _; rw [kit_list_tuple]; rfl
theorem kit_tuple_tuple : L2.kitB "tuple" "tuple" = some true := by decide +kernel
@[simp] theorem isi_tuple_tuple {x : List D} : isiD "tuple" (.tuple x) = some (.bool true) := by show (L2.kitB "tuple" "tuple").map _ = _; rw [kit_tuple_tuple]; rfl
@[simp] theorem lenD_t {ds : List D} : lenD [.tuple ds] = some (.int ds.length) := rfl
@[simp] theorem lenD_l {ds : List D} : lenD [.list ds] = some (.int ds.length) := rfl
@[simp] theorem lenD_s {ns : List Int} : lenD [scrD ns] = some (.int ns.length) := by show some (PyData.int ((ns.map PyData.int).length : Nat)) = _; rw [List.length_map]
@[simp] theorem tupleD_l {ds : List D} : tupleD [.list ds] = some (.tuple ds) := rfl
@[simp] theorem tupleD_t {ds : List D} : tupleD [.tuple ds] = some (.tuple ds) := rfl
@[simp] theorem listD_l {ds : List D} : listD [.list ds] = some ds := rfl
@[simp] theorem listD_t {ds : List D} : listD [.tuple ds] = some ds := rfl
/-- one statement, then the rest -/
theorem seq_to {ρ ρ' : Fr} {g h : MS} {o : Out} (h1 : g ρ = .nx ρ') (h2 : h ρ' = o) : sSeq g h ρ = o := by
  rw [sSeq_ap, h1, seq_nx]
  exact h2
end Dn

set_option Elab.async false
set_option linter.all false
set_option maxRecDepth 100000
set_option maxHeartbeats 4000000
/-! DenM: try .. except -/
namespace Dn
open PySem PySem.Spec PyProof.Rows L2

def isErr : S → Bool
  | .err _ => true
  | _ => false
def noErr (ρ : Fr) : Bool := ρ.all fun s => !isErr s
def lk (l : List (Str × Bool)) (n : Str) : Option Bool := l.lookup n
/-- isinstance(e, X), e the error that slot i holds, its class the one named n -/
def eIsE (i : Nat) (tab : List (Str × Bool)) (n : Str) : ME := fun ρ => match ρ[i]? with
  | some (.err _) => lift ((lk tab n).map .bool)
  | _ => .stuck
/-- behind the suite -/
def outE (i : Nat) : Out → Out
  | .nx ρ => if noErr (ρ.set i .none) = true then .nx (ρ.set i .none) else .stuck
  | .brk ρ => if noErr (ρ.set i .none) = true then .brk (ρ.set i .none) else .stuck
  | .cont ρ => if noErr (ρ.set i .none) = true then .cont (ρ.set i .none) else .stuck
  | .ret d ρ => if noErr (ρ.set i .none) = true then .ret d (ρ.set i .none) else .stuck
  | _ => .stuck
def sTryAs (i : Nat) (tab : List (Str × Bool)) (gb : MS) (gs : Str → MS) : MS := fun ρ => match gb ρ with
  | .exc n ρ' => match lk tab n with
    | some true => if noErr ρ' = true then outE i (gs n (ρ'.set i (.err n))) else .stuck
    | some false => .exc n ρ'
    | none => .stuck
  | o => o
def sTryOnly (tab : List (Str × Bool)) (gb : MS) (gs : MS) : MS := fun ρ => match gb ρ with
  | .exc n ρ' => match lk tab n with
    | some true => (match gs ρ' with
      | .exc _ _ => .stuck
      | o => o)
    | some false => .exc n ρ'
    | none => .stuck
  | o => o
section
variable {K : PySem.W.Frag} {L : Addr × Addr} {mg : Str → Option Value} {W : WX} {F0 H0 F H F' H' : Hp} {σ : L2.St} {ρ : Fr}
theorem Env.relL (E : Env K L F0 H0 F H σ ρ) (h : noErr ρ = true) (a : Addr) : Env K (L.1, a) F0 H0 F H σ ρ where
  st := E.st
  len := E.len
  sep := E.sep
  sl := fun i s q => by
    have z := E.sl i s q
    cases s with
    | none => trivial
    | val d => exact z
    | own o => exact z
    | pin o => exact z
    | err n =>
      unfold noErr at h
      rw [List.all_eq_true] at h
      have := h _ (List.mem_of_getElem? q)
      simp [isErr] at this
theorem noErr_set {i : Nat} (h : noErr ρ = true) (s : S) (hs : isErr s = false) : noErr (ρ.set i s) = true := by
  unfold noErr at h ⊢
  rw [List.all_eq_true] at h ⊢
  intro x hx
  rcases List.mem_or_eq_of_mem_set hx with hx | hx
  · exact h x hx
  · subst hx; simp [hs]
/-- what the clause wishes, met by the pure suite -/
theorem try_core {i : Nat} {c : Value} {tab : List (Str × Bool)} {ts : Addr → Value → Option Addr → TS} {gs : Str → MS} {D : Ends} {n : Str}
    (hx : ∀ n b C, lk tab n = some b → mg n = some (.ref C) → PySem.W.exmOne K (.ref C) c = some b)
    (hs : ∀ a n C l, lk tab n = some true → mg n = some (.ref C) → DS K (l, a) mg (fun _ _ _ _ => False) (ts a (.ref C) none) (gs n))
    (w : WO K mg W L F0 H0 F D (match lk tab n with
      | some true => if noErr ρ = true then outE i (gs n (ρ.set i (.err n))) else .stuck
      | some false => .exc n ρ
      | none => .stuck)) (E : Env K L F0 H0 F H σ ρ) : Wm mg (wAs K c i ts W D) n σ H := by
  intro C hC
  cases q : lk tab n with
  | none => rw [q] at w; exact w.elim
  | some b =>
    rw [q] at w
    refine ⟨b, hx n b C q hC, fun hb => ?_, fun hb => ?_⟩
    · subst hb
      intro a ha
      have w : WO K mg W L F0 H0 F D (if noErr ρ = true then outE i (gs n (ρ.set i (.err n))) else .stuck) := w
      split at w
      · rename_i hn
        have E1 := (E.relL hn a).setx (s := .err n) (o := some (.ref a)) rfl (show SlotR K (L.1, a) F H0 H (.err n) (some (.ref a)) from rfl) i
        refine hs a n C L.1 q hC F0 H0 F H _ _ _ E1 ?_
        have back : ∀ {F' H' : Hp} {σ' : L2.St} {ρ' : Fr}, Env K (L.1, a) F0 H0 F' H' σ' ρ' → noErr (ρ'.set i .none) = true → Env K L F0 H0 F' H' (σ'.set i none) (ρ'.set i .none) := fun {F' H' σ' ρ'} E' hn' => (E'.setn i).relL hn' L.2
        cases qg : gs n (ρ.set i (.err n)) with
        | nx ρ' =>
          rw [qg] at w
          have w : WO K mg W L F0 H0 F D (if noErr (ρ'.set i .none) = true then .nx (ρ'.set i .none) else .stuck) := w
          split at w
          · rename_i hn'
            exact fun F' H' σ' e E' => w F' H' _ e (back E' hn')
          · exact w.elim
        | brk ρ' =>
          rw [qg] at w
          have w : WO K mg W L F0 H0 F D (if noErr (ρ'.set i .none) = true then .brk (ρ'.set i .none) else .stuck) := w
          split at w
          · rename_i hn'
            exact fun F' H' σ' e E' => w F' H' _ e (back E' hn')
          · exact w.elim
        | cont ρ' =>
          rw [qg] at w
          have w : WO K mg W L F0 H0 F D (if noErr (ρ'.set i .none) = true then .cont (ρ'.set i .none) else .stuck) := w
          split at w
          · rename_i hn'
            exact fun F' H' σ' e E' => w F' H' _ e (back E' hn')
          · exact w.elim
        | ret d ρ' =>
          rw [qg] at w
          have w : WO K mg W L F0 H0 F D (if noErr (ρ'.set i .none) = true then .ret d (ρ'.set i .none) else .stuck) := w
          split at w
          · rename_i hn'
            exact fun F' H' σ' v e E' => w F' H' _ v e (back E' hn')
          · exact w.elim
        | retL ds ρ' => rw [qg] at w; exact w.elim
        | exc n ρ' => rw [qg] at w; exact w.elim
        | stuck => rw [qg] at w; exact w.elim
      · exact w.elim
    · subst hb
      exact w F H σ (Ex.refl _) E C hC
theorem ds_tryAs {i : Nat} {c : Value} {tab : List (Str × Bool)} {tb : WX → TS} {ts : Addr → Value → Option Addr → TS} {gb : MS} {gs : Str → MS}
    (hx : ∀ n b C, lk tab n = some b → mg n = some (.ref C) → PySem.W.exmOne K (.ref C) c = some b)
    (hb : ∀ W, DS K L mg W (tb W) gb)
    (hs : ∀ a n C l, lk tab n = some true → mg n = some (.ref C) → DS K (l, a) mg (fun _ _ _ _ => False) (ts a (.ref C) none) (gs n)) :
    DS K L mg W (fun D σ H => tb (wAs K c i ts W D) D σ H) (sTryAs i tab gb gs) := fun F0 H0 F H σ ρ D E w => by
  refine hb _ F0 H0 F H σ ρ D E ?_
  unfold sTryAs at w
  cases q : gb ρ with
  | exc n ρ' =>
    rw [q] at w
    exact fun F' H' σ' e E' => try_core hx hs (WO.mono e w) E'
  | nx ρ' => rw [q] at w; exact w
  | brk ρ' => rw [q] at w; exact w
  | cont ρ' => rw [q] at w; exact w
  | ret d ρ' => rw [q] at w; exact w
  | retL ds ρ' => rw [q] at w; exact w
  | stuck => rw [q] at w; exact w
theorem ds_tryOnly {c : Value} {tab : List (Str × Bool)} {tb : WX → TS} {ts : Addr → Value → Option Addr → TS} {gb : MS} {gs : MS}
    (hx : ∀ n b C, lk tab n = some b → mg n = some (.ref C) → PySem.W.exmOne K (.ref C) c = some b)
    (hb : ∀ W, DS K L mg W (tb W) gb)
    (hs : ∀ a n C, mg n = some (.ref C) → DS K L mg (fun _ _ _ _ => False) (ts a (.ref C) none) gs) :
    DS K L mg W (fun D σ H => tb (wOnly K c ts W D) D σ H) (sTryOnly tab gb gs) := fun F0 H0 F H σ ρ D E w => by
  refine hb _ F0 H0 F H σ ρ D E ?_
  unfold sTryOnly at w
  cases q : gb ρ with
  | exc n ρ' =>
    rw [q] at w
    intro F' H' σ' e E' C hC
    have w : WO K mg W L F0 H0 F' D (match lk tab n with
    | some true => (match gs ρ' with
      | .exc _ _ => .stuck
      | o => o)
    | some false => .exc n ρ'
    | none => .stuck) := WO.mono e w
    cases ql : lk tab n with
    | none => rw [ql] at w; exact w.elim
    | some b =>
      rw [ql] at w
      refine ⟨b, hx n b C ql hC, fun hb => ?_, fun hb => ?_⟩
      · subst hb
        intro a ha
        refine hs a n C hC F0 H0 F' H' σ' ρ' _ E' ?_
        have w : WO K mg W L F0 H0 F' D (match gs ρ' with | .exc _ _ => .stuck | o => o) := w
        cases qg : gs ρ' with
        | exc n ρ'' => rw [qg] at w; exact w.elim
        | nx ρ'' => rw [qg] at w; exact w
        | brk ρ'' => rw [qg] at w; exact w
        | cont ρ'' => rw [qg] at w; exact w
        | ret d ρ'' => rw [qg] at w; exact w
        | retL ds ρ'' => rw [qg] at w; exact w
        | stuck => rw [qg] at w; exact w
      · subst hb
        have w : WO K mg W L F0 H0 F' D (.exc n ρ') := w
        exact w F' H' σ' (Ex.refl _) E' C hC
  | nx ρ' => rw [q] at w; exact w
  | brk ρ' => rw [q] at w; exact w
  | cont ρ' => rw [q] at w; exact w
  | ret d ρ' => rw [q] at w; exact w
  | retL ds ρ' => rw [q] at w; exact w
  | stuck => rw [q] at w; exact w
/-- isinstance(e, c) in the suite -/
def rIsX (K : PySem.W.Frag) (cls : Value) (d : Option Addr) (a : Addr) : List V → Hp → VK → Prop := fun xs H Q => ∃ D, cls = .ref D ∧ d = none ∧ ExcC K D ∧ rIsE K D a xs H Q
theorem call_isX {X : Cx} {a : Addr} {cls : Value} {d : Option Addr} {oe : Obj} {pn : List (Addr × Obj)} (hz : Zc cls d oe) (hf : ∃ vs, oe.data = .fields vs) (h : X.K = K := by rfl) : CallR (X.suite a ((a, oe) :: pn)) (.builtin "isinstance") (rIsX K cls d a) := by
  subst h
  intro pins s σ H xs us Q I r q
  obtain ⟨D, rfl, rfl, C, q⟩ := q
  exact call_isE C hz hf pins s σ H xs us Q I r q
theorem df_isX {i : Nat} {tab : List (Str × Bool)} {n : Str} {C : Addr} {a l : Addr} {c : V} {cv : Value} (hC : ExcC K C) (hc : ∀ u, L2.RelV c u → u = cv)
    (hk : ∀ b, lk tab n = some b → PySem.W.kitOne K (.ref C) cv = some b) : DF K (l, a) mg W (tCB (rIsX K (.ref C) none a) (tCons (tVar i) (tCons (tC c) tNil))) (eIsE i tab n) := fun F0 H0 F H σ ρ Q E p => by
  unfold eIsE at p
  split at p
  · rename_i m q
    obtain ⟨z, ez, k⟩ := post_lift p
    cases qb : lk tab n with
    | none => rw [qb] at ez; cases ez
    | some b =>
      rw [qb] at ez
      cases ez
      have e := join_some (E.sl i _ q)
      exact ⟨_, e, C, rfl, rfl, hC, c, cv, b, rfl, hc, hk b qb, k F H _ (Step.refl E.st.fh) (.bl b)⟩
  · exact p.elim
end
end Dn

set_option Elab.async false
set_option linter.all false
set_option maxRecDepth 100000
set_option maxHeartbeats 4000000
/-! DenN: what the classes of a law's errors say -/
namespace Dn
open PySem PySem.Spec PyProof.Rows L2
theorem pssId {X : Cx} {body : List Stmt} {t' : TS} (t : TS) (h : PSs X body t) (e : t = t') : PSs X body t' := e ▸ h
theorem boot_ValueError : bootBuiltins "ValueError" = some (.type "ValueError") := by decide +kernel
theorem bmK {X : Cx} {K : PySem.W.Frag} {e : Expr} {T : String} {r : V → List V → Hp → VK → Prop} {to : TE} {t : TA} (p : PE X e (tBM X.K T r to t)) (h : X.K = K := by rfl) : PE X e (tBM K T r to t) := h ▸ p
theorem bm0K {X : Cx} {K : PySem.W.Frag} {e : Expr} {T : String} {r : V → List V → Hp → VK → Prop} {to : TE} (p : PE X e (tBM0 X.K T r to)) (h : X.K = K := by rfl) : PE X e (tBM0 K T r to) := h ▸ p
structure ClsF (K : PySem.W.Frag) (C : Addr) : Prop where
  x : ExcC K C
  t : PySem.W.typeIn K (.ref C) = some (.type "type")
  s : PySem.W.subIn K (.ref C) (.ref C) = some true
/-- an own class by its name -/
def ClsAt (K : PySem.W.Frag) (mg : Str → Option Value) (n : Str) : Prop := ∃ C, mg n = some (.ref C) ∧ ClsF K C
/-- the class named n is below the class named m, or it is not -/
def Below (K : PySem.W.Frag) (mg : Str → Option Value) (n m : Str) (b : Bool) : Prop := ∀ C D, mg n = some (.ref C) → mg m = some (.ref D) → PySem.W.subIn K (.ref C) (.ref D) = some b
def BelowT (K : PySem.W.Frag) (mg : Str → Option Value) (n : Str) (T : String) (b : Bool) : Prop := ∀ C, mg n = some (.ref C) → PySem.W.subIn K (.ref C) (.type T) = some b
/-- all of a table -/
def Tab (K : PySem.W.Frag) (mg : Str → Option Value) (m : Str) (tab : List (Str × Bool)) : Prop := ∀ n b, lk tab n = some b → Below K mg n m b
/-- the classes of a table -/
def Cls (K : PySem.W.Frag) (mg : Str → Option Value) (tab : List (Str × Bool)) : Prop := ∀ n b C, lk tab n = some b → mg n = some (.ref C) → ClsF K C
def TabT (K : PySem.W.Frag) (mg : Str → Option Value) (T : String) (tab : List (Str × Bool)) : Prop := ∀ n b, lk tab n = some b → BelowT K mg n T b
section
variable {K : PySem.W.Frag} {mg : Str → Option Value} {m : Str} {T : String} {tab : List (Str × Bool)}
theorem tab_nil : Tab K mg m [] := fun n b h => nomatch h
theorem tab_cons {n0 : Str} {b0 : Bool} (h : Below K mg n0 m b0) (r : Tab K mg m tab) : Tab K mg m ((n0, b0) :: tab) := fun n b e => by
  unfold lk at e
  rw [List.lookup_cons] at e
  split at e
  · rename_i q
    have : n = n0 := by simpa using q
    subst this
    cases e
    exact h
  · exact r n b e
theorem cls_nil : Cls K mg [] := fun n b C h => nomatch h
theorem cls_cons {n0 : Str} {b0 : Bool} (h : ClsAt K mg n0) (r : Cls K mg tab) : Cls K mg ((n0, b0) :: tab) := fun n b C e hn => by
  unfold lk at e
  rw [List.lookup_cons] at e
  split at e
  · rename_i q
    have : n = n0 := by simpa using q
    subst this
    obtain ⟨D, hD, F⟩ := h
    rw [hD] at hn
    cases hn
    exact F
  · exact r n b C e hn
theorem tabT_nil : TabT K mg T [] := fun n b h => nomatch h
theorem tabT_cons {n0 : Str} {b0 : Bool} (h : BelowT K mg n0 T b0) (r : TabT K mg T tab) : TabT K mg T ((n0, b0) :: tab) := fun n b e => by
  unfold lk at e
  rw [List.lookup_cons] at e
  split at e
  · rename_i q
    have : n = n0 := by simpa using q
    subst this
    cases e
    exact h
  · exact r n b e
theorem exm_at {n : Str} {b : Bool} {C D : Addr} (F : ClsF K D) (hm : mg m = some (.ref D)) (t : Tab K mg m tab) (e : lk tab n = some b) (hn : mg n = some (.ref C)) : PySem.W.exmOne K (.ref C) (.ref D) = some b :=
  PySem.W.exm_ref F.x.hs F.x.hd F.t (t n b e C D hn hm)
theorem kit_at {n : Str} {b : Bool} {C D : Addr} (F : ClsF K D) (hm : mg m = some (.ref D)) (t : Tab K mg m tab) (e : lk tab n = some b) (hn : mg n = some (.ref C)) : PySem.W.kitOne K (.ref C) (.ref D) = some b := by
  have h4 := t n b e C D hn hm
  obtain ⟨cd, hc, _⟩ := PySem.W.any_some F.x.hd
  have e2 : ((PySem.W.clsIn K D).isSome && PySem.W.typeIn K (.ref D) == some (.type "type")) = true := by rw [hc, F.t] <;> rfl
  unfold PySem.W.kitOne
  split
  · rename_i q
    have q : Value.ref C = Value.ref D := beq_iff_eq.mp q
    cases q
    rw [F.s] at h4
    exact h4
  · show (if _ then _ else none) = _
    rw [if_pos e2]
    exact h4
theorem kitT_at {n : Str} {b : Bool} {C : Addr} (hT : PySem.W.kitMeta T = true) (t : TabT K mg T tab) (e : lk tab n = some b) (hn : mg n = some (.ref C)) : PySem.W.kitOne K (.ref C) (.type T) = some b := by
  have h4 := t n b e C hn
  unfold PySem.W.kitOne
  rw [if_neg (by intro q; cases (beq_iff_eq.mp q))]
  show (if PySem.W.kitMeta T = true then PySem.W.subIn K (.ref C) (.type T) else none) = _
  rw [if_pos hT]
  exact h4
theorem sub_mk {h : Heap} {n : Str} {C0 D0 : Addr} {b : Bool} (X : K.In h) (G : h.Ns mainGlobals mg) (a : PySem.W.nsIn K mainGlobals n = some (some (.ref C0))) (c : PySem.W.nsIn K mainGlobals m = some (some (.ref D0)))
    (s : PySem.W.subIn K (.ref C0) (.ref D0) = some b) : Below K mg n m b := fun C D hn hm => by
  have e := hn.symm.trans (PySem.W.mg_of X G a)
  cases e
  have e := hm.symm.trans (PySem.W.mg_of X G c)
  cases e
  exact s
theorem subT_mk {h : Heap} {n : Str} {C0 : Addr} {b : Bool} (X : K.In h) (G : h.Ns mainGlobals mg) (a : PySem.W.nsIn K mainGlobals n = some (some (.ref C0)))
    (s : PySem.W.subIn K (.ref C0) (.type T) = some b) : BelowT K mg n T b := fun C hn => by
  have e := hn.symm.trans (PySem.W.mg_of X G a)
  cases e
  exact s
theorem cls_mk {h : Heap} {n : Str} {C : Addr} (X : K.In h) (G : h.Ns mainGlobals mg) (a : PySem.W.nsIn K mainGlobals n = some (some (.ref C)))
    (hg : PySem.W.findIn K (.ref C) "__getattribute__" = some (some (.builtin "BaseException.__getattribute__")))
    (hk : PySem.W.findIn K (.ref C) "__getattr__" = some none)
    (hs : PySem.W.subIn K (.ref C) (.type "BaseException") = some true)
    (hd : PySem.W.hasDictIn K C = true)
    (ha : PySem.W.findIn K (.ref C) "__class__" = some (some (.builtin "object.__class__")))
    (hn : PySem.W.specialIn K (.builtin "object.__class__") "__get__" = some (some (.builtin "getset_descriptor.__get__")))
    (ht : PySem.W.takesIn K (.builtin "object.__class__") = some true)
    (hm : PySem.W.mroIn K C (.type "object") = some true)
    (t : PySem.W.typeIn K (.ref C) = some (.type "type"))
    (s : PySem.W.subIn K (.ref C) (.ref C) = some true) : ClsAt K mg n := ⟨C, PySem.W.mg_of X G a, ⟨hg, hk, hs, hd, ha, hn, ht, hm⟩, t, s⟩
/-- isinstance(e, X) for the own class X -/
theorem df_isC {W : WX} {i : Nat} {n : Str} {C D a l : Addr} (hC : ClsF K C) (hn : mg n = some (.ref C)) (F : ClsF K D) (hm : mg m = some (.ref D)) (t : Tab K mg m tab) :
    DF K (l, a) mg W (tCB (rIsX K (.ref C) none a) (tCons (tVar i) (tCons (tC (.ref D)) tNil))) (eIsE i tab n) :=
  df_isX (cv := .ref D) hC.x (fun _ r => r) fun b e => kit_at F hm t e hn
theorem df_isTy {W : WX} {i : Nat} {n : Str} {C a l : Addr} (hC : ClsF K C) (hn : mg n = some (.ref C)) (hT : PySem.W.kitMeta T = true) (t : TabT K mg T tab) :
    DF K (l, a) mg W (tCB (rIsX K (.ref C) none a) (tCons (tVar i) (tCons (tC (.ty T)) tNil))) (eIsE i tab n) :=
  df_isX (cv := .type T) hC.x (fun _ r => r) fun b e => kitT_at hT t e hn
end
end Dn

set_option Elab.async false
set_option linter.all false
set_option maxRecDepth 100000
set_option maxHeartbeats 4000000
/-! DenO: the pure layer made plain, second part -/
namespace Dn
open PySem L2
/-! ### equality of data that stand for plain things -/
structure Gr {α : Type} [DecidableEq α] (n : Nat) (f : α → D) : Prop where
  can : ∀ a, (f a).canLay0 = true
  dep : ∀ a, (f a).depth ≤ n
  eqv : ∀ a b, PyData.eqv (f a) (f b) = decide (a = b)
section
variable {α β : Type} [DecidableEq α] [DecidableEq β] {n m : Nat} {f : α → D} {g : β → D}
theorem gr_int : Gr 0 PyData.int := ⟨fun _ => by simp [PyData.canLay0], fun _ => by simp [PyData.depth], fun a b => by simp only [PyData.eqv]; exact (Bool.beq_eq_decide_eq a b)⟩
theorem gr_bool : Gr 0 PyData.bool := ⟨fun _ => by simp [PyData.canLay0], fun _ => by simp [PyData.depth], fun a b => by simp only [PyData.eqv]; exact (Bool.beq_eq_decide_eq a b)⟩
theorem Gr.canAll (G : Gr n f) : ∀ xs : List α, PyData.canLayAll0 (xs.map f) = true
  | [] => by simp [PyData.canLayAll0]
  | x :: xs => by rw [List.map_cons]; simp [PyData.canLayAll0, G.can x, G.canAll xs]
theorem Gr.depAll (G : Gr n f) : ∀ xs : List α, PyData.depthAll (xs.map f) ≤ n
  | [] => by simp [PyData.depthAll]
  | x :: xs => by
    rw [List.map_cons]
    have h1 := G.dep x
    have h2 := G.depAll xs
    simp only [PyData.depthAll]
    omega
theorem Gr.eqAll (G : Gr n f) : ∀ xs ys : List α, PyData.eqvAll (xs.map f) (ys.map f) = decide (xs = ys)
  | [], [] => by simp [PyData.eqvAll]
  | x :: xs, y :: ys => by
    rw [List.map_cons, List.map_cons]
    simp only [PyData.eqvAll, G.eqv x y, G.eqAll xs ys]
    by_cases h1 : x = y <;> by_cases h2 : xs = ys <;> simp [h1, h2]
  | [], _ :: _ => by simp [PyData.eqvAll]
  | _ :: _, [] => by simp [PyData.eqvAll]
theorem gr_list (G : Gr n f) : Gr (n + 1) (fun xs : List α => PyData.list (xs.map f)) :=
  ⟨fun xs => by simp only [PyData.canLay0]; exact G.canAll xs, fun xs => by simp only [PyData.depth]; have := G.depAll xs; omega, fun xs ys => by simp only [PyData.eqv]; exact G.eqAll xs ys⟩
theorem gr_tup (G : Gr n f) : Gr (n + 1) (fun xs : List α => PyData.tuple (xs.map f)) :=
  ⟨fun xs => by simp only [PyData.canLay0]; exact G.canAll xs, fun xs => by simp only [PyData.depth]; have := G.depAll xs; omega, fun xs ys => by simp only [PyData.eqv]; exact G.eqAll xs ys⟩
theorem gr_pair (F : Gr n f) (G : Gr m g) : Gr (max n m + 1) (fun p : α × β => PyData.tuple [f p.1, g p.2]) :=
  ⟨fun p => by simp [PyData.canLay0, PyData.canLayAll0, F.can, G.can], fun p => by
    have h1 := F.dep p.1
    have h2 := G.dep p.2
    simp only [PyData.depth, PyData.depthAll]
    omega, fun p q => by
    simp only [PyData.eqv, PyData.eqvAll, F.eqv, G.eqv]
    obtain ⟨a, b⟩ := p
    obtain ⟨c, d⟩ := q
    by_cases h1 : a = c <;> by_cases h2 : b = d <;> simp [h1, h2]⟩
theorem Gr.shaped (G : Gr n f) (h : n ≤ 64) (a : α) : SeqAt.shaped (f a) = true := by
  unfold SeqAt.shaped
  rw [G.can a, Bool.true_and, decide_eq_true_eq]
  exact Nat.le_trans (G.dep a) h
theorem eqD_l (G : Gr n f) (h : n ≤ 63) (xs ys : List α) : eqD (.list (xs.map f)) (.list (ys.map f)) = some (.bool (decide (xs = ys))) := by
  have e : eqB (.list (xs.map f)) (.list (ys.map f)) = if SeqAt.shaped (.list (xs.map f)) && SeqAt.shaped (.list (ys.map f)) then some (PyData.eqv (.list (xs.map f)) (.list (ys.map f))) else none := rfl
  unfold eqD
  rw [e, (gr_list G).shaped (by omega) xs, (gr_list G).shaped (by omega) ys, (gr_list G).eqv xs ys]
  rfl
theorem eqD_t (G : Gr n f) (h : n ≤ 63) (xs ys : List α) : eqD (.tuple (xs.map f)) (.tuple (ys.map f)) = some (.bool (decide (xs = ys))) := by
  have e : eqB (.tuple (xs.map f)) (.tuple (ys.map f)) = if SeqAt.shaped (.tuple (xs.map f)) && SeqAt.shaped (.tuple (ys.map f)) then some (PyData.eqv (.tuple (xs.map f)) (.tuple (ys.map f))) else none := rfl
  unfold eqD
  rw [e, (gr_tup G).shaped (by omega) xs, (gr_tup G).shaped (by omega) ys, (gr_tup G).eqv xs ys]
  rfl
theorem neD_of {d e : D} {b : Bool} (h : eqD d e = some (.bool b)) : neD d e = some (.bool (!b)) := by
  unfold eqD at h
  unfold neD
  cases q : eqB d e with
  | none => rw [q] at h; cases h
  | some c => rw [q] at h; cases h; rfl
theorem neD_l (G : Gr n f) (h : n ≤ 63) (xs ys : List α) : neD (.list (xs.map f)) (.list (ys.map f)) = some (.bool (!decide (xs = ys))) := neD_of (eqD_l G h xs ys)
theorem neD_t (G : Gr n f) (h : n ≤ 63) (xs ys : List α) : neD (.tuple (xs.map f)) (.tuple (ys.map f)) = some (.bool (!decide (xs = ys))) := neD_of (eqD_t G h xs ys)
end
@[simp] theorem eqD_il {xs ys : List Int} : eqD (.list (xs.map .int)) (.list (ys.map .int)) = some (.bool (decide (xs = ys))) := eqD_l gr_int (by decide) xs ys
@[simp] theorem neD_il {xs ys : List Int} : neD (.list (xs.map .int)) (.list (ys.map .int)) = some (.bool (!decide (xs = ys))) := neD_l gr_int (by decide) xs ys
@[simp] theorem eqD_it {xs ys : List Int} : eqD (.tuple (xs.map .int)) (.tuple (ys.map .int)) = some (.bool (decide (xs = ys))) := eqD_t gr_int (by decide) xs ys
@[simp] theorem neD_it {xs ys : List Int} : neD (.tuple (xs.map .int)) (.tuple (ys.map .int)) = some (.bool (!decide (xs = ys))) := neD_t gr_int (by decide) xs ys
/-! ### statements -/
def retO : Option S → Fr → Nat → Out
  | some (.own (.lst ds)), ρ, i => .retL ds (ρ.set i .none)
  | _, _, _ => .stuck
@[simp] theorem retO_own {ds : List D} {ρ : Fr} {i : Nat} : retO (some (.own (.lst ds))) ρ i = .retL ds (ρ.set i .none) := rfl
@[simp] theorem sRetO_ap {ρ : Fr} {i : Nat} : sRetO i ρ = retO ρ[i]? ρ i := by
  unfold sRetO retO
  cases ρ[i]? with
  | none => rfl
  | some s => cases s with
    | own o => cases o <;> rfl
    | _ => rfl
def resM (m : M (List D × D)) (k : List D × D → Out) : Out := match m with
  | .ok r => k r
  | _ => .stuck
@[simp] theorem resM_ok {r : List D × D} {k : List D × D → Out} : resM (.ok r) k = k r := rfl
@[simp] theorem sCallM_ap {i : Nat} {f : List D → M (List D × D)} {as : ML} {k : D → Fr → Out} {ρ : Fr} : sCallM i f as k ρ = Out.ofO (ownAt i ρ) fun _ => Out.of (as ρ) ρ fun ds => resM (f ds) fun r => k r.2 (putL i r.1 ρ) := rfl
@[simp] theorem noX_ok {α : Type} {x : α} : noX (M.ok x) = .ok x := rfl
@[simp] theorem eCallT_ap {f : List D → M (List D × D)} {as : ML} {ρ : Fr} : eCallT f as ρ = (as ρ).bind fun ds => (noX (f ds)).bind fun r => .ok r.2 := rfl
def isEr : Option S → M D → M D
  | some (.err _), m => m
  | _, _ => .stuck
@[simp] theorem isEr_err {n : Str} {m : M D} : isEr (some (.err n)) m = m := rfl
@[simp] theorem eIsE_ap {i : Nat} {tab : List (Str × Bool)} {n : Str} {ρ : Fr} : eIsE i tab n ρ = isEr ρ[i]? (lift ((lk tab n).map .bool)) := by
  unfold eIsE isEr
  cases ρ[i]? with
  | none => rfl
  | some s => cases s <;> rfl
/-- the exception or the rest -/
def onExc (o : Out) (h : Str → Fr → Out) : Out := match o with
  | .exc n ρ => h n ρ
  | o => o
@[simp] theorem onExc_exc {n : Str} {ρ : Fr} {h : Str → Fr → Out} : onExc (.exc n ρ) h = h n ρ := rfl
@[simp] theorem onExc_nx {ρ : Fr} {h : Str → Fr → Out} : onExc (.nx ρ) h = .nx ρ := rfl
@[simp] theorem onExc_ret {ρ : Fr} {d : D} {h : Str → Fr → Out} : onExc (.ret d ρ) h = .ret d ρ := rfl
def hitE (o : Option Bool) (a b : Out) : Out := match o with
  | some true => a
  | some false => b
  | none => .stuck
@[simp] theorem hitE_t {a b : Out} : hitE (some true) a b = a := rfl
@[simp] theorem hitE_f {a b : Out} : hitE (some false) a b = b := rfl
@[simp] theorem sTryAs_ap {i : Nat} {tab : List (Str × Bool)} {gb : MS} {gs : Str → MS} {ρ : Fr} : sTryAs i tab gb gs ρ = onExc (gb ρ) fun n ρ' => hitE (lk tab n) (if noErr ρ' = true then outE i (gs n (ρ'.set i (.err n))) else .stuck) (.exc n ρ') := by
  unfold sTryAs onExc hitE
  cases gb ρ with
  | exc n ρ' => cases q : lk tab n with
    | none => simp [q]
    | some b => cases b <;> simp [q]
  | _ => rfl
def calm (o : Out) : Out := match o with
  | .exc _ _ => .stuck
  | o => o
@[simp] theorem calm_nx {ρ : Fr} : calm (.nx ρ) = .nx ρ := rfl
@[simp] theorem calm_ret {ρ : Fr} {d : D} : calm (.ret d ρ) = .ret d ρ := rfl
@[simp] theorem sTryOnly_ap {tab : List (Str × Bool)} {gb gs : MS} {ρ : Fr} : sTryOnly tab gb gs ρ = onExc (gb ρ) fun n ρ' => hitE (lk tab n) (calm (gs ρ')) (.exc n ρ') := by
  unfold sTryOnly onExc hitE
  cases gb ρ with
  | exc n ρ' => cases q : lk tab n with
    | none => simp [q]
    | some b => cases b <;> simp [q, calm] <;> cases gs ρ' <;> rfl
  | _ => rfl
@[simp] theorem outE_nx {i : Nat} {ρ : Fr} : outE i (.nx ρ) = if noErr (ρ.set i .none) = true then .nx (ρ.set i .none) else .stuck := rfl
@[simp] theorem outE_ret {i : Nat} {ρ : Fr} {d : D} : outE i (.ret d ρ) = if noErr (ρ.set i .none) = true then .ret d (ρ.set i .none) else .stuck := rfl
@[simp] theorem noErr_nil : noErr [] = true := rfl
@[simp] theorem noErr_cons {s : S} {ρ : Fr} : noErr (s :: ρ) = (!isErr s && noErr ρ) := rfl
@[simp] theorem isErr_none : isErr .none = false := rfl
@[simp] theorem isErr_val {d : D} : isErr (.val d) = false := rfl
@[simp] theorem isErr_own {d : OD} : isErr (.own d) = false := rfl
@[simp] theorem isErr_pin {d : OD} : isErr (.pin d) = false := rfl
@[simp] theorem isErr_err {n : Str} : isErr (.err n) = true := rfl
/-! ### slices -/
@[simp] theorem slD_l {ds : List D} {lo hi : Option Int} : slD (.list ds) lo hi = some (.list (cutL ds lo hi)) := Eq.trans rfl rfl
@[simp] theorem slD_t {ds : List D} {lo hi : Option Int} : slD (.tuple ds) lo hi = some (.tuple (cutL ds lo hi)) := Eq.trans rfl rfl
@[simp] theorem slD_s {ns : List Int} {lo hi : Option Int} : slD (scrD ns) lo hi = some (.list (cutL (ns.map .int) lo hi)) := Eq.trans rfl rfl
@[simp] theorem slLD_l {ds : List D} {lo hi : Option Int} : slLD (.list ds) lo hi = some (cutL ds lo hi) := rfl
@[simp] theorem slLD_s {ns : List Int} {lo hi : Option Int} : slLD (scrD ns) lo hi = some (cutL (ns.map .int) lo hi) := rfl
theorem cutL_from {α : Type} (xs : List α) (k : Nat) : cutL xs (some (k : Int)) none = xs.drop k := by
  unfold cutL
  have e : HT.sIx xs.length xs.length none = xs.length := by unfold HT.sIx; rfl
  have e2 : HT.sIx xs.length 0 (some (k : Int)) = min k xs.length := by
    unfold HT.sIx
    simp
    try omega
  rw [e, e2]
  by_cases h : k ≤ xs.length
  · rw [Nat.min_eq_left h, List.take_of_length_le]
    simp
  · rw [Nat.min_eq_right (by omega), List.drop_eq_nil_of_le (by omega), List.drop_eq_nil_of_le (by omega), List.take_nil]
/-! ### what changes lists -/
@[simp] theorem appM_ok {ds : List D} {e : D} (h : ds.length < 16777216) : appM ds [e] = some (ds ++ [e], .none) := if_pos (show ds.length < sizeLine from h)
@[simp] theorem extM_ok {ds es : List D} (h : ds.length + es.length ≤ 16777216) : extM ds [.list es] = some (ds ++ es, .none) := if_pos (show ds.length + es.length ≤ sizeLine from h)
theorem insM_ok {ds : List D} {i : Int} {y : D} (h : ds.length < 16777216) (h0 : 0 ≤ i) (h1 : i ≤ 1000000000) : insM ds [.int i, y] = some (ds.take i.toNat ++ [y] ++ ds.drop i.toNat, .none) := if_pos ⟨h, h0, in63 (by omega)⟩
theorem popAtM_ok {ds : List D} {i : Nat} (h : i < ds.length) (h1 : i ≤ 1000000000) : popAtM ds [.int (i : Int)] = some (ds.eraseIdx i, ds[i]) := by
  unfold popAtM
  refine (if_pos (in63 (by omega))).trans ?_
  have e : seqIndex? (i : Int) ds.length = some i := by
    unfold seqIndex?
    simp
    omega
  rw [e]
  simp [List.getElem?_eq_getElem h]
@[simp] theorem mulD_rep {ds : List D} {k : Nat} (h : ds.length * k ≤ 16777216) (h1 : k ≤ 1000000000) : mulD (.list ds) (.int (k : Int)) = some (.list (List.replicate k ds).flatten) := by
  refine (if_pos ⟨in63 (by omega), by rw [show ((k : Int)).toNat = k from rfl]; exact h⟩).trans ?_
  simp
@[simp] theorem addD_l {a b : List D} (h : a.length + b.length ≤ 16777216) : addD (.list a) (.list b) = some (.list (a ++ b)) := if_pos (show _ ≤ sizeLine from h)
@[simp] theorem addD_t {a b : List D} (h : a.length + b.length ≤ 16777216) : addD (.tuple a) (.tuple b) = some (.tuple (a ++ b)) := if_pos (show _ ≤ sizeLine from h)
theorem powD_ok {i j : Int} (h0 : 0 ≤ j) (h1 : j ≤ 1000000) (h2 : i.natAbs < 2 ^ 64) : powD (.int i) (.int j) = some (.int (i ^ j.toNat)) := if_pos ⟨h0, h1, h2⟩
theorem atI_nat {α : Type} {xs : List α} {i : Int} (h0 : 0 ≤ i) (h : i < xs.length) : atI xs i = xs[i.toNat]? := by
  unfold atI ixN
  rw [if_pos h0, if_pos h]
  rfl
theorem ixD_il {ms : List Int} {i : Int} {v : Int} (h0 : 0 ≤ i) (h : ms[i.toNat]? = some v) : ixD (.list (ms.map .int)) (.int i) = some (.int v) := by
  have hl : i.toNat < ms.length := (List.getElem?_eq_some_iff.mp h).1
  show atI (ms.map PyData.int) i = _
  rw [atI_nat h0 (by rw [List.length_map]; omega), List.getElem?_map, h]
  rfl
theorem ixD_it {ms : List Int} {i : Int} {v : Int} (h0 : 0 ≤ i) (h : ms[i.toNat]? = some v) : ixD (.tuple (ms.map .int)) (.int i) = some (.int v) := by
  have hl : i.toNat < ms.length := (List.getElem?_eq_some_iff.mp h).1
  show atI (ms.map PyData.int) i = _
  rw [atI_nat h0 (by rw [List.length_map]; omega), List.getElem?_map, h]
  rfl
theorem ixD_is {ms : List Int} {i : Int} {v : Int} (h0 : 0 ≤ i) (h : ms[i.toNat]? = some v) : ixD (scrD ms) (.int i) = some (.int v) := by
  have hl : i.toNat < ms.length := (List.getElem?_eq_some_iff.mp h).1
  show atI (ms.map PyData.int) i = _
  rw [atI_nat h0 (by rw [List.length_map]; omega), List.getElem?_map, h]
  rfl
theorem setL_int {ms : List Int} {i : Int} {v : Int} (h0 : 0 ≤ i) (h : i < ms.length) : setL (ms.map .int) (.int i) (.int v) = some ((ms.set i.toNat v).map .int) := by
  unfold setL
  simp [ixN, h0, h, List.map_set]
end Dn

set_option Elab.async false
set_option linter.all false
set_option maxRecDepth 100000
set_option maxHeartbeats 4000000
/-! DenP: the pure layer made plain, third part: while -/
namespace Dn
open PySem L2
theorem fuel_is : fuel = 1000000 := by unfold fuel; rfl
theorem loopWhile_inv {tf : MT} {g : MS} {Post : Out → Prop} (I : Nat → Fr → Prop)
    (hs : ∀ m ρ, I m ρ → (tf ρ = .ok false ∧ Post (.nx ρ)) ∨ (tf ρ = .ok true ∧ Turn' Post (fun ρ' => ∃ m', m' < m ∧ I m' ρ') (g ρ))) : ∀ (n m : Nat) (ρ : Fr), m < n → I m ρ → Post (loopWhile tf g n ρ)
  | 0, m, ρ, h, _ => by omega
  | n + 1, m, ρ, h, hi => by
    unfold loopWhile
    rcases hs m ρ hi with ⟨e, p⟩ | ⟨e, p⟩
    · rw [e]
      exact p
    · rw [e]
      rw [of_ok, if_pos rfl]
      cases q : g ρ with
      | nx ρ' => rw [q] at p; obtain ⟨m', hm, hi'⟩ := p; exact loopWhile_inv I hs n m' ρ' (by omega) hi'
      | cont ρ' => rw [q] at p; obtain ⟨m', hm, hi'⟩ := p; exact loopWhile_inv I hs n m' ρ' (by omega) hi'
      | brk ρ' => rw [q] at p; exact p
      | ret d ρ => rw [q] at p; exact p
      | retL d ρ => rw [q] at p; exact p
      | exc n ρ => rw [q] at p; exact p
      | stuck => rw [q] at p; exact p
/-- while, by an invariant that tells how many turns are left at most -/
theorem while_inv {tf : MT} {g : MS} {Post : Out → Prop} {ρ : Fr} (I : Nat → Fr → Prop) (m : Nat) (h0 : I m ρ) (hm : m < 1000000)
    (hs : ∀ m ρ, I m ρ → (tf ρ = .ok false ∧ Post (.nx ρ)) ∨ (tf ρ = .ok true ∧ Turn' Post (fun ρ' => ∃ m', m' < m ∧ I m' ρ') (g ρ))) : Post (sWhile tf g ρ) :=
  loopWhile_inv I hs fuel m ρ (by rw [fuel_is]; exact hm) h0
end Dn

set_option Elab.async false
set_option linter.all false
set_option maxRecDepth 100000
set_option maxHeartbeats 4000000
/-! DenQ: errors that are kept behind the suite; isinstance of such -/
namespace Dn
open PySem PySem.Spec PyProof.Rows L2

/-! ### an object of ours that no one tracked is tracked from here on -/
section
variable {X : Cx} {pins : List (Addr × Obj)} {σ : L2.St} {H : Hp} {s : Shared}
theorem inv_track {a : Addr} {o : HO} (I : Inv X pins σ H s) (hn : H a = none) (n0 : X.s_0.heap.get? a = none) (hL : a ≠ X.env.locals) (hc : ∀ x c, X.env.cells.lookup x = some c → c ≠ a) (hp : ∀ p ∈ X.pn ++ pins, p.1 ≠ a)
    (new : ObjOk X.prog X.w (upd H a o) s.heap a o) : Inv X pins σ (upd H a o) s := by
  have ne0 : ∀ b u, X.s_0.heap.get? b = some u → b ≠ a := fun b u e z => by rw [z, n0] at e; cases e
  refine ⟨I.ok, I.os, I.bare, ⟨I.base.keep, I.base.slot, fun b u e n hx => ?_, I.base.there, fun b xs q => ?_, fun b u xs q => ?_, fun b ps q => ?_⟩, I.loc, I.cell, ?_, fun x c e => ?_, fun p h => ?_, I.hok.laidN (fun _ _ q => q) hn new, I.len⟩
  · rw [upd_ne (ne0 b u e)]; exact I.base.free b u e n hx
  · have z := I.base.tups b xs q
    rw [upd_ne (ne_of_none z hn)]; exact z
  · have z := I.base.frzs b u xs q
    rw [upd_ne (ne_of_none z hn)]; exact z
  · obtain ⟨m, z⟩ := I.base.tbls b ps q
    exact ⟨m, by rw [upd_ne (ne_of_none z hn)]; exact z⟩
  · rw [upd_ne (Ne.symm hL)]; exact I.free
  · rw [upd_ne (hc x c e)]; exact I.freeC x c e
  · obtain ⟨e, n, ne, nf, d⟩ := I.pin p h
    exact ⟨e, by rw [upd_ne (hp p h)]; exact n, ne, nf, d⟩
end
/-- the error's object, as what is known of it -/
def ExV (cls : Value) (d : Option Addr) (a : Addr) : HO := .ext fun h => ∃ (oe : Obj) (vs : Array Value), h.get? a = some oe ∧ Zc cls d oe ∧ oe.data = .fields vs
theorem exV_ok {P : Program} {w : World} {H : Hp} {h : Heap} {a : Addr} {cls : Value} {d : Option Addr} {oe : Obj} (e : h.get? a = some oe) (z : Zc cls d oe) (hd : ∃ vs, oe.data = .fields vs) : ObjOk P w H h a (ExV cls d a) := by
  obtain ⟨vs, hd⟩ := hd
  exact ⟨⟨oe, vs, e, z, hd⟩, ⟨oe, e⟩, fun _ _ ⟨o, v, q, r⟩ k => ⟨o, v, k o q, r⟩⟩
/-- as wAs, the error being tracked behind the suite -/
def wAsK (K : PySem.W.Frag) (c : Value) (i : Nat) (ts : Addr → Value → Option Addr → TS) (Wout : WX) (D : Ends) : WX := fun cls d σ H =>
  ∃ b, PySem.W.exmOne K cls c = some b ∧ (b = true → ∀ a, H a = none → ts a cls d
      { nx := fun σ' H' => H' a = none → D.nx (σ'.set i none) (upd H' a (ExV cls d a)), rt := fun v H' => H' a = none → D.rt v (upd H' a (ExV cls d a)),
        bk := fun σ' H' => H' a = none → D.bk (σ'.set i none) (upd H' a (ExV cls d a)), ct := fun σ' H' => H' a = none → D.ct (σ'.set i none) (upd H' a (ExV cls d a)) } (σ.set i (some (.ref a))) H) ∧
    (b = false → Wout cls d σ H)
section
variable {X : Cx} {x n : Str} {c : Value} {i : Nat} {body suite : List Stmt} {b₀ : Stmt} {np pos pos' : Pos} {tb : WX → TS} {ts : Addr → Value → Option Addr → TS} {Wout : WX}
theorem ps_try_asK (hs : X.stack = X.env :: X.outer) (hf : X.env.frame = some X.env.locals) (hN : X.N.Nodup) (hi : X.N[i]? = some n) (hln : X.env.kindOf n = some .local) (hc : Names X x c) (tk : Takes X Wout) (hex : X.ex = [])
    (hb : ∀ (W : WX) (pn : List (Addr × Obj)) (xe : Value → Shared → Prop), Takes (X.tr pn xe) W → PassesOwn (model X.prog X.w) X.A X.env xe → PSs (X.tr pn xe) body (tb W))
    (hsu : ∀ (a : Addr) (oe : Obj) (cls : Value) (d : Option Addr) (pn : List (Addr × Obj)), Zc cls d oe → (∃ vs, oe.data = .fields vs) → PSs (X.suite a ((a, oe) :: pn)) (b₀ :: suite) (ts a cls d)) :
    PS X (.Try body [.ExceptHandler (some (.Name x np)) (some n) (b₀ :: suite) pos'] [] [] pos) (fun D σ H => tb (wAsK X.K c i ts Wout D) D σ H) := by
  refine ⟨fun pins s σ H D I h => ?_⟩
  have ok := I.ok
  have hfr : X.A.frames = some (X.env :: X.outer) := by rw [ok.frames, hs]
  have hloc : Loc X.env.scope n := .inl hln
  refine wpAny_Try_except ?_
  refine wpAny_mono ((hb (wAsK X.K c i ts Wout D) (X.pn ++ pins) (fun e s₁ => wpAny (model X.prog X.w) X.A (noteFrame e X.env) (fun _ s₂ => wpAny (model X.prog X.w) X.A (setFlight e none) (fun _ s₃ =>
    wpAny (model X.prog X.w) X.A (handleBy e X.env [.ExceptHandler (some (.Name x np)) (some n) (b₀ :: suite) pos']) (SP X pins D) X.xe s₃) X.xe s₂) X.xe s₁) (fun u s' xx => ?_) PassesOwn.looking).run [] s σ H D (I.toTry _) h) (fun f s1 hsp => ?_) (fun e s1 he => he)
  · obtain ⟨a, B, sI, pins', σ', H', cls, d, rfl, J', nb, up, sky, na, os, ag, b, hb1, hyes, hno⟩ := xx
    have J : Inv X pins σ' H' sI := J'.ofTry ok
    have sky' : Sky B (X.env :: X.outer) a (Zc cls d) X.env.locals s'.heap := by rw [← hs]; exact sky
    show wpAny (model X.prog X.w) X.A (noteFrame (.ref a) X.env) _ _ _
    refine Sky.land Zc.steady hfr hf sky' fun h3 fl3 up3 => ?_
    have J3 : Inv X pins σ' H' { s' with heap := h3 } := J.landed nb fl3.1 (up.trans up3) os ag
    obtain ⟨oe3, vs3, he3, hz3, hd3⟩ := fl3.there
    have notFr : ∀ {h : Heap} {o : Obj} {vs : Array Value}, h.FunFrames B (X.env :: X.outer) → h.get? a = some o → o.data = .fields vs → a ∉ frs (X.env :: X.outer) := fun {h o vs} ff e dd hm => by
      obtain ⟨_, o', e', hnf⟩ := ff.mem hm
      rw [e] at e'; cases e'
      exact hnf _ dd
    have nfr := notFr fl3.2.2.1 he3 hd3
    have nL : a ≠ X.env.locals := fun z => nfr (List.mem_filterMap.mpr ⟨X.env, List.mem_cons_self, by rw [hf, z]⟩)
    have nF : a ∉ X.fs := fun hm => by
      obtain ⟨e, he, q⟩ := List.mem_filterMap.mp hm
      exact nfr (List.mem_filterMap.mpr ⟨e, List.mem_cons_of_mem _ he, q⟩)
    -- a is new
    have nI : ∀ b o, sI.heap.get? b = some o → b ≠ a := fun b o e z => by
      subst z
      have q := nb b o e (by rw [hs]; exact nfr)
      rw [fl3.2.1] at q
      cases q
    have n0 : X.s_0.heap.get? a = none := by
      cases q : X.s_0.heap.get? a with
      | none => rfl
      | some o =>
        obtain ⟨o', e⟩ := J.base.there a o q (by rw [hex]; exact fun z => nomatch z)
        exact absurd rfl (nI a o' e)
    have nP : ∀ p ∈ X.pn ++ pins, p.1 ≠ a := fun p hp => nI p.1 p.2 (J.pin p hp).1
    have nC : ∀ x c, X.env.cells.lookup x = some c → c ≠ a := fun x c e => by
      obtain ⟨v, o, ho, _⟩ := J.cell x c e
      exact nI c o ho
    have S3 := J3.suite he3 hd3 na nL nF
    refine wpAny_handleBy_cons (codeAny_handlers_test ?_) (by intro q; cases q)
    have LT : PySem.W.Looks (model X.prog X.w) h3 (typeOf (.ref a)) cls := fun A Q E s k q => wpAny_typeOf_ref (k _ _ he3) (by rw [hz3.1]; exact q)
    have LM := PySem.W.exm_one (M := model X.prog X.w) (J3.kIn) LT hb1
    have test : ∀ {Q : Value → Shared → Prop} {E : Value → Shared → Prop}, Q c { s' with heap := h3 } → wpAny (model X.prog X.w) (X.A.mark (some (.ref a))) (eval (.Name x np) X.env) Q E { s' with heap := h3 } := fun {Q E} q => by
      obtain ⟨hg, hdbg, hm | ⟨hm, hv, hnn⟩⟩ := hc
      · exact ld_glob (X := X.suite a ((a, oe3) :: (X.pn ++ pins))) S3 hg hm q hdbg
      · exact ld_blt (X := X.suite a ((a, oe3) :: (X.pn ++ pins))) S3 hg hm hv q hnn hdbg
    refine test (LM.here ?_)
    cases b with
    | true =>
      refine codeAny_handlers_suite_as ?_
      refine HandSPX.lands_againZ fl3 fun h4 fl4 up4 => ?_
      have J4 : Inv X pins σ' H' { s' with heap := h4 } := J.landed nb fl4.1 ((up.trans up3).trans up4) os ag
      obtain ⟨oe4, vs4, he4, hz4, hd4⟩ := fl4.there
      have S4 := J4.suite he4 hd4 na nL nF
      refine store_ok (X := X.suite a ((a, oe4) :: (X.pn ++ pins))) (v := .ref a) S4 hN hi hloc rfl (fun s5 S5 => ?_) (.inr hln)
      refine wpAny_mono ((hsu a oe4 cls d (X.pn ++ pins) hz4 ⟨_, hd4⟩).run [] s5 _ H' _ S5 (hyes rfl a na)) (fun f s6 hsp => ?_) (fun _ _ z => False.elim z)
      have end_ : ∀ {σ6 : L2.St} {H6 : Hp} {Q : Shared → Prop}, Inv (X.suite a ((a, oe4) :: (X.pn ++ pins))) [] σ6 H6 s6 → (∀ s7, H6 a = none → Inv X pins (σ6.set i none) (upd H6 a (ExV cls d a)) s7 → Q s7) →
          wpAny (model X.prog X.w) X.A (do bindName X.env n .none; unbindBehindTheSuite X.env n pos') (fun _ s7 => Q s7) X.xe s6 := fun {σ6 H6 Q} S6 hq => by
        have pA := S6.pin (a, oe4) (List.mem_append_left _ List.mem_cons_self)
        have J6 : Inv X pins σ6 H6 s6 := S6.unsuite ok
        have J7 : Inv X ((a, oe4) :: pins) σ6 H6 s6 := J6.pins_of fun p hp => by
          rcases List.mem_cons.mp hp with e | h
          · subst e; exact pA
          · exact J6.pin p (List.mem_append_right _ h)
        refine gone_ok J7 hN hi hln fun s7 I7 => hq s7 pA.2.1 ?_
        have p7 := I7.pin (a, oe4) (List.mem_append_right _ List.mem_cons_self)
        have I8 : Inv X pins (σ6.set i none) H6 s7 := I7.pins_of fun p hp => I7.pin p (List.mem_append_right _ (List.mem_cons_of_mem _ hp))
        exact inv_track I8 pA.2.1 n0 nL nC nP (exV_ok p7.1 hz4 ⟨_, hd4⟩)
      cases f with
      | next =>
        obtain ⟨σ6, H6, S6, q6⟩ := hsp
        exact end_ S6 fun s7 e7 J7 => ⟨_, _, J7, q6 e7⟩
      | brk =>
        obtain ⟨σ6, H6, S6, q6⟩ := hsp
        exact end_ S6 fun s7 e7 J7 => ⟨_, _, J7, q6 e7⟩
      | cont =>
        obtain ⟨σ6, H6, S6, q6⟩ := hsp
        exact end_ S6 fun s7 e7 J7 => ⟨_, _, J7, q6 e7⟩
      | ret u =>
        obtain ⟨v6, σ6, H6, S6, r6, q6⟩ := hsp
        exact end_ S6 fun s7 e7 J7 => ⟨_, _, _, J7, r6, q6 e7⟩
    | false =>
      show wpAny _ X.A (handleBy (.ref a) X.env []) _ _ _
      refine wpAny_handleBy_nil ?_
      obtain ⟨k1, k2, k3, oe, vs, T, oT, ts', he, hz, hd, h1, hr⟩ := id fl3
      unfold PySem.passOn
      refine wpAny_bind (wpAny_field he hd h1 ?_)
      rw [if_neg (show ¬ ((Value.ref T == Value.none) = true) from by simp)]
      have fin : wpAny (model X.prog X.w) X.A (setFlight (.ref a) X.env.frame) (fun _ s4 => wpAny (model X.prog X.w) X.A (throw (.ref a) : Sem Flow) (SP X pins D) X.xe s4) X.xe { s' with heap := h3 } := by
        rw [hf]
        refine HandSPX.setFlight_upZ fl3 fun h4 hh4 up4 => wpAny_throw (tk _ _ ?_)
        exact ⟨a, B, sI, pins, σ', H', cls, d, rfl, J, nb, (up.trans up3).trans up4, .inr (.inr (by rw [hs]; exact hh4)), na, os, ag, hno rfl⟩
      first
        | exact wpAny_bind (wpAny_pure (wpAny_bind fin))
        | exact wpAny_bind fin
  · cases f with
    | next =>
      obtain ⟨σ', H', J', q⟩ := hsp
      exact wpAny_execs_nil ⟨σ', H', J'.ofTry ok, q⟩
    | brk =>
      obtain ⟨σ', H', J', q⟩ := hsp
      exact ⟨σ', H', J'.ofTry ok, q⟩
    | cont =>
      obtain ⟨σ', H', J', q⟩ := hsp
      exact ⟨σ', H', J'.ofTry ok, q⟩
    | ret u =>
      obtain ⟨v, σ', H', J', r, q⟩ := hsp
      exact ⟨v, σ', H', J'.ofTry ok, r, q⟩
end

/-! ### the pure side -/
def keepS : S → S
  | .err n => .val (excD n)
  | s => s
/-- no error but n -/
def errOnly (n : Str) (ρ : Fr) : Bool := ρ.all fun s => match s with
  | .err m => decide (m = n)
  | _ => true
def outK (i : Nat) (n : Str) : Out → Out
  | .nx ρ => if errOnly n ρ = true then .nx ((ρ.set i .none).map keepS) else .stuck
  | .brk ρ => if errOnly n ρ = true then .brk ((ρ.set i .none).map keepS) else .stuck
  | .cont ρ => if errOnly n ρ = true then .cont ((ρ.set i .none).map keepS) else .stuck
  | .ret d ρ => if errOnly n ρ = true then .ret d ((ρ.set i .none).map keepS) else .stuck
  | _ => .stuck
def sTryK (i : Nat) (tab : List (Str × Bool)) (gb : MS) (gs : Str → MS) : MS := fun ρ => match gb ρ with
  | .exc n ρ' => match lk tab n with
    | some true => if noErr ρ' = true then outK i n (gs n (ρ'.set i (.err n))) else .stuck
    | some false => .exc n ρ'
    | none => .stuck
  | o => o
/-- j = e, in the suite -/
def sErr (j i : Nat) : MS := fun ρ => match ρ[i]? with
  | some (.err n) => .nx (ρ.set j (.err n))
  | _ => .stuck
section
variable {K : PySem.W.Frag} {L : Addr × Addr} {mg : Str → Option Value} {W : WX} {F0 H0 F H F' H' : Hp} {σ : L2.St} {ρ : Fr}
theorem ds_err {i j : Nat} : DS K L mg W (tAsg (tVar i) (gName j)) (sErr j i) := fun F0 H0 F H σ ρ D E w => by
  unfold sErr at w
  split at w
  · rename_i n q
    have e := E.sl i _ q
    have e : σ[i]? = some (some (.ref L.2)) := join_some e
    exact ⟨_, e, w F H _ (Ex.refl _) (E.setx (s := .err n) (o := some (.ref L.2)) rfl (show SlotR K L F H0 H (.err n) (some (.ref L.2)) from rfl) j)⟩
  · exact w.elim
theorem ownO_keep (s : S) : ownO (some (keepS s)) = ownO (some s) := by cases s <;> rfl
theorem isOwn_keep {ρ : Fr} {j : Nat} (h : isOwn (ρ.map keepS)[j]?) : isOwn ρ[j]? := by
  unfold isOwn at h ⊢
  rw [List.getElem?_map] at h
  cases q : ρ[j]? with
  | none => rw [q] at h; cases h
  | some s => rw [q] at h; rw [← ownO_keep s]; exact h
/-- behind the suite: the error is tracked, those who hold it hold a value -/
theorem Env.held {C a : Addr} {n : Str} (hC : Nm K C n) (E : Env K (L.1, a) F0 H0 F H σ ρ) (ha : H a = none) (he : errOnly n ρ = true) : Env K L F0 H0 (upd F a (ExV (.ref C) none a)) (upd H a (ExV (.ref C) none a)) σ (ρ.map keepS) where
  st := E.st.trans (Step.new E.st.fh ha)
  len := by rw [List.length_map]; exact E.len
  sl := fun j s q => by
    rw [List.getElem?_map] at q
    obtain ⟨t, qt, rfl⟩ := Option.map_eq_some_iff.mp q
    have E2 := (E.step (Step.new (o := ExV (.ref C) none a) E.st.fh ha)).sl j t qt
    cases t with
    | none => trivial
    | val d => exact E2
    | own o => exact E2
    | pin o => exact E2
    | err m =>
      unfold errOnly at he
      rw [List.all_eq_true] at he
      have z := he _ (List.mem_of_getElem? qt)
      have z : m = n := by simpa using z
      subst z
      exact ⟨.ref a, E2, .exc upd_same hC rfl⟩
  sep := fun i j l h1 h2 e1 e2 => E.sep i j l (isOwn_keep h1) (isOwn_keep h2) e1 e2
theorem errOnly_set {i : Nat} {n : Str} (h : errOnly n ρ = true) : errOnly n (ρ.set i .none) = true := by
  unfold errOnly at h ⊢
  rw [List.all_eq_true] at h ⊢
  intro x hx
  rcases List.mem_or_eq_of_mem_set hx with hx | hx
  · exact h x hx
  · subst hx; rfl
theorem tryK_core {i : Nat} {c : Value} {tab : List (Str × Bool)} {ts : Addr → Value → Option Addr → TS} {gs : Str → MS} {D : Ends} {n : Str}
    (hx : ∀ n b C, lk tab n = some b → mg n = some (.ref C) → PySem.W.exmOne K (.ref C) c = some b)
    (hm : ∀ n b C, lk tab n = some b → mg n = some (.ref C) → Nm K C n)
    (hs : ∀ a n C l, lk tab n = some true → mg n = some (.ref C) → DS K (l, a) mg (fun _ _ _ _ => False) (ts a (.ref C) none) (gs n))
    (w : WO K mg W L F0 H0 F D (match lk tab n with
      | some true => if noErr ρ = true then outK i n (gs n (ρ.set i (.err n))) else .stuck
      | some false => .exc n ρ
      | none => .stuck)) (E : Env K L F0 H0 F H σ ρ) : Wm mg (wAsK K c i ts W D) n σ H := by
  intro C hC
  cases q : lk tab n with
  | none => rw [q] at w; exact w.elim
  | some b =>
    rw [q] at w
    refine ⟨b, hx n b C q hC, fun hb => ?_, fun hb => ?_⟩
    · subst hb
      intro a ha
      have w : WO K mg W L F0 H0 F D (if noErr ρ = true then outK i n (gs n (ρ.set i (.err n))) else .stuck) := w
      split at w
      · rename_i hn
        have E1 := (E.relL hn a).setx (s := .err n) (o := some (.ref a)) rfl (show SlotR K (L.1, a) F H0 H (.err n) (some (.ref a)) from rfl) i
        refine hs a n C L.1 q hC F0 H0 F H _ _ _ E1 ?_
        have nm := hm n true C q hC
        have exu : ∀ {F' H' : Hp} {σ' : L2.St} {ρ' : Fr}, Env K (L.1, a) F0 H0 F' H' σ' ρ' → H' a = none → Ex F' (upd F' a (ExV (.ref C) none a)) := fun {F' H' σ' ρ'} E' h0 => Ex.new (E'.st.fh.free h0)
        have back : ∀ {F' H' : Hp} {σ' : L2.St} {ρ' : Fr}, Env K (L.1, a) F0 H0 F' H' σ' ρ' → H' a = none → errOnly n ρ' = true → Env K L F0 H0 (upd F' a (ExV (.ref C) none a)) (upd H' a (ExV (.ref C) none a)) (σ'.set i none) ((ρ'.set i .none).map keepS) :=
          fun {F' H' σ' ρ'} E' h0 he => (E'.setn i).held nm h0 (errOnly_set he)
        cases qg : gs n (ρ.set i (.err n)) with
        | nx ρ' =>
          rw [qg] at w
          have w : WO K mg W L F0 H0 F D (if errOnly n ρ' = true then .nx ((ρ'.set i .none).map keepS) else .stuck) := w
          split at w
          · rename_i hn'
            exact fun F' H' σ' e E' h0 => w _ _ _ (e.trans (exu E' h0)) (back E' h0 hn')
          · exact w.elim
        | brk ρ' =>
          rw [qg] at w
          have w : WO K mg W L F0 H0 F D (if errOnly n ρ' = true then .brk ((ρ'.set i .none).map keepS) else .stuck) := w
          split at w
          · rename_i hn'
            exact fun F' H' σ' e E' h0 => w _ _ _ (e.trans (exu E' h0)) (back E' h0 hn')
          · exact w.elim
        | cont ρ' =>
          rw [qg] at w
          have w : WO K mg W L F0 H0 F D (if errOnly n ρ' = true then .cont ((ρ'.set i .none).map keepS) else .stuck) := w
          split at w
          · rename_i hn'
            exact fun F' H' σ' e E' h0 => w _ _ _ (e.trans (exu E' h0)) (back E' h0 hn')
          · exact w.elim
        | ret d ρ' =>
          rw [qg] at w
          have w : WO K mg W L F0 H0 F D (if errOnly n ρ' = true then .ret d ((ρ'.set i .none).map keepS) else .stuck) := w
          split at w
          · rename_i hn'
            exact fun F' H' σ' v e E' r h0 => w _ _ _ v (e.trans (exu E' h0)) (back E' h0 hn') (r.mono (exu E' h0))
          · exact w.elim
        | retL ds ρ' => rw [qg] at w; exact w.elim
        | exc n ρ' => rw [qg] at w; exact w.elim
        | stuck => rw [qg] at w; exact w.elim
      · exact w.elim
    · subst hb
      exact w F H σ (Ex.refl _) E C hC
theorem ds_tryK {i : Nat} {c : Value} {tab : List (Str × Bool)} {tb : WX → TS} {ts : Addr → Value → Option Addr → TS} {gb : MS} {gs : Str → MS}
    (hx : ∀ n b C, lk tab n = some b → mg n = some (.ref C) → PySem.W.exmOne K (.ref C) c = some b)
    (hm : ∀ n b C, lk tab n = some b → mg n = some (.ref C) → Nm K C n)
    (hb : ∀ W, DS K L mg W (tb W) gb)
    (hs : ∀ a n C l, lk tab n = some true → mg n = some (.ref C) → DS K (l, a) mg (fun _ _ _ _ => False) (ts a (.ref C) none) (gs n)) :
    DS K L mg W (fun D σ H => tb (wAsK K c i ts W D) D σ H) (sTryK i tab gb gs) := fun F0 H0 F H σ ρ D E w => by
  refine hb _ F0 H0 F H σ ρ D E ?_
  unfold sTryK at w
  cases q : gb ρ with
  | exc n ρ' =>
    rw [q] at w
    exact fun F' H' σ' e E' => tryK_core hx hm hs (WO.mono e w) E'
  | nx ρ' => rw [q] at w; exact w
  | brk ρ' => rw [q] at w; exact w
  | cont ρ' => rw [q] at w; exact w
  | ret d ρ' => rw [q] at w; exact w
  | retL ds ρ' => rw [q] at w; exact w
  | stuck => rw [q] at w; exact w
end

/-! ### isinstance of what is held -/
inductive TyE (K : PySem.W.Frag) (H : Hp) : V → Value → Prop where
  | any {x : V} {t : Value} (h : TyX K H x t) : TyE K H x t
  | exc {a C : Addr} (h : H a = some (ExV (.ref C) none a)) (c : ExcC K C) : TyE K H (.ref a) (.ref C)
theorem kitE_of {X : Cx} {pins : List (Addr × Obj)} {σ : L2.St} {H : Hp} {s : Shared} {x : V} {u t : Value} (I : Inv X pins σ H s) (rx : RelV x u) (ty : TyE X.K H x t) : ∃ P : Heap → Prop, PySem.W.KitX X.K u t P ∧ P s.heap ∧ u ≠ .builtin "__main__.__loader__#opaque" := by
  cases ty with
  | any h => exact kit_of I rx h
  | @exc a C h c =>
    cases (show u = Value.ref a from rx)
    obtain ⟨⟨oe, vs, hget, hz, hd⟩, _, _⟩ := I.hok a _ h
    have J : PySem.W.InstAt s.heap a oe C none := by
      obtain ⟨oc, od, oda, osl⟩ := oe
      obtain ⟨h1, h2⟩ := hz
      dsimp only at h1 h2 hd
      subst h1 h2 hd
      exact ⟨hget, rfl, rfl, trivial⟩
    exact ⟨_, PySem.W.handS_kitx_exc c.hg c.hk c.hs c.hd c.ha c.hn c.ht c.hm, J, fun z => nomatch z⟩
def rIsiE (K : PySem.W.Frag) : List V → Hp → VK → Prop := fun xs H Q => ∃ (x c : V) (t u : Value) (b : Bool), xs = [x, c] ∧ ClsV c u ∧ TyE K H x t ∧ PySem.W.kitOne K t u = some b ∧ Q (.bl b) H
def rIsiTE (K : PySem.W.Frag) : List V → Hp → VK → Prop := fun xs H Q => ∃ (x : V) (tp : Addr) (cs : List V) (t : Value) (us : List Value) (b : Bool), xs = [x, .ref tp] ∧ H tp = some (.tup cs) ∧ Paired ClsV cs us ∧ TyE K H x t ∧ PySem.W.kitAny K t us = some b ∧ Q (.bl b) H
section
variable {X : Cx} {K : PySem.W.Frag}
theorem call_isiE : CallR X (.builtin "isinstance") (rIsiE X.K) := by
  intro pins s σ H xs us Q I r h
  obtain ⟨x, c, t, u, b, rfl, k, ty, e, q⟩ := h
  obtain ⟨u1, u2, rfl, r1, r2⟩ := vals2 r
  have e2 := k.eq r2
  subst e2
  obtain ⟨P, Z, p, hx⟩ := kitE_of I r1 ty
  exact PySem.W.kia_one Z I.kIn p e hx fun tk => ⟨.bl b, H, I.tok tk, rfl, q⟩
theorem kIsiE (h : X.K = K := by rfl) : CallR X (.builtin "isinstance") (rIsiE K) := h ▸ call_isiE
end
/-- isinstance(d, X): d an error that is held, or None -/
def isvD (tab : List (Str × Bool)) : D → Option D
  | .none => some (.bool false)
  | .dict [(.int _, .str n)] => (lk tab n).map .bool
  | _ => none
section
variable {K : PySem.W.Frag} {L : Addr × Addr} {mg : Str → Option Value} {W : WX} {ta : TE} {a : ME} {tab tab' : List (Str × Bool)} {c c' : V} {u u' : Value}
/-- what a class says of the named ones, and of None -/
structure IsT (K : PySem.W.Frag) (u : Value) (tab : List (Str × Bool)) : Prop where
  e : ∀ n b C, lk tab n = some b → Nm K C n → PySem.W.kitOne K (.ref C) u = some b
  n : PySem.W.kitOne K (.type "NoneType") u = some false
theorem isvD_bool {d z : D} (h : isvD tab d = some z) : ∃ b, z = .bool b := by
  unfold isvD at h
  split at h
  · cases h; exact ⟨_, rfl⟩
  · rename_i k n
    cases q : lk tab n with
    | none => rw [q] at h; cases h
    | some b => rw [q] at h; cases h; exact ⟨_, rfl⟩
  · cases h
theorem isv_ty {F H : Hp} {v : V} {d z : D} (ex : Ex F H) (r : RepB K F H v d) (h : isvD tab d = some z) : ∃ t, TyE K H v t ∧ ∀ tab b u, IsT K u tab → isvD tab d = some (.bool b) → PySem.W.kitOne K t u = some b := by
  unfold isvD at h
  split at h
  · cases h
    obtain rfl := r.isn
    exact ⟨_, .any (.base .non), fun tab b u i e => by cases e; exact i.n⟩
  · rename_i k n
    generalize hd : ((.dict [(.int k, .str n)]) : D) = d at r
    cases r with
    | frz r =>
      cases r with
      | exc h1 h2 h3 =>
        subst h3
        cases hd
        refine ⟨_, .exc (ex _ _ h1) h2.2, fun tab b u i e => ?_⟩
        have e : (lk tab n).map PyData.bool = some (.bool b) := e
        cases q : lk tab n with
        | none => rw [q] at e; cases e
        | some b' => rw [q] at e; cases e; exact i.e _ _ _ q h2
      | scr h r q => rw [q] at hd; injection hd with hd; injection hd with h1 _; injection h1 with h2 _; cases h2
      | dK h r q => rw [q] at hd; injection hd with hd; unfold dkD at hd; injection hd with h1 _; injection h1 with h2 _; cases h2
      | dT h r q => rw [q] at hd; injection hd with hd; unfold dtD at hd; injection hd with h1 _; injection h1 with h2 _; cases h2
      | dKf h r q => rw [q] at hd; injection hd with hd; unfold kdK at hd; injection hd with h1 _; injection h1 with h2 _; cases h2
      | dTf h r q => rw [q] at hd; injection hd with hd; unfold kdT at hd; injection hd with h1 _; injection h1 with h2 _; cases h2
      | ktp _ _ _ _ q => rw [q] at hd; injection hd with hd; injection hd with h1 _; injection h1 with h2 _; cases h2
      | fnc _ q => rw [q] at hd; injection hd with hd; injection hd with h1 _; injection h1 with h2 _; cases h2
      | non => cases hd
      | bl b => cases hd
      | int b => cases hd
      | str b => cases hd
      | lst _ _ => cases hd
      | tup _ _ => cases hd
    | thg h r =>
      cases r with
      | lst r => cases hd
      | dK r => injection hd with hd; unfold dkD at hd; injection hd with h1 _; injection h1 with h2 _; cases h2
      | dT r => injection hd with hd; unfold dtD at hd; injection hd with h1 _; injection h1 with h2 _; cases h2
  · cases h
theorem df_isv (k : ClsV c u) (i : IsT K u tab) (ha : DE K L mg W ta a) : DF K L mg W (tCB (rIsiE K) (tCons ta (tCons (tC c) tNil))) (e1 (isvD tab) a) := fun F0 H0 F H σ ρ Q E p => by
  refine ha F0 H0 F H σ ρ _ E (post_mono (post_bind p) (fun d kk F1 H1 x s1 r1 => ?_) fun _ z => z)
  obtain ⟨z, ez, k3⟩ := post_lift kk
  obtain ⟨b, rfl⟩ := isvD_bool ez
  obtain ⟨t, ty, kk⟩ := isv_ty s1.fh r1 ez
  exact ⟨x, c, t, u, b, rfl, k, ty, kk tab b u i ez, k3 F1 H1 _ s1 (.bl _)⟩
/-- isinstance(d, (X, Y)) -/
def isv2D (t1 t2 : List (Str × Bool)) (d : D) : Option D := match isvD t1 d, isvD t2 d with
  | some (.bool true), some _ => some (.bool true)
  | some (.bool false), r => r
  | _, _ => none
theorem df_isv2 (k : ClsV c u) (i : IsT K u tab) (k' : ClsV c' u') (i' : IsT K u' tab') (ha : DE K L mg W ta a) :
    DF K L mg W (tCB (rIsiTE K) (tCons ta (tCons (tTup (tCons (tC c) (tCons (tC c') tNil))) tNil))) (e1 (isv2D tab tab') a) := fun F0 H0 F H σ ρ Q E p => by
  refine ha F0 H0 F H σ ρ _ E (post_mono (post_bind p) (fun d kk F1 H1 x s1 r1 => ?_) fun _ z => z)
  obtain ⟨z, ez, k3⟩ := post_lift kk
  refine ⟨lt_line (by show 2 ≤ 100000; decide), fun l hl => ?_⟩
  have s2 : Step F1 H1 F1 (upd H1 l (.tup [c, c'])) := Step.new0 s1.fh hl
  have r2 := r1.step s2
  unfold isv2D at ez
  have fin : ∀ (t : Value) (b : Bool), TyE K (upd H1 l (.tup [c, c'])) x t → PySem.W.kitAny K t [u, u'] = some b → z = .bool b → rIsiTE K [x, .ref l] (upd H1 l (.tup [c, c'])) Q := fun t b ty e ez => by
    subst ez
    exact ⟨x, l, _, t, _, b, rfl, upd_same, .cons k (.cons k' .nil), ty, e, k3 F1 _ _ (s1.trans s2) (.bl b)⟩
  split at ez
  · rename_i d2 q1 q2
    cases ez
    obtain ⟨t, ty, kk⟩ := isv_ty s2.fh r2 q1
    refine fin t true ty ?_ rfl
    show (match PySem.W.kitOne K t u with | some true => some true | some false => _ | none => none) = _
    rw [kk tab true u i q1]
  · rename_i q1
    obtain ⟨b', rfl⟩ := isvD_bool ez
    obtain ⟨t, ty, kk⟩ := isv_ty s2.fh r2 q1
    refine fin t b' ty ?_ rfl
    show (match PySem.W.kitOne K t u with | some true => some true | some false => (match PySem.W.kitOne K t u' with | some true => some true | some false => some false | none => none) | none => none) = _
    rw [kk tab false u i q1, kk tab' b' u' i' ez]
    cases b' <;> rfl
  · cases ez
end

/-! ### the tables' parts -/
def NsMg (K : PySem.W.Frag) (mg : Str → Option Value) : Prop := ∀ n C, PySem.W.nsIn K mainGlobals n = some (some (.ref C)) → mg n = some (.ref C)
def NmAt (K : PySem.W.Frag) (mg : Str → Option Value) (n : Str) : Prop := ∀ C, mg n = some (.ref C) → Nm K C n
def NmT (K : PySem.W.Frag) (mg : Str → Option Value) (tab : List (Str × Bool)) : Prop := ∀ n b C, lk tab n = some b → mg n = some (.ref C) → Nm K C n
def NoneB (K : PySem.W.Frag) (mg : Str → Option Value) (m : Str) : Prop := ∀ D, mg m = some (.ref D) → PySem.W.subIn K (.type "NoneType") (.ref D) = some false
section
variable {K : PySem.W.Frag} {mg : Str → Option Value} {m : Str} {T : String} {tab : List (Str × Bool)}
theorem nmT_nil : NmT K mg [] := fun n b C h => nomatch h
theorem nmT_cons {n0 : Str} {b0 : Bool} (h : NmAt K mg n0) (r : NmT K mg tab) : NmT K mg ((n0, b0) :: tab) := fun n b C e hn => by
  unfold lk at e
  rw [List.lookup_cons] at e
  split at e
  · rename_i q
    have : n = n0 := by simpa using q
    subst this
    exact h C hn
  · exact r n b C e hn
theorem kit_none {D : Addr} (F : ClsF K D) (z : PySem.W.subIn K (.type "NoneType") (.ref D) = some false) : PySem.W.kitOne K (.type "NoneType") (.ref D) = some false := by
  obtain ⟨cd, hc, _⟩ := PySem.W.any_some F.x.hd
  have e2 : ((PySem.W.clsIn K D).isSome && PySem.W.typeIn K (.ref D) == some (.type "type")) = true := by rw [hc, F.t] <;> rfl
  unfold PySem.W.kitOne
  rw [if_neg (by intro q; cases (beq_iff_eq.mp q))]
  show (if _ then _ else none) = _
  rw [if_pos e2]
  exact z
theorem isT_own {D : Addr} (F : ClsF K D) (hm : mg m = some (.ref D)) (t : Tab K mg m tab) (ns : NsMg K mg) (z : NoneB K mg m) : IsT K (.ref D) tab :=
  ⟨fun n b C e hn => kit_at F hm t e (ns n C hn.1), kit_none F (z D hm)⟩
theorem isT_ty (hT : PySem.W.kitMeta T = true) (t : TabT K mg T tab) (ns : NsMg K mg) (z : kitB "NoneType" T = some false) : IsT K (.type T) tab :=
  ⟨fun n b C e hn => kitT_at hT t e (ns n C hn.1), kit_ty z⟩
theorem ns_mk {h : Heap} (X : K.In h) (G : h.Ns mainGlobals mg) : NsMg K mg := fun n C a => PySem.W.mg_of X G a
theorem nm_mk {h : Heap} {n : Str} {C0 : Addr} (X : K.In h) (G : h.Ns mainGlobals mg) (a : PySem.W.nsIn K mainGlobals n = some (some (.ref C0))) (k : ClsAt K mg n) : NmAt K mg n := fun C hC => by
  obtain ⟨C', h', F⟩ := k
  have e := hC.symm.trans (PySem.W.mg_of X G a)
  cases e
  have e := hC.symm.trans h'
  cases e
  exact ⟨a, F.x⟩
theorem none_mk {h : Heap} {D0 : Addr} (X : K.In h) (G : h.Ns mainGlobals mg) (c : PySem.W.nsIn K mainGlobals m = some (some (.ref D0))) (s : PySem.W.subIn K (.type "NoneType") (.ref D0) = some false) : NoneB K mg m := fun D hm => by
  have e := hm.symm.trans (PySem.W.mg_of X G c)
  cases e
  exact s
end
theorem kIsiTE {X : Cx} {K : PySem.W.Frag} (h : X.K = K := by rfl) : CallR X (.builtin "isinstance") (rIsiTE K) := by
  subst h
  intro pins s σ H xs us Q I r h
  obtain ⟨x, tp, cs, t, ws, b, rfl, hT, k, ty, e, q⟩ := h
  obtain ⟨u1, u2, rfl, r1, r2⟩ := vals2 r
  cases (show u2 = Value.ref tp from r2)
  obtain ⟨P, Z, p, hx⟩ := kitE_of I r1 ty
  obtain ⟨_, its, rv, o, h1, h2, n, h3⟩ := (show ObjOk X.prog X.w H s.heap tp (.tup cs) from I.hok tp _ hT)
  have e3 := ClsV.all k rv
  subst e3
  obtain ⟨oc, od, dt, sl⟩ := o
  simp only at h2 h3
  subst h2 h3
  exact PySem.W.kia_tup Z I.kIn p h1 e hx fun tk => ⟨.bl b, H, I.tok tk, rfl, q⟩
end Dn

set_option Elab.async false
set_option linter.all false
set_option maxRecDepth 100000
set_option maxHeartbeats 4000000
/-! DenR: held errors made plain; loops over lists by a function of the state -/
namespace Dn
open PySem L2
def okE (n : Str) : S → Bool
  | .err m => decide (m = n)
  | _ => true
@[simp] theorem okE_none {n : Str} : okE n .none = true := rfl
@[simp] theorem okE_val {n : Str} {d : D} : okE n (.val d) = true := rfl
@[simp] theorem okE_own {n : Str} {o : OD} : okE n (.own o) = true := rfl
@[simp] theorem okE_pin {n : Str} {o : OD} : okE n (.pin o) = true := rfl
@[simp] theorem okE_err {n m : Str} : okE n (.err m) = decide (m = n) := rfl
@[simp] theorem errOnly_nil {n : Str} : errOnly n [] = true := rfl
@[simp] theorem errOnly_cons {n : Str} {s : S} {ρ : Fr} : errOnly n (s :: ρ) = (okE n s && errOnly n ρ) := by cases s <;> rfl
@[simp] theorem keepS_none : keepS .none = .none := rfl
@[simp] theorem keepS_val {d : D} : keepS (.val d) = .val d := rfl
@[simp] theorem keepS_own {o : OD} : keepS (.own o) = .own o := rfl
@[simp] theorem keepS_pin {o : OD} : keepS (.pin o) = .pin o := rfl
@[simp] theorem keepS_err {n : Str} : keepS (.err n) = .val (excD n) := rfl
@[simp] theorem outK_nx {i : Nat} {n : Str} {ρ : Fr} : outK i n (.nx ρ) = if errOnly n ρ = true then .nx ((ρ.set i .none).map keepS) else .stuck := rfl
@[simp] theorem outK_ret {i : Nat} {n : Str} {ρ : Fr} {d : D} : outK i n (.ret d ρ) = if errOnly n ρ = true then .ret d ((ρ.set i .none).map keepS) else .stuck := rfl
@[simp] theorem sTryK_ap {i : Nat} {tab : List (Str × Bool)} {gb : MS} {gs : Str → MS} {ρ : Fr} : sTryK i tab gb gs ρ = onExc (gb ρ) fun n ρ' => hitE (lk tab n) (if noErr ρ' = true then outK i n (gs n (ρ'.set i (.err n))) else .stuck) (.exc n ρ') := by
  unfold sTryK onExc hitE
  cases gb ρ with
  | exc n ρ' => cases q : lk tab n with
    | none => simp [q]
    | some b => cases b <;> simp [q]
  | _ => rfl
def errS (o : Option S) (k : Str → Out) : Out := match o with
  | some (.err n) => k n
  | _ => .stuck
@[simp] theorem errS_err {n : Str} {k : Str → Out} : errS (some (.err n)) k = k n := rfl
@[simp] theorem sErr_ap {i j : Nat} {ρ : Fr} : sErr j i ρ = errS ρ[i]? fun n => .nx (ρ.set j (.err n)) := by
  unfold sErr errS
  cases ρ[i]? with
  | none => rfl
  | some s => cases s <;> rfl
@[simp] theorem isNone_x {n : Str} : isNone (excD n) = false := rfl
@[simp] theorem isvD_none {tab : List (Str × Bool)} : isvD tab .none = some (.bool false) := rfl
@[simp] theorem isvD_x {tab : List (Str × Bool)} {n : Str} : isvD tab (excD n) = (lk tab n).map .bool := rfl
@[simp] theorem isv2D_none {tab tab' : List (Str × Bool)} : isv2D tab tab' .none = some (.bool false) := rfl
def orO : Option Bool → Option Bool → Option D
  | some true, some _ => some (.bool true)
  | some false, some b => some (.bool b)
  | _, _ => none
@[simp] theorem orO_t {b : Bool} : orO (some true) (some b) = some (.bool true) := rfl
@[simp] theorem orO_f {b : Bool} : orO (some false) (some b) = some (.bool b) := rfl
@[simp] theorem isv2D_x {tab tab' : List (Str × Bool)} {n : Str} : isv2D tab tab' (excD n) = orO (lk tab n) (lk tab' n) := by
  unfold isv2D
  rw [isvD_x, isvD_x]
  cases lk tab n with
  | none => rfl
  | some b => cases b <;> cases lk tab' n <;> rfl
/-! ### loops by a function of the state -/
/-- each turn leads from a state to a state, some slots being left open -/
theorem for_state {α β : Type} {body : D → Fr → Out} {enc : α → D} {step : β → α → β} (I : β → Fr → Prop) (P : β → Prop) : ∀ (xs : List α) (b : β) (ρ : Fr), I b ρ → P b →
    (∀ b a ρ, a ∈ xs → P b → I b ρ → P (step b a) ∧ ∃ ρ', body (enc a) ρ = .nx ρ' ∧ I (step b a) ρ') → P (xs.foldl step b) ∧ ∃ ρ', loopFor body (xs.map enc) ρ = .nx ρ' ∧ I (xs.foldl step b) ρ'
  | [], b, ρ, h, p, _ => ⟨p, ρ, rfl, h⟩
  | x :: xs, b, ρ, h, p, hs => by
    obtain ⟨p', ρ', e, h'⟩ := hs b x ρ (List.mem_cons_self ..) p h
    obtain ⟨pz, ρz, ez, hz⟩ := for_state I P xs (step b x) ρ' h' p' fun b a ρ m => hs b a ρ (List.mem_cons_of_mem _ m)
    refine ⟨pz, ρz, ?_, hz⟩
    rw [List.map_cons]
    unfold loopFor
    rw [e]
    exact ez
end Dn

set_option Elab.async false
set_option linter.all false
set_option maxRecDepth 100000
set_option maxHeartbeats 4000000
/-! DenS: lists of data, indices, cuts, ranges, made plain -/
namespace Dn
open PySem L2
theorem rng_get {n : Nat} {j : Nat} {d : D} (h : (rngL 0 (n : Int))[j]? = some d) : j < n ∧ d = .int (j : Int) := by
  unfold rngL at h
  rw [List.getElem?_map] at h
  obtain ⟨y, hy, rfl⟩ := Option.map_eq_some_iff.mp h
  obtain ⟨hl, e⟩ := List.getElem?_eq_some_iff.mp hy
  rw [List.getElem_range] at e
  rw [List.length_range] at hl
  subst e
  exact ⟨by omega, by simp⟩
theorem rng_get2 {a b : Int} {j : Nat} {d : D} (h : (rngL a b)[j]? = some d) : (j : Int) < b - a ∧ d = .int (a + (j : Int)) := by
  unfold rngL at h
  rw [List.getElem?_map] at h
  obtain ⟨y, hy, rfl⟩ := Option.map_eq_some_iff.mp h
  obtain ⟨hl, e⟩ := List.getElem?_eq_some_iff.mp hy
  rw [List.getElem_range] at e
  rw [List.length_range] at hl
  subst e
  exact ⟨by omega, rfl⟩
theorem rng_len0 (n : Nat) : (rngL 0 (n : Int)).length = n := by rw [rng_len]; omega
theorem setL_ok {ds : List D} {i : Int} {v : D} (h0 : 0 ≤ i) (h : i < ds.length) : setL ds (.int i) v = some (ds.set i.toNat v) := by
  unfold setL
  simp [ixN, h0, h]
theorem ixD_l {ds : List D} {i : Int} {v : D} (h0 : 0 ≤ i) (h : ds[i.toNat]? = some v) : ixD (.list ds) (.int i) = some v := by
  have hl : i.toNat < ds.length := (List.getElem?_eq_some_iff.mp h).1
  show atI ds i = _
  rw [atI_nat h0 (by omega), h]
theorem ixD_t {ds : List D} {i : Int} {v : D} (h0 : 0 ≤ i) (h : ds[i.toNat]? = some v) : ixD (.tuple ds) (.int i) = some v := by
  have hl : i.toNat < ds.length := (List.getElem?_eq_some_iff.mp h).1
  show atI ds i = _
  rw [atI_nat h0 (by omega), h]
theorem set_range_map {α : Type} (n : Nat) (f : Nat → α) (i : Nat) (v : α) : ((List.range n).map f).set i v = (List.range n).map fun j => if j = i then v else f j := by
  refine List.ext_getElem? fun j => ?_
  rw [List.getElem?_set, List.getElem?_map, List.getElem?_map]
  by_cases h : j < n
  · by_cases e : i = j
    · subst e; simp [h]
    · have e' : ¬ j = i := fun z => e z.symm
      simp [h, e, e']
  · by_cases e : i = j
    · subst e; simp [h]
    · simp [h, e]
theorem cutL_to {α : Type} (xs : List α) (k : Nat) : cutL xs none (some (k : Int)) = xs.take k := by
  unfold cutL
  have e : HT.sIx xs.length 0 none = 0 := by unfold HT.sIx; rfl
  have e2 : HT.sIx xs.length xs.length (some (k : Int)) = min k xs.length := by
    unfold HT.sIx
    simp
    try omega
  rw [e, e2, List.drop_zero]
  by_cases h : k ≤ xs.length
  · rw [Nat.min_eq_left h, Nat.sub_zero]
  · rw [Nat.min_eq_right (by omega), List.take_of_length_le (by omega), List.take_of_length_le (by omega)]
theorem nat_mod {c m : Int} (h : 0 < m) : ∃ i : Nat, (i : Int) = c % m ∧ (i : Int) < m := ⟨(c % m).toNat, by
  have h1 := Int.emod_nonneg c (show m ≠ 0 by omega)
  have h2 := Int.emod_lt_of_pos c h
  omega⟩
/-! ### loops, step by step -/
section
variable {body : D → Fr → Out} {d : D} {ds : List D} {ρ ρ' : Fr}
theorem loop_nil : loopFor body [] ρ = .nx ρ := rfl
theorem loop_nx (h : body d ρ = .nx ρ') : loopFor body (d :: ds) ρ = loopFor body ds ρ' := by rw [loopFor, h]
theorem loop_cont (h : body d ρ = .cont ρ') : loopFor body (d :: ds) ρ = loopFor body ds ρ' := by rw [loopFor, h]
theorem loop_brk (h : body d ρ = .brk ρ') : loopFor body (d :: ds) ρ = .nx ρ' := by rw [loopFor, h]
theorem loop_ret {v : D} (h : body d ρ = .ret v ρ') : loopFor body (d :: ds) ρ = .ret v ρ' := by rw [loopFor, h]
theorem loop_exc {n : Str} (h : body d ρ = .exc n ρ') : loopFor body (d :: ds) ρ = .exc n ρ' := by rw [loopFor, h]
end
/-- a range of the natural numbers -/
theorem rng_nat (n : Nat) : rngL 0 (n : Int) = (List.range n).map fun j : Nat => .int (j : Int) := by
  unfold rngL
  rw [show ((n : Int) - 0).toNat = n by omega]
  exact List.map_congr_left fun j _ => by rw [Int.zero_add]
theorem rng_nat2 (a b : Nat) : rngL (a : Int) (b : Int) = (List.range (b - a)).map fun j : Nat => .int ((a + j : Nat) : Int) := by
  unfold rngL
  rw [show ((b : Int) - (a : Int)).toNat = b - a by omega]
  exact List.map_congr_left fun j _ => by rw [Int.natCast_add]
theorem cutL_both {α : Type} (xs : List α) (a b : Nat) : cutL xs (some (a : Int)) (some (b : Int)) = (xs.drop a).take (b - a) := by
  unfold cutL
  have e1 : HT.sIx xs.length 0 (some (a : Int)) = min a xs.length := by
    unfold HT.sIx
    simp
    try omega
  have e2 : HT.sIx xs.length xs.length (some (b : Int)) = min b xs.length := by
    unfold HT.sIx
    simp
    try omega
  rw [e1, e2]
  by_cases h : a ≤ xs.length
  · rw [Nat.min_eq_left h]
    by_cases h2 : b ≤ xs.length
    · rw [Nat.min_eq_left h2]
    · rw [Nat.min_eq_right (by omega), List.take_of_length_le (by simp), List.take_of_length_le (by simp; omega)]
  · rw [Nat.min_eq_right (show xs.length ≤ a by omega), List.drop_eq_nil_of_le (Nat.le_refl _), List.drop_eq_nil_of_le (by omega), List.take_nil, List.take_nil]
@[simp] theorem iRev_ap {e : ME} {ρ : Fr} : iRev' e ρ = (e ρ).bind fun d => (itemsD d).bind fun ds => .ok ds.reverse := rfl
theorem items_ref {d : D} {ds : List D} (h : itemsD d = .ok ds) : itemsD d = .ok ds := h
@[simp] theorem listD_s {ns : List Int} : listD [scrD ns] = some (ns.map .int) := rfl
/-- a loop that looks for the first item at which the body hands back -/
theorem loop_search {α : Type} {body : D → Fr → Out} {enc : α → D} {I : Fr → Prop} {P : α → D → Prop} : ∀ (xs : List α)
    (h : ∀ x ∈ xs, ∀ ρ, I ρ → (∃ d ρ', P x d ∧ body (enc x) ρ = .ret d ρ') ∨ ((∀ d, ¬ P x d) ∧ ∃ ρ', I ρ' ∧ body (enc x) ρ = .nx ρ')) (ρ : Fr), I ρ →
    (∃ pre x post d ρ', xs = pre ++ x :: post ∧ (∀ y ∈ pre, ∀ d, ¬ P y d) ∧ P x d ∧ loopFor body (xs.map enc) ρ = .ret d ρ') ∨
    ((∀ x ∈ xs, ∀ d, ¬ P x d) ∧ ∃ ρ', I ρ' ∧ loopFor body (xs.map enc) ρ = .nx ρ')
  | [], _, ρ, hi => .inr ⟨fun x hx => (by cases hx), ρ, hi, rfl⟩
  | x :: xs, h, ρ, hi => by
    rcases h x (List.mem_cons_self ..) ρ hi with ⟨d, ρ', p, e⟩ | ⟨np, ρ', hi', e⟩
    · exact .inl ⟨[], x, xs, d, ρ', rfl, fun y hy => (by cases hy), p, by rw [List.map_cons, loop_ret e]⟩
    · rw [List.map_cons, loop_nx e]
      rcases loop_search xs (fun y hy => h y (List.mem_cons_of_mem _ hy)) ρ' hi' with ⟨pre, y, post, d, ρ2, e1, e2, e3, e4⟩ | ⟨e1, ρ2, e2, e3⟩
      · refine .inl ⟨x :: pre, y, post, d, ρ2, by rw [e1]; rfl, fun z hz => ?_, e3, e4⟩
        rcases List.mem_cons.mp hz with rfl | hz
        · exact np
        · exact e2 z hz
      · refine .inr ⟨fun y hy => ?_, ρ2, e2, e3⟩
        rcases List.mem_cons.mp hy with rfl | hy
        · exact np
        · exact e1 y hy
/-- the first in an ascending list is the least -/
theorem first_least {xs pre post : List Nat} {x : Nat} {P : Nat → Prop} (hs : xs.Pairwise (· < ·)) (e : xs = pre ++ x :: post) (hp : ∀ y ∈ pre, ¬ P y) {y : Nat} (hy : y ∈ xs) (h : P y) : x ≤ y := by
  subst e
  rcases List.mem_append.mp hy with hy | hy
  · exact absurd h (hp y hy)
  · rcases List.mem_cons.mp hy with rfl | hy
    · exact Nat.le_refl _
    · have := (List.pairwise_append.mp hs).2.1
      exact Nat.le_of_lt ((List.pairwise_cons.mp this).1 y hy)
end Dn

set_option Elab.async false
set_option linter.all false
set_option maxRecDepth 100000
set_option maxHeartbeats 4000000
/-! DenT: dicts -/
namespace Dn
open PySem PySem.Spec PyProof.Rows L2

def key? : D → Option Key
  | .int i => some (.inl i)
  | .str x => some (.inr x)
  | _ => none
def keys? : List D → Option (List Key)
  | [] => some []
  | d :: ds => (key? d).bind fun k => (keys? ds).map (k :: ·)
def keyT? : D → Option (List Key)
  | .tuple ds => keys? ds
  | _ => none
section
variable {κ α : Type} [DecidableEq κ]
def vget (kvs : List (κ × α)) (k : κ) : Option α := (kvs.find? fun p => decide (p.1 = k)).map (·.2)
def vput (kvs : List (κ × α)) (k : κ) (v : α) : List (κ × α) := if (kvs.any fun p => decide (p.1 = k)) = true then kvs.map (fun p => if p.1 = k then (p.1, v) else p) else kvs ++ [(k, v)]
theorem vget_nil {k : κ} : vget ([] : List (κ × α)) k = none := rfl
theorem vget_pos {p : κ × α} {r : List (κ × α)} {k : κ} (e : p.1 = k) : vget (p :: r) k = some p.2 := by simp [vget, List.find?_cons, e]
theorem vget_neg {p : κ × α} {r : List (κ × α)} {k : κ} (e : ¬ p.1 = k) : vget (p :: r) k = vget r k := by simp [vget, List.find?_cons, e]
theorem vget_any (k : κ) : ∀ kvs : List (κ × α), (kvs.any fun p => decide (p.1 = k)) = (vget kvs k).isSome
  | [] => rfl
  | p :: r => by
    rw [List.any_cons]
    by_cases e : p.1 = k
    · simp only [vget_pos e, decide_eq_true e, Bool.true_or, Option.isSome_some]
    · rw [vget_neg e, decide_eq_false e, Bool.false_or]; exact vget_any k r
theorem vget_map (k j : κ) (y : α) : ∀ kvs : List (κ × α), vget (kvs.map fun p => if p.1 = k then (p.1, y) else p) j = (vget kvs j).map fun x => if j = k then y else x
  | [] => rfl
  | p :: r => by
    rw [List.map_cons]
    by_cases e : p.1 = k
    · rw [if_pos e]
      by_cases e2 : p.1 = j
      · rw [vget_pos (p := (p.1, y)) e2, vget_pos e2, Option.map_some, if_pos (e2.symm.trans e)]
      · rw [vget_neg (p := (p.1, y)) e2, vget_neg e2, vget_map k j y r]
    · rw [if_neg e]
      by_cases e2 : p.1 = j
      · rw [vget_pos e2, vget_pos e2, Option.map_some, if_neg (fun z => e (e2.trans z))]
      · rw [vget_neg e2, vget_neg e2, vget_map k j y r]
theorem vget_snoc (k j : κ) (y : α) : ∀ kvs : List (κ × α), vget kvs k = none → vget (kvs ++ [(k, y)]) j = if j = k then some y else vget kvs j
  | [], _ => by
    by_cases e : k = j
    · rw [if_pos e.symm]; exact vget_pos (p := (k, y)) e
    · rw [if_neg (fun z => e z.symm)]; exact vget_neg (p := (k, y)) e
  | p :: r, hn => by
    rw [List.cons_append]
    have hk : ¬ p.1 = k := fun e => by rw [vget_pos e] at hn; cases hn
    have hr : vget r k = none := by rw [vget_neg hk] at hn; exact hn
    by_cases e : p.1 = j
    · rw [vget_pos e, vget_pos e, if_neg (fun z => hk (e.trans z))]
    · rw [vget_neg e, vget_neg e, vget_snoc k j y r hr]
theorem vget_put (kvs : List (κ × α)) (k j : κ) (y : α) : vget (vput kvs k y) j = if j = k then some y else vget kvs j := by
  unfold vput
  rw [vget_any]
  cases q : vget kvs k with
  | none => simp only [Option.isSome_none, Bool.false_eq_true, if_false]; exact vget_snoc k j y kvs q
  | some x =>
    simp only [Option.isSome_some, if_true]
    rw [vget_map]
    by_cases e : j = k
    · subst e; rw [q, if_pos rfl, Option.map_some, if_pos rfl]
    · rw [if_neg e]
      cases vget kvs j with
      | none => rfl
      | some x => rw [Option.map_some, if_neg e]
theorem vput_len (kvs : List (κ × α)) (k : κ) (y : α) : (vput kvs k y).length ≤ kvs.length + 1 := by
  unfold vput
  split
  · rw [List.length_map]; omega
  · rw [List.length_append]; exact Nat.le_refl _
end
def decK : List (D × D) → Option (List (Key × D))
  | [] => some []
  | (k, v) :: r => (key? k).bind fun k' => (decK r).map ((k', v) :: ·)
def decT : List (D × D) → Option (List (List Key × D))
  | [] => some []
  | (k, v) :: r => (keyT? k).bind fun k' => (decT r).map ((k', v) :: ·)
def od? : D → Option OD
  | .dict ((.bool false, _) :: ps) => (decK ps).map .dK
  | .dict ((.bool true, _) :: ps) => (decT ps).map .dT
  | _ => none
@[simp] theorem key_int {i : Int} : key? (.int i) = some (.inl i) := rfl
@[simp] theorem key_str {x : Str} : key? (.str x) = some (.inr x) := rfl
theorem key_keyD : ∀ k : Key, key? (keyD k) = some k
  | .inl _ => rfl
  | .inr _ => rfl
theorem keys_keyD : ∀ ks : List Key, keys? (ks.map keyD) = some ks
  | [] => rfl
  | k :: ks => by
    show (key? (keyD k)).bind (fun k => (keys? (ks.map keyD)).map (k :: ·)) = _
    rw [key_keyD, keys_keyD ks]
    rfl
theorem decK_map : ∀ kvs : List (Key × D), decK (kvs.map fun p => (keyD p.1, p.2)) = some kvs
  | [] => rfl
  | p :: r => by
    show (key? (keyD p.1)).bind (fun k' => (decK (r.map fun p => (keyD p.1, p.2))).map ((k', p.2) :: ·)) = _
    rw [key_keyD, decK_map r]
    rfl
theorem decT_map : ∀ kvs : List (List Key × D), decT (kvs.map fun p => (.tuple (p.1.map keyD), p.2)) = some kvs
  | [] => rfl
  | p :: r => by
    show (keys? (p.1.map keyD)).bind (fun k' => (decT (r.map fun p => (.tuple (p.1.map keyD), p.2))).map ((k', p.2) :: ·)) = _
    rw [keys_keyD, decT_map r]
    rfl
@[simp] theorem od_dK {kvs : List (Key × D)} : od? (.dict (dkD kvs)) = some (.dK kvs) := by
  show (decK _).map OD.dK = _
  rw [decK_map]
  rfl
@[simp] theorem od_dT {kvs : List (List Key × D)} : od? (.dict (dtD kvs)) = some (.dT kvs) := by
  show (decT _).map OD.dT = _
  rw [decT_map]
  rfl
@[simp] theorem od_kdK {kvs : List (Key × D)} : od? (.dict (kdK kvs)) = some (.dK kvs) := by
  show (decK _).map OD.dK = _
  rw [decK_map]
  rfl
@[simp] theorem od_kdT {kvs : List (List Key × D)} : od? (.dict (kdT kvs)) = some (.dT kvs) := by
  show (decT _).map OD.dT = _
  rw [decT_map]
  rfl
def odGet : OD → D → Option (Option D)
  | .dK kvs, k => (key? k).map (vget kvs)
  | .dT kvs, k => (keyT? k).map (vget kvs)
  | .lst _, _ => none
def odPut : OD → D → D → Option OD
  | .dK kvs, k, v => (key? k).bind fun k => if kvs.length < sizeLine then some (.dK (vput kvs k v)) else none
  | .dT kvs, k, v => (keyT? k).bind fun k => if kvs.length < sizeLine then some (.dT (vput kvs k v)) else none
  | .lst _, _, _ => none
section
variable {K : PySem.W.Frag} {F H : Hp}
theorem key_rep {y : V} {d : D} {k : Key} (r : RepB K F H y d) (h : key? d = some k) : y = kV k := by
  unfold key? at h
  split at h
  · cases h; exact r.isi
  · cases h; exact r.iss
  · cases h
theorem keys_rep : ∀ {xs : List V} {ds : List D} {ks : List Key}, RepL K F xs ds → keys? ds = some ks → xs = ks.map kV
  | _, [], _, .nil, h => by cases h; rfl
  | _, d :: ds, ks, .cons a r, h => by
    unfold keys? at h
    cases q : key? d with
    | none => rw [q] at h; cases h
    | some k =>
      cases q2 : keys? ds with
      | none => rw [q, q2] at h; cases h
      | some ks' =>
        rw [q, q2] at h
        cases h
        rw [key_rep (H := F) (.frz a) q, keys_rep r q2]
        rfl
theorem keyT_rep {y : V} {d : D} {ks : List Key} (ex : Ex F H) (r : RepB K F H y d) (h : keyT? d = some ks) : ∃ b, y = .ref b ∧ H b = some (.tup (ks.map kV)) := by
  unfold keyT? at h
  split at h
  · rename_i ds
    generalize hd : ((.tuple ds) : D) = d at r
    cases r with
    | frz r => subst hd; cases r with
      | tup e q => exact ⟨_, rfl, by rw [← keys_rep q h]; exact ex _ _ e⟩
    | thg e q => cases q <;> cases hd
  · cases h
theorem repK_len : ∀ {xs : List (Key × V)} {ds : List (Key × D)}, RepK K F xs ds → xs.length = ds.length
  | _, _, .nil => rfl
  | _, _, .cons _ r => by rw [List.length_cons, List.length_cons, repK_len r]
theorem repT_len : ∀ {xs : List (List Key × V)} {ds : List (List Key × D)}, RepT K F xs ds → xs.length = ds.length
  | _, _, .nil => rfl
  | _, _, .cons _ r => by rw [List.length_cons, List.length_cons, repT_len r]
/-- what is found, here and there -/
def Fnd (K : PySem.W.Frag) (F : Hp) : Option V → Option D → Prop
  | none, none => True
  | some v, some d => Rep K F v d
  | _, _ => False
theorem repK_get (k : Key) : ∀ {xs : List (Key × V)} {ds : List (Key × D)}, RepK K F xs ds → Fnd K F (valV xs k) (vget ds k)
  | _, _, .nil => trivial
  | _, _, .cons (k := k') (v := v) (d := d) a r => by
    by_cases e : k' = k
    · rw [valV_pos (p := (k', v)) e, vget_pos (p := (k', d)) e]; exact a
    · rw [valV_neg (p := (k', v)) e, vget_neg (p := (k', d)) e]; exact repK_get k r
theorem repT_get (k : List Key) : ∀ {xs : List (List Key × V)} {ds : List (List Key × D)}, RepT K F xs ds → Fnd K F (valV xs k) (vget ds k)
  | _, _, .nil => trivial
  | _, _, .cons (k := k') (v := v) (d := d) a r => by
    by_cases e : k' = k
    · rw [valV_pos (p := (k', v)) e, vget_pos (p := (k', d)) e]; exact a
    · rw [valV_neg (p := (k', v)) e, vget_neg (p := (k', d)) e]; exact repT_get k r
theorem repK_any (k : Key) {xs : List (Key × V)} {ds : List (Key × D)} (r : RepK K F xs ds) : (xs.any fun p => decide (p.1 = k)) = (ds.any fun p => decide (p.1 = k)) := by
  rw [valV_any, vget_any]
  have h := repK_get k r
  cases q : valV xs k <;> cases q2 : vget ds k <;> rw [q, q2] at h <;> first | rfl | exact h.elim
theorem repT_any (k : List Key) {xs : List (List Key × V)} {ds : List (List Key × D)} (r : RepT K F xs ds) : (xs.any fun p => decide (p.1 = k)) = (ds.any fun p => decide (p.1 = k)) := by
  rw [valV_any, vget_any]
  have h := repT_get k r
  cases q : valV xs k <;> cases q2 : vget ds k <;> rw [q, q2] at h <;> first | rfl | exact h.elim
theorem repK_app {v : V} {d : D} (k : Key) (rv : Rep K F v d) : ∀ {xs : List (Key × V)} {ds : List (Key × D)}, RepK K F xs ds → RepK K F (xs ++ [(k, v)]) (ds ++ [(k, d)])
  | _, _, .nil => .cons rv .nil
  | _, _, .cons a r => .cons a (repK_app k rv r)
theorem repT_app {v : V} {d : D} (k : List Key) (rv : Rep K F v d) : ∀ {xs : List (List Key × V)} {ds : List (List Key × D)}, RepT K F xs ds → RepT K F (xs ++ [(k, v)]) (ds ++ [(k, d)])
  | _, _, .nil => .cons rv .nil
  | _, _, .cons a r => .cons a (repT_app k rv r)
theorem repK_map {v : V} {d : D} (k : Key) (rv : Rep K F v d) : ∀ {xs : List (Key × V)} {ds : List (Key × D)}, RepK K F xs ds → RepK K F (xs.map fun p => if p.1 = k then (p.1, v) else p) (ds.map fun p => if p.1 = k then (p.1, d) else p)
  | _, _, .nil => .nil
  | _, _, .cons (k := k') a r => by
    rw [List.map_cons, List.map_cons]
    by_cases e : k' = k
    · rw [if_pos e, if_pos e]; exact .cons rv (repK_map k rv r)
    · rw [if_neg e, if_neg e]; exact .cons a (repK_map k rv r)
theorem repT_map {v : V} {d : D} (k : List Key) (rv : Rep K F v d) : ∀ {xs : List (List Key × V)} {ds : List (List Key × D)}, RepT K F xs ds → RepT K F (xs.map fun p => if p.1 = k then (p.1, v) else p) (ds.map fun p => if p.1 = k then (p.1, d) else p)
  | _, _, .nil => .nil
  | _, _, .cons (k := k') a r => by
    rw [List.map_cons, List.map_cons]
    by_cases e : k' = k
    · rw [if_pos e, if_pos e]; exact .cons rv (repT_map k rv r)
    · rw [if_neg e, if_neg e]; exact .cons a (repT_map k rv r)
theorem repK_put {v : V} {d : D} (k : Key) {xs : List (Key × V)} {ds : List (Key × D)} (r : RepK K F xs ds) (rv : Rep K F v d) : RepK K F (putK xs k v) (vput ds k d) := by
  unfold putK vput
  rw [repK_any k r]
  split
  · exact repK_map k rv r
  · exact repK_app k rv r
theorem repT_put {v : V} {d : D} (k : List Key) {xs : List (List Key × V)} {ds : List (List Key × D)} (r : RepT K F xs ds) (rv : Rep K F v d) : RepT K F (putK xs k v) (vput ds k d) := by
  unfold putK vput
  rw [repT_any k r]
  split
  · exact repT_map k rv r
  · exact repT_app k rv r
/-- a dict, as it stands -/
theorem RepB.od {v : V} {d : D} {o : OD} (ex : Ex F H) (r : RepB K F H v d) (h : od? d = some o) : ∃ a ho, v = .ref a ∧ Rd H a ho ∧ RepO K F ho o := by
  cases r with
  | frz r =>
    cases r with
    | dK e q z =>
      rw [z, od_dK] at h
      cases h
      exact ⟨_, _, rfl, .inl (ex _ _ e), .dK q⟩
    | dT e q z =>
      rw [z, od_dT] at h
      cases h
      exact ⟨_, _, rfl, .inl (ex _ _ e), .dT q⟩
    | dKf e q z =>
      rw [z, od_kdK] at h
      cases h
      exact ⟨_, _, rfl, .inr ⟨_, ex _ _ e⟩, .dK q⟩
    | dTf e q z =>
      rw [z, od_kdT] at h
      cases h
      exact ⟨_, _, rfl, .inr ⟨_, ex _ _ e⟩, .dT q⟩
    | scr _ _ z => rw [z] at h; cases h
    | ktp _ _ _ _ z => rw [z] at h; cases h
    | fnc _ z => rw [z] at h; cases h
    | exc _ _ z => rw [z] at h; cases h
    | non => cases h
    | bl _ => cases h
    | int _ => cases h
    | str _ => cases h
    | lst _ _ => cases h
    | tup _ _ => cases h
  | thg e q =>
    cases q with
    | lst r => cases h
    | dK r =>
      have h : od? (.dict (dkD _)) = some o := h
      rw [od_dK] at h
      cases h
      exact ⟨_, _, rfl, .inl e, .dK r⟩
    | dT r =>
      have h : od? (.dict (dtD _)) = some o := h
      rw [od_dT] at h
      cases h
      exact ⟨_, _, rfl, .inl e, .dT r⟩
theorem od_get {a : Addr} {ho : HO} {o : OD} {y : V} {k : D} {r : Option D} (ex : Ex F H) (e : Rd H a ho) (ro : RepO K F ho o) (ry : RepB K F H y k) (h : odGet o k = some r) : ∃ ov, DGet H a y ov ∧ Fnd K F ov r := by
  cases ro with
  | lst _ => cases h
  | dK q =>
    have h : (key? k).map (vget _) = some r := h
    cases qk : key? k with
    | none => rw [qk] at h; cases h
    | some k' =>
      rw [qk] at h
      cases h
      rw [key_rep ry qk]
      exact ⟨_, (.inl ⟨_, _, e, rfl, rfl⟩), repK_get k' q⟩
  | dT q =>
    have h : (keyT? k).map (vget _) = some r := h
    cases qk : keyT? k with
    | none => rw [qk] at h; cases h
    | some k' =>
      rw [qk] at h
      cases h
      obtain ⟨b, rfl, hb⟩ := keyT_rep ex ry qk
      exact ⟨_, (.inr ⟨_, _, _, e, rfl, hb, rfl⟩), repT_get k' q⟩
theorem od_put {a : Addr} {ho : HO} {o o' : OD} {y v : V} {k d : D} (ex : Ex F H) (e : H a = some ho) (ro : RepO K F ho o) (ry : RepB K F H y k) (rv : Rep K F v d) (h : odPut o k d = some o') : ∃ ho', DPut H a y v (upd H a ho') ∧ RepO K F ho' o' := by
  cases ro with
  | lst _ => cases h
  | @dK vs ds q =>
    have h : (key? k).bind (fun k => if ds.length < sizeLine then some (OD.dK (vput ds k d)) else none) = some o' := h
    cases qk : key? k with
    | none => rw [qk] at h; cases h
    | some k' =>
      rw [qk] at h
      have h : (if ds.length < sizeLine then some (OD.dK (vput ds k' d)) else none) = some o' := h
      split at h
      · cases h
        rw [key_rep ry qk]
        exact ⟨_, DPut.k e (by rw [repK_len q]; assumption), .dK (repK_put k' q rv)⟩
      · cases h
  | @dT vs ds q =>
    have h : (keyT? k).bind (fun k => if ds.length < sizeLine then some (OD.dT (vput ds k d)) else none) = some o' := h
    cases qk : keyT? k with
    | none => rw [qk] at h; cases h
    | some k' =>
      rw [qk] at h
      have h : (if ds.length < sizeLine then some (OD.dT (vput ds k' d)) else none) = some o' := h
      split at h
      · cases h
        obtain ⟨b, rfl, hb⟩ := keyT_rep ex ry qk
        exact ⟨_, DPut.t e hb (by rw [repT_len q]; assumption), .dT (repT_put k' q rv)⟩
      · cases h
end

/-! ### reading -/
def rDGet : R2 := fun x y H Q => ∃ a v, x = .ref a ∧ DGet H a y (some v) ∧ Q v H
def rDIn : R2 := fun y x H Q => ∃ a o, x = .ref a ∧ DGet H a y o ∧ Q (.bl o.isSome) H
def rDNotIn : R2 := fun y x H Q => ∃ a o, x = .ref a ∧ DGet H a y o ∧ Q (.bl (!o.isSome)) H
def dgetD (d y : D) : Option D := (od? d).bind fun o => (odGet o y).bind id
def dinD (y d : D) : Option D := (od? d).bind fun o => (odGet o y).map fun r => .bool r.isSome
def dninD (y d : D) : Option D := (od? d).bind fun o => (odGet o y).map fun r => .bool (!r.isSome)
def dget2D (d y z : D) : Option D := (od? d).bind fun o => (odGet o y).map fun r => r.getD z
section
variable {X : Cx} {o i e f : Expr} {td ty tx : TE} {pos apos cpos : Pos}
theorem set_dictR (hu : X.A.units + 65 < cLine) : PSet X rSetD := set_dict (by omega)
theorem pe_dgetR (hu : X.A.units + 65 < cLine) (ho : PE X o td) (hi : PE X i ty) (hs : NoSl i) : PE X (.Subscript o i pos) (tOp rDGet td ty) := pe_dget (by omega) ho hi hs
theorem pe_dinR (hu : X.A.units + 65 < cLine) (hi : PE X i ty) (ho : PE X o td) (h1 : behindInMarks .In o = false := by rfl) : PE X (.Compare i [.In] [o] pos) (tOp rDIn ty td) := pe_cmp (pc_din (by omega) hi ho) h1
theorem pe_dninR (hu : X.A.units + 65 < cLine) (hi : PE X i ty) (ho : PE X o td) (h1 : behindInMarks .NotIn o = false := by rfl) : PE X (.Compare i [.NotIn] [o] pos) (tOp rDNotIn ty td) := pe_cmp (pc_dnotin (by omega) hi ho) h1
theorem pt_dinR (hu : X.A.units + 65 < cLine) (hi : PE X i ty) (ho : PE X o td) (h1 : behindInMarks .In o = false := by rfl) : PT X (.Compare i [.In] [o] pos) (tTest (tOp rDIn ty td)) := pt_cmp (pc_din (by omega) hi ho) h1
theorem pt_dninR (hu : X.A.units + 65 < cLine) (hi : PE X i ty) (ho : PE X o td) (h1 : behindInMarks .NotIn o = false := by rfl) : PT X (.Compare i [.NotIn] [o] pos) (tTest (tOp rDNotIn ty td)) := pt_cmp (pc_dnotin (by omega) hi ho) h1
theorem pe_dget2R (hu : X.A.units + 65 < cLine) (ho : PE X o td) (he : PE X e ty) (hf : PE X f tx) (m : M2 X o "get" apos e f cpos) : PE X (.Call (.Attribute o "get" apos) [e, f] [] cpos) (tDGet2 td ty tx) := pe_dget2 (by omega) ho he hf m
end
section
variable {K : PySem.W.Frag} {L : Addr × Addr} {mg : Str → Option Value} {W : WX} {ta tb tc : TE} {a b c : ME}
theorem rd_dget : R2D K rDGet dgetD := by
  intro F H x y d e Q z ex rx ry h k
  unfold dgetD at h
  cases q : od? d with
  | none => rw [q] at h; cases h
  | some o =>
    rw [q] at h
    have h : (odGet o e).bind id = some z := h
    obtain ⟨l, ho, rfl, hl, ro⟩ := rx.od ex q
    cases q2 : odGet o e with
    | none => rw [q2] at h; cases h
    | some r =>
      rw [q2] at h
      have h : r = some z := h
      subst h
      obtain ⟨ov, g, fd⟩ := od_get ex hl ro ry q2
      cases ov with
      | none => exact fd.elim
      | some v => exact ⟨l, v, rfl, g, k.here ex fd⟩
theorem rd_din : R2D K rDIn dinD := by
  intro F H x y d e Q z ex rx ry h k
  unfold dinD at h
  cases q : od? e with
  | none => rw [q] at h; cases h
  | some o =>
    rw [q] at h
    have h : (odGet o d).map _ = some z := h
    obtain ⟨l, ho, rfl, hl, ro⟩ := ry.od ex q
    cases q2 : odGet o d with
    | none => rw [q2] at h; cases h
    | some r =>
      rw [q2] at h
      cases h
      obtain ⟨ov, g, fd⟩ := od_get ex hl ro rx q2
      refine ⟨l, ov, rfl, g, ?_⟩
      have : ov.isSome = r.isSome := by cases ov <;> cases r <;> first | rfl | exact fd.elim
      rw [this]
      exact k.here ex (.bl _)
theorem rd_dnin : R2D K rDNotIn dninD := by
  intro F H x y d e Q z ex rx ry h k
  unfold dninD at h
  cases q : od? e with
  | none => rw [q] at h; cases h
  | some o =>
    rw [q] at h
    have h : (odGet o d).map _ = some z := h
    obtain ⟨l, ho, rfl, hl, ro⟩ := ry.od ex q
    cases q2 : odGet o d with
    | none => rw [q2] at h; cases h
    | some r =>
      rw [q2] at h
      cases h
      obtain ⟨ov, g, fd⟩ := od_get ex hl ro rx q2
      refine ⟨l, ov, rfl, g, ?_⟩
      have : ov.isSome = r.isSome := by cases ov <;> cases r <;> first | rfl | exact fd.elim
      rw [this]
      exact k.here ex (.bl _)
def eGet2 (a b c : ME) : ME := fun ρ => (a ρ).bind fun x => (lift (od? x)).bind fun o => (b ρ).bind fun y => (c ρ).bind fun z => lift ((odGet o y).map fun r => r.getD z)
theorem isD_of {F H : Hp} {l : Addr} {ho : HO} {o : OD} (e : Rd H l ho) (ro : RepO K F ho o) (h : ∀ ds, o ≠ .lst ds) : IsD H l := by
  cases ro with
  | lst _ => exact absurd rfl (h _)
  | dK _ => exact .inl ⟨_, e⟩
  | dT _ => exact .inr ⟨_, e⟩
theorem od_nol {d : D} {o : OD} (h : od? d = some o) : ∀ ds, o ≠ .lst ds := fun ds z => by
  subst z
  unfold od? at h
  split at h
  · rename_i ps
    cases q : decK ps with
    | none => rw [q] at h; cases h
    | some _ => rw [q] at h; cases h
  · rename_i ps
    cases q : decT ps with
    | none => rw [q] at h; cases h
    | some _ => rw [q] at h; cases h
  · cases h
theorem df_dget2 (ha : DE K L mg W ta a) (hb : DE K L mg W tb b) (hc : DF K L mg W tc c) : DF K L mg W (tDGet2 ta tb tc) (eGet2 a b c) := fun F0 H0 F H σ ρ Q E p => by
  refine ha F0 H0 F H σ ρ _ E (post_mono (post_bind p) (fun d k F1 H1 x s1 r1 => ?_) fun _ z => z)
  obtain ⟨o, qo, k⟩ := post_lift (post_bind k)
  obtain ⟨l, ho, rfl, hl, ro⟩ := r1.od s1.fh qo
  refine ⟨l, rfl, isD_of hl ro (od_nol qo), ?_⟩
  refine hb F0 H0 F1 H1 σ ρ _ (E.step s1) (post_mono (post_bind k) (fun e k2 F2 H2 y s2 r2 => ?_) fun n z => WE'.on s1 z)
  refine hc F0 H0 F2 H2 σ ρ _ ((E.step s1).step s2) (post_mono (post_bind k2) (fun u k3 F3 H3 w s3 r3 => ?_) fun n z => WE'.on (s1.trans s2) z)
  obtain ⟨z, ez, k4⟩ := post_lift k3
  cases q2 : odGet o e with
  | none => rw [q2] at ez; cases ez
  | some r =>
    rw [q2] at ez
    cases ez
    have hl3 := ex_rd s3.hh (ex_rd s2.hh hl)
    have ro3 := (ro.mono s2.ff).mono s3.ff
    obtain ⟨ov, g, fd⟩ := od_get s3.fh hl3 ro3 (r2.step s3) q2
    refine ⟨ov, g, k4 F3 H3 _ ((s1.trans s2).trans s3) ?_⟩
    cases ov with
    | none => cases r with
      | none => exact r3
      | some _ => exact fd.elim
    | some v => cases r with
      | none => exact fd.elim
      | some _ => exact fd
end

/-! ### a new one, one that changes -/
def sDNew (i : Nat) (o : OD) : MS := fun ρ => .nx (ρ.set i (.own o))
def dictAt (i : Nat) (ρ : Fr) : Option OD := match ownO ρ[i]? with
  | some (.lst _) => none
  | r => r
/-- d[k] = v in slot i -/
def sPut (i : Nat) (k e : ME) : MS := fun ρ => Out.of (e ρ) ρ fun v => Out.ofO (dictAt i ρ) fun o => Out.of (k ρ) ρ fun j => Out.ofO (odPut o j v) fun o' => .nx (putO i o' ρ)
section
variable {K : PySem.W.Frag} {L : Addr × Addr} {mg : Str → Option Value} {W : WX} {te tk : TE} {e k : ME}
theorem ds_dnewK {i : Nat} : DS K L mg W (tAsg tDNewK (gName i)) (sDNew i (.dK [])) := fun F0 H0 F H σ ρ D E w => by
  intro p hp
  exact w F _ _ (Ex.refl _) (E.seto hp (.dK .nil) i)
theorem ds_dnewT {i : Nat} : DS K L mg W (tAsg tDNewT (gName i)) (sDNew i (.dT [])) := fun F0 H0 F H σ ρ D E w => by
  intro p hp
  exact w F _ _ (Ex.refl _) (E.seto hp (.dT .nil) i)
theorem dictAt_eq {i : Nat} {ρ : Fr} {o : OD} (h : dictAt i ρ = some o) : ownO ρ[i]? = some o ∧ ∀ ds, o ≠ .lst ds := by
  unfold dictAt at h
  split at h
  · cases h
  · rename_i hne
    exact ⟨h, fun ds z => hne ds (by rw [h, z])⟩
theorem ds_put {i : Nat} (he : DF K L mg W te e) (hk : DE K L mg W tk k) : DS K L mg W (tAsg te (gSub (tVar i) tk rSetD)) (sPut i k e) := fun F0 H0 F H σ ρ D E w => by
  refine he F0 H0 F H σ ρ _ E (post_mono (WO.of E w) (fun d w1 F1 H1 v s r => ?_) fun _ z => z)
  have E1 := E.step s
  obtain ⟨o, q, w2⟩ := WO.ofO w1
  obtain ⟨q, nl⟩ := dictAt_eq q
  obtain ⟨l, ho, el, _⟩ := E1.ownv q
  refine ⟨_, el, ?_⟩
  refine hk F0 H0 F1 H1 σ ρ _ E1 (post_mono (WO.of E1 (WO.mono s.ff w2)) (fun j w3 F2 H2 x s2 r2 => ?_) fun _ z => z)
  have E2 := E1.step s2
  obtain ⟨o', q3, w4⟩ := WO.ofO w3
  obtain ⟨l', ho', el', _, _, hl, rl, _⟩ := E2.ownv q
  rw [el] at el'
  cases el'
  obtain ⟨hn, g, ro⟩ := od_put s2.fh hl rl r2 (r.mono s2.ff) q3
  exact ⟨l, _, rfl, g, w4 F2 _ σ s2.ff (E2.mut q el ro)⟩
end

/-! ### made plain -/
@[simp] theorem sDNew_ap {i : Nat} {o : OD} {ρ : Fr} : sDNew i o ρ = .nx (ρ.set i (.own o)) := rfl
def dictS : Option S → Option OD
  | some (.own (.lst _)) => none
  | some (.pin (.lst _)) => none
  | some (.own o) => some o
  | some (.pin o) => some o
  | _ => none
@[simp] theorem dictS_ownK {kvs : List (Key × D)} : dictS (some (.own (.dK kvs))) = some (.dK kvs) := rfl
@[simp] theorem dictS_ownT {kvs : List (List Key × D)} : dictS (some (.own (.dT kvs))) = some (.dT kvs) := rfl
@[simp] theorem dictAt_ap {i : Nat} {ρ : Fr} : dictAt i ρ = dictS ρ[i]? := by
  unfold dictAt dictS
  cases ρ[i]? with
  | none => rfl
  | some s => cases s with
    | own o => cases o <;> rfl
    | pin o => cases o <;> rfl
    | _ => rfl
def putOS : Option S → OD → S
  | some (.pin _), o => .pin o
  | _, o => .own o
@[simp] theorem putOS_own {o o' : OD} : putOS (some (.own o)) o' = .own o' := rfl
@[simp] theorem putOS_pin {o o' : OD} : putOS (some (.pin o)) o' = .pin o' := rfl
theorem putO_ap {i : Nat} {o : OD} {ρ : Fr} : putO i o ρ = ρ.set i (putOS ρ[i]? o) := by
  unfold putO putOS
  cases ρ[i]? with
  | none => rfl
  | some s => cases s <;> rfl
@[simp] theorem sPut_ap {i : Nat} {k e : ME} {ρ : Fr} : sPut i k e ρ = Out.of (e ρ) ρ fun v => Out.ofO (dictAt i ρ) fun o => Out.of (k ρ) ρ fun j => Out.ofO (odPut o j v) fun o' => .nx (ρ.set i (putOS ρ[i]? o')) := by
  unfold sPut
  simp only [putO_ap]
@[simp] theorem eGet2_ap {a b c : ME} {ρ : Fr} : eGet2 a b c ρ = (a ρ).bind fun x => (lift (od? x)).bind fun o => (b ρ).bind fun y => (c ρ).bind fun z => lift ((odGet o y).map fun r => r.getD z) := rfl
@[simp] theorem getB_ownO {o : OD} : getB (some (.own o)) = .ok o.d := rfl
@[simp] theorem od_d_L {ds : List D} : OD.d (.lst ds) = .list ds := rfl
@[simp] theorem od_d_K {kvs : List (Key × D)} : OD.d (.dK kvs) = .dict (dkD kvs) := rfl
@[simp] theorem od_d_T {kvs : List (List Key × D)} : OD.d (.dT kvs) = .dict (dtD kvs) := rfl
@[simp] theorem frzS_ownO {o : OD} {ρ : Fr} {i : Nat} : frzS (some (.own o)) ρ i = ρ.set i (.val o.d) := rfl
@[simp] theorem odGet_K {kvs : List (Key × D)} {k : D} : odGet (.dK kvs) k = (key? k).map (vget kvs) := rfl
@[simp] theorem odGet_T {kvs : List (List Key × D)} {k : D} : odGet (.dT kvs) k = (keyT? k).map (vget kvs) := rfl
@[simp] theorem dgetD_K {kvs : List (Key × D)} {i : Int} : dgetD (.dict (dkD kvs)) (.int i) = vget kvs (.inl i) := by
  unfold dgetD
  rw [od_dK]
  rfl
@[simp] theorem dinD_K {kvs : List (Key × D)} {i : Int} : dinD (.int i) (.dict (dkD kvs)) = some (.bool (vget kvs (.inl i)).isSome) := by
  unfold dinD
  rw [od_dK]
  rfl
@[simp] theorem dninD_K {kvs : List (Key × D)} {i : Int} : dninD (.int i) (.dict (dkD kvs)) = some (.bool (!(vget kvs (.inl i)).isSome)) := by
  unfold dninD
  rw [od_dK]
  rfl
theorem odPut_K {kvs : List (Key × D)} {i : Int} {v : D} (h : kvs.length < 16777216) : odPut (.dK kvs) (.int i) v = some (.dK (vput kvs (.inl i) v)) := if_pos (show kvs.length < sizeLine from h)
/-- ints as keys: those that are there -/
def inK (kvs : List (Key × D)) (i : Int) : Bool := (vget kvs (.inl i)).isSome
theorem inK_put {kvs : List (Key × D)} {i j : Int} {v : D} : inK (vput kvs (.inl i) v) j = (decide (j = i) || inK kvs j) := by
  unfold inK
  rw [vget_put]
  by_cases h : j = i
  · subst h; simp
  · have : ¬ (Sum.inl j : Key) = Sum.inl i := fun z => h (Sum.inl.inj z)
    rw [if_neg this]
    simp [h]
theorem inK_nil {i : Int} : inK [] i = false := rfl
end Dn

set_option Elab.async false
set_option linter.all false
set_option maxRecDepth 100000
set_option maxHeartbeats 4000000
/-! DenU: list(reversed(..)) -/
namespace Dn
open PySem PySem.Spec PyProof.Rows L2 RT

section
variable {prog : Program} {w : World} {A : Around} {E : Value → Shared → Prop} {s : Shared}
theorem extend_rev {R : Result → Shared → Prop} {it l : Addr} {items : Array Value} (hh : A.handled = none) (hit : s.heap.IsRevIter it l ((items.size : Int) - 1)) (hl : s.heap.IsList l items) (hne : l ≠ it) (hn : items.size ≤ sizeLine)
    (S : Addr) (hSi : S ≠ it) (hSl : S ≠ l) (res : Value) (c₀ : Nat) (hS : s.heap.get? S = some { cls := .type "list", data := .seq #[] c₀ })
    (hR : ∀ h' tk acc' c', (∀ b o, b ≠ S → b ≠ it → s.heap.get? b = some o → h'.get? b = some o) → h'.get? S = some { cls := .type "list", dict := none, data := .seq acc' c', slots := #[] } →
      ItemsOf (fun i v => items[items.size - 1 - i]? = some v) acc' items.size → R (.ok (.ret res)) { s with heap := h', toks := tk }) :
    wpAny (model prog w) A.in1 (Builtin.List.listExtendWith (.ref S) (.ref it) res)
      (fun fin s' => match fin with | .done f => R (.ok f) s' | .again c' => c'.quiet = true ∧ codeAny (model prog w) A c' R s') (fun e s' => R (.error e) s') s := by
  have W := (Walks.listRev (prog := prog) (w := w) (A := A.in1) hh it l hne items).toS
  have hSf : S ∉ [it, l] := by simp only [List.mem_cons, List.not_mem_nil, or_false, not_or]; exact ⟨hSi, hSl⟩
  have hT : s.TypeIs (.ref it) "list_reverseiterator" := Heap.IsRevIter.typeIs hit
  have h1 : Builtin.List.listSameRef (.ref S) (.ref it) = false := by simp [Builtin.List.listSameRef, hSi]
  unfold Builtin.List.listExtendWith
  refine wpAny_bind (wpAny_typeOf hT ?_)
  rw [if_neg (by rw [h1]; decide)]
  refine wpAny_bind (wpAny_pyIter_revIter hit ?_)
  refine wpAny_bind (wpAny_holding ?_)
  unfold Builtin.List.listLengthHint
  refine wpAny_bind (wpAny_specialOf hT nolen_lri ?_)
  show wpAny _ A.in1 (specialOf (Value.ref it) (Str.ofString "__length_hint__") >>= _) _ _ _
  refine wpAny_bind (wpAny_specialOf hT hint_lri ?_)
  generalize hid : ("list_reverseiterator.__length_hint__" : String) = id0
  wp_delta
  rw [show splitId id0 = some ("list_reverseiterator", "__length_hint__") from by subst hid; decide +kernel]
  subst hid
  refine wpAny_bind (wpAny_isInstance (b := true) hT (by rw [isSubtype_type]; kernel_rfl) ?_)
  refine wpAny_pure ?_
  rw [if_neg (by decide)]
  have e0 : ((items.size : Nat) : Int) - 1 - ((0 : Nat) : Int) = (items.size : Int) - 1 := by omega
  refine wpAny_pure ⟨plainId_quiet F.plain_extend_loop _, codeAny_extend_loopS W hn _ hSf _ items.size 0 _ _ _ rfl (Nat.zero_le _) ⟨Nat.zero_le _, by rw [e0]; exact hit, hl⟩ hS (ItemsOf.nil _) fun s' acc' c' hm hS' hacc => ?_⟩
  rw [Moved.eq_with hm]
  refine hR s'.heap s'.toks acc' c' (fun b o hb hb2 e => hm.heap b o (fun hmem => ?_) e) hS' hacc
  rcases List.mem_cons.mp hmem with e' | hmem
  · exact hb e'
  · exact hb2 (List.mem_singleton.mp hmem)
theorem init_rev {R : Result → Shared → Prop} {it l : Addr} {items : Array Value} (hh : A.handled = none) (hit : s.heap.IsRevIter it l ((items.size : Int) - 1)) (hl : s.heap.IsList l items) (hne : l ≠ it) (hn : items.size ≤ sizeLine)
    (S : Addr) (hSi : S ≠ it) (hSl : S ≠ l) (hS : s.heap.get? S = some { cls := .type "list", data := .seq #[] })
    (hR : ∀ h' tk acc' c', (∀ b o, b ≠ S → b ≠ it → s.heap.get? b = some o → h'.get? b = some o) → h'.get? S = some { cls := .type "list", dict := none, data := .seq acc' c', slots := #[] } →
      ItemsOf (fun i v => items[items.size - 1 - i]? = some v) acc' items.size → R (.ok (.ret .none)) { s with heap := h', toks := tk }) :
    wpAny (model prog w) A.in1 (Builtin.«list.__init__» ⟨[.ref S, .ref it], []⟩)
      (fun fin s' => match fin with | .done f => R (.ok f) s' | .again c' => c'.quiet = true ∧ codeAny (model prog w) A c' R s') (fun e s' => R (.error e) s') s := by
  show wpAny _ _ (do let old ← Builtin.List.listItems (.ref S); Builtin.List.listUpdate (.ref S) (fun _ => #[]); letGo old.toList.reverse; Builtin.List.listExtendWith (.ref S) (.ref it) .none) _ _ s
  refine wpAny_bind ?_
  unfold Builtin.List.listItems
  refine wpAny_bind (wpAny_seqItems hS rfl (wpAny_pure ?_))
  show wpAny _ _ (updateSeq S (fun _ => #[]) >>= fun _ => letGo (#[] : Array Value).toList.reverse >>= fun _ => Builtin.List.listExtendWith (.ref S) (.ref it) .none) _ _ s
  refine wpAny_bind (wpAny_updateSeq hS rfl ?_)
  have hS₂ := Heap.get?_update_self (Obj.mapSeq (fun _ => (#[] : Array Value))) hS rfl
  have oth : ∀ b o, b ≠ S → s.heap.get? b = some o → (s.heap.update S (Obj.mapSeq (fun _ => (#[] : Array Value)))).get? b = some o :=
    fun b o hb e => (Heap.get?_update_other _ _ (Ne.symm hb)).trans e
  refine wpAny_bind (wpAny_letGo ?_)
  refine extend_rev hh (hit.at fun o e => oth it o (Ne.symm hSi) e) (hl.at fun o e => oth l o (Ne.symm hSl) e) hne hn S hSi hSl .none _ hS₂ fun h' tk acc' c' hk hS' hacc => ?_
  exact hR h' tk acc' c' (fun b o hb hb2 e => hk b o hb hb2 (oth b o hb e)) hS' hacc
theorem call_list_rev {Q : Value → Shared → Prop} {it l : Addr} {items : Array Value} (hh : A.handled = none) (hit : s.heap.IsRevIter it l ((items.size : Int) - 1)) (hl : s.heap.IsList l items) (hne : l ≠ it) (hn : items.size ≤ sizeLine)
    (hQ : ∀ h' tk acc' c', (∀ b o, b ≠ it → s.heap.get? b = some o → h'.get? b = some o) →
      h'.get? s.heap.objs.size = some { cls := .type "list", dict := none, data := .seq acc' c', slots := #[] } → ItemsOf (fun i v => items[items.size - 1 - i]? = some v) acc' items.size → Q (.ref s.heap.objs.size) { s with heap := h', toks := tk }) :
    wpAny (model prog w) A (call (.type "list") [.ref it]) Q E s := by
  obtain ⟨oi, hoi, _⟩ := id hit
  obtain ⟨ol, hol, _⟩ := id hl
  refine callType_codes (Q₁ := fun obj s₁ => obj = .ref s.heap.objs.size ∧ s₁ = { s with heap := s.heap.push { cls := .type "list", data := .seq #[] } }) F.called_list (F.typeCall_list_1 _) F.entry_list_init
    (code_list_new _ ⟨rfl, rfl⟩) fun obj s₁ h₁ => ?_
  obtain ⟨rfl, rfl⟩ := h₁
  have hS : (s.heap.push { cls := .type "list", data := .seq #[] }).get? s.heap.objs.size = some { cls := .type "list", data := .seq #[] } := Heap.get?_push_size _ rfl
  refine ⟨⟨_, hS, rfl⟩, F.args_list_init_2 _ _, init_rev (A := A.in1) hh (hit.at fun o e => Heap.get?_push_of_some _ e) (hl.push _) hne hn _ (Nat.ne_of_gt (Heap.lt_size hoi)) (Nat.ne_of_gt (Heap.lt_size hol)) hS fun h' tk acc' c' hk hS' hacc => ?_⟩
  exact ⟨rfl, hQ h' tk acc' c' (fun b o hb e => hk b o (Nat.ne_of_lt (Heap.lt_size e)) hb (Heap.get?_push_of_some _ e)) hS' hacc⟩
end
def tLstRev (K : PySem.W.Frag) (te : TE) : TE := fun σ H Q => te σ H fun v H1 => ∃ (a : Addr) (xs : List V), v = .ref a ∧ SqL K H1 a xs ∧ ∀ q, H1 q = none → Q (.ref q) (upd H1 q (.lst xs.reverse))
section
variable {X : Cx}
theorem pe_listRev {e : Expr} {te : TE} {p p2 pos pos2 : Pos} {K : PySem.W.Frag} (hc : X.calm = true) (hg : Gl X "list") (hm : X.mg "list" = none) (hg2 : Gl X "reversed") (hm2 : X.mg "reversed" = none) (he : PE X e te) (hK : X.K = K := by rfl)
    (hs : starEach [e] X.env = (false, eval e X.env) :: starEach [] X.env := by rfl)
    (hs2 : starEach [.Call (.Name "reversed" p2) [e] [] pos2] X.env = (false, eval (.Call (.Name "reversed" p2) [e] [] pos2) X.env) :: starEach [] X.env := by rfl) :
    PE X (.Call (.Name "list" p) [.Call (.Name "reversed" p2) [e] [] pos2] [] pos) (tLstRev K te) := by
  subst hK
  refine ⟨fun pins s σ H Q I h => ?_⟩
  refine Call_ (ld_blt I hg hm boot_list (PyProof.Rows.callWith_type1 (args_cons (Call_ (ld_blt I hg2 hm2 PyProof.Rows.boot_reversed (PyProof.Rows.callWith_type1 (args_cons (thn (he.run pins s σ H _ I h) fun u s1 ⟨v, H1, I1, r1, q1⟩ => args_nil ?_) hs) hs rfl))) hs2) hs2 rfl))
  obtain ⟨a, xs, ev, hq, q⟩ := q1
  subst ev
  obtain rfl : u = Value.ref a := r1
  obtain ⟨its, rv, p', hz⟩ := I1.list hq
  refine call_reversed_list p'.isList (args_nil ?_)
  have k0 : ∀ b o, s1.heap.get? b = some o → (s1.heap.push (revObj a ((its.toArray.size : Int) - 1))).get? b = some o := fun b o e => Heap.get?_push_of_some _ e
  have hl := p'.isList
  obtain ⟨ol, hol, _⟩ := id hl
  have hne : a ≠ s1.heap.objs.size := Nat.ne_of_lt (Heap.lt_size hol)
  have hn : its.toArray.size ≤ sizeLine := by rw [List.size_toArray, ← rv.length]; exact hz
  have hsz : (s1.heap.push (revObj a ((its.toArray.size : Int) - 1))).objs.size = s1.heap.objs.size + 1 := by simp [Heap.push]
  refine call_list_rev (s := { s1 with heap := s1.heap.push (revObj a ((its.toArray.size : Int) - 1)) }) (I1.ok.hd hc) ⟨_, Heap.get?_push_size _ rfl, rfl, rfl⟩ (hl.push _) hne hn fun h' tk acc c' hk hS hi => ?_
  have hp : s1.heap.get? (s1.heap.objs.size + 1) = none := Heap.get?_none_of_le (Nat.le_succ _)
  have hH : H1 (s1.heap.objs.size + 1) = none := I1.hok.fresh (Nat.le_succ _)
  have hS : h'.get? (s1.heap.push (revObj a ((its.toArray.size : Int) - 1))).objs.size = _ := hS
  rw [hsz] at hS
  show _
  refine ⟨.ref (s1.heap.objs.size + 1), upd H1 (s1.heap.objs.size + 1) (.lst xs.reverse), I1.laidN (t' := tk) (fun b o e => hk b o (Nat.ne_of_lt (Heap.lt_size e)) (k0 b o e)) hp hH (show ObjOk X.prog X.w _ _ _ (.lst xs.reverse) from ⟨by rw [List.length_reverse]; exact hz, acc.toList, c', vals_rev rv hi, ?_⟩), ?_, q _ hH⟩
  · rw [Array.toArray_toList]; exact hS
  · show _ = _
    exact congrArg Value.ref hsz
/-- list(reversed(x)) -/
def lrD : D → Option (List D)
  | .list ds => some ds.reverse
  | _ => none
def eLR (a : ME) : ML := fun ρ => (a ρ).bind fun d => lift (lrD d)
variable {K : PySem.W.Frag} {L : Addr × Addr} {mg : Str → Option Value} {W : WX} {ta : TE} {a : ME}
theorem dl_listRev (ha : DE K L mg W ta a) : DL K L mg W (tLstRev K ta) (eLR a) := fun F0 H0 F H σ ρ Q E p => by
  refine ha F0 H0 F H σ ρ _ E (post_mono (post_bind p) (fun d k F1 H1 x s1 r1 => ?_) fun _ z => z)
  obtain ⟨ds, ez, k⟩ := post_lift k
  unfold lrD at ez
  split at ez
  · cases ez
    obtain ⟨l, vs, rfl, h, r⟩ := r1.isl s1.fh
    exact ⟨l, vs, rfl, .of h, fun q hq => k F1 H1 q _ s1 hq r.reverse⟩
  · cases ez
@[simp] theorem eLR_ap {ρ : Fr} : eLR a ρ = (a ρ).bind fun d => lift (lrD d) := rfl
@[simp] theorem lrD_l {ds : List D} : lrD (.list ds) = some ds.reverse := rfl
end
end Dn

set_option Elab.async false
set_option linter.all false
set_option maxRecDepth 100000
set_option maxHeartbeats 4000000
/-! DenV: methods that are read: index, count, join, split, partition; divmod -/
namespace Dn
open PySem PySem.Spec PyProof.Rows L2

def RMR (K : PySem.W.Frag) (r : V → List V → Hp → VK → Prop) (f : D → List D → Option D) : Prop :=
  ∀ F H x xs d ds Q z, Ex F H → RepB K F H x d → RepBL K F H xs ds → f d ds = some z → WF K F H z Q → r x xs H Q
def isL : D → Bool
  | .list _ => true
  | .dict [(.none, .list _)] => true
  | _ => false
/-- a method of a list that is read -/
def eML (f : D → List D → Option D) (a : ME) (as : ML) : ME := fun ρ => (a ρ).bind fun d => if isL d = true then (as ρ).bind fun ds => lift (f d ds) else .stuck
section
variable {K : PySem.W.Frag} {L : Addr × Addr} {mg : Str → Option Value} {W : WX} {ta tb : TE} {a b : ME} {tas : TA} {as : ML}
theorem isL_ty {F H : Hp} {x : V} {d : D} (ex : Ex F H) (r : RepB K F H x d) (h : isL d = true) : tyV K "list" x H := by
  unfold isL at h
  split at h
  · obtain ⟨l, vs, rfl, a, _⟩ := r.isl ex
    exact .inl ⟨rfl, vs, .of a⟩
  · obtain ⟨l, vs, rfl, a, _⟩ := r.iscr ex
    exact .inl ⟨rfl, vs, a⟩
  · cases h
theorem df_meth {r : V → List V → Hp → VK → Prop} {f : D → List D → Option D} (hr : RMR K r f) (ha : DE K L mg W ta a) (hs : DA K L mg W tas as) : DF K L mg W (tBM K "list" r ta tas) (eML f a as) := fun F0 H0 F H σ ρ Q E p => by
  refine ha F0 H0 F H σ ρ _ E (post_mono (post_bind p) (fun d k F1 H1 x s1 r1 => ?_) fun _ z => z)
  split at k
  · rename_i hl
    refine ⟨isL_ty s1.fh r1 hl, ?_⟩
    refine hs F0 H0 F1 H1 σ ρ _ (E.step s1) (post_mono (post_bind k) (fun ds k2 F2 H2 ys s2 r2 => ?_) fun n z => WE'.on s1 z)
    obtain ⟨z, ez, k3⟩ := post_lift k2
    exact hr F2 H2 x ys d ds Q z s2.fh (r1.step s2) r2 ez (WF.on (s1.trans s2) k3)
  · exact k.elim
/-- index -/
def indexD : D → List D → Option D
  | .list ds, [d] => if SeqAt.shaped d && SeqAt.shaped (.list ds) then (ds.findIdx? fun z => PyData.eqv z d).map fun j => .int (j : Int) else none
  | _, _ => none
theorem rm_index : RMR K (rIndexD K) indexD := by
  intro F H x xs d ds Q z ex rx rs h k
  unfold indexD at h
  split at h
  · rename_i es e
    split at h
    · rename_i c
      rw [Bool.and_eq_true] at c
      cases q : es.findIdx? fun z => PyData.eqv z e with
      | none => rw [q] at h; cases h
      | some j =>
        rw [q] at h
        cases h
        obtain ⟨y, rfl, ry⟩ := rs.one
        obtain ⟨l, vs, rfl, _, _⟩ := rx.isl ex
        obtain ⟨hj, h1, h2⟩ := List.findIdx?_eq_some_iff_getElem.mp q
        refine ⟨l, y, e, es, j, es[j], rfl, rfl, (rx.now ex).dp (canLay_sh c.2), (ry.now ex).dp (canLay_sh c.1), c.2, c.1, List.getElem?_eq_getElem hj, h1, fun m z' hm hz => ?_, k.here ex (.int _)⟩
        obtain ⟨hm', e'⟩ := List.getElem?_eq_some_iff.mp hz
        have := h2 m hm
        rw [← e']
        simpa using this
    · cases h
  · cases h
/-- count of ints -/
def countD : D → List D → Option D
  | .list ds, [.int i] => (ints? ds).map fun ns => .int (ns.count i : Nat)
  | _, _ => none
theorem rm_count : RMR K (rCntI K) countD := by
  intro F H x xs d ds Q z ex rx rs h k
  unfold countD at h
  split at h
  · rename_i es i
    cases q : ints? es with
    | none => rw [q] at h; cases h
    | some ns =>
      rw [q] at h
      cases h
      obtain ⟨y, rfl, ry⟩ := rs.one
      obtain rfl := ry.isi
      obtain ⟨l, vs, rfl, hl, rl⟩ := rx.isl ex
      obtain rfl := ints?_eq q
      obtain rfl := rl.ints
      exact ⟨l, ns, i, rfl, rfl, .of hl, k.here ex (.int _)⟩
  · cases h
/-! texts -/
def strs? : List D → Option (List Str)
  | [] => some []
  | .str x :: ds => (strs? ds).map (x :: ·)
  | _ => none
@[simp] theorem strs?_map (xs : List Str) : strs? (xs.map PyData.str) = some xs := by
  induction xs with
  | nil => rfl
  | cons n ns ih => show (strs? (ns.map PyData.str)).map (n :: ·) = some (n :: ns); rw [ih]; rfl
theorem strs?_eq : ∀ {ds : List D} {xs : List Str}, strs? ds = some xs → ds = xs.map PyData.str
  | [], _, h => by cases h; rfl
  | .str i :: ds, ns, h => by
    unfold strs? at h
    cases q : strs? ds with
    | none => rw [q] at h; cases h
    | some ms => rw [q] at h; cases h; rw [strs?_eq q]; rfl
  | .none :: _, _, h => by cases h
  | .bool _ :: _, _, h => by cases h
  | .int _ :: _, _, h => by cases h
  | .list _ :: _, _, h => by cases h
  | .tuple _ :: _, _, h => by cases h
  | .dict _ :: _, _, h => by cases h
theorem repL_strs {F : Hp} (xs : List Str) : RepL K F (xs.map V.str) (xs.map PyData.str) := by
  induction xs with
  | nil => exact .nil
  | cons n ns ih => exact .cons (.str n) ih
theorem RepL.strs {F : Hp} {vs : List V} {xs : List Str} (h : RepL K F vs (xs.map PyData.str)) : vs = xs.map V.str := by
  induction xs generalizing vs with
  | nil => cases h; rfl
  | cons n ns ih =>
    cases h with
    | cons a r => cases a; rw [ih r]; rfl
def isS : D → Bool
  | .str _ => true
  | _ => false
theorem isS_ty {F H : Hp} {x : V} {d : D} (r : RepB K F H x d) (h : isS d = true) : ∃ a, x = .str a := by
  unfold isS at h
  split at h
  · exact ⟨_, r.iss⟩
  · cases h
def eM1 (f : D → D → Option D) (a b : ME) : ME := fun ρ => (a ρ).bind fun d => if isS d = true then (b ρ).bind fun e => lift (f d e) else .stuck
def eM1L (f : D → D → Option (List D)) (a b : ME) : ML := fun ρ => (a ρ).bind fun d => if isS d = true then (b ρ).bind fun e => lift (f d e) else .stuck
def R1S (K : PySem.W.Frag) (r : V → List V → Hp → VK → Prop) (f : D → D → Option D) : Prop := ∀ F H x y d e Q z, Ex F H → RepB K F H x d → RepB K F H y e → f d e = some z → WF K F H z Q → r x [y] H Q
def R1SL (K : PySem.W.Frag) (r : V → List V → Hp → VK → Prop) (f : D → D → Option (List D)) : Prop := ∀ F H x y d e Q z, Ex F H → RepB K F H x d → RepB K F H y e → f d e = some z → WN K F H z Q → r x [y] H Q
theorem df_m1 {r : V → List V → Hp → VK → Prop} {f : D → D → Option D} (hr : R1S K r f) (ha : DE K L mg W ta a) (hb : DE K L mg W tb b) : DF K L mg W (tM1 r ta tb) (eM1 f a b) := fun F0 H0 F H σ ρ Q E p => by
  refine ha F0 H0 F H σ ρ _ E (post_mono (post_bind p) (fun d k F1 H1 x s1 r1 => ?_) fun _ z => z)
  split at k
  · rename_i hl
    refine ⟨isS_ty r1 hl, ?_⟩
    refine hb F0 H0 F1 H1 σ ρ _ (E.step s1) (post_mono (post_bind k) (fun e k2 F2 H2 y s2 r2 => ?_) fun n z => WE'.on s1 z)
    obtain ⟨z, ez, k3⟩ := post_lift k2
    exact hr F2 H2 x y d e Q z s2.fh (r1.step s2) r2 ez (WF.on (s1.trans s2) k3)
  · exact k.elim
theorem dl_m1 {r : V → List V → Hp → VK → Prop} {f : D → D → Option (List D)} (hr : R1SL K r f) (ha : DE K L mg W ta a) (hb : DE K L mg W tb b) : DL K L mg W (tM1 r ta tb) (eM1L f a b) := fun F0 H0 F H σ ρ Q E p => by
  refine ha F0 H0 F H σ ρ _ E (post_mono (post_bind p) (fun d k F1 H1 x s1 r1 => ?_) fun _ z => z)
  split at k
  · rename_i hl
    refine ⟨isS_ty r1 hl, ?_⟩
    refine hb F0 H0 F1 H1 σ ρ _ (E.step s1) (post_mono (post_bind k) (fun e k2 F2 H2 y s2 r2 => ?_) fun n z => WE'.on s1 z)
    obtain ⟨z, ez, k3⟩ := post_lift k2
    exact hr F2 H2 x y d e Q z s2.fh (r1.step s2) r2 ez (WN.on (s1.trans s2) k3)
  · exact k.elim
def rJoin (K : PySem.W.Frag) : V → List V → Hp → VK → Prop := fun x xs H Q => ∃ a p, ∃ ys : List Str, x = .str a ∧ xs = [.ref p] ∧ (SqL K H p (ys.map V.str) ∨ SqT K H p (ys.map V.str)) ∧
  (ys.map (·.length)).sum + ys.length * a.length ≤ 16777216 ∧ Q (.str (Txt.join a ys)) H
def rSplit : V → List V → Hp → VK → Prop := fun x xs H Q => ∃ a b, x = .str a ∧ xs = [.str b] ∧ (b.length == 0) = false ∧ a.length + 2 ≤ sizeLine ∧ rNewStrs (Txt.split a b) H Q
def rPartition : V → List V → Hp → VK → Prop := fun x xs H Q => ∃ a b, x = .str a ∧ xs = [.str b] ∧ (b.length == 0) = false ∧ a.length ≤ sizeLine ∧
      ∀ p, H p = none → Q (.ref p) (upd H p (.tup [.str (Txt.partition a b).1, .str (Txt.partition a b).2.1, .str (Txt.partition a b).2.2]))
def joinD : D → D → Option D
  | .str a, d => (seq? d).bind fun ds => (strs? ds).bind fun ys => if (ys.map (·.length)).sum + ys.length * a.length ≤ 16777216 then some (.str (Txt.join a ys)) else none
  | _, _ => none
def splitD : D → D → Option (List D)
  | .str a, .str b => if (b.length == 0) = false ∧ a.length + 2 ≤ 16777216 then some ((Txt.split a b).map .str) else none
  | _, _ => none
def partD : D → D → Option D
  | .str a, .str b => if (b.length == 0) = false ∧ a.length ≤ 16777216 then some (.tuple [.str (Txt.partition a b).1, .str (Txt.partition a b).2.1, .str (Txt.partition a b).2.2]) else none
  | _, _ => none
theorem rs_join : R1S K (rJoin K) joinD := by
  intro F H x y d e Q z ex rx ry h k
  unfold joinD at h
  split at h
  · rename_i a
    obtain rfl := rx.iss
    cases q : seq? e with
    | none => rw [q] at h; cases h
    | some ds =>
      rw [q] at h
      cases q2 : strs? ds with
      | none =>
        have h : (strs? ds).bind _ = some z := h
        rw [q2] at h; cases h
      | some ys =>
        have h : (strs? ds).bind _ = some z := h
        rw [q2] at h
        have h : (if _ then _ else _) = some z := h
        split at h
        · cases h
          obtain ⟨l, vs, rfl, hv, rv⟩ := ry.seq ex q
          obtain rfl := strs?_eq q2
          obtain rfl := rv.strs
          exact ⟨a, l, ys, rfl, rfl, hv, by assumption, k.here ex (.str _)⟩
        · cases h
  · cases h
theorem rs_split : R1SL K rSplit splitD := by
  intro F H x y d e Q z ex rx ry h k
  unfold splitD at h
  split at h
  · split at h
    · rename_i a b c
      cases h
      obtain rfl := rx.iss
      obtain rfl := ry.iss
      exact ⟨a, b, rfl, rfl, c.1, c.2, k.new ex (repL_strs _)⟩
    · cases h
  · cases h
theorem rs_partition : R1S K rPartition partD := by
  intro F H x y d e Q z ex rx ry h k
  unfold partD at h
  split at h
  · split at h
    · rename_i a b c
      cases h
      obtain rfl := rx.iss
      obtain rfl := ry.iss
      exact ⟨a, b, rfl, rfl, c.1, c.2, k.newT ex (.cons (.str _) (.cons (.str _) (.cons (.str _) .nil)))⟩
    · cases h
  · cases h
/-- divmod -/
def divmodD : List D → Option D
  | [.int i, .int j] => if 0 < j ∧ j < 1073741824 then some (.tuple [.int (i / j), .int (i % j)]) else none
  | _ => none
def rDivmod : List V → Hp → VK → Prop := fun xs H Q => ∃ i j, xs = [.int i, .int j] ∧ CDiv i j ∧ ∀ p, H p = none → Q (.ref p) (upd H p (.tup [.int (i / j), .int (i % j)]))
theorem rc_divmod : RCD K rDivmod divmodD := by
  intro F H xs ds Q z ex rx h k
  unfold divmodD at h
  split at h
  · split at h
    · rename_i i j c
      cases h
      obtain ⟨x, y, rfl, r, r'⟩ := rx.two
      obtain rfl := r.isi
      obtain rfl := r'.isi
      exact ⟨i, j, rfl, c, k.newT ex (.cons (.int _) (.cons (.int _) .nil))⟩
    · cases h
  · cases h
end
section
variable {X : Cx} {K : PySem.W.Frag} {o e : Expr} {to te : TE} {apos pos : Pos}
theorem pe_joinK (ho : PE X o to) (he : PE X e te) (h : X.K = K := by rfl) (hs : starEach [e] X.env = [(false, eval e X.env)] := by rfl) (hbase : attributeBase o "join" X.env (eval o X.env) = eval o X.env := by rfl) (hline : (apos.endLine == pos.line) = true := by rfl) :
    PE X (.Call (.Attribute o "join" apos) [e] [] pos) (tM1 (rJoin K) to te) := h ▸ pe_join ho he hs hbase hline
theorem pe_splitK (ho : PE X o to) (he : PE X e te) (hs : starEach [e] X.env = [(false, eval e X.env)] := by rfl) (hbase : attributeBase o "split" X.env (eval o X.env) = eval o X.env := by rfl) (hline : (apos.endLine == pos.line) = true := by rfl) :
    PE X (.Call (.Attribute o "split" apos) [e] [] pos) (tM1 rSplit to te) := pe_split ho he hs hbase hline
theorem pe_partitionK (ho : PE X o to) (he : PE X e te) (hs : starEach [e] X.env = [(false, eval e X.env)] := by rfl) (hbase : attributeBase o "partition" X.env (eval o X.env) = eval o X.env := by rfl) (hline : (apos.endLine == pos.line) = true := by rfl) :
    PE X (.Call (.Attribute o "partition" apos) [e] [] pos) (tM1 rPartition to te) := pe_partition ho he hs hbase hline
theorem kIndex (hu : X.A.units + 65 < cLine) (h : X.K = K := by rfl) : MtR X "list.index" (rIndexD K) := h ▸ mt_indexD hu
theorem kCount (h : X.K = K := by rfl) : MtR X "list.count" (rCntI K) := h ▸ mt_lcount
theorem kDivmod : CallR X (.builtin "divmod") rDivmod := call_divmod
end
/-! ### made plain -/
section
variable {a b : ME} {as : ML} {ρ : Fr}
@[simp] theorem eML_ap {f : D → List D → Option D} : eML f a as ρ = (a ρ).bind fun d => if isL d = true then (as ρ).bind fun ds => lift (f d ds) else .stuck := rfl
@[simp] theorem eM1_ap {f : D → D → Option D} : eM1 f a b ρ = (a ρ).bind fun d => if isS d = true then (b ρ).bind fun e => lift (f d e) else .stuck := rfl
@[simp] theorem eM1L_ap {f : D → D → Option (List D)} : eM1L f a b ρ = (a ρ).bind fun d => if isS d = true then (b ρ).bind fun e => lift (f d e) else .stuck := rfl
@[simp] theorem isL_l {ds : List D} : isL (.list ds) = true := rfl
@[simp] theorem isS_s {x : Str} : isS (.str x) = true := rfl
end
end Dn

set_option Elab.async false
set_option linter.all false
set_option maxRecDepth 100000
set_option maxHeartbeats 4000000
/-! DenW: longer chains of comparisons, str of an int -/
namespace Dn
open PySem PySem.Spec PyProof.Rows L2
section
variable {X : Cx} {op : CmpOp} {ops : List CmpOp} {a b : Expr} {es : List Expr} {ta tb : TE} {pos : Pos}
/-- the links of a chain, behind a value -/
abbrev TCs := V → TE
def tcsL (r : R2) (tb : TE) : TCs := fun x σ H Q => tb σ H fun y H2 => r x y H2 Q
def tcsC (r : R2) (tb : TE) (t : TCs) : TCs := fun x σ H Q => tb σ H fun y H2 => r x y H2 fun z H3 => ∃ k, z = .bl k ∧ (if k = true then t y σ H3 Q else Q (.bl false) H3)
def tChs (ta : TE) (t : TCs) : TE := fun σ H Q => ta σ H fun x H1 => t x σ H1 Q
structure PCs (X : Cx) (ops : List CmpOp) (es : List Expr) (t : TCs) : Prop where
  two : ∃ o1 or e1 er, ops = o1 :: or ∧ es = e1 :: er
  run : ∀ (pins : List (Addr × Obj)) (s : Shared) (σ : L2.St) (H : Hp) (Q : VK) (pos : Pos) (x : V) (v : Value), Inv X pins σ H s → RelV x v → t x σ H Q →
    wpAny (model X.prog X.w) X.A (compareChain pos v ops (evalEach es X.env)) (EP X pins σ Q) X.xe s
  test : ∀ (pins : List (Addr × Obj)) (s : Shared) (σ : L2.St) (H : Hp) (Q : Bool → Hp → Prop) (pos : Pos) (x : V) (v : Value), Inv X pins σ H s → RelV x v → t x σ H (fun z H' => ∃ k, z = .bl k ∧ Q k H') →
    wpAny (model X.prog X.w) X.A (testChain pos v ops (evalEach es X.env)) (TP X pins σ Q) X.xe s
theorem pcs_last {r : R2} (ho : OpR X (compareOp op) r) (hb : PE X b tb) : PCs X [op] [b] (tcsL r tb) := by
  refine ⟨⟨_, _, _, _, rfl, rfl⟩, fun pins s σ H Q pos x v I rx h => ?_, fun pins s σ H Q pos x v I rx h => ?_⟩
  · exact chain_last (thn (hb.run pins s σ H _ I h) fun u s2 ⟨y, H2, I2, r2, q2⟩ => ho pins s2 σ H2 x y v u Q I2 rx r2 q2)
  · refine test_last (thn (hb.run pins s σ H _ I h) fun u s2 ⟨y, H2, I2, r2, q2⟩ => thn (ho pins s2 σ H2 x y v u _ I2 rx r2 q2) fun d s3 ⟨z, H3, I3, r3, k, e, q3⟩ => ?_)
    subst e
    cases r3
    exact wpAny_truthy_bool ⟨H3, I3, q3⟩
theorem pcs_cons {r : R2} {t : TCs} (ho : OpR X (compareOp op) r) (hb : PE X b tb) (ht : PCs X ops es t) : PCs X (op :: ops) (b :: es) (tcsC r tb t) := by
  obtain ⟨o1, or, e1, er, rfl, rfl⟩ := ht.two
  refine ⟨⟨_, _, _, _, rfl, rfl⟩, fun pins s σ H Q pos x v I rx h => ?_, fun pins s σ H Q pos x v I rx h => ?_⟩
  · refine chain_link (thn (hb.run pins s σ H _ I h) fun u s2 ⟨y, H2, I2, r2, q2⟩ => thn (ho pins s2 σ H2 x y v u _ I2 rx r2 q2) fun d s3 ⟨z, H3, I3, r3, k, e, q3⟩ => ?_)
    subst e
    cases r3
    refine wpAny_truthy_bool ?_
    cases k with
    | false => exact ite_ff ⟨.bl false, H3, I3, rfl, q3⟩
    | true => exact ite_tt (ht.run pins s3 σ H3 Q pos y u I3 r2 q3)
  · refine test_link (thn (hb.run pins s σ H _ I h) fun u s2 ⟨y, H2, I2, r2, q2⟩ => thn (ho pins s2 σ H2 x y v u _ I2 rx r2 q2) fun d s3 ⟨z, H3, I3, r3, k, e, q3⟩ => ?_)
    subst e
    cases r3
    refine wpAny_truthy_bool ?_
    cases k with
    | false =>
      obtain ⟨k', e', q'⟩ := q3
      cases e'
      exact ite_ff ⟨H3, I3, q'⟩
    | true => exact ite_tt (ht.test pins s3 σ H3 Q pos y u I3 r2 q3)
theorem pe_chains {o2 : CmpOp} {b2 : Expr} {t : TCs} (ha : PE X a ta) (hc : PCs X (op :: o2 :: ops) (b :: b2 :: es) t) (hm : lastMarks (op :: o2 :: ops) (b :: b2 :: es) = false := by with_unfolding_all rfl) :
    PE X (.Compare a (op :: o2 :: ops) (b :: b2 :: es) pos) (tChs ta t) := by
  refine ⟨fun pins s σ H Q I h => ?_⟩
  exact Compare_chain (thn (ha.run pins s σ H _ I h) fun v s1 ⟨x, H1, I1, r1, q1⟩ => hc.run pins s1 σ H1 Q pos x v I1 r1 q1) hm
theorem pt_chains {o2 : CmpOp} {b2 : Expr} {t : TCs} (ha : PE X a ta) (hc : PCs X (op :: o2 :: ops) (b :: b2 :: es) t) (hm : lastMarks (op :: o2 :: ops) (b :: b2 :: es) = false := by with_unfolding_all rfl) :
    PT X (.Compare a (op :: o2 :: ops) (b :: b2 :: es) pos) (tTest (tChs ta t)) := by
  refine ⟨fun pins s σ H Q I h => ?_⟩
  exact isTrue_chain (thn (ha.run pins s σ H _ I h) fun v s1 ⟨x, H1, I1, r1, q1⟩ => hc.test pins s1 σ H1 Q pos x v I1 r1 q1) hm
end
def eCsL (g : D → D → Option D) (b : ME) : D → ME := fun x ρ => (b ρ).bind fun y => lift (g x y)
def eCsC (g : D → D → Option D) (b : ME) (t : D → ME) : D → ME := fun x ρ => (b ρ).bind fun y => (lift (g x y)).bind fun z => (toB z).bind fun k => if k = true then t y ρ else .ok (.bool false)
def eChs (a : ME) (t : D → ME) : ME := fun ρ => (a ρ).bind fun x => t x ρ
@[simp] theorem eCsL_ap {g : D → D → Option D} {b : ME} {x : D} {ρ : Fr} : eCsL g b x ρ = (b ρ).bind fun y => lift (g x y) := rfl
@[simp] theorem eCsC_ap {g : D → D → Option D} {b : ME} {t : D → ME} {x : D} {ρ : Fr} : eCsC g b t x ρ = (b ρ).bind fun y => (lift (g x y)).bind fun z => (toB z).bind fun k => if k = true then t y ρ else .ok (.bool false) := rfl
@[simp] theorem eChs_ap {a : ME} {t : D → ME} {ρ : Fr} : eChs a t ρ = (a ρ).bind fun x => t x ρ := rfl
section
variable {K : PySem.W.Frag} {L : Addr × Addr} {mg : Str → Option Value} {W : WX} {ta tb : TE} {a b : ME} {g : D → D → Option D} {r : R2} {t : TCs} {f : D → ME}
variable (K L mg W) in
def DCs (t : TCs) (f : D → ME) : Prop := ∀ F0 H0 F H σ ρ Q x d, Env K L F0 H0 F H σ ρ → RepB K F H x d → post (f d ρ) (fun d => WV K F H d Q) (WE' mg W F H σ) → t x σ H Q
theorem dcs_last (hr : R2D K r g) (hb : DE K L mg W tb b) : DCs K L mg W (tcsL r tb) (eCsL g b) := fun F0 H0 F H σ ρ Q x d E rx p => by
  refine hb F0 H0 F H σ ρ _ E (post_mono (post_bind p) (fun e k F1 H1 y s1 r1 => ?_) fun n z => z)
  obtain ⟨z', ez', k6⟩ := post_lift k
  exact hr F1 H1 x y d e Q z' s1.fh (rx.step s1) r1 ez' fun F' H' v s' r' => k6 F' H' v (s1.trans s') (.frz r')
theorem dcs_cons (hr : R2D K r g) (hb : DE K L mg W tb b) (ht : DCs K L mg W t f) : DCs K L mg W (tcsC r tb t) (eCsC g b f) := fun F0 H0 F H σ ρ Q x d E rx p => by
  refine hb F0 H0 F H σ ρ _ E (post_mono (post_bind p) (fun e k2 F2 H2 y s2 r2 => ?_) fun n z => z)
  obtain ⟨z, ez, k3⟩ := post_lift (post_bind k2)
  obtain ⟨q, rfl, k4⟩ := toB_post (post_bind k3)
  refine hr F2 H2 x y d e _ _ s2.fh (rx.step s2) r2 ez fun F3 H3 v s3 rz => ?_
  cases rz
  refine ⟨q, rfl, ?_⟩
  have s := s2.trans s3
  cases q with
  | false => exact iteF (k4 F3 H3 _ s (.frz (.bl false)))
  | true =>
    refine iteT ?_
    exact ht F0 H0 F3 H3 σ ρ Q y e ((E.step s2).step s3) (r2.step s3) (post_mono k4 (fun u k5 F4 H4 w s4 rw => k5 F4 H4 w (s.trans s4) rw) fun n z => WE'.on s z)
theorem de_chains (ha : DE K L mg W ta a) (hc : DCs K L mg W t f) : DE K L mg W (tChs ta t) (eChs a f) := fun F0 H0 F H σ ρ Q E p => by
  refine ha F0 H0 F H σ ρ _ E (post_mono (post_bind p) (fun d k F1 H1 x s1 r1 => ?_) fun _ z => z)
  exact hc F0 H0 F1 H1 σ ρ Q x d (E.step s1) r1 (post_mono k (fun u k5 F4 H4 w s4 rw => k5 F4 H4 w (s1.trans s4) rw) fun n z => WE'.on s1 z)
end
/-! ### str of an int -/
def oStr : List V → Hp → VK → Prop := fun xs H Q => (∃ i : Int, xs = [.int i] ∧ i.natAbs.log2 < 1920 ∧ Q (.str (toString i)) H) ∨ ∃ a : Str, xs = [.str a] ∧ Q (.str a) H
theorem call_strU {X : Cx} : CallR X (.type "str") oStr := by
  intro pins s σ H xs us Q I r h
  rcases h with h | h
  · exact call_str_int pins s σ H xs us Q I r h
  · exact SkE.call_str_str pins s σ H xs us Q I r h
def strD : List D → Option D
  | [.int i] => if i.natAbs.log2 < 1920 then some (.str (toString i)) else none
  | [.str a] => some (.str a)
  | _ => none
theorem rc_str {K : PySem.W.Frag} : RCD K oStr strD := by
  intro F H xs ds Q z ex r h k
  unfold strD at h
  split at h
  · rename_i i
    split at h
    · rename_i hl
      cases h
      obtain ⟨x, rfl, rx⟩ := r.one
      obtain rfl := rx.isi
      exact .inl ⟨i, rfl, hl, k.here ex (.str _)⟩
    · cases h
  · rename_i a
    cases h
    obtain ⟨x, rfl, rx⟩ := r.one
    obtain rfl := rx.iss
    exact .inr ⟨a, rfl, k.here ex (.str _)⟩
  · cases h
theorem log_lt62 {n : Nat} (h : n < 4611686018427387905) : n.log2 < 1920 := by
  by_cases z : n = 0
  · subst z; decide
  · have := (Nat.log2_lt z (k := 63)).mpr (by omega)
    omega
@[simp] theorem strD_int {i : Int} (h : In62 i) : strD [.int i] = some (.str (toString i)) := by
  unfold In62 at h
  refine if_pos (log_lt62 ?_)
  obtain ⟨h1, h2⟩ := h
  omega
@[simp] theorem strD_str {a : Str} : strD [.str a] = some (.str a) := rfl
end Dn

set_option Elab.async false
set_option linter.all false
set_option maxRecDepth 100000
set_option maxHeartbeats 4000000
/-! DenX: sorted of a tuple of ints -/
namespace Dn.SrtT
open PySem PyProof.Rows Srt SrtO
section
variable {prog : Program} {w : World} {A : Around} {E : Value → Shared → Prop} {s : Shared}
theorem collect_tup {l : Addr} {vs : List Value} {Q : List Value → Shared → Prop} (hl : ∃ o n, s.heap.get? l = some o ∧ o.cls = .type "tuple" ∧ o.data = .seq vs.toArray n)
    (h : Q vs { s with heap := (s.heap.push (seqObj "list" #[] 0)).update s.heap.objs.size (Obj.mapSeq (· ++ vs.toArray)) }) (hsz : vs.length ≤ sizeLine) :
    wpAny (model prog w) A (collect (.ref l)) Q E s := by
  obtain ⟨o, n, ho, hc, hd⟩ := hl
  unfold collect
  refine wpAny_bind (wpAny_runValue (codeAny_builtin entry_proto_collect' ?_))
  show wpAny _ _ (do again (.builtin "list.__iadd__" ⟨[← newList [], .ref l], []⟩)) _ _ s
  refine wpAny_bind (wpAny_newList (wpAny_pure ⟨Code.quiet_builtin _ (by decide +kernel), codeAny_builtin entry_list_iadd' ?_⟩))
  show wpAny _ _ (Builtin.List.listExtendWith (.ref s.heap.objs.size) (.ref l) (.ref s.heap.objs.size)) _ _ { s with heap := s.heap.push (seqObj "list" #[] 0) }
  unfold Builtin.List.listExtendWith
  have ho' : (s.heap.push (seqObj "list" #[] 0)).get? l = some o := Heap.get?_push_of_some _ ho
  refine wpAny_bind (wpAny_typeOf (T := "tuple") ⟨o, ho', hc⟩ ?_)
  have ht : (Value.type "tuple" == Value.type "tuple") = true := by rfl
  rw [if_pos (by rw [ht]; simp)]
  refine wpAny_bind (listItems_at ho' hd ?_)
  refine wpAny_bind (listItems_at (xs := #[]) (n := 0) (Heap.get?_push_size _ rfl) rfl ?_)
  rw [if_neg (by simp)]
  refine wpAny_bind (listUpdate_at (xs := #[]) (n := 0) (Heap.get?_push_size _ rfl) rfl ?_ (Nat.zero_le _) (by show (#[] ++ vs.toArray).size ≤ sizeLine + 1; simp only [Array.size_append, List.size_toArray, List.length_nil]; omega))
  refine wpAny_pure ?_
  show wpAny (model prog w) A (do
      let o ← load s.heap.objs.size
      match o.data with
      | .seq xs _ => pure xs.toList
      | _ => unsupported "internal:collect") Q E { s with heap := (s.heap.push (seqObj "list" #[] 0)).update s.heap.objs.size (Obj.mapSeq (· ++ vs.toArray)) }
  refine wpAny_bind (wpAny_load (get?_update_seq (Heap.get?_push_size _ rfl) _) ?_)
  show wpAny _ _ (pure ((#[] : Array Value) ++ vs.toArray).toList) Q E _
  rw [show ((#[] : Array Value) ++ vs.toArray).toList = vs by simp]
  exact wpAny_pure h
theorem sorted_ordT {l : Addr} {vs : List Value} {ltv : Value → Value → Bool} {Q : Value → Shared → Prop} (O : Swo ltv) (hl : ∃ o n, s.heap.get? l = some o ∧ o.cls = .type "tuple" ∧ o.data = .seq vs.toArray n) (hz : vs.length ≤ sizeLine)
    (hS : 2 ≤ vs.length → ∀ (h₁ : Heap) (a : Addr), SortableO prog w A.in1.in1 { s with heap := h₁ } a vs ltv)
    (h : ∀ out : List Value, Srtd ltv out → Stb ltv out vs → Q (.ref (s.heap.objs.size + 1)) { s with heap := sortedAll s.heap vs out.toArray }) :
    wpAny (model prog w) A (call (.builtin "sorted") [.ref l]) Q E s := by
  refine Calls.call_function_entry kind_sorted plain_sorted entry_sorted (args_sorted1 _) ?_
  unfold Builtin.«sorted»
  refine wpAny_bind (m := checkCount "sorted" 1 1 _) (wpAny_pure ?_)
  refine wpAny_bind (collect_tup hl ?_ hz)
  refine wpAny_bind (wpAny_newList ?_ hz)
  have hsz : ((s.heap.push (seqObj "list" #[] 0)).update s.heap.objs.size (Obj.mapSeq (· ++ vs.toArray))).objs.size = s.heap.objs.size + 1 := by
    rw [Heap.size_update, size_push']
  have hoL : (((s.heap.push (seqObj "list" #[] 0)).update s.heap.objs.size (Obj.mapSeq (· ++ vs.toArray))).push (seqObj "list" vs.toArray 0)).get? (s.heap.objs.size + 1) = some (seqObj "list" vs.toArray 0) := by
    rw [← hsz]; exact Heap.get?_push_size _ rfl
  show wpAny _ _ _ _ _ { s with heap := ((s.heap.push (seqObj "list" #[] 0)).update s.heap.objs.size (Obj.mapSeq (· ++ vs.toArray))).push (seqObj "list" vs.toArray 0) }
  rw [hsz]
  refine wpAny_bind (wpAny_holding (wpAny_call_entry slot_list_sort ⟨_, hoL, rfl⟩ entry_list_sort (list_sort_ord O hoL hz (fun h2 => hS h2 _ _) fun out hs hb => ⟨_, rfl, ?_⟩) (args_list_sort _)))
  exact wpAny_pure ⟨_, rfl, h out hs hb⟩
end
end Dn.SrtT
namespace Dn
open PySem PySem.Spec PyProof.Rows L2
/-- sorted of a list or a tuple of ints -/
def rSortedU (K : PySem.W.Frag) : List V → Hp → VK → Prop := fun vs H Q => ∃ (a : Addr) (ns : List Int), vs = [V.ref a] ∧ (SqL K H a (ns.map V.int) ∨ SqT K H a (ns.map V.int)) ∧
  ∀ (ns' : List Int) (p : Addr), ns'.Perm ns → ns'.Pairwise (· ≤ ·) → H p = none → Q (.ref p) (upd H p (.lst (ns'.map V.int)))
theorem cr_sortedU {X : Cx} : CallR X (.builtin "sorted") (rSortedU X.K) := by
  intro pins s σ H vs us Q I r h
  obtain ⟨a, ns, rfl, hs | hs, q⟩ := h
  · exact cr_sortedI pins s σ H _ us Q I r ⟨a, ns, rfl, hs, q⟩
  · obtain ⟨its, rv, hl, hz⟩ := I.tuple hs
    rw [Vals.ref1 r]
    have hi := rv.ints
    have hl' : ∃ o n, s.heap.get? a = some o ∧ o.cls = .type "tuple" ∧ o.data = .seq its.toArray n := by
      obtain ⟨o, ho, hc, n, hd⟩ := hl
      exact ⟨o, n, ho, hc, hd⟩
    refine SrtT.sorted_ordT SrtO.swo_int hl' (by rw [← rv.length]; exact hz) (fun h2 h₁ a' => SrtO.ints_sortable hi h2) fun out h1 h2 => ?_
    obtain ⟨k1, k2, k3⟩ := SrtO.ints_out hi h1 h2
    obtain ⟨ep, he'⟩ := PyProof.Rows.sortedAll_at s.heap its out.toArray
    have hlen : ((out.map SrtO.iv).map V.int).length ≤ sizeLine := by
      rw [List.length_map, k2.length_eq]
      rw [List.length_map] at hz
      exact hz
    exact ⟨.ref _, upd H (s.heap.objs.size + 1) (.lst ((out.map SrtO.iv).map V.int)), I.laid (t' := s.toks) (fun _ _ => PyProof.Rows.sortedAll_old) (Nat.le_succ _) ⟨hlen, out, ep, vals_of_ints k1, he'⟩, rfl, q _ _ k2 k3 (I.hok.fresh (Nat.le_succ _))⟩
theorem kSortU {X : Cx} {K : PySem.W.Frag} (h : X.K = K := by rfl) : CallR X (.builtin "sorted") (rSortedU K) := h ▸ cr_sortedU
def sortUD : List D → Option (List D)
  | [.list ds] => (ints? ds).map fun ns => (sortI ns).map .int
  | [.tuple ds] => (ints? ds).map fun ns => (sortI ns).map .int
  | [.dict [(.none, .tuple ds)]] => (ints? ds).map fun ns => (sortI ns).map .int
  | _ => none
theorem rc_sortU {K : PySem.W.Frag} : RCL K (rSortedU K) sortUD := by
  intro F H xs ds Q z ex rx h k
  unfold sortUD at h
  split at h
  · obtain ⟨x, rfl, r⟩ := rx.one
    obtain ⟨l, vs, rfl, a, b⟩ := r.isl ex
    rename_i es
    cases q : ints? es with
    | none => rw [q] at h; cases h
    | some ns =>
      rw [q] at h
      cases h
      obtain rfl := ints?_eq q
      obtain rfl := b.ints
      refine ⟨l, ns, rfl, .inl (.of a), fun ns' p hp hs hn => ?_⟩
      have e : ns' = sortI ns := sorted_one (hp.trans (sortI_perm ns).symm) hs (sortI_sorted ns)
      rw [e]
      exact k.new ex (repL_ints _) p hn
  · rename_i es
    obtain ⟨x, rfl, r⟩ := rx.one
    obtain ⟨l, vs, rfl, a, b, _⟩ := r.ist ex
    cases q : ints? es with
    | none => rw [q] at h; cases h
    | some ns =>
      rw [q] at h
      cases h
      obtain rfl := ints?_eq q
      obtain rfl := b.ints
      refine ⟨l, ns, rfl, .inr a, fun ns' p hp hs hn => ?_⟩
      have e : ns' = sortI ns := sorted_one (hp.trans (sortI_perm ns).symm) hs (sortI_sorted ns)
      rw [e]
      exact k.new ex (repL_ints _) p hn
  · rename_i es
    obtain ⟨x, rfl, r⟩ := rx.one
    obtain ⟨l, vs, rfl, a, b, _⟩ := r.iktT ex
    cases q : ints? es with
    | none => rw [q] at h; cases h
    | some ns =>
      rw [q] at h
      cases h
      obtain rfl := ints?_eq q
      obtain rfl := b.ints
      refine ⟨l, ns, rfl, .inr a, fun ns' p hp hs hn => ?_⟩
      have e : ns' = sortI ns := sorted_one (hp.trans (sortI_perm ns).symm) hs (sortI_sorted ns)
      rw [e]
      exact k.new ex (repL_ints _) p hn
  · cases h
@[simp] theorem sortUD_l {ns : List Int} : sortUD [.list (ns.map .int)] = some ((sortI ns).map .int) := by
  show (ints? (ns.map PyData.int)).map _ = _
  rw [ints?_map]
  rfl
@[simp] theorem sortUD_t {ns : List Int} : sortUD [.tuple (ns.map .int)] = some ((sortI ns).map .int) := by
  show (ints? (ns.map PyData.int)).map _ = _
  rw [ints?_map]
  rfl
end Dn

set_option Elab.async false
set_option linter.all false
set_option maxRecDepth 100000
set_option maxHeartbeats 4000000
/-! DenY: min of a tuple of ints -/
namespace Dn
open PySem PySem.Spec PyProof.Rows L2
theorem reads_ints {h : Heap} : ∀ {vs : List Value} {ns : List Int}, IntsAre vs ns → ReadsAll h vs (ns.map PyData.int) []
  | _, _, .nil => .nil
  | _, _, .cons n t r => .cons (as := []) (.int n t) (reads_ints r)
theorem dep_ints : ∀ ns : List Int, PyData.depthAll (ns.map PyData.int) = 0
  | [] => by simp [PyData.depthAll]
  | n :: ns => by simp [PyData.depthAll, PyData.depth, dep_ints ns]
theorem alike_ints (ns : List Int) : PySem.W.AlikeAll (ns.map PyData.int) := by
  refine ⟨fun x hx y hy => ?_, fun x hx => ?_⟩
  · obtain ⟨a, _, rfl⟩ := List.mem_map.mp hx
    obtain ⟨b, _, rfl⟩ := List.mem_map.mp hy
    simp [PySem.W.alike]
  · obtain ⟨a, _, rfl⟩ := List.mem_map.mp hx
    exact fun h => by cases h
def rMinT (K : PySem.W.Frag) : List V → Hp → VK → Prop := fun vs H Q => ∃ (a : Addr) (n : Int) (ns : List Int), vs = [V.ref a] ∧ SqT K H a ((n :: ns).map V.int) ∧ Q (.int (ns.foldl min n)) H
theorem cr_minT {X : Cx} (hc : X.calm = true) (hu : X.A.units + 65 < cLine) : CallR X (.builtin "min") (rMinT X.K) := by
  intro pins s σ H vs us Q I r h
  obtain ⟨a, n, ns, rfl, hs, q⟩ := h
  obtain ⟨its, rv, hl, _⟩ := I.tuple hs
  rw [Vals.ref1 r]
  have hi := rv.ints
  have hr : ReadsAll s.heap its.toArray.toList (.int n :: ns.map PyData.int) [] := reads_ints (ns := n :: ns) hi
  refine PySem.W.min_tuple_data (I.ok.hd hc) hl hr (alike_ints (n :: ns)) ?_ fun i v h' tk bs hv rd hk => ?_
  · have : PyData.depthAll (.int n :: ns.map PyData.int) = 0 := dep_ints (n :: ns)
    rw [this]
    omega
  · rw [PySem.W.minD_ints] at rd
    cases rd
    exact ⟨.int _, H, I.kept hk, ⟨_, rfl⟩, q⟩
def oMinU (K : PySem.W.Frag) := rcOr (oMin K) (rMinT K)
theorem call_minU2 {X : Cx} (hc : X.calm = true) (hu : X.A.units + 65 < cLine) : CallR X (.builtin "min") (oMinU X.K) := by
  intro pins s σ H vs us Q I r h
  rcases h with h | h
  · exact call_minU hc pins s σ H vs us Q I r h
  · exact cr_minT hc hu pins s σ H vs us Q I r h
theorem kMinU {X : Cx} {K : PySem.W.Frag} (hc : X.calm = true) (hu : X.A.units + 65 < cLine) (h : X.K = K := by rfl) : CallR X (.builtin "min") (oMinU K) := h ▸ call_minU2 hc hu
def minUD : List D → Option D
  | [.tuple ds] => (ints? ds).bind fun ns => match ns with
    | n :: ns => some (.int (ns.foldl min n))
    | [] => none
  | ds => minD ds
theorem rc_minU {K : PySem.W.Frag} : RCD K (oMinU K) minUD := by
  intro F H xs ds Q z ex rx h k
  unfold minUD at h
  split at h
  · obtain ⟨x, rfl, r⟩ := rx.one
    rename_i es
    obtain ⟨l, vs, rfl, a, b, _⟩ := r.ist ex
    cases q : ints? es with
    | none => rw [q] at h; cases h
    | some ns =>
      rw [q] at h
      obtain rfl := ints?_eq q
      obtain rfl := b.ints
      cases ns with
      | nil => cases h
      | cons n ns =>
        cases h
        exact .inr ⟨l, n, ns, rfl, a, k.here ex (.int _)⟩
  · exact .inl (rc_min F H xs _ Q z ex rx h k)
@[simp] theorem minUD_2 {i j : Int} : minUD [.int i, .int j] = some (.int (min i j)) := rfl
theorem minUD_t {n : Int} {ns : List Int} : minUD [.tuple ((n :: ns).map .int)] = some (.int (ns.foldl min n)) := by
  show (ints? ((n :: ns).map PyData.int)).bind _ = _
  rw [ints?_map]
  rfl
theorem min_first {n : Int} : ∀ {ns : List Int}, (∀ x ∈ ns, n ≤ x) → ns.foldl min n = n
  | [], _ => rfl
  | x :: xs, h => by
    rw [List.foldl_cons, show min n x = n by have := h x List.mem_cons_self; omega]
    exact min_first fun y hy => h y (List.mem_cons_of_mem _ hy)
end Dn

set_option Elab.async false
set_option linter.all false
set_option maxRecDepth 100000
set_option maxHeartbeats 4000000
/-! DenZ: is, is not between bools -/
namespace Dn
open PySem PySem.Spec PyProof.Rows L2
def oIsB : R2 := fun x y H Q => ∃ a b, x = .bl a ∧ y = .bl b ∧ Q (.bl (decide (a = b))) H
def oIsnB : R2 := fun x y H Q => ∃ a b, x = .bl a ∧ y = .bl b ∧ Q (.bl (!decide (a = b))) H
theorem op_isB {X : Cx} : OpR X (compareOp .Is) oIsB := op_is_bl
theorem op_isnB {X : Cx} : OpR X (compareOp .IsNot) oIsnB := op_isnot_bl
def isBD : D → D → Option D
  | .bool a, .bool b => some (.bool (decide (a = b)))
  | _, _ => none
def isnBD : D → D → Option D
  | .bool a, .bool b => some (.bool (!decide (a = b)))
  | _, _ => none
section
variable {K : PySem.W.Frag}
theorem rd_isB : R2D K oIsB isBD := by
  intro F H x y d e Q z ex rx ry h k
  unfold isBD at h
  split at h
  · cases h
    obtain rfl := rx.isb
    obtain rfl := ry.isb
    exact ⟨_, _, rfl, rfl, k.here ex (.bl _)⟩
  · cases h
theorem rd_isnB : R2D K oIsnB isnBD := by
  intro F H x y d e Q z ex rx ry h k
  unfold isnBD at h
  split at h
  · cases h
    obtain rfl := rx.isb
    obtain rfl := ry.isb
    exact ⟨_, _, rfl, rfl, k.here ex (.bl _)⟩
  · cases h
end
@[simp] theorem isBD_b {a b : Bool} : isBD (.bool a) (.bool b) = some (.bool (decide (a = b))) := rfl
@[simp] theorem isnBD_b {a b : Bool} : isnBD (.bool a) (.bool b) = some (.bool (!decide (a = b))) := rfl
end Dn

set_option Elab.async false
set_option linter.all false
set_option maxRecDepth 100000
set_option maxHeartbeats 4000000
/-! DenZZ: >= between tuples of ints -/
namespace Dn
open PySem PySem.Spec PyProof.Rows L2
def geI (ns ms : List Int) : Bool := Ob.lexAt (fun j => decide (ns.getD j 0 = ms.getD j 0)) (fun j => decide (ms.getD j 0 ≤ ns.getD j 0)) (decide (ms.length ≤ ns.length)) 0 (min ns.length ms.length)
def rGeT (K : PySem.W.Frag) : R2 := fun x y H Q => ∃ (a b : Addr) (ns ms : List Int), x = .ref a ∧ y = .ref b ∧ SqT K H a (ns.map V.int) ∧ SqT K H b (ms.map V.int) ∧ Q (.bl (geI ns ms)) H
theorem op_geT {X : Cx} (hu : X.A.units < cLine) : OpR X (compareOp .GtE) (rGeT X.K) := by
  intro pins s σ H x y v u Q I rx ry h
  obtain ⟨a, b, ns, ms, rfl, rfl, ha, hb, q⟩ := h
  cases rx
  cases ry
  obtain ⟨its, r1, p1, _⟩ := I.tuple ha
  obtain ⟨its2, r2, p2, _⟩ := I.tuple hb
  have i1 : IntsAre its ns := Vals.ints r1
  have i2 : IntsAre its2 ms := Vals.ints r2
  have e1 : its.toArray.size = ns.length := by rw [List.size_toArray]; exact i1.length
  have e2 : its2.toArray.size = ms.length := by rw [List.size_toArray]; exact i2.length
  have at1 : ∀ j (h1 : j < its.toArray.size), ∃ t, its.toArray[j] = .int (ns.getD j 0) t := fun j h1 => PyProof.Rows.IntsAre.int_at i1 _ _ (by simp at h1; simp [h1])
  have at2 : ∀ j (h1 : j < its2.toArray.size), ∃ t, its2.toArray[j] = .int (ms.getD j 0) t := fun j h1 => PyProof.Rows.IntsAre.int_at i2 _ _ (by simp at h1; simp [h1])
  have R := Ob.RcOp.tuples_ge (A := X.A) (s := s) (e := fun j => decide (ns.getD j 0 = ms.getD j 0)) (r := fun j => decide (ms.getD j 0 ≤ ns.getD j 0)) p1 p2 hu (fun j h1 h2 => by
    obtain ⟨t, et⟩ := at1 j h1
    obtain ⟨t', et'⟩ := at2 j h2
    rw [et, et']
    have z : (ns.getD j 0 == ms.getD j 0) = decide (ns.getD j 0 = ms.getD j 0) := by
      by_cases q : ns.getD j 0 = ms.getD j 0
      · rw [decide_eq_true q]; exact beq_iff_eq.mpr q
      · rw [decide_eq_false q]; exact beq_eq_false_iff_ne.mpr q
    rw [← z]
    exact SeqAt.EqAt.int_int _ _ _ _) (fun j h1 h2 _ => by
    obtain ⟨t, et⟩ := at1 j h1
    obtain ⟨t', et'⟩ := at2 j h2
    rw [et, et']
    exact Ob.RcOp.ge_int _ _ _ _)
  rw [e1, e2] at R
  exact R X.prog X.w X.xe (EP X pins σ Q) ⟨.bl _, H, I, rfl, q⟩
theorem kGeT {X : Cx} {K : PySem.W.Frag} (hu : X.A.units < cLine) (h : X.K = K := by rfl) : OpR X (compareOp .GtE) (rGeT K) := h ▸ op_geT hu
theorem hu0 {A : Around} {k : Nat} (h : Room k A) : A.units < cLine := by have := hu65 h; omega
def geTD : D → D → Option D
  | .tuple ds, .tuple es => (ints? ds).bind fun ns => (ints? es).map fun ms => .bool (geI ns ms)
  | _, _ => none
section
variable {K : PySem.W.Frag}
theorem rd_geT : R2D K (rGeT K) geTD := by
  intro F H x y d e Q z ex rx ry h k
  unfold geTD at h
  split at h
  · rename_i ds es
    cases q : ints? ds with
    | none => rw [q] at h; cases h
    | some ns =>
      rw [q] at h
      cases q2 : ints? es with
      | none => rw [q2] at h; cases h
      | some ms =>
        rw [q2] at h
        cases h
        obtain rfl := ints?_eq q
        obtain rfl := ints?_eq q2
        obtain ⟨l, vs, rfl, a, b, _⟩ := rx.ist ex
        obtain ⟨l', vs', rfl, a', b', _⟩ := ry.ist ex
        obtain rfl := b.ints
        obtain rfl := b'.ints
        exact ⟨l, l', ns, ms, rfl, rfl, a, a', k.here ex (.bl _)⟩
  · cases h
end
theorem geTD_2 {a b c d : Int} : geTD (.tuple [.int a, .int b]) (.tuple [.int c, .int d]) = some (.bool (if a = c then decide (b = d) || decide (d ≤ b) else decide (c ≤ a))) := by
  have e : geTD (.tuple [.int a, .int b]) (.tuple [.int c, .int d]) = some (.bool (geI [a, b] [c, d])) := rfl
  rw [e]
  unfold geI
  by_cases h : a = c
  · by_cases g : b = d <;> simp [Ob.lexAt, h, g]
  · simp [Ob.lexAt, h]
/-- int(..) of an int, a bool or a text -/
def intWD : List D → Option D
  | [.int i] => some (.int i)
  | [.bool b] => some (.int (if b then 1 else 0))
  | [.str a] => if a.length ≤ 640 then (PySem.intText? a).map .int else none
  | _ => none
def oIntW : List V → Hp → VK → Prop := fun xs H Q => oInt xs H Q ∨ ∃ a n, xs = [.str a] ∧ PySem.intText? a = some n ∧ a.length ≤ 640 ∧ Q (.int n) H
theorem call_intW {X : Cx} : CallR X (.type "int") oIntW := by
  intro pins s σ H xs us Q I r h
  rcases h with h | h
  · exact call_intU pins s σ H xs us Q I r h
  · exact call_int_str pins s σ H xs us Q I r h
theorem rc_intW {K : PySem.W.Frag} : RCD K oIntW intWD := by
  intro F H xs ds Q z ex rx h k
  unfold intWD at h
  split at h
  · cases h
    obtain ⟨x, rfl, r⟩ := rx.one
    obtain rfl := r.isi
    exact .inl (.inl ⟨_, rfl, k.here ex (.int _)⟩)
  · cases h
    obtain ⟨x, rfl, r⟩ := rx.one
    obtain rfl := r.isb
    exact .inl (.inr ⟨_, rfl, k.here ex (.int _)⟩)
  · rename_i a
    split at h
    · rename_i hl
      cases q : PySem.intText? a with
      | none => rw [q] at h; cases h
      | some n =>
        rw [q] at h
        cases h
        obtain ⟨x, rfl, r⟩ := rx.one
        obtain rfl := r.iss
        exact .inr ⟨a, n, rfl, q, hl, k.here ex (.int _)⟩
    · cases h
  · cases h
@[simp] theorem intWD_int {i : Int} : intWD [.int i] = some (.int i) := rfl
/-- one sign in a text -/
def sgnB : D → D → Option Bool
  | .str x, .str z => match x.cps.toList with
    | [c] => some (decide (c ∈ z.cps.toList))
    | _ => none
  | _, _ => none
def inSD (d e : D) : Option D := (sgnB d e).map .bool
def ninSD (d e : D) : Option D := (sgnB d e).map fun b => .bool (!b)
theorem sgnB_eq {d e : D} {b : Bool} (h : sgnB d e = some b) : ∃ (c : Nat) (z : Str), d = .str ⟨#[c]⟩ ∧ e = .str z ∧ b = decide (c ∈ z.cps.toList) := by
  unfold sgnB at h
  split at h
  · rename_i x z
    split at h
    · rename_i c q
      cases h
      refine ⟨c, z, ?_, rfl, rfl⟩
      have : x = ⟨#[c]⟩ := Str.ext' (Array.toList_inj.mp q)
      rw [this]
    · cases h
  · cases h
def rSgn : R2 := fun x y H Q => ∃ (c : Nat) (z : Str), x = .str ⟨#[c]⟩ ∧ y = .str z ∧ Q (.bl (decide (c ∈ z.cps.toList))) H
def rNSgn : R2 := fun x y H Q => ∃ (c : Nat) (z : Str), x = .str ⟨#[c]⟩ ∧ y = .str z ∧ Q (.bl (!decide (c ∈ z.cps.toList))) H
theorem op_sgn {X : Cx} : OpR X (compareOp .In) rSgn := op_in_sign
theorem op_nsgn {X : Cx} : OpR X (compareOp .NotIn) rNSgn := op_notIn_sign
theorem rd_inS {K : PySem.W.Frag} : R2D K rSgn inSD := by
  intro F H x y d e Q z ex rx ry h k
  unfold inSD at h
  cases q : sgnB d e with
  | none => rw [q] at h; cases h
  | some b =>
    rw [q] at h
    cases h
    obtain ⟨c, w, rfl, rfl, rfl⟩ := sgnB_eq q
    obtain rfl := rx.iss
    obtain rfl := ry.iss
    exact ⟨c, w, rfl, rfl, k.here ex (.bl _)⟩
theorem rd_ninS {K : PySem.W.Frag} : R2D K rNSgn ninSD := by
  intro F H x y d e Q z ex rx ry h k
  unfold ninSD at h
  cases q : sgnB d e with
  | none => rw [q] at h; cases h
  | some b =>
    rw [q] at h
    cases h
    obtain ⟨c, w, rfl, rfl, rfl⟩ := sgnB_eq q
    obtain rfl := rx.iss
    obtain rfl := ry.iss
    exact ⟨c, w, rfl, rfl, k.here ex (.bl _)⟩
end Dn

set_option Elab.async false
set_option linter.all false
set_option maxRecDepth 100000
set_option maxHeartbeats 4000000
/-! DenZA: a method that changes a list nobody keeps; l[m.pop(..)] = v -/
namespace Dn
open PySem L2
/-- a new list is changed, and let go -/
def sTmp (f : ML) (fm : List D → List D → Option (List D × D)) (as : ML) : MS := fun ρ => Out.of (f ρ) ρ fun ds => Out.of (as ρ) ρ fun es => Out.ofO (fm ds es) fun _ => .nx ρ
/-- l[m.meth(..)] = v, l in slot i, m in slot j -/
def sSetM (i j : Nat) (fm : List D → List D → Option (List D × D)) (as : ML) (e : ME) : MS := fun ρ => Out.of (e ρ) ρ fun v => Out.ofO (ownAt i ρ) fun _ => Out.ofO (ownAt j ρ) fun ds => Out.of (as ρ) ρ fun es => Out.ofO (fm ds es) fun r =>
  Out.ofO (ownAt i (putL j r.1 ρ)) fun ds' => Out.ofO (setL ds' r.2 v) fun d2 => .nx (putL i d2 (putL j r.1 ρ))
section
variable {K : PySem.W.Frag} {mg : Str → Option Value} {W : WX} {te : TE} {e : ME} {L : Addr × Addr} {tas : TA} {as : ML} {r : V → List V → Hp → VK → Prop} {fm : List D → List D → Option (List D × D)}
theorem ds_tmp {f : ML} (hr : RMD K r fm) (hf : DL K L mg W te f) (ha : DAF K L mg W tas as) : DS K L mg W (tDrop (tBM K "list" r te tas)) (sTmp f fm as) := fun F0 H0 F H σ ρ D E w => by
  refine hf F0 H0 F H σ ρ _ E (post_mono (WO.of E w) (fun ds w1 F1 H1 p vs s n r1 => ?_) fun _ z => z)
  have E1 := E.step s
  have f1 : F1 p = none := s.fh.free n
  have E2 := E1.step (Step.new0 (o := .lst vs) s.fh n)
  refine ⟨.inl ⟨rfl, _, .of upd_same⟩, ?_⟩
  refine ha F0 H0 F1 _ σ ρ _ E2 (post_mono (WO.of E2 (WO.mono s.ff w1)) (fun es w2 F2 H2 xs s2 r2 => ?_) fun _ z => z)
  obtain ⟨⟨ds', z⟩, q, w3⟩ := WO.ofO w2
  obtain ⟨s3, f2, h2⟩ := Step.beside (o := .lst _) (fun _ z => nomatch z) n f1 s2
  refine hr F2 H2 p vs ds xs es ds' z _ s2.fh h2 (r1.mono s2.ff) r2 q fun ws v rw' rz => ?_
  have e2 : upd H2 p (.lst ws) = upd (del H2 p) p (.lst ws) := by
    funext b
    by_cases z : b = p
    · subst z; rw [upd_same, upd_same]
    · rw [upd_ne z, upd_ne z, del_ne z]
  rw [e2]
  exact w3 F2 _ σ s2.ff ((E1.step s3).step (Step.new0 s3.fh del_same))
theorem ds_tmp0 {f : ML} (hr : RMD K r fm) (hf : DL K L mg W te f) : DS K L mg W (tDrop (tBM0 K "list" r te)) (sTmp f fm aNil) := ds_tmp hr hf daf_nil
theorem ds_setM {i j : Nat} (hr : RMD K r fm) (he : DF K L mg W te e) (ha : DAF K L mg W tas as) : DS K L mg W (tAsg te (gSub (tVar i) (tBM K "list" r (tVar j) tas) rSetL)) (sSetM i j fm as e) := fun F0 H0 F H σ ρ D E w => by
  refine he F0 H0 F H σ ρ _ E (post_mono (WO.of E w) (fun d w1 F1 H1 v s r1 => ?_) fun _ z => z)
  have E1 := E.step s
  obtain ⟨ds, q, w2⟩ := WO.ofO w1
  have q := ownAt_eq q
  obtain ⟨l, ho, el, _⟩ := E1.ownv q
  refine ⟨_, el, ?_⟩
  refine tm_core hr ha F0 H0 F1 H1 σ ρ D _ (fun r => Out.ofO (ownAt i (putL j r.1 ρ)) fun ds' => Out.ofO (setL ds' r.2 d) fun d2 => .nx (putL i d2 (putL j r.1 ρ))) E1 (WO.mono s.ff w2) fun ds' z F2 H2 x e2 w3 E2 rz => ?_
  obtain ⟨ds2, q2, w4⟩ := WO.ofO w3
  have q2 := ownAt_eq q2
  obtain ⟨d2, q3, w5⟩ := WO.ofO w4
  obtain ⟨l', ho', el', _, _, hl, rl, _⟩ := E2.ownv q2
  rw [el] at el'
  cases el'
  obtain ⟨vs', rfl, rl'⟩ := rl.isl
  unfold setL at q3
  split at q3
  · rename_i jj hz
    obtain rfl : z = .int jj := hz
    cases qj : ixN ds2.length jj with
    | none => rw [qj] at q3; cases q3
    | some n =>
      rw [qj] at q3
      cases q3
      have hx : x = .int jj := by cases rz; rfl
      subst hx
      refine ⟨l, vs', jj, n, rfl, rfl, hl, by rw [rl'.length]; exact qj, ?_⟩
      exact w5 F2 _ σ (Ex.refl _) (E2.mut q2 el (.lst (rl'.set (r1.mono e2) n)))
  · cases q3
theorem ds_setM0 {i j : Nat} (hr : RMD K r fm) (he : DF K L mg W te e) : DS K L mg W (tAsg te (gSub (tVar i) (tBM0 K "list" r (tVar j)) rSetL)) (sSetM i j fm aNil e) := ds_setM hr he daf_nil
end
section
variable {ρ : Fr} {e : ME} {as f : ML} {fm : List D → List D → Option (List D × D)} {i j : Nat}
@[simp] theorem sTmp_ap : sTmp f fm as ρ = Out.of (f ρ) ρ fun ds => Out.of (as ρ) ρ fun es => Out.ofO (fm ds es) fun _ => .nx ρ := rfl
@[simp] theorem sSetM_ap : sSetM i j fm as e ρ = Out.of (e ρ) ρ fun v => Out.ofO (ownAt i ρ) fun _ => Out.ofO (ownAt j ρ) fun ds => Out.of (as ρ) ρ fun es => Out.ofO (fm ds es) fun r =>
  Out.ofO (ownAt i (putL j r.1 ρ)) fun ds' => Out.ofO (setL ds' r.2 v) fun d2 => .nx (putL i d2 (putL j r.1 ρ)) := rfl
end
theorem repD_ok {ds : List D} {k : Nat} (h : ds.length * k ≤ 16777216) (h1 : k ≤ 1000000000) : repD (.list ds) (.int (k : Int)) = some (List.replicate k ds).flatten := by
  refine (if_pos ⟨in63 (by omega), by rw [show ((k : Int)).toNat = k from rfl]; exact h⟩).trans ?_
  simp
theorem repD_one {d : D} {k : Nat} (h : k ≤ 16777216) : repD (.list [d]) (.int (k : Int)) = some (List.replicate k d) := by
  rw [repD_ok (by simp; omega) (by omega)]
  congr 1
  induction k with
  | zero => rfl
  | succ k ih => rw [List.replicate_succ, List.flatten_cons, ih (by omega), List.replicate_succ]; rfl
theorem ixD_iln {ms : List Int} {i : Nat} {v : Int} (h : ms[i]? = some v) : ixD (.list (ms.map .int)) (.int (i : Int)) = some (.int v) := ixD_il (by omega) (by rw [Int.toNat_natCast]; exact h)
theorem ixD_itn {ms : List Int} {i : Nat} {v : Int} (h : ms[i]? = some v) : ixD (.tuple (ms.map .int)) (.int (i : Int)) = some (.int v) := ixD_it (by omega) (by rw [Int.toNat_natCast]; exact h)
theorem ixD_isn {ms : List Int} {i : Nat} {v : Int} (h : ms[i]? = some v) : ixD (scrD ms) (.int (i : Int)) = some (.int v) := ixD_is (by omega) (by rw [Int.toNat_natCast]; exact h)
theorem ixD_ln {ds : List D} {i : Nat} {v : D} (h : ds[i]? = some v) : ixD (.list ds) (.int (i : Int)) = some v := ixD_l (by omega) (by rw [Int.toNat_natCast]; exact h)
theorem ixD_tn {ds : List D} {i : Nat} {v : D} (h : ds[i]? = some v) : ixD (.tuple ds) (.int (i : Int)) = some v := ixD_t (by omega) (by rw [Int.toNat_natCast]; exact h)
theorem setL_n {ms : List Int} {i : Nat} {v : Int} (h : i < ms.length) : setL (ms.map .int) (.int (i : Int)) (.int v) = some ((ms.set i v).map .int) := setL_int (by omega) (by omega)
theorem setL_dn {ds : List D} {i : Nat} {v : D} (h : i < ds.length) : setL ds (.int (i : Int)) v = some (ds.set i v) := setL_ok (by omega) (by omega)
/-- a comprehension over data that stand for plain things -/
theorem lc_enc {α : Type} (enc : α → D) (p : α → Bool) (f : α → D) {tg : D → Fr → Option Fr} {t : MT} {e : ME} {vs : List Nat} {ρ : Fr} : ∀ (xs : List α) (acc : List D), acc.length + xs.length ≤ 16000000 →
    (∀ x ∈ xs, ∃ ρ', tg (enc x) (wipeF ρ vs) = some ρ' ∧ t ρ' = .ok (p x) ∧ (p x = true → e ρ' = .ok (f x))) → loopLc tg t e vs ρ (xs.map enc) acc = .ok (acc ++ (xs.filter p).map f)
  | [], acc, _, _ => by simp [loopLc]
  | x :: xs, acc, hl, h => by
    obtain ⟨ρ', h1, h2, h3⟩ := h x (List.mem_cons_self ..)
    rw [List.length_cons] at hl
    have ih := fun acc' hl' => lc_enc enc p f (tg := tg) (t := t) (e := e) (vs := vs) (ρ := ρ) xs acc' hl' fun y hy => h y (List.mem_cons_of_mem _ hy)
    have sl : acc.length < sizeLine := by show _ < 16777216; omega
    rw [List.map_cons, loopLc, h1]
    simp only [h2, noX, M.bind_ok]
    cases c : p x with
    | true =>
      simp only [h3 c, noX, M.bind_ok, if_true, if_pos sl]
      rw [ih (acc ++ [f x]) (by simp; omega), List.filter_cons_of_pos c]
      simp
    | false =>
      simp only [Bool.false_eq_true, if_false]
      rw [ih acc (by omega), List.filter_cons_of_neg (by simp [c])]
theorem lc_enc0 {α : Type} (enc : α → D) (p : α → Bool) (f : α → D) {tg : D → Fr → Option Fr} {t : MT} {e : ME} {vs : List Nat} {ρ : Fr} (xs : List α) (hl : xs.length ≤ 16000000)
    (h : ∀ x ∈ xs, ∃ ρ', tg (enc x) (wipeF ρ vs) = some ρ' ∧ t ρ' = .ok (p x) ∧ (p x = true → e ρ' = .ok (f x))) : loopLc tg t e vs ρ (xs.map enc) [] = .ok ((xs.filter p).map f) := by
  have := lc_enc enc p f xs [] (by simpa using hl) h
  simpa using this
theorem lc_map0 {α : Type} (enc f : α → D) {tg : D → Fr → Option Fr} {e : ME} {vs : List Nat} {ρ : Fr} (xs : List α) (hl : xs.length ≤ 16000000)
    (h : ∀ x ∈ xs, ∃ ρ', tg (enc x) (wipeF ρ vs) = some ρ' ∧ e ρ' = .ok (f x)) : loopLc tg tYesF e vs ρ (xs.map enc) [] = .ok (xs.map f) := by
  have := lc_enc0 enc (fun _ => true) f (tg := tg) (t := tYesF) (e := e) (vs := vs) (ρ := ρ) xs hl fun x hx => by
    obtain ⟨ρ', h1, h2⟩ := h x hx
    exact ⟨ρ', h1, rfl, fun _ => h2⟩
  rw [this, List.filter_eq_self.mpr (fun _ _ => rfl)]
@[simp] theorem revM_ok {ds : List D} : revM ds [] = some (ds.reverse, .none) := rfl
@[simp] theorem clrM_ok {ds : List D} : clrM ds [] = some ([], .none) := rfl
section
variable {α : Type} [DecidableEq α] {n : Nat} {f : α → D}
theorem inB_g (G : Gr n f) (h : n ≤ 63) (x : α) (xs : List α) : inB (f x) (.list (xs.map f)) = some (decide (x ∈ xs)) := by
  have e : inB (f x) (.list (xs.map f)) = if SeqAt.shaped (f x) && SeqAt.shaped (.list (xs.map f)) then some ((xs.map f).any fun z => PyData.eqv z (f x)) else none := rfl
  rw [e, G.shaped (by omega) x, (gr_list G).shaped (by omega) xs]
  simp only [Bool.and_self, if_true]
  congr 1
  clear e
  rw [List.any_map]
  induction xs with
  | nil => rfl
  | cons y ys ih =>
    rw [List.any_cons, ih]
    simp only [Function.comp, G.eqv]
    by_cases q : y = x
    · subst q; simp
    · have : ¬ x = y := fun z => q z.symm
      simp [q, this]
theorem inD_g (G : Gr n f) (h : n ≤ 63) (x : α) (xs : List α) : inD (f x) (.list (xs.map f)) = some (.bool (decide (x ∈ xs))) := by unfold inD; rw [inB_g G h]; rfl
theorem ninD_g (G : Gr n f) (h : n ≤ 63) (x : α) (xs : List α) : ninD (f x) (.list (xs.map f)) = some (.bool (!decide (x ∈ xs))) := by unfold ninD; rw [inB_g G h]; rfl
end
theorem gr_nat : Gr 0 (fun j : Nat => PyData.int (j : Int)) := ⟨fun _ => by simp [PyData.canLay0], fun _ => by simp [PyData.depth], fun a b => by
  simp only [PyData.eqv]
  by_cases h : a = b
  · subst h; simp
  · have : ¬ ((a : Int) = (b : Int)) := by omega
    rw [decide_eq_false h]; exact beq_eq_false_iff_ne.mpr this⟩
theorem gr_np : Gr 1 (fun p : Nat × Nat => PyData.tuple [.int (p.1 : Int), .int (p.2 : Int)]) := gr_pair gr_nat gr_nat
end Dn

set_option Elab.async false
set_option linter.all false
set_option maxRecDepth 100000
set_option maxHeartbeats 4000000
/-! DenZB: a text times 0 or 1 -/
namespace Dn
open PySem PySem.Spec PyProof.Rows L2
def rMulS : R2 := fun x y H Q => ∃ a k, x = .str a ∧ y = .int k ∧ (k = 0 ∨ k = 1) ∧ Q (.str (if k = 1 then a else "")) H
theorem op_mulS {X : Cx} : OpR X (binaryOp .Mult) rMulS := by
  intro pins s σ H x y v u Q I rx ry h
  obtain ⟨a, k, rfl, rfl, hk, q⟩ := h
  obtain ⟨t, rfl⟩ := rx
  obtain ⟨t', rfl⟩ := ry
  rcases hk with rfl | rfl
  · exact P.mul_str_none (by decide) (by decide) ⟨.str "", H, I.tok _, ⟨_, rfl⟩, q⟩
  · refine P.mul_str (by decide) (fun _ h => by cases h) (fun _ h => by cases h) ?_
    exact ⟨.str a, H, I, ⟨_, rfl⟩, q⟩
def mulSD : D → D → Option D
  | .str a, .int k => if k = 0 then some (.str "") else if k = 1 then some (.str a) else none
  | _, _ => none
theorem rd_mulS {K : PySem.W.Frag} : R2D K rMulS mulSD := by
  intro F H x y d e Q z ex rx ry h k
  unfold mulSD at h
  split at h
  · rename_i a i
    obtain rfl := rx.iss
    obtain rfl := ry.isi
    split at h
    · rename_i c
      cases h
      subst c
      exact ⟨a, 0, rfl, rfl, .inl rfl, k.here ex (.str _)⟩
    · split at h
      · rename_i c
        cases h
        subst c
        exact ⟨a, 1, rfl, rfl, .inr rfl, k.here ex (.str _)⟩
      · cases h
  · cases h
@[simp] theorem mulSD_0 {a : Str} : mulSD (.str a) (.int 0) = some (.str "") := rfl
@[simp] theorem mulSD_1 {a : Str} : mulSD (.str a) (.int 1) = some (.str a) := rfl
end Dn

set_option Elab.async false
set_option linter.all false
set_option maxRecDepth 100000
set_option maxHeartbeats 4000000
/-! DenZC: tuples whose object is known: made, asked for an item's place -/
namespace Dn
open PySem PySem.Spec PyProof.Rows L2
/-- the object of a tuple with no dict of its own -/
def KtO (o : Obj) : Prop := o.cls = .type "tuple" ∧ o.dict = none
def ints1? : List D → Option Int
  | [.int z] => some z
  | _ => none
/-- the first place of an int -/
def placeI (z : Int) : List Int → Option Nat
  | [] => none
  | n :: ns => if n = z then some 0 else (placeI z ns).map (· + 1)
theorem placeI_at {z : Int} : ∀ {ns : List Int} {j : Nat}, placeI z ns = some j → ns[j]? = some z ∧ ∀ m, m < j → ns[m]? ≠ some z
  | [], _, h => by cases h
  | n :: ns, j, h => by
    unfold placeI at h
    by_cases c : n = z
    · rw [if_pos c] at h
      cases h
      exact ⟨by rw [c]; rfl, fun m hm => by omega⟩
    · rw [if_neg c] at h
      cases q : placeI z ns with
      | none => rw [q] at h; cases h
      | some i =>
        rw [q] at h
        cases h
        obtain ⟨h1, h2⟩ := placeI_at q
        refine ⟨h1, fun m hm => ?_⟩
        cases m with
        | zero => exact fun e => c (by injection e)
        | succ m => exact h2 m (Nat.lt_of_succ_lt_succ hm)
section
variable {X : Cx}
theorem flat_ints (ys : List Int) : (ys.map V.int).all flatV = true := by
  rw [List.all_map]; exact List.all_eq_true.mpr fun _ _ => rfl
def rTupIx (K : PySem.W.Frag) : V → List V → Hp → VK → Prop := fun x xs H Q => ∃ (p : Addr) (ys : List Int) (z : Int) (j : Nat), x = .ref p ∧ xs = [.int z] ∧ SqT K H p (ys.map V.int) ∧ ys[j]? = some z ∧ (∀ m, m < j → ys[m]? ≠ some z) ∧ Q (.int (j : Nat)) H
theorem mt_tupIx : MtR X "tuple.index" (rTupIx X.K) := by
  intro pins s σ H x xs v us Q I rx rs h
  obtain ⟨p, ys, z, j, rfl, rfl, hq, hy, hno, q⟩ := h
  cases rx
  obtain ⟨u, rfl, t, rfl⟩ := vals1 rs
  obtain ⟨its, r, pl, hz⟩ := I.tuple hq
  obtain ⟨⟨cls, dd, dt, sl⟩, ho, hc, n, hd⟩ := pl
  simp only at hc hd
  subst hc hd
  have hl : its.toArray.size = ys.length := by rw [List.size_toArray, ← r.length, List.length_map]
  have at' : ∀ (m : Nat) (hm : m < its.toArray.size), ∃ y t', ys[m]? = some y ∧ its.toArray[m] = Value.int y t' := fun m hm => by
    have hm' : m < ys.length := hl ▸ hm
    obtain ⟨w, hw, t', hw'⟩ := r.get (i := m) (x := .int ys[m]) (by simp [hm'])
    refine ⟨ys[m], t', List.getElem?_eq_getElem hm', ?_⟩
    rw [← hw', ← (List.getElem?_eq_some_iff.mp hw).2]
    simp
  have hj : j < its.toArray.size := hl ▸ (List.getElem?_eq_some_iff.mp hy).1
  have hit : eqU (.int z) its.toArray[j] = true := by
    obtain ⟨y, t', h1, h2⟩ := at' j hj
    rw [hy] at h1
    cases h1
    rw [h2]
    show (z == z) = true
    simp
  have hmiss : ∀ m (hm : m < its.toArray.size), m < j → eqU (.int z) its.toArray[m] = false := fun m hm hmj => by
    obtain ⟨y, t', h1, h2⟩ := at' m hm
    rw [h2]
    show (y == z) = false
    exact beq_eq_false_iff_ne.mpr fun e => hno m hmj (e ▸ h1)
  exact call_meets PySem.F.slot_tuple_index ⟨_, ho, rfl⟩ PySem.F.entry_tuple_index (PySem.F.args_tuple_index_2 _ _) (_root_.TI.tuple_indexAt p its.toArray n dd sl (.int z t) (eqU (.int z)) j hj hit hmiss)
    ⟨ho, fun w hw => mem_eqAt (x := .int z) ⟨t, rfl⟩ rfl r (flat_ints ys) w (by simpa using hw), ⟨.int (j : Nat), H, I.tok _, ⟨_, rfl⟩, q⟩⟩
/-- a method of a tuple whose object is known -/
def tBMk (r : V → List V → Hp → VK → Prop) (to : TE) (t : TA) : TE := fun σ H Q => to σ H fun x H1 => (∃ p o xs, x = .ref p ∧ H1 p = some (.frz o (.tup xs)) ∧ KtO o) ∧ t σ H1 fun xs H2 => r x xs H2 Q
theorem pe_bmk {o e : Expr} {es : List Expr} {to : TE} {t : TA} {name : Str} {apos cpos : Pos} {id : String} {r : V → List V → Hp → VK → Prop} (slot : Slot "tuple" name id) (hty : typeOf (.builtin id) = pure (.type "method_descriptor")) (hm : MtR X id r) (ho : PE X o to) (ha : PA X (e :: es) t)
    (hbase : attributeBase o name X.env (eval o X.env) = eval o X.env := by rfl)
    (hfew : ((backTo cpos (starEach (e :: es) X.env)).all (fun x => !x.1) && (backToKw cpos (keywordEach [] X.env)).all (fun x => x.1.isSome) && decide ((e :: es).length + ([] : List Keyword).length + (if ([] : List Keyword).isEmpty then 0 else 1) < 30)) = true := by rfl)
    (hline : (apos.endLine == cpos.line) = true := by rfl) (hs : starEach (e :: es) X.env = (false, eval e X.env) :: starEach es X.env := by rfl) (hplain : (backTo cpos (starEach es X.env)).any (·.1) = false := by rfl) :
    PE X (.Call (.Attribute o name apos) (e :: es) [] cpos) (tBMk r to t) := by
  refine ⟨fun pins s σ H Q I h => wpAny_Call_method_late hbase hfew hline rfl (thn (ho.run pins s σ H _ I h) fun v s1 ⟨x, H1, I1, r1, ty, q1⟩ => ?_)⟩
  obtain ⟨p, ob, xs, rfl, hp, hc, hd⟩ := ty
  cases r1
  have hg : s1.heap.get? p = some ob := (I1.hok p _ hp).1
  refine ⟨"tuple", id, PySem.F.plainAttrs_tuple, slot, hty, ⟨ob, hg, hc⟩, fun a e => ?_, ?_⟩
  · cases e; exact ⟨ob, hg, hd⟩
  have hA := ha.run cpos pins s1 σ H1 _ I1 q1
  rw [hs] at hA ⊢
  refine Calls.callWith_builtin (by show (false || (backTo cpos (starEach es X.env)).any (·.1)) = false; rw [hplain]; rfl) (Calls.evalArgs_plain (thn hA fun us s2 ⟨vs, H2, I2, r2, q2⟩ => ?_))
  exact hm pins s2 σ H2 (.ref p) vs (.ref p) us Q I2 rfl r2 q2
/-- tuple(list): its object is known -/
def oTupK (K : PySem.W.Frag) : List V → Hp → VK → Prop := fun xs H Q => ∃ p ys, xs = [.ref p] ∧ SqL K H p ys ∧ ∀ l o, H l = none → KtO o → Q (.ref l) (upd H l (.frz o (.tup ys)))
theorem call_tupK : CallR X (.type "tuple") (oTupK X.K) := by
  intro pins s σ H xs us Q I r h
  obtain ⟨p, ys, rfl, hq, q⟩ := h
  obtain ⟨u, rfl, rx⟩ := vals1 r
  cases rx
  obtain ⟨its, r', pl, hz⟩ := I.list hq
  have hlen := r'.length
  refine call_tuple_list pl.isList (fun h' kp => ?_) (by simp only [List.size_toArray] <;> omega)
  have I1 : Inv X pins σ H { s with heap := h' } := I.kept (t' := s.toks) kp
  have new : ObjOk X.prog X.w (upd H h'.objs.size (.frz { cls := .type "tuple", data := .seq its.toArray } (.tup ys))) (h'.push { cls := .type "tuple", data := .seq its.toArray }) h'.objs.size (.frz { cls := .type "tuple", data := .seq its.toArray } (.tup ys)) :=
    ⟨Heap.get?_push_size _ rfl, hz, its, r', IsTup.new _ _⟩
  exact ⟨.ref h'.objs.size, _, I1.laid (t' := s.toks) (fun b o e => Heap.get?_push_of_some _ e) (Nat.le_refl _) new, rfl, q _ _ (I1.hok.fresh (Nat.le_refl _)) ⟨rfl, rfl⟩⟩
/-- tuple(range(..)): its object is known -/
def tTupRgK (te : L2.St → Hp → (Int → Int → Hp → Prop) → Prop) : TE := fun σ H Q => te σ H fun a b H1 => RgOk a b ∧ ∀ q o, H1 q = none → KtO o → Q (.ref q) (upd H1 q (.frz o (.tup (rgV a b))))
theorem pe_tupRgK {p pos : Pos} {e : Expr} {te : L2.St → Hp → (Int → Int → Hp → Prop) → Prop} (hc : X.calm = true) (hg : Gl X "tuple") (hm : X.mg "tuple" = none) (he : PRg X e te) (na : starEach [e] X.env = (false, eval e X.env) :: starEach [] X.env := by rfl) :
    PE X (.Call (.Name "tuple" p) [e] [] pos) (tTupRgK te) := by
  refine ⟨fun pins s σ H Q I h => Call_ (ld_blt I hg hm boot_tuple (PyProof.Rows.callWith_type1 (args_cons (thn (he pins s σ H _ I h) fun x s1 ⟨r, a, b, t, u, v, H1, ex, hr, I1, ok, q⟩ => args_nil ?_) na) na))⟩
  subst ex
  have ok' := ok
  obtain ⟨b1, b2, b3, b4, b5⟩ := ok
  refine call_tuple_range (n := (b - a).toNat) (I1.ok.hd hc) hr (small_one b1 b2 b3 b4) (rangeSize_nat a b) b5 fun h' tk acc hk hi => ?_
  have I2 : Inv X pins σ H1 { s1 with heap := h', toks := tk } := I1.kept hk
  have tu : IsTup (h'.push { cls := .type "tuple", data := .seq acc }) h'.objs.size acc.toList.toArray := by rw [Array.toArray_toList]; exact IsTup.new _ _
  have sz : (rgV a b).length ≤ sizeLine := by rw [rgV_length, sizeLine_eq]; omega
  have new : ObjOk X.prog X.w (upd H1 h'.objs.size (.frz { cls := .type "tuple", data := .seq acc } (.tup (rgV a b)))) (h'.push { cls := .type "tuple", data := .seq acc }) h'.objs.size (.frz { cls := .type "tuple", data := .seq acc } (.tup (rgV a b))) :=
    ⟨Heap.get?_push_size _ rfl, sz, acc.toList, vals_rg hi, tu⟩
  exact ⟨.ref h'.objs.size, _, I2.laid (t' := tk) (fun c o e => Heap.get?_push_of_some _ e) (Nat.le_refl _) new, rfl, q _ _ (I2.hok.fresh (Nat.le_refl _)) ⟨rfl, rfl⟩⟩
end
section
variable {K : PySem.W.Frag} {L : Addr × Addr} {mg : Str → Option Value} {W : WX} {ta te tb : TE} {a b e : ME} {tas : TA} {as : ML}
theorem WF.newK {F H : Hp} {z : List D} {Q : VK} {vs : List V} (e : Ex F H) (k : WF K F H (ktD z) Q) (r : RepL K F vs z) (p : Addr) (o : Obj) (hp : H p = none) (ho : KtO o) : Q (.ref p) (upd H p (.frz o (.tup vs))) :=
  k _ _ _ (Step.new e hp) (.ktp (xs := vs) (o := o) upd_same ho.1 ho.2 (r.mono (Ex.new (e.free hp))) rfl)
def tupKD : List D → Option D
  | [.list ds] => some (ktD ds)
  | _ => none
theorem rc_tupK : RCD K (oTupK K) tupKD := by
  intro F H xs ds Q z ex rx h k
  unfold tupKD at h
  split at h
  · cases h
    obtain ⟨x, rfl, r⟩ := rx.one
    obtain ⟨l, vs, rfl, a, b⟩ := r.isl ex
    exact ⟨l, vs, rfl, .of a, fun p o hp ho => k.newK ex b p o hp ho⟩
  · cases h
theorem kTupK {X : Cx} (h : X.K = K := by rfl) : CallR X (.type "tuple") (oTupK K) := h ▸ call_tupK
theorem kTupIx {X : Cx} (h : X.K = K := by rfl) : MtR X "tuple.index" (rTupIx K) := h ▸ mt_tupIx
def isKt : D → Bool
  | .dict [(.none, .tuple _)] => true
  | _ => false
def tupIxD : D → List D → Option D
  | .dict [(.none, .tuple ds)], [.int z] => (ints? ds).bind fun ns => (placeI z ns).map fun j => .int (j : Int)
  | _, _ => none
theorem tupIx_is {F H : Hp} {x : V} {xs : List V} {d : D} {ds : List D} {Q : VK} {z : D} (ex : Ex F H) (rx : RepB K F H x d) (rs : RepBL K F H xs ds) (h : tupIxD d ds = some z) (k : WF K F H z Q) : rTupIx K x xs H Q := by
  unfold tupIxD at h
  split at h
  · rename_i es i
    cases q : ints? es with
    | none => rw [q] at h; cases h
    | some ns =>
      rw [q] at h
      obtain rfl := ints?_eq q
      cases q2 : placeI i ns with
      | none =>
        have h : (placeI i ns).map (fun j => (PyData.int (j : Int))) = some z := h
        rw [q2] at h; cases h
      | some j =>
        have h : (placeI i ns).map (fun j => (PyData.int (j : Int))) = some z := h
        rw [q2] at h
        cases h
        obtain ⟨l, vs, rfl, a, b, _⟩ := rx.iktT ex
        obtain rfl := b.ints
        obtain ⟨y, rfl, r⟩ := rs.one
        obtain rfl := r.isi
        obtain ⟨h1, h2⟩ := placeI_at q2
        exact ⟨l, ns, i, j, rfl, rfl, a, h1, h2, k.here ex (.int _)⟩
  · cases h
def eMK (f : D → List D → Option D) (a : ME) (as : ML) : ME := fun ρ => (a ρ).bind fun d => if isKt d = true then (as ρ).bind fun ds => lift (f d ds) else .stuck
theorem isKt_eq {d : D} (h : isKt d = true) : ∃ ds, d = ktD ds := by
  unfold isKt at h
  split at h
  · exact ⟨_, rfl⟩
  · cases h
theorem df_tupIx (ha : DE K L mg W ta a) (hs : DA K L mg W tas as) : DF K L mg W (tBMk (rTupIx K) ta tas) (eMK tupIxD a as) := fun F0 H0 F H σ ρ Q E p => by
  refine ha F0 H0 F H σ ρ _ E (post_mono (post_bind p) (fun d k F1 H1 x s1 r1 => ?_) fun _ z => z)
  by_cases c : isKt d = true
  · rw [if_pos c] at k
    obtain ⟨ds, rfl⟩ := isKt_eq c
    obtain ⟨l, vs, o, rfl, h1, h2, h3, _, _⟩ := r1.iktp
    refine ⟨⟨l, o, vs, rfl, s1.fh _ _ h1, h2, h3⟩, ?_⟩
    refine hs F0 H0 F1 H1 σ ρ _ (E.step s1) (post_mono (post_bind k) (fun es k2 F2 H2 ys s2 r2 => ?_) fun n z => WE'.on s1 z)
    obtain ⟨z, ez, k3⟩ := post_lift k2
    exact tupIx_is s2.fh (r1.step s2) r2 ez (WF.on (s1.trans s2) k3)
  · rw [if_neg c] at k; exact k.elim
theorem pe_tupIx {X : Cx} {o e : Expr} {to : TE} {t : TA} {apos cpos : Pos} (ho : PE X o to) (ha : PA X [e] t) (h : X.K = K := by rfl)
    (hbase : attributeBase o "index" X.env (eval o X.env) = eval o X.env := by rfl)
    (hfew : ((backTo cpos (starEach [e] X.env)).all (fun x => !x.1) && (backToKw cpos (keywordEach [] X.env)).all (fun x => x.1.isSome) && decide (([e]).length + ([] : List Keyword).length + (if ([] : List Keyword).isEmpty then 0 else 1) < 30)) = true := by rfl)
    (hline : (apos.endLine == cpos.line) = true := by rfl) (hs : starEach [e] X.env = (false, eval e X.env) :: starEach [] X.env := by rfl) (hplain : (backTo cpos (starEach [] X.env)).any (·.1) = false := by rfl) :
    PE X (.Call (.Attribute o "index" apos) [e] [] cpos) (tBMk (rTupIx K) to t) := pe_bmk PySem.F.slot_tuple_index PySem.F.type_tuple_index (kTupIx h) ho ha hbase hfew hline hs hplain
/-- tuple(range(..)) -/
theorem rgK_post {F H F1 H1 : Hp} {i j : Int} {Q : VK} (s : Step F H F1 H1) (k : WF K F H (ktD (rngL i j)) Q) (q : Addr) (o : Obj) (hq : H1 q = none) (ho : KtO o) : Q (.ref q) (upd H1 q (.frz o (.tup (rgV i j)))) :=
  WF.newK s.fh (WF.on s k) rgV_eq q o hq ho
def eTLK (f : ML) : ME := fun ρ => (f ρ).bind fun ds => .ok (ktD ds)
theorem df_trgK1 (ha : DE K L mg W te e) : DF K L mg W (tTupRgK (tRg1 te)) (eTLK (eRg1 e)) := fun F0 H0 F H σ ρ Q E p => by
  refine ha F0 H0 F H σ ρ _ E (post_mono (post_bind (post_bind p)) (fun d k F1 H1 x s1 r1 => ?_) fun _ z => z)
  obtain ⟨c, rfl, k⟩ := toI_post (post_bind k)
  obtain ⟨ok, k⟩ := rgLD_post k
  exact ⟨c, r1.isi, ok, fun q o hq ho => rgK_post s1 k q o hq ho⟩
@[simp] theorem eTLK_ap {f : ML} {ρ : Fr} : eTLK f ρ = (f ρ).bind fun ds => .ok (ktD ds) := rfl
@[simp] theorem eMK_ap {f : D → List D → Option D} {ρ : Fr} : eMK f a as ρ = (a ρ).bind fun d => if isKt d = true then (as ρ).bind fun ds => lift (f d ds) else .stuck := rfl
@[simp] theorem isKt_k {ds : List D} : isKt (ktD ds) = true := rfl
@[simp] theorem tupKD_l {ds : List D} : tupKD [.list ds] = some (ktD ds) := rfl
theorem slD_k {ds : List D} {lo hi : Option Int} : slD (ktD ds) lo hi = some (if (cutL ds lo hi).length = ds.length then ktD ds else .tuple (cutL ds lo hi)) := Eq.trans rfl rfl
@[simp] theorem itemsD_k {ds : List D} : itemsD (ktD ds) = .ok ds := rfl
@[simp] theorem seq_k {ds : List D} : seq? (ktD ds) = some ds := rfl
@[simp] theorem lenD_k {ds : List D} : lenD [ktD ds] = some (.int ds.length) := rfl
@[simp] theorem listD_k {ds : List D} : listD [ktD ds] = some ds := rfl
@[simp] theorem tupleD_k {ds : List D} : tupleD [ktD ds] = some (ktD ds) := rfl
@[simp] theorem sortUD_k {ns : List Int} : sortUD [ktD (ns.map .int)] = some ((sortI ns).map .int) := by
  show (ints? (ns.map PyData.int)).map _ = _
  rw [ints?_map]
  rfl
theorem tupIxD_ok {z : Int} {ns : List Int} {j : Nat} (h : placeI z ns = some j) : tupIxD (ktD (ns.map .int)) [.int z] = some (.int (j : Int)) := by
  show (ints? (ns.map PyData.int)).bind (fun ns => (placeI z ns).map fun j => PyData.int (j : Int)) = _
  rw [ints?_map]
  show (placeI z ns).map (fun j => PyData.int (j : Int)) = _
  rw [h]; rfl
end
end Dn
namespace Dn
open PySem PySem.Spec PyProof.Rows L2
/-! ### sorted(.., reverse=True) -/
section
variable {K : PySem.W.Frag} {L : Addr × Addr} {mg : Str → Option Value} {W : WX} {tas : TA} {as : ML}
theorem kSortRev {X : Cx} (h : X.K = K := by rfl) : CallRK X (.builtin "sorted") [Str.ofString "reverse"] (rSortedKw K true [.bl true]) := h ▸ cr_sortedRev
def sortRevD : List D → Option (List D)
  | [.list ds] => (ints? ds).map fun ns => (sortI ns).reverse.map .int
  | _ => none
theorem dl_sortRev (ha : DA K L mg W tas as) : DL K L mg W (tCKw (rSortedKw K true [.bl true]) tas (tCons (tC (.bl true)) tNil)) (eBL sortRevD as) := fun F0 H0 F H σ ρ Q E p => by
  refine ha F0 H0 F H σ ρ _ E (post_mono (post_bind p) (fun ds k F1 H1 xs s1 r1 => ?_) fun _ z => z)
  obtain ⟨z, ez, k3⟩ := post_lift k
  unfold sortRevD at ez
  split at ez
  · rename_i es
    obtain ⟨x, rfl, r⟩ := r1.one
    obtain ⟨l, vs, rfl, a, b⟩ := r.isl s1.fh
    cases q : ints? es with
    | none => rw [q] at ez; cases ez
    | some ns =>
      rw [q] at ez
      cases ez
      obtain rfl := ints?_eq q
      obtain rfl := b.ints
      refine ⟨l, ns, rfl, rfl, .of a, fun ns' p hp ho hn => ?_⟩
      have ho : ns'.Pairwise (· ≥ ·) := ho
      have e : ns'.reverse = sortI ns := sorted_one (((List.reverse_perm _).trans hp).trans (sortI_perm ns).symm) (by rw [List.pairwise_reverse]; exact ho) (sortI_sorted ns)
      have e : ns' = (sortI ns).reverse := by rw [← e, List.reverse_reverse]
      rw [e]
      exact (WN.on s1 k3).new s1.fh (repL_ints _) p hn
  · cases ez
@[simp] theorem sortRevD_l {ns : List Int} : sortRevD [.list (ns.map .int)] = some ((sortI ns).reverse.map .int) := by
  show (ints? (ns.map PyData.int)).map _ = _
  rw [ints?_map]
  rfl
end
end Dn
namespace Dn
section
variable {α : Type} [DecidableEq α] {n : Nat} {f : α → D} {x : α} {xs : List α}
theorem inD_yes (G : Gr n f) (h : n ≤ 63) (m : x ∈ xs) : inD (f x) (.list (xs.map f)) = some (.bool true) := by rw [inD_g G h, decide_eq_true m]
theorem inD_no (G : Gr n f) (h : n ≤ 63) (m : x ∉ xs) : inD (f x) (.list (xs.map f)) = some (.bool false) := by rw [inD_g G h, decide_eq_false m]
theorem ninD_yes (G : Gr n f) (h : n ≤ 63) (m : x ∉ xs) : ninD (f x) (.list (xs.map f)) = some (.bool true) := by rw [ninD_g G h, decide_eq_false m]; rfl
theorem ninD_no (G : Gr n f) (h : n ≤ 63) (m : x ∈ xs) : ninD (f x) (.list (xs.map f)) = some (.bool false) := by rw [ninD_g G h, decide_eq_true m]; rfl
end
end Dn
namespace Dn
open PySem PySem.Spec PyProof.Rows L2
section
variable {P : Program} {w : World} {K : PySem.W.Frag} {mg : Str → Option Value} {base : Heap}
/-- a def that is never called with anything that is said of it -/
theorem fn_stuck {x : Str} {st : Stmt} {ps : List Str} {k : Nat} (Df : DefAt K mg x st)
    (hb : ∀ (kV doc pm : Value) (an : Option Addr) (cdv ct : Value) (us : List Value), us.length = ps.length → bindArgs (PySem.W.fnOf x x (defArgs st) (defBody st) (defScope st) .none kV doc pm an cdv ct) ⟨us, []⟩ = pure (ps.zip us)) :
    FnAt P w K mg base x ps k (fun _ => .stuck) := by
  obtain ⟨f, fd, hm, F⟩ := Df
  have no : ∀ vs H Q E, ¬ spD K mg (fun _ => .stuck) vs H Q E := fun vs H Q E h => by
    obtain ⟨F, ds, _, _, p⟩ := h
    exact p
  exact ⟨f, fd, hm, F.kp, F.binds hb, ⟨fun vs H Q E h => (no vs H Q E h).elim, fun A outer s H args us vs Q E hr e b v h => (no vs H Q E h).elim⟩⟩
end
end Dn

set_option Elab.async false
set_option linter.all false
set_option maxRecDepth 100000
set_option maxHeartbeats 4000000
/-! DenZD: defs handed in and called by a local name -/
namespace Dn
open PySem PySem.Spec PyProof.Rows L2
abbrev FnL := List (Str × (List D → M D))
def fnOf : FnL → Str → Option (List D → M D)
  | [], _ => none
  | (m, g) :: r, n => if m = n then some g else fnOf r n
theorem fnOf_mem : ∀ {fs : FnL} {n : Str} {g : List D → M D}, fnOf fs n = some g → (n, g) ∈ fs
  | (m, h) :: r, n, g, e => by
    unfold fnOf at e
    by_cases c : m = n
    · rw [if_pos c] at e; cases e; subst c; exact List.mem_cons_self
    · rw [if_neg c] at e; exact List.mem_cons_of_mem _ (fnOf_mem e)
/-- all of them keep their promises -/
def Fns (P : Program) (w : World) (K : PySem.W.Frag) (mg : Str → Option Value) (base : Heap) (k : Nat) (fs : FnL) : Prop := ∀ n g, (n, g) ∈ fs → ∃ ps, FnAt P w K mg base n ps k g
section
variable {P : Program} {w : World} {K : PySem.W.Frag} {mg : Str → Option Value} {base : Heap} {k j : Nat} {fs : FnL}
theorem fns_nil : Fns P w K mg base k [] := fun n g h => by cases h
theorem fns_cons {n : Str} {ps : List Str} {g : List D → M D} (h : FnAt P w K mg base n ps j g) (hj : j ≤ k) (r : Fns P w K mg base k fs) : Fns P w K mg base k ((n, g) :: fs) := fun m g' hm => by
  rcases List.mem_cons.mp hm with e | hm
  · cases e; exact ⟨ps, fn_mono h hj⟩
  · exact r m g' hm
end
def tCallV (K : PySem.W.Frag) (mg : Str → Option Value) (i : Nat) (fs : FnL) (E : L2.St → XK) (t : TA) : TE := fun σ H Q => ∃ f n g, (n, g) ∈ fs ∧ mg n = some (.ref f) ∧ σ[i]? = some (some (.ref f)) ∧ t σ H fun vs H1 => spD K mg g vs H1 Q (E σ)
section
variable {X : Cx} {k : Nat} {fs : FnL} {x : Str} {p pos : Pos} {e : Expr} {es : List Expr} {t : TA} {E : L2.St → XK}
theorem pe_callLV (i : Nat) (A : Fns X.prog X.w X.K X.mg X.base k fs) (hr : Room k X.A) (hx : ∀ σ, PassesAt (L2.CX X.prog X.w) X σ (E σ)) (ha : PA X (e :: es) t)
    (hN : X.N[i]? = some x := by rfl) (hv : Vis X.env.scope x := by first | exact Or.inl rfl | exact Or.inr (Or.inl rfl) | exact Or.inr (Or.inr rfl))
    (hdb : (x == ("__debug__" : Str)) = false := by decide) (hcd : (x == ("__classdict__" : Str)) = false := by decide)
    (he : starEach (e :: es) X.env = (false, eval e X.env) :: starEach es X.env := by rfl) (hpl : (backTo pos (starEach es X.env)).any (·.1) = false := by rfl) : PE X (.Call (.Name x p) (e :: es) [] pos) (tCallV X.K X.mg i fs E t) := by
  refine ⟨fun pins s σ H Q I h => ?_⟩
  obtain ⟨f, n, g, hm, hg, hs, ht⟩ := h
  obtain ⟨ps, a, fd, m, kp, b, F⟩ := A n g hm
  rw [hg] at m
  cases m
  refine wpAny_Call_Name_kw (thn ((pe_var (pos := p) hN hv hdb hcd).run pins s σ H (fun v H1 => v = .ref f ∧ H1 = H) I ⟨.ref f, hs, rfl, rfl⟩) fun u s1 ⟨v, H1, I1, r1, q1⟩ => ?_)
  obtain ⟨rfl, rfl⟩ := q1
  cases r1
  refine PySem.W.callWith_K (h₀ := X.base) I.ok.mod.kin kp (thn (ha.run pos pins s1 σ _ _ I1 ht) fun us s2 ⟨vs, H2, I2, r, q⟩ => ⟨I2.kIn, ?_⟩) he hpl
  exact run_fnS F hr b (hx σ) I2 r q
end
section
variable {X : Cx} {K : PySem.W.Frag} {mg : Str → Option Value} {k : Nat} {fs : FnL} {x : Str} {p pos : Pos} {e : Expr} {es : List Expr} {t : TA} {E : L2.St → XK}
theorem pe_callLK (i : Nat) (A : Fns X.prog X.w X.K X.mg X.base k fs) (hr : Room k X.A) (hx : ∀ σ, PassesAt (L2.CX X.prog X.w) X σ (E σ)) (ha : PA X (e :: es) t) (h1 : X.K = K := by rfl) (h2 : X.mg = mg := by rfl)
    (hN : X.N[i]? = some x := by rfl) (hv : Vis X.env.scope x := by first | exact Or.inl rfl | exact Or.inr (Or.inl rfl) | exact Or.inr (Or.inr rfl))
    (hdb : (x == ("__debug__" : Str)) = false := by decide) (hcd : (x == ("__classdict__" : Str)) = false := by decide)
    (he : starEach (e :: es) X.env = (false, eval e X.env) :: starEach es X.env := by rfl) (hpl : (backTo pos (starEach es X.env)).any (·.1) = false := by rfl) : PE X (.Call (.Name x p) (e :: es) [] pos) (tCallV K mg i fs E t) := by
  subst h1 h2
  exact pe_callLV i A hr hx ha hN hv hdb hcd he hpl
end
/-- the name of a def stands for it -/
def NsF (K : PySem.W.Frag) (mg : Str → Option Value) (n : Str) : Prop := ∀ C, mg n = some (.ref C) → PySem.W.nsIn K mainGlobals n = some (some (.ref C))
theorem nsf_mk {K : PySem.W.Frag} {mg : Str → Option Value} {h : Heap} {n : Str} {C0 : Addr} (X : K.In h) (G : h.Ns mainGlobals mg) (a : PySem.W.nsIn K mainGlobals n = some (some (.ref C0))) : NsF K mg n := fun C hC => by
  have := PySem.W.mg_of X G a
  rw [hC] at this
  cases this
  exact a
def fnNm : Option S → Option Str
  | some (.val (.dict [(.str n, .none)])) => some n
  | _ => none
def runV (fs : FnL) (o : Option Str) (m : M (List D)) : M D := match o with
  | some n => (match fnOf fs n with
    | some g => m.bind g
    | none => .stuck)
  | none => .stuck
def eCallV (i : Nat) (fs : FnL) (as : ML) : ME := fun ρ => runV fs (fnNm ρ[i]?) (as ρ)
section
variable {K : PySem.W.Frag} {L : Addr × Addr} {mg : Str → Option Value} {W : WX} {tas : TA} {as : ML} {fs : FnL}
theorem df_fn {n : Str} {a : Addr} (hf : NsF K mg n) (hm : mg n = some (.ref a)) : DF K L mg W (tC (.ref a)) (eC (fnD n)) := fun F0 H0 F H σ ρ Q E p => p F H _ (Step.refl E.st.fh) (.fnc (hf a hm) rfl)
theorem fnNm_eq {s : Option S} {n : Str} (h : fnNm s = some n) : s = some (.val (fnD n)) := by
  unfold fnNm at h
  split at h
  · cases h; rfl
  · cases h
theorem df_callLV {i : Nat} (ns : NsMg K mg) (ha : DAF K L mg W tas as) : DF K L mg W (tCallV K mg i fs (WE W) tas) (eCallV i fs as) := fun F0 H0 F H σ ρ Q E p => by
  unfold eCallV runV at p
  cases q : fnNm ρ[i]? with
  | none => rw [q] at p; exact p.elim
  | some n =>
    rw [q] at p
    have p : post (match fnOf fs n with | some g => (as ρ).bind g | none => .stuck) (fun d => WF K F H d Q) (WE' mg W F H σ) := p
    cases q2 : fnOf fs n with
    | none => rw [q2] at p; exact p.elim
    | some g =>
      rw [q2] at p
      obtain ⟨v, hv, r⟩ := E.var (fnNm_eq q)
      obtain ⟨a, rfl, hn⟩ := r.ifn
      refine ⟨a, n, g, fnOf_mem q2, ns n a hn, hv, ?_⟩
      exact df_call (f := g) ha F0 H0 F H σ ρ Q E p
end
@[simp] theorem eCallV_ap {i : Nat} {fs : FnL} {as : ML} {ρ : Fr} : eCallV i fs as ρ = runV fs (fnNm ρ[i]?) (as ρ) := rfl
@[simp] theorem fnNm_val {n : Str} : fnNm (some (.val (fnD n))) = some n := rfl
theorem runV_ok {fs : FnL} {n : Str} {g : List D → M D} {m : M (List D)} (h : fnOf fs n = some g) : runV fs (some n) m = m.bind g := by
  unfold runV; simp only [h]
end Dn
namespace Dn
open PySem PySem.Spec PyProof.Rows L2
/-! ### a list taken apart -/
theorem pg_lstK {X : Cx} {K : PySem.W.Frag} {es : List Expr} {k : Nat} {t : TGs} {n : Nat} {pos : Pos} (hc : X.calm = true) (h : PGs X es t) (e : X.K = K := by rfl)
    (hn : (assignEach es X.env).length = n := by rfl) (hst : (assignEach es X.env).findIdx? (·.1) = none := by rfl) : PG X (.Tuple es k pos) (gLst K n t) := by
  subst e
  exact pg_lst hc h hn hst
section
variable {K : PySem.W.Frag} {L : Addr × Addr} {is : List Nat}
theorem dg_lst {gs : TGs} {tgs : List Dn.D → Fr → Option Fr} {n : Nat} (h : DGs K L gs tgs is) (hn : ∀ ds ρ ρ', tgs ds ρ = some ρ' → ds.length = n) : DG K L (gLst K n gs) (gL tgs) is := fun F0 H0 F H σ ρ v d Q ρ' E r q k => by
  unfold gL at q
  split at q
  · cases r with
    | lst a b => exact ⟨_, _, rfl, .of (E.st.fh _ _ a), by rw [b.length]; exact hn _ _ _ q, h F0 H0 F H σ ρ _ _ Q ρ' E b q k⟩
  · cases q
end
end Dn

set_option Elab.async false
set_option linter.all false
set_option maxRecDepth 100000
set_option maxHeartbeats 4000000
/-! DenZE: dicts that are known to their object: walked by keys, values, pairs -/
namespace Dn
open PySem PySem.Spec PyProof.Rows L2
/-! ### a dict of one's own becomes known -/
def tKnow (t : TS) : TS := fun D σ H => ∃ d u, H d = some u ∧ Mut (some u) ∧ ∀ od, t D σ (upd H d (.frz od u))
theorem ps_know {X : Cx} {st : Stmt} {t : TS} (h : PS X st t) : PS X st (tKnow t) := ⟨fun pins s σ H D I hw => by
  obtain ⟨d, u, hd, mu, hw⟩ := hw
  obtain ⟨od, I1⟩ := I.lock hd mu
  exact h.run pins s σ _ _ I1 (hw od)⟩
def sKnow (i : Nat) (g : MS) : MS := fun ρ => match ρ[i]? with
  | some (.own (.dK kvs)) => g (ρ.set i (.val (.dict (kdK kvs))))
  | some (.own (.dT kvs)) => g (ρ.set i (.val (.dict (kdT kvs))))
  | _ => .stuck
section
variable {K : PySem.W.Frag} {L : Addr × Addr} {mg : Str → Option Value} {W : WX} {F0 H0 F H : Hp} {σ : L2.St} {ρ : Fr} {t : TS} {g : MS}
theorem Env.know (E : Env K L F0 H0 F H σ ρ) {i : Nat} {l : Addr} {o : OD} {ho : HO} {ob : Obj} {d : D} (h : ρ[i]? = some (.own o)) (hl : σ[i]? = some (some (.ref l))) (hH : H l = some ho) (hr : Rep K (upd F l (.frz ob ho)) (.ref l) d) :
    Env K L F0 H0 (upd F l (.frz ob ho)) (upd H l (.frz ob ho)) σ (ρ.set i (.val d)) := by
  have h1 : ownO ρ[i]? = some o := by rw [h]; rfl
  obtain ⟨l', ho', e, f, h0, hH', r, _⟩ := E.ownv h1
  rw [hl] at e
  cases e
  have ef : Ex F (upd F l (.frz ob ho)) := Ex.new f
  refine ⟨⟨E.st.ff.trans ef, fun a u q => ?_, fun a u q1 q2 q3 => ?_, E.st.fh.upd⟩, by rw [List.length_set]; exact E.len, fun j s q => ?_, fun j k m h1 h2 e1 e2 => ?_⟩
  · rw [upd_ne (ne_of_none q h0)]; exact E.st.hh a u q
  · rw [upd_ne (ne_of_none q2 h0)]; exact E.st.nw a u q1 q2 q3
  · rcases set_get q with ⟨e', es', _⟩ | ⟨ne, h'⟩
    · subst e'; subst es'
      rw [hl]
      exact ⟨.ref l, rfl, hr⟩
    · have z := E.sl j s h'
      cases s with
      | none => trivial
      | err n => exact z
      | val d => obtain ⟨v, e, rr⟩ := z; exact ⟨v, e, rr.mono ef⟩
      | own us =>
        obtain ⟨m, vs', e', f', h0', hHm, rr⟩ := z
        have nm := E.apart h1 (by rw [h']; rfl) hl (join_some e') ne
        exact ⟨m, vs', e', by rw [upd_ne nm]; exact f', h0', by rw [upd_ne nm]; exact hHm, rr.mono ef⟩
      | pin us =>
        obtain ⟨e', f', h0', ho', hHm, rr⟩ := z
        have nm := E.apart h1 (by rw [h']; rfl) hl (join_some e') ne
        exact ⟨e', by rw [upd_ne nm]; exact f', h0', ho', by rw [upd_ne nm]; exact hHm, rr.mono ef⟩
  · have nj := own_ne rfl h1
    have nk := own_ne rfl h2
    rw [List.getElem?_set_ne nj] at h1
    rw [List.getElem?_set_ne nk] at h2
    exact E.sep j k m h1 h2 e1 e2
theorem ds_know {i : Nat} (hg : DS K L mg W t g) : DS K L mg W (tKnow t) (sKnow i g) := fun F0 H0 F H σ ρ D E w => by
  unfold sKnow at w
  split at w
  · rename_i kvs q
    obtain ⟨l, ho, e, f, h0, hH, r, _⟩ := E.ownv (i := i) (o := .dK kvs) (by rw [q]; rfl)
    cases r with
    | dK r =>
      refine ⟨l, _, hH, trivial, fun od => ?_⟩
      have ef : ∀ ho, Ex F (upd F l (.frz od ho)) := fun ho => Ex.new f
      exact hg F0 H0 _ _ σ _ D (E.know (ob := od) q e hH (.dKf upd_same (r.mono (ef _)) rfl)) (w.mono (ef _))
  · rename_i kvs q
    obtain ⟨l, ho, e, f, h0, hH, r, _⟩ := E.ownv (i := i) (o := .dT kvs) (by rw [q]; rfl)
    cases r with
    | dT r =>
      refine ⟨l, _, hH, trivial, fun od => ?_⟩
      have ef : ∀ ho, Ex F (upd F l (.frz od ho)) := fun ho => Ex.new f
      exact hg F0 H0 _ _ σ _ D (E.know (ob := od) q e hH (.dTf upd_same (r.mono (ef _)) rfl)) (w.mono (ef _))
  · exact w.elim
/-! ### the walks -/
inductive KnD (F : Hp) : V → D → Prop
  | k {a : Addr} {xs : List (Key × V)} {ds : List (Key × D)} {o : Obj} : F a = some (.frz o (.dK xs)) → RepK K F xs ds → KnD F (.ref a) (.dict (kdK ds))
  | t {a : Addr} {xs : List (List Key × V)} {ds : List (List Key × D)} {o : Obj} : F a = some (.frz o (.dT xs)) → RepT K F xs ds → KnD F (.ref a) (.dict (kdT ds))
/-- keys; values; pairs of a known dict -/
def keysD : D → Option (List D)
  | .dict ((.bool false, .bool true) :: ps) => (decK ps).map fun kvs => kvs.map fun p => keyD p.1
  | .dict ((.bool true, .bool true) :: ps) => (decT ps).map fun kvs => kvs.map fun p => .tuple (p.1.map keyD)
  | _ => none
def valsD : D → Option (List D)
  | .dict ((.bool false, .bool true) :: ps) => (decK ps).map fun kvs => kvs.map fun p => p.2
  | .dict ((.bool true, .bool true) :: ps) => (decT ps).map fun kvs => kvs.map fun p => p.2
  | _ => none
def itmsD : D → Option (List D)
  | .dict ((.bool false, .bool true) :: ps) => (decK ps).map fun kvs => kvs.map fun p => .tuple [keyD p.1, p.2]
  | .dict ((.bool true, .bool true) :: ps) => (decT ps).map fun kvs => kvs.map fun p => .tuple [.tuple (p.1.map keyD), p.2]
  | _ => none
@[simp] theorem keysD_K {kvs : List (Key × D)} : keysD (.dict (kdK kvs)) = some (kvs.map fun p => keyD p.1) := by
  show (decK _).map _ = _; rw [decK_map]; rfl
@[simp] theorem keysD_T {kvs : List (List Key × D)} : keysD (.dict (kdT kvs)) = some (kvs.map fun p => .tuple (p.1.map keyD)) := by
  show (decT _).map _ = _; rw [decT_map]; rfl
@[simp] theorem valsD_K {kvs : List (Key × D)} : valsD (.dict (kdK kvs)) = some (kvs.map fun p => p.2) := by
  show (decK _).map _ = _; rw [decK_map]; rfl
@[simp] theorem valsD_T {kvs : List (List Key × D)} : valsD (.dict (kdT kvs)) = some (kvs.map fun p => p.2) := by
  show (decT _).map _ = _; rw [decT_map]; rfl
@[simp] theorem itmsD_K {kvs : List (Key × D)} : itmsD (.dict (kdK kvs)) = some (kvs.map fun p => .tuple [keyD p.1, p.2]) := by
  show (decK _).map _ = _; rw [decK_map]; rfl
@[simp] theorem itmsD_T {kvs : List (List Key × D)} : itmsD (.dict (kdT kvs)) = some (kvs.map fun p => .tuple [.tuple (p.1.map keyD), p.2]) := by
  show (decT _).map _ = _; rw [decT_map]; rfl
/-- what stands for the known mark -/
def isKn : D → Bool
  | .dict ((.bool _, .bool true) :: _) => true
  | _ => false
theorem Rep.kn {v : V} {d : D} (r : Rep K F v d) (hk : isKn d = true) : KnD (K := K) F v d := by
  cases r with
  | dKf h q e => subst e; exact .k h q
  | dTf h q e => subst e; exact .t h q
  | dK h q e => subst e; cases hk
  | dT h q e => subst e; cases hk
  | scr _ _ e => subst e; cases hk
  | exc _ _ e => subst e; cases hk
  | ktp _ _ _ _ e => subst e; cases hk
  | fnc _ e => subst e; cases hk
  | non => cases hk
  | bl _ => cases hk
  | int _ => cases hk
  | str _ => cases hk
  | lst _ _ => cases hk
  | tup _ _ => cases hk
theorem keysD_kn {d : D} {ds : List D} (h : keysD d = some ds) : isKn d = true := by
  unfold keysD at h; split at h
  · rfl
  · rfl
  · cases h
theorem valsD_kn {d : D} {ds : List D} (h : valsD d = some ds) : isKn d = true := by
  unfold valsD at h; split at h
  · rfl
  · rfl
  · cases h
theorem itmsD_kn {d : D} {ds : List D} (h : itmsD d = some ds) : isKn d = true := by
  unfold itmsD at h; split at h
  · rfl
  · rfl
  · cases h
theorem repK_at {xs : List (Key × V)} {ds : List (Key × D)} (r : RepK K F xs ds) : ∀ {i : Nat} {k : Key} {v : V}, xs[i]? = some (k, v) → ∃ d, ds[i]? = some (k, d) ∧ Rep K F v d := by
  induction ds generalizing xs with
  | nil => intro i k v h; cases r; simp at h
  | cons p ds ih =>
    intro i k v h
    cases r with
    | cons a q =>
      cases i with
      | zero => simp at h; obtain ⟨rfl, rfl⟩ := h; exact ⟨_, rfl, a⟩
      | succ i => simp at h; simpa using ih q h
theorem repT_at {xs : List (List Key × V)} {ds : List (List Key × D)} (r : RepT K F xs ds) : ∀ {i : Nat} {k : List Key} {v : V}, xs[i]? = some (k, v) → ∃ d, ds[i]? = some (k, d) ∧ Rep K F v d := by
  induction ds generalizing xs with
  | nil => intro i k v h; cases r; simp at h
  | cons p ds ih =>
    intro i k v h
    cases r with
    | cons a q =>
      cases i with
      | zero => simp at h; obtain ⟨rfl, rfl⟩ := h; exact ⟨_, rfl, a⟩
      | succ i => simp at h; simpa using ih q h
theorem repKV (k : Key) : Rep K F (kV k) (keyD k) := by
  cases k with
  | inl i => exact .int i
  | inr x => exact .str x
theorem repKVs : ∀ ks : List Key, RepL K F (ks.map kV) (ks.map keyD)
  | [] => .nil
  | k :: ks => .cons (repKV k) (repKVs ks)
/-- a tuple that stands in the heap is frozen -/
theorem froz {q : Addr} {ks : List Key} (ex : Ex F H) (h : H q = some (.tup (ks.map kV))) : ∃ F', Step F H F' H ∧ Rep K F' (.ref q) (.tuple (ks.map keyD)) := by
  cases e : F q with
  | none =>
    refine ⟨upd F q (.tup (ks.map kV)), ⟨Ex.new e, Ex.refl _, fun a o h1 h2 h3 => ?_, fun a o h1 => ?_⟩, .tup upd_same (repKVs ks)⟩
    · have ne : a ≠ q := fun z => by subst z; rw [h] at h2; cases h2; exact h3 _ rfl
      rw [upd_ne ne]; exact h1
    · by_cases z : a = q
      · subst z; rw [upd_same] at h1; cases h1; exact h
      · rw [upd_ne z] at h1; exact ex _ _ h1
  | some o =>
    have := ex _ _ e
    rw [h] at this
    cases this
    exact ⟨F, Step.refl ex, .tup e (repKVs ks)⟩
theorem src_keysK {a : Addr} {xs : List (Key × V)} {ds : List (Key × D)} {o : Obj} (h : F a = some (.frz o (.dK xs))) (r : RepK K F xs ds) : Src K (Itk a o xs) F (ds.map fun p => keyD p.1) := by
  have wk : Walk (Itk a o xs) (ds.map fun p => keyD p.1).length (fun H => H a = some (.frz o (.dK xs))) (fun i H x H' => H' = H ∧ ∃ k v, xs[i]? = some (k, v) ∧ x = kV k) := by rw [List.length_map, ← repK_len r]; exact walk_keys
  refine ⟨_, _, wk, fun F1 H1 e1 e2 => e2 _ _ (e1 _ _ h), fun i F1 H1 x H2 hi e1 e2 y => ?_⟩
  obtain ⟨rfl, k, v, hk, rfl⟩ := y
  obtain ⟨d, hd, _⟩ := repK_at r hk
  exact ⟨F1, keyD k, Step.refl e2, by rw [List.getElem?_map, hd]; rfl, repKV k⟩
theorem src_keysT {a : Addr} {xs : List (List Key × V)} {ds : List (List Key × D)} {o : Obj} (h : F a = some (.frz o (.dT xs))) (r : RepT K F xs ds) : Src K (Itkt a o xs) F (ds.map fun p => .tuple (p.1.map keyD)) := by
  have wk : Walk (Itkt a o xs) (ds.map fun p => (.tuple (p.1.map keyD) : D)).length (fun H => H a = some (.frz o (.dT xs))) (fun i H x H' => H' = H ∧ ∃ (k : List Key) (v : V) (q : Addr), xs[i]? = some (k, v) ∧ x = .ref q ∧ H q = some (.tup (k.map kV))) := by rw [List.length_map, ← repT_len r]; exact walk_keysT
  refine ⟨_, _, wk, fun F1 H1 e1 e2 => e2 _ _ (e1 _ _ h), fun i F1 H1 x H2 hi e1 e2 y => ?_⟩
  obtain ⟨rfl, k, v, q, hk, rfl, hq⟩ := y
  obtain ⟨d, hd, _⟩ := repT_at r hk
  obtain ⟨F', s, rp⟩ := froz (K := K) e2 hq
  exact ⟨F', _, s, by rw [List.getElem?_map, hd]; rfl, rp⟩
def iKD (f : D → Option (List D)) (e : ME) : ML := fun ρ => (e ρ).bind fun d => lift (f d)
variable {te : TE} {e : ME}
theorem di_keys (he : DF K L mg W te e) : DI K L mg W (iKeys te) (iKD keysD e) := fun F0 H0 F H σ ρ R E p => by
  refine he F0 H0 F H σ ρ _ E (post_mono (post_bind p) (fun d k F1 H1 x s1 r1 => ?_) fun _ z => z)
  obtain ⟨ds, q, k⟩ := post_lift k
  cases r1.kn (keysD_kn q) with
  | k h r =>
    rw [keysD_K] at q; cases q
    exact ⟨_, _, rfl, .inl ⟨_, s1.fh _ _ h, k F1 H1 _ s1 (src_keysK h r)⟩⟩
  | t h r =>
    rw [keysD_T] at q; cases q
    exact ⟨_, _, rfl, .inr ⟨_, s1.fh _ _ h, k F1 H1 _ s1 (src_keysT h r)⟩⟩
@[simp] theorem iKD_ap {f : D → Option (List D)} : iKD f e ρ = (e ρ).bind fun d => lift (f d) := rfl
def knS (o : Option S) (i : Nat) (ρ : Fr) (g : MS) : Out := match o with
  | some (.own (.dK kvs)) => g (ρ.set i (.val (.dict (kdK kvs))))
  | some (.own (.dT kvs)) => g (ρ.set i (.val (.dict (kdT kvs))))
  | _ => .stuck
@[simp] theorem sKnow_ap {i : Nat} : sKnow i g ρ = knS ρ[i]? i ρ g := rfl
@[simp] theorem knS_K {i : Nat} {kvs : List (Key × D)} : knS (some (.own (.dK kvs))) i ρ g = g (ρ.set i (.val (.dict (kdK kvs)))) := rfl
@[simp] theorem knS_T {i : Nat} {kvs : List (List Key × D)} : knS (some (.own (.dT kvs))) i ρ g = g (ρ.set i (.val (.dict (kdT kvs)))) := rfl
end
end Dn

set_option Elab.async false
set_option linter.all false
set_option maxRecDepth 100000
set_option maxHeartbeats 4000000
/-! DenZF: the pairs and the values of a dict of tuple keys -/
namespace Dn
open PySem PySem.Spec PyProof.Rows L2
section
variable {X : Cx} {pins : List (Addr × Obj)} {σ : L2.St} {H : Hp} {s : Shared}
/-- the entries of a known dict of tuple keys -/
theorem entsT {d : Addr} {o : Obj} {kvs : List (List Key × V)} (I : Inv X pins σ H s) (h : H d = some (.frz o (.dT kvs))) :
    (d == sysModules) = false ∧ ∃ (es : Array DictEntry) (ep : Nat), o.data = .dict es ep ∧ s.heap.DictRaw d es ep ∧ es.size = kvs.length ∧
      ∀ (i : Nat) (k : List Key) (v : V), kvs[i]? = some (k, v) → ∃ (en : DictEntry) (q : Addr), es[i]? = some en ∧ en.key = .ref q ∧ H q = some (.tup (k.map kV)) ∧ RelV v en.val := by
  obtain ⟨hd, z, hs, xs, pr, ob, es, ep, ho, hx, hdt, he, _⟩ := I.hok d _ h
  rw [hd] at ho
  cases ho
  refine ⟨hs, es, ep, hdt, ⟨_, hd, hx, hdt⟩, (size_of_entries he).trans (Paired.length pr).symm, fun i k v e => ?_⟩
  obtain ⟨b, hb, e1, e2, e3⟩ := paired_get pr e
  have w := entry_at he i
  rw [hb] at w
  exact ⟨_, b.2.1, w, rfl, e2, e3⟩
end
/-- the values; the pairs, each a new tuple -/
def ItdT (d : Addr) (o : Obj) (kvs : List (List Key × V)) : It :=
  ⟨fun i H => H d = some (.frz o (.dT kvs)) ∧ i < kvs.length, fun i H x H' => H' = H ∧ ∃ k, kvs[i]? = some (k, x), fun i H => H d = some (.frz o (.dT kvs)) ∧ kvs.length ≤ i⟩
def ItiT (d : Addr) (o : Obj) (kvs : List (List Key × V)) : It :=
  ⟨fun i H => H d = some (.frz o (.dT kvs)) ∧ i < kvs.length, fun i H x H' => ∃ T k v q, kvs[i]? = some (k, v) ∧ x = .ref T ∧ H T = none ∧ H q = some (.tup (k.map kV)) ∧ H' = upd H T (.tup [.ref q, v]), fun i H => H d = some (.frz o (.dT kvs)) ∧ kvs.length ≤ i⟩
section
variable {P : Program} {w : World} {K : PySem.W.Frag} {tg : Expr} {d : Addr} {o : Obj}
theorem dep {o : Obj} {es es' : Array DictEntry} {ep ep' : Nat} (h : o.data = .dict es ep) (h' : o.data = .dict es' ep') : es' = es ∧ ep' = ep := by
  rw [h] at h'; cases h'; exact ⟨rfl, rfl⟩
theorem turn_valsT {kvs : List (List Key × V)} {es : Array DictEntry} {ep : Nat} (it : Addr) (hod : o.data = .dict es ep) : Turn P w K tg (ItdT d o kvs) [it] it (fun i h => h.IsValIter it d i kvs.length ep) where
  mem := List.mem_cons_self
  obj := fun i h st b hb => by
    obtain rfl : b = it := by simpa using hb
    obtain ⟨oi, e, c, dd⟩ := st
    exact ⟨oi, e, fun v z => by rw [dd] at z; cases z⟩
  keep := fun i h h' st k => st.at fun oi e => k it List.mem_cons_self oi e
  item := by
    intro X hP hw hK hc i pins sh σ0 H E I hf st hg
    subst hP hw hK
    obtain ⟨hd, hi⟩ := hg
    obtain ⟨f0, f1, f2, f3, f4, f5⟩ := hf it List.mem_cons_self
    obtain ⟨hs, es', ep', hdt, hr, hsz, ent⟩ := entsT I hd
    obtain ⟨rfl, rfl⟩ := dep hod hdt
    obtain ⟨⟨k, v⟩, hkv⟩ : ∃ p, kvs[i]? = some p := ⟨kvs[i], List.getElem?_eq_getElem hi⟩
    obtain ⟨en, q, hen, hkey, hq, ru⟩ := ent i k v hkv
    obtain ⟨hlt, hee⟩ := Array.getElem?_eq_some_iff.mp hen
    rw [← hsz] at st
    refine wpAny_pyNext_values_item_raw st hr hlt fun h' st' sb => ?_
    have I1 := I.turned (t' := sh.toks) (h' := h') (fun b ob hb e => (sb.2 b hb).trans e) f0 f1 f3 f4 f5
    obtain ⟨oi, e, c, dd⟩ := id st'
    rw [hee]
    exact ⟨en.val, rfl, go_of (s := { sh with heap := h' }) e c dd (by decide) ⟨v, H, I1, ru, ⟨rfl, k, hkv⟩, by show Heap.IsValIter _ _ _ _ kvs.length _; rw [← hsz]; exact st', fun b hb => (hf b hb).1⟩⟩
  done := by
    intro X hP hw hK hc i pins sh σ0 H E I hf st hg
    subst hP hw hK
    obtain ⟨hd, hi⟩ := hg
    obtain ⟨f0, f1, f2, f3, f4, f5⟩ := hf it List.mem_cons_self
    obtain ⟨hs, es', ep', hdt, hr, hsz, ent⟩ := entsT I hd
    obtain ⟨rfl, rfl⟩ := dep hod hdt
    rw [← hsz] at st
    exact wpAny_pyNext_values_end_raw (I.ok.hd hc) st hr (by omega) fun h' eb => ⟨rfl, I.turned (t' := sh.toks) (fun b ob hb e => eb b ob hb e) f0 f1 f3 f4 f5⟩
  self := fun A i s Q E st h => wpAny_pyIter_valiter st h
theorem turn_itemsT {kvs : List (List Key × V)} {es : Array DictEntry} {ep : Nat} {elts : List Expr} {kk : Nat} {tpos : Pos} (it : Addr) (hod : o.data = .dict es ep) :
    Turn P w K (.Tuple elts kk tpos) (ItiT d o kvs) [it] it (fun i h => ∃ ok ov, IsItemIter h it d i kvs.length ep ok ov) where
  mem := List.mem_cons_self
  obj := fun i h st b hb => by
    obtain rfl : b = it := by simpa using hb
    obtain ⟨ok, ov, e⟩ := st
    exact ⟨_, e, fun v z => nomatch z⟩
  keep := fun i h h' ⟨ok, ov, e⟩ k => ⟨ok, ov, k it List.mem_cons_self _ e⟩
  item := by
    intro X hP hw hK hc i pins sh σ0 H E I hf st hg
    subst hP hw hK
    obtain ⟨hd, hi⟩ := hg
    obtain ⟨hs, es', ep', hdt, hr, hsz, ent⟩ := entsT I hd
    obtain ⟨rfl, rfl⟩ := dep hod hdt
    obtain ⟨⟨k, v⟩, hkv⟩ : ∃ p, kvs[i]? = some p := ⟨kvs[i], List.getElem?_eq_getElem hi⟩
    obtain ⟨en, q, hen, hkey, hq, ru⟩ := ent i k v hkv
    obtain ⟨hlt, hee⟩ := Array.getElem?_eq_some_iff.mp hen
    obtain ⟨ok, ov, he⟩ := st
    rw [← hsz] at he
    have below : it < sh.heap.objs.size := Heap.lt_size he
    refine wpAny_pyNext_items_item_raw he hr hlt fun h' ho hT hz hk => ⟨_, rfl, wpAny_letOwnedTupleGo_items (s := { sh with heap := h' }) ho fun h2 he' sb => ?_⟩
    rw [hee] at hT
    have hT2 : h2.get? sh.heap.objs.size = some { cls := .type "tuple", data := .seq #[en.key, en.val] } := (sb.2 _ (Nat.ne_of_gt below)).trans hT
    have new : ObjOk X.prog X.w (upd H sh.heap.objs.size (.tup [.ref q, v])) h2 sh.heap.objs.size (.tup [.ref q, v]) :=
      ⟨by show 2 ≤ sizeLine; decide, [en.key, en.val], .cons hkey (.cons ru .nil), ⟨_, hT2, rfl, _, rfl⟩⟩
    have I1 : Inv X pins σ0 (upd H sh.heap.objs.size (.tup [.ref q, v])) { sh with heap := h2 } :=
      I.turnedNew (t' := sh.toks) (ch := [it]) (fun b ob hb e => by rw [List.mem_singleton] at hb; exact (sb.2 b hb).trans (hk b ob hb e)) hf (Nat.le_refl _) new
    refine ⟨.ref sh.heap.objs.size, _, I1, rfl, ⟨_, k, v, q, hkv, rfl, I.hok.fresh (Nat.le_refl _), hq, rfl⟩, ⟨en.key, en.val, ?_⟩, fun b hb => ?_⟩
    · rw [← hsz, ← hee]; exact he'
    · obtain rfl : b = it := by simpa using hb
      rw [upd_ne (Nat.ne_of_lt below)]
      exact (hf b List.mem_cons_self).1
  done := by
    intro X hP hw hK hc i pins sh σ0 H E I hf st hg
    subst hP hw hK
    obtain ⟨hd, hi⟩ := hg
    obtain ⟨f0, f1, f2, f3, f4, f5⟩ := hf it List.mem_cons_self
    obtain ⟨hs, es', ep', hdt, hr, hsz, ent⟩ := entsT I hd
    obtain ⟨rfl, rfl⟩ := dep hod hdt
    obtain ⟨ok, ov, he⟩ := st
    rw [← hsz] at he
    exact wpAny_pyNext_items_end_raw (I.ok.hd hc) he hr (by omega) fun h' eb => ⟨rfl, I.turned (t' := sh.toks) (fun b ob hb e => eb b ob hb e) f0 f1 f3 f4 f5⟩
  self := fun A i s Q E ⟨_, _, e⟩ h => PySem.W.kcp_self e h
end
def iItmsU (td : TE) : TI := fun σ H R => td σ H fun x H1 => ∃ d o, x = .ref d ∧ ((∃ kvs, H1 d = some (.frz o (.dK kvs)) ∧ R (Iti d o kvs) H1) ∨ ∃ kvs, H1 d = some (.frz o (.dT kvs)) ∧ R (ItiT d o kvs) H1)
section
variable {X : Cx} {td : TE} {e tg : Expr} {apos cpos : Pos}
theorem pi_itmsU {elts : List Expr} {kk : Nat} {tpos : Pos} (he : PE X e td) (hbase : attributeBase e "items" X.env (eval e X.env) = eval e X.env := by rfl) (hline : (apos.endLine == cpos.line) = true := by rfl) :
    PI X (.Tuple elts kk tpos) (.Call (.Attribute e "items" apos) [] [] cpos) (iItmsU td) := by
  refine ⟨fun pins s σ H R I h => wpAny_Call_method (T := "dict") (id := "dict.items") hbase rfl hline F.plainAttrs_dict F.slot_dict_items F.type_dict_items (thn (he.run pins s σ H _ I h) fun u s1 ⟨x, H1, I1, rx, d, o, ex, q⟩ => ?_)⟩
  subst ex
  obtain rfl : u = Value.ref d := rx
  have I2 : Inv X pins σ H1 { s1 with heap := s1.heap.push { cls := .type "dict_items", data := .fields #[.ref d] } } := I1.kept (t' := s1.toks) fun b ob q => Heap.get?_push_of_some _ q
  have vw : (s1.heap.push { cls := .type "dict_items", data := .fields #[.ref d] }).IsItemsView s1.heap.objs.size d := ⟨_, Heap.get?_push_size _ rfl, rfl, rfl⟩
  have all : (d == sysModules) = false ∧ ∃ es ep, o.data = .dict es ep ∧ s1.heap.DictRaw d es ep ∧ s1.TypeIs (.ref d) "dict" ∧ (∀ b, Value.ref d = .ref b → ∃ ob, s1.heap.get? b = some ob ∧ ob.dict = none) ∧
      wpAny (model X.prog X.w) X.A (pyIter (.ref s1.heap.objs.size)) (PIE X pins σ (.Tuple elts kk tpos) R) X.xe { s1 with heap := s1.heap.push { cls := .type "dict_items", data := .fields #[.ref d] } } := by
    rcases q with ⟨kvs, hd, q⟩ | ⟨kvs, hd, q⟩
    · obtain ⟨hs, hgd, hx, es, ep, vs, hdt, hsz, kv, hm⟩ := I1.frzK hd
      obtain ⟨j1, j2, _⟩ := isD_at I1 (.inl ⟨kvs, .inr ⟨o, hd⟩⟩)
      have hr : s1.heap.DictRaw d es ep := ⟨o, hgd, hx, hdt⟩
      refine ⟨hs, es, ep, hdt, hr, j1, j2, wpAny_pyIter_items_raw vw (hr.at fun ob z => Heap.get?_push_of_some _ z) (pi_one (tk := s1.toks) I2 _ (turn_items _ hdt) ⟨.none, .none, ?_⟩ q)⟩
      rw [← hsz]; exact Heap.get?_push_size _ rfl
    · obtain ⟨hs, es, ep, hdt, hr, hsz, ent⟩ := entsT I1 hd
      obtain ⟨j1, j2, _⟩ := isD_at I1 (.inr ⟨kvs, .inr ⟨o, hd⟩⟩)
      refine ⟨hs, es, ep, hdt, hr, j1, j2, wpAny_pyIter_items_raw vw (hr.at fun ob z => Heap.get?_push_of_some _ z) (pi_one (tk := s1.toks) I2 _ (turn_itemsT _ hdt) ⟨.none, .none, ?_⟩ q)⟩
      rw [← hsz]; exact Heap.get?_push_size _ rfl
  obtain ⟨hs, es, ep, hdt, hr, j1, j2, fin⟩ := all
  refine ⟨j1, j2, ?_⟩
  show wpAny _ _ (callWith cpos (.builtin "dict.items") [.ref d] [] []) _ X.xe s1
  exact method_meetsIn F.slot_dict_items F.entry_dict_items rfl (PySem.evalArgs_none ⟨rfl, j1, F.args_dict_items_1 _, _, meets_dict_items_raw d hs, ⟨es, ep, hr⟩, fin⟩)
end
section
variable {K : PySem.W.Frag} {L : Addr × Addr} {mg : Str → Option Value} {W : WX} {F : Hp} {te : TE} {e : ME}
theorem src_itmsK {a : Addr} {xs : List (Key × V)} {ds : List (Key × D)} {o : Obj} (h : F a = some (.frz o (.dK xs))) (r : RepK K F xs ds) : Src K (Iti a o xs) F (ds.map fun p => .tuple [keyD p.1, p.2]) := by
  have wk : Walk (Iti a o xs) (ds.map fun p => (.tuple [keyD p.1, p.2] : D)).length (fun H => H a = some (.frz o (.dK xs))) (YPair (fun i => xs[i]?.map fun kv => kV kv.1) (fun i => xs[i]?.map Prod.snd)) := by rw [List.length_map, ← repK_len r]; exact walk_items
  refine ⟨_, _, wk, fun F1 H1 e1 e2 => e2 _ _ (e1 _ _ h), fun i F1 H1 x H2 hi e1 e2 y => ?_⟩
  obtain ⟨T, k', v', rfl, hT, rfl, hk, hv⟩ := y
  dsimp only at hk hv
  cases hx : xs[i]? with
  | none => rw [hx] at hk; cases hk
  | some p =>
    obtain ⟨k, v⟩ := p
    rw [hx] at hk hv
    cases hk; cases hv
    obtain ⟨d, hd, rd⟩ := repK_at r hx
    have ex := Ex.new (H := F1) (o := .tup [kV k, v]) (e2.free hT)
    exact ⟨_, .tuple [keyD k, d], Step.new e2 hT, by rw [List.getElem?_map, hd]; rfl, .tup upd_same (.cons (repKV k) (.cons (rd.mono (e1.trans ex)) .nil))⟩
theorem src_itmsT {a : Addr} {xs : List (List Key × V)} {ds : List (List Key × D)} {o : Obj} (h : F a = some (.frz o (.dT xs))) (r : RepT K F xs ds) : Src K (ItiT a o xs) F (ds.map fun p => .tuple [.tuple (p.1.map keyD), p.2]) := by
  have wk : Walk (ItiT a o xs) (ds.map fun p => (.tuple [.tuple (p.1.map keyD), p.2] : D)).length (fun H => H a = some (.frz o (.dT xs))) (fun i H x H' => ∃ T k v q, xs[i]? = some (k, v) ∧ x = .ref T ∧ H T = none ∧ H q = some (.tup (k.map kV)) ∧ H' = upd H T (.tup [.ref q, v])) := by
    rw [List.length_map, ← repT_len r]
    exact ⟨fun _ _ hi q => ⟨q, hi⟩, fun _ q => ⟨q, Nat.le_refl _⟩, fun _ _ _ _ _ _ y => y⟩
  refine ⟨_, _, wk, fun F1 H1 e1 e2 => e2 _ _ (e1 _ _ h), fun i F1 H1 x H2 hi e1 e2 y => ?_⟩
  obtain ⟨T, k, v, q, hk, rfl, hT, hq, rfl⟩ := y
  obtain ⟨d, hd, rd⟩ := repT_at r hk
  obtain ⟨F', s, rp⟩ := froz (K := K) e2 hq
  have ex := Ex.new (H := F') (o := .tup [.ref q, v]) (s.fh.free hT)
  exact ⟨_, .tuple [.tuple (k.map keyD), d], s.trans (Step.new s.fh hT), by rw [List.getElem?_map, hd]; rfl, .tup upd_same (.cons (rp.mono ex) (.cons (rd.mono ((e1.trans s.ff).trans ex)) .nil))⟩
theorem di_itms (he : DF K L mg W te e) : DI K L mg W (iItmsU te) (iKD itmsD e) := fun F0 H0 F H σ ρ R E p => by
  refine he F0 H0 F H σ ρ _ E (post_mono (post_bind p) (fun d k F1 H1 x s1 r1 => ?_) fun _ z => z)
  obtain ⟨ds, q, k⟩ := post_lift k
  cases r1.kn (itmsD_kn q) with
  | k h r =>
    rw [itmsD_K] at q; cases q
    exact ⟨_, _, rfl, .inl ⟨_, s1.fh _ _ h, k F1 H1 _ s1 (src_itmsK h r)⟩⟩
  | t h r =>
    rw [itmsD_T] at q; cases q
    exact ⟨_, _, rfl, .inr ⟨_, s1.fh _ _ h, k F1 H1 _ s1 (src_itmsT h r)⟩⟩
end
end Dn

set_option Elab.async false
set_option linter.all false
set_option maxRecDepth 100000
set_option maxHeartbeats 4000000
/-! DenZG: defs that change a dict handed in -/
namespace Dn
open PySem PySem.Spec PyProof.Rows L2
/-- a thing of one's own, out of data -/
def od2? : D → Option OD
  | .list es => some (.lst es)
  | d => od? d
theorem od2_d (o : OD) : od2? o.d = some o := by
  cases o with
  | lst es => rfl
  | dK kvs => exact od_dK
  | dT kvs => exact od_dT
inductive RepJO (K : PySem.W.Frag) (F : Hp) (l : Addr) (ho : HO) (o : OD) : Nat → List V → List D → Prop
  | here {vs : List V} {ds : List D} : RepO K F ho o → RepL K F vs ds → RepJO K F l ho o 0 (.ref l :: vs) (o.d :: ds)
  | next {j : Nat} {v : V} {d : D} {vs : List V} {ds : List D} : Rep K F v d → RepJO K F l ho o j vs ds → RepJO K F l ho o (j + 1) (v :: vs) (d :: ds)
def spO (K : PySem.W.Frag) (mg : Str → Option Value) (j : Nat) (f : List D → M (OD × D)) : Sp := fun vs H Q E => ∃ F ds l ho o, Ex F H ∧ F l = none ∧ H l = some ho ∧ RepJO K F l ho o j vs ds ∧
  post (f ds) (fun r => ∀ F' H' ho' v, StepM F H l F' H' → H' l = some ho' → RepO K F' ho' r.1 → Rep K F' v r.2 → Q v H') (fun _ => False)
section
variable {K : PySem.W.Frag} {mg : Str → Option Value} {W : WX} {L : Addr × Addr} {F0 H0 F H F' H' : Hp} {σ : L2.St} {ρ : Fr} {l : Addr} {ho : HO} {o : OD} {j : Nat} {vs : List V} {ds : List D}
theorem RepJO.len (h : RepJO K F l ho o j vs ds) : vs.length = ds.length := by
  induction h with
  | here r q => simp [q.length]
  | next r _ ih => simp [ih]
theorem Env.mutO (E : Env K L F0 H0 F H σ ρ) {i : Nat} {o o' : OD} {ho ho' : HO} (h : ownO ρ[i]? = some o) (hl : σ[i]? = some (some (.ref l))) (hH : H l = some ho) (s : StepM F H l F' H') (h' : H' l = some ho') (r0 : RepO K F ho o) (r : RepO K F' ho' o') :
    Env K L F0 H0 F' H' σ (putO i o' ρ) := by
  have st : Step F H F' (upd H' l ho) := ⟨s.ff, fun a u q => by
    by_cases z : a = l
    · subst z; rw [upd_same, ← hH, q]
    · rw [upd_ne z]; exact s.hh a u z q, s.nw, fun a u q => by rw [upd_ne (ne_of_none q s.fl)]; exact s.fh a u q⟩
  have E2 := (E.step st).mut (u := o') h hl r
  rw [upd_upd] at E2
  have e : upd H' l ho' = H' := by
    funext b
    by_cases z : b = l
    · subst z; rw [upd_same, h']
    · rw [upd_ne z]
  rw [e] at E2
  exact E2
/-- arguments, the one at j the thing of one's own in slot i -/
def DAJO (K : PySem.W.Frag) (L : Addr × Addr) (mg : Str → Option Value) (W : WX) (i j : Nat) (t : TA) (f : ML) : Prop := ∀ F0 H0 F H σ ρ o (Q : List V → Hp → Prop), Env K L F0 H0 F H σ ρ → ownO ρ[i]? = some o →
  post (f ρ) (fun ds => ∀ F' H' vs l ho, Step F H F' H' → σ[i]? = some (some (.ref l)) → F' l = none → H' l = some ho → RepO K F' ho o → RepJO K F' l ho o j vs ds → Q vs H') (WE' mg W F H σ) → t σ H Q
theorem dajO_here {i : Nat} {tas : TA} {as : ML} (h : DAF K L mg W tas as) : DAJO K L mg W i 0 (tCons (tVar i) tas) (aCons (eVar i) as) := fun F0 H0 F H σ ρ o Q E hw p => by
  obtain ⟨l, hho, e, f, h0, hl, r, _⟩ := E.ownv hw
  refine ⟨_, e, ?_⟩
  have ev : eVar i ρ = .ok o.d := by
    unfold eVar
    cases q : ρ[i]? with
    | none => rw [q] at hw; cases hw
    | some s =>
      rw [q] at hw
      cases s with
      | own o => cases hw; rfl
      | pin o => cases hw; rfl
      | none => cases hw
      | val _ => cases hw
      | err _ => cases hw
  unfold aCons at p
  rw [ev, M.bind_ok] at p
  refine h F0 H0 F H σ ρ _ E (post_mono (post_bind p) (fun d k F1 H1 ys s1 r1 => ?_) fun _ z => z)
  exact k F1 H1 _ l hho s1 e (s1.nw l _ f hl r.nt) (s1.hh _ _ hl) (r.mono s1.ff) (.here (r.mono s1.ff) r1)
theorem dajO_next {i : Nat} {ta : TE} {a : ME} {tas : TA} {as : ML} (ha : DF K L mg W ta a) (h : DAJO K L mg W i j tas as) : DAJO K L mg W i (j + 1) (tCons ta tas) (aCons a as) := fun F0 H0 F H σ ρ o Q E hw p => by
  refine ha F0 H0 F H σ ρ _ E (post_mono (post_bind p) (fun d k F1 H1 x s1 r1 => ?_) fun _ z => z)
  refine h F0 H0 F1 H1 σ ρ o _ (E.step s1) hw (post_mono (post_bind k) (fun e k2 F2 H2 ys l ho s2 el fl hl rl rj => ?_) fun n z => WE'.on s1 z)
  exact k2 F2 H2 _ l ho (s1.trans s2) el fl hl rl (.next (r1.mono s2.ff) rj)
def sCallO (i : Nat) (f : List D → M (OD × D)) (as : ML) (k : D → Fr → Out) : MS := fun ρ => Out.ofO (ownO ρ[i]?) fun _ => Out.of (as ρ) ρ fun ds => match f ds with
  | .ok r => k r.2 (putO i r.1 ρ)
  | _ => .stuck
theorem callO_core {i : Nat} {f : List D → M (OD × D)} {tas : TA} {as : ML} {k : D → Fr → Out} {Dd : Ends} {Q : VK} (ha : DAJO K L mg W i j tas as) (E : Env K L F0 H0 F H σ ρ) (w : WO K mg W L F0 H0 F Dd (sCallO i f as k ρ))
    (kq : ∀ d F1 H1 v ρ1, Ex F F1 → WO K mg W L F0 H0 F1 Dd (k d ρ1) → Env K L F0 H0 F1 H1 σ ρ1 → Rep K F1 v d → Q v H1) : tCallS (spO K mg j f) (WE W) tas σ H Q := by
  obtain ⟨o, q, w2⟩ := WO.ofO w
  refine ha F0 H0 F H σ ρ o _ E q (post_mono (WO.of E w2) (fun ds w3 F1 H1 vs l ho s el fl hl rl rj => ?_) fun _ z => z)
  refine ⟨F1, ds, l, ho, o, s.fh, fl, hl, rj, ?_⟩
  cases qf : f ds with
  | ok r =>
    rw [qf] at w3
    intro F2 H2 ho' v sm h2 r2 rv
    exact kq r.2 F2 H2 v _ (s.ff.trans sm.ff) (WO.mono (s.ff.trans sm.ff) w3) ((E.step s).mutO q el hl sm h2 rl r2) rv
  | exc n => rw [qf] at w3; exact w3.elim
  | stuck => rw [qf] at w3; exact w3.elim
theorem ds_callO {i : Nat} {f : List D → M (OD × D)} {tas : TA} {as : ML} (ha : DAJO K L mg W i j tas as) : DS K L mg W (tDrop (tCallS (spO K mg j f) (WE W) tas)) (sCallO i f as fun _ ρ => .nx ρ) := fun F0 H0 F H σ ρ Dd E w =>
  callO_core ha E w fun d F1 H1 v ρ1 e w1 E1 r => w1 F1 H1 σ (Ex.refl _) E1
theorem ds_callOA {i n : Nat} {f : List D → M (OD × D)} {tas : TA} {as : ML} (ha : DAJO K L mg W i j tas as) : DS K L mg W (tAsg (tCallS (spO K mg j f) (WE W) tas) (gName n)) (sCallO i f as fun d ρ => .nx (ρ.set n (.val d))) := fun F0 H0 F H σ ρ Dd E w =>
  callO_core ha E w fun d F1 H1 v ρ1 e w1 E1 r => w1 F1 H1 _ (Ex.refl _) (E1.setv r n)
theorem ds_callOR {i : Nat} {f : List D → M (OD × D)} {tas : TA} {as : ML} (ha : DAJO K L mg W i j tas as) : DS K L mg W (tRet (tCallS (spO K mg j f) (WE W) tas)) (sCallO i f as fun d ρ => .ret d ρ) := fun F0 H0 F H σ ρ Dd E w =>
  callO_core ha E w fun d F1 H1 v ρ1 e w1 E1 r => w1 F1 H1 σ v (Ex.refl _) E1 r
/-! ### the body of such a def -/
def startO (j N : Nat) (ds : List D) : Fr := match ds[j]?.bind od2? with
  | some o => (start' N ds).set j (.pin o)
  | none => start' N ds
def pinO (j : Nat) (ρ : Fr) (d : D) : M (OD × D) := match ρ[j]? with
  | some (.pin o) => .ok (o, d)
  | _ => .stuck
theorem pinO_post {j : Nat} {ρ : Fr} {d : D} {kx : OD × D → Prop} {ke : Str → Prop} (h : post (pinO j ρ d) kx ke) : ∃ o, ρ[j]? = some (.pin o) ∧ kx (o, d) := by
  unfold pinO at h
  split at h
  · exact ⟨_, by assumption, h⟩
  · exact h.elim
def Out.mo (j : Nat) : Out → M (OD × D)
  | .nx ρ => pinO j ρ .none
  | .ret d ρ => pinO j ρ d
  | _ => .stuck
def mFnO (j np N : Nat) (g : MS) (ds : List D) : M (OD × D) := if ds.length = np then (g (startO j N ds)).mo j else .stuck
theorem repJO_get (h : RepJO K F l ho o j vs ds) : vs[j]? = some (.ref l) ∧ (ds[j]? = some o.d ∧ RepO K F ho o) ∧ ∀ i v, i ≠ j → vs[i]? = some v → ∃ d, ds[i]? = some d ∧ Rep K F v d := by
  induction h with
  | here r q =>
    refine ⟨rfl, ⟨rfl, r⟩, fun i v hi hv => ?_⟩
    cases i with
    | zero => exact (hi rfl).elim
    | succ i => simp at hv; simpa using q.get hv
  | next r _ ih =>
    obtain ⟨h1, ⟨h2, h3⟩, h4⟩ := ih
    refine ⟨by simpa using h1, ⟨by simpa using h2, h3⟩, fun i v hi hv => ?_⟩
    cases i with
    | zero => simp at hv; subst hv; exact ⟨_, rfl, r⟩
    | succ i => simp at hv; simpa using h4 i v (by omega) hv
theorem env_startO {N : List Str} (ex : Ex F H) (fl : F l = none) (hl : H l = some ho) (r : RepJO K F l ho o j vs ds) : Env K (l, 0) F (del H l) F H (L2.start N vs) (startO j N.length ds) := by
  obtain ⟨h1, ⟨h2, h3⟩, h4⟩ := repJO_get r
  have hlen := r.len
  have hj : j < ds.length := (List.getElem?_eq_some_iff.mp h2).1
  have hs : startO j N.length ds = (start' N.length ds).set j (.pin o) := by unfold startO; rw [h2, Option.bind_some, od2_d]
  have hst : (start' N.length ds).length = (L2.start N vs).length := by unfold start' L2.start; simp [hlen]
  have hgv : ∀ i, i < vs.length → (L2.start N vs)[i]? = (vs[i]?).map some := fun i hi => by
    unfold L2.start
    rw [List.getElem?_append_left (by simpa using hi), List.getElem?_map]
  refine ⟨⟨Ex.refl _, fun a o q => ?_, fun a o h _ _ => h, ex⟩, by rw [hs, List.length_set]; exact hst.symm, fun i s q => ?_, fun i k m q1 q2 _ _ => ?_⟩
  · by_cases z : a = l
    · subst z; rw [del_same] at q; cases q
    · rw [del_ne z] at q; exact q
  · rw [hs] at q
    rcases set_get q with ⟨e, es', hl'⟩ | ⟨ne, h'⟩
    · subst e; subst es'
      rw [hgv j (by omega), h1]
      exact ⟨rfl, fl, del_same, _, hl, h3⟩
    · unfold start' at h'
      rw [List.getElem?_append] at h'
      split at h'
      · rename_i hi
        rw [List.length_map] at hi
        rw [List.getElem?_map] at h'
        rw [hgv i (by omega)]
        cases qd : ds[i]? with
        | none => rw [qd] at h'; cases h'
        | some d =>
          rw [qd] at h'
          cases h'
          have hv : ∃ v, vs[i]? = some v := ⟨vs[i]'(by omega), by simp [show i < vs.length by omega]⟩
          obtain ⟨v, hv⟩ := hv
          obtain ⟨d', hd', rd⟩ := h4 i v (fun z => ne z.symm) hv
          rw [qd] at hd'
          cases hd'
          rw [hv]
          exact ⟨v, rfl, rd⟩
      · rw [List.getElem?_replicate] at h'
        split at h'
        · cases h'; trivial
        · cases h'
  · have no : ∀ m, m ≠ j → ¬ isOwn ((startO j N.length ds)[m]?) := fun m hm q => by
      rw [hs, List.getElem?_set_ne (Ne.symm hm)] at q
      unfold start' isOwn at q
      rw [List.getElem?_append] at q
      split at q
      · rw [List.getElem?_map] at q
        cases qq : ds[m]? with
        | none => rw [qq] at q; cases q
        | some d => rw [qq] at q; cases q
      · rw [List.getElem?_replicate] at q
        split at q <;> cases q
    have a1 : i = j := Classical.byContradiction fun z => no i z q1
    have a2 : k = j := Classical.byContradiction fun z => no k z q2
    rw [a1, a2]
theorem body_okO {t : TS} {g : MS} {N : List Str} {np : Nat} {Q : VK} {E : XK} (h : ∀ L, DS K L mg (fun cls d _ H => E cls d H) t g) (hs : spO K mg j (mFnO j np N.length g) vs H Q E) :
    t { nx := fun _ H' => Q .non H', rt := Q } (L2.start N vs) H := by
  obtain ⟨F, ds, l, ho, o, ex, fl, hl, r, p⟩ := hs
  refine h (l, 0) F (del H l) F H _ _ _ (env_startO (N := N) ex fl hl r) ?_
  have fin : ∀ {F' H' : Hp} {σ' : L2.St} {ρ : Fr} {o : OD}, Env K (l, 0) F (del H l) F' H' σ' ρ → ρ[j]? = some (.pin o) → StepM F H l F' H' ∧ ∃ ho', H' l = some ho' ∧ RepO K F' ho' o := fun {F' H' σ' ρ o} E' hp => by
    obtain ⟨e, f, _, ho, hH, rr⟩ := E'.sl j _ hp
    refine ⟨⟨E'.st.ff, fun a o ne q => E'.st.hh a o (by rw [del_ne ne]; exact q), fun a o h1 h2 h3 => ?_, E'.st.fh, f⟩, ho, hH, rr⟩
    by_cases z : a = l
    · rw [z]; exact f
    · exact E'.st.nw a o h1 (by rw [del_ne z]; exact h2) h3
  unfold mFnO at p
  split at p
  · cases q : g (startO j N.length ds) with
    | nx ρ =>
      rw [q] at p
      intro F' H' σ' e E'
      obtain ⟨es, hp, p⟩ := pinO_post p
      obtain ⟨sm, ws', h1, h2⟩ := fin E' hp
      exact p F' H' ws' .non sm h1 h2 .non
    | ret d ρ =>
      rw [q] at p
      intro F' H' σ' v e E' rv
      obtain ⟨es, hp, p⟩ := pinO_post p
      obtain ⟨sm, ws', h1, h2⟩ := fin E' hp
      exact p F' H' ws' v sm h1 h2 rv
    | retL ds ρ => rw [q] at p; exact p.elim
    | exc n ρ => rw [q] at p; exact p.elim
    | brk ρ => rw [q] at p; exact p.elim
    | cont ρ => rw [q] at p; exact p.elim
    | stuck => rw [q] at p; exact p.elim
  · exact p.elim
end
def FnAtO (P : Program) (w : World) (K : PySem.W.Frag) (mg : Str → Option Value) (base : Heap) (x : Str) (ps : List Str) (k j : Nat) (f : List D → M (OD × D)) : Prop :=
  ∃ a fd, mg x = some (.ref a) ∧ PySem.W.keepIn K (.ref a) = true ∧ Binds K fd ps [] ∧ FnOk P w K mg base (L2.CX P w) k a fd ps (spO K mg j f)
section
variable {P : Program} {w : World} {K : PySem.W.Frag} {mg : Str → Option Value} {base : Heap}
theorem fn_atO {x : Str} {st : Stmt} {N ps : List Str} {k j : Nat} {g : MS} (Df : DefAt K mg x st) (S : FnScope N ps (defScope st))
    (hb : ∀ (kV doc pm : Value) (an : Option Addr) (cdv ct : Value) (us : List Value), us.length = ps.length → bindArgs (PySem.W.fnOf x x (defArgs st) (defBody st) (defScope st) .none kV doc pm an cdv ct) ⟨us, []⟩ = pure (ps.zip us))
    (h : ∀ (f : Addr) (cdv : Value) (A : Around) (outer : List PySem.Env) (s : Shared) (H : Hp) (E : XK), Room k (A.deeper (envOfC x (defScope st) s.heap.objs.size f cdv)) →
      ∃ t, PSs (cxOf (L2.CX P w) P w K mg base N x (defScope st) f cdv A outer s H E) (defBody st) t ∧ ∀ L, DS K L mg (fun cls d _ H => E cls d H) t g) :
    FnAtO P w K mg base x ps (k + 1) j (mFnO j ps.length N.length g) := by
  obtain ⟨f, fd, hm, F⟩ := Df
  refine ⟨f, fd, hm, F.kp, F.binds hb, ?_⟩
  refine F.okX S (fun vs H Q E h => ?_) fun cdv A outer s H vs Q E hr hs => ?_
  · obtain ⟨F, ds, l, ho, o, ex, fl, hl, r, p⟩ := h
    unfold mFnO at p
    split at p
    · rw [r.len]; assumption
    · exact p.elim
  · obtain ⟨t, h1, h2⟩ := h f cdv A outer s H E hr
    exact ⟨t, h1, body_okO h2 hs⟩
end
/-! ### made plain -/
def resO (m : M (OD × D)) (k : OD × D → Out) : Out := match m with
  | .ok r => k r
  | _ => .stuck
@[simp] theorem resO_ok {r : OD × D} {k : OD × D → Out} : resO (.ok r) k = k r := rfl
@[simp] theorem getB_pinO {o : OD} : getB (some (.pin o)) = .ok o.d := rfl
@[simp] theorem dictS_pinK {kvs : List (Key × D)} : dictS (some (.pin (.dK kvs))) = some (.dK kvs) := rfl
@[simp] theorem dictS_pinT {kvs : List (List Key × D)} : dictS (some (.pin (.dT kvs))) = some (.dT kvs) := rfl
@[simp] theorem ownO_own {o : OD} : ownO (some (.own o)) = some o := rfl
@[simp] theorem ownO_pin {o : OD} : ownO (some (.pin o)) = some o := rfl
@[simp] theorem sCallO_ap {i : Nat} {f : List D → M (OD × D)} {as : ML} {k : D → Fr → Out} {ρ : Fr} : sCallO i f as k ρ = Out.ofO (ownO ρ[i]?) fun _ => Out.of (as ρ) ρ fun ds => resO (f ds) fun r => k r.2 (ρ.set i (putOS ρ[i]? r.1)) := by
  unfold sCallO
  simp only [putO_ap]
  rfl
end Dn

set_option Elab.async false
set_option linter.all false
set_option maxRecDepth 100000
set_option maxHeartbeats 4000000
/-! DenZH: for over a list of one's own that stays as it is meanwhile -/
namespace Dn
open PySem PySem.Spec PyProof.Rows L2
def noPin (ρ : Fr) : Prop := ∀ (j : Nat) (o : OD), ρ[j]? ≠ some (.pin o)
open Classical in
/-- a turn, where the list stands as it did -/
noncomputable def forP (i : Nat) (ds : List D) (tg : D → Fr → Option Fr) (g : MS) : D → Fr → Out := fun d ρ => if ρ[i]? = some (.pin (.lst ds)) then forB tg g d ρ else .stuck
open Classical in
/-- the list is one's own again -/
noncomputable def outO (i : Nat) (ds : List D) : Out → Out
  | .nx ρ => if ρ[i]? = some (.pin (.lst ds)) then .nx (ρ.set i (.own (.lst ds))) else .stuck
  | .ret d ρ => if ρ[i]? = some (.pin (.lst ds)) then .ret d (ρ.set i (.own (.lst ds))) else .stuck
  | .exc n ρ => if ρ[i]? = some (.pin (.lst ds)) then .exc n (ρ.set i (.own (.lst ds))) else .stuck
  | _ => .stuck
open Classical in
theorem outO_nx {i : Nat} {ds : List D} {ρ : Fr} : outO i ds (.nx ρ) = if ρ[i]? = some (.pin (.lst ds)) then .nx (ρ.set i (.own (.lst ds))) else .stuck := rfl
open Classical in
theorem outO_ret {i : Nat} {ds : List D} {d : D} {ρ : Fr} : outO i ds (.ret d ρ) = if ρ[i]? = some (.pin (.lst ds)) then .ret d (ρ.set i (.own (.lst ds))) else .stuck := rfl
open Classical in
theorem outO_exc {i : Nat} {ds : List D} {n : Str} {ρ : Fr} : outO i ds (.exc n ρ) = if ρ[i]? = some (.pin (.lst ds)) then .exc n (ρ.set i (.own (.lst ds))) else .stuck := rfl
open Classical in
noncomputable def sForO (i : Nat) (tg : D → Fr → Option Fr) (g : MS) : MS := fun ρ => match ρ[i]? with
  | some (.own (.lst ds)) => if noPin ρ then outO i ds (loopFor (forP i ds tg g) ds (ρ.set i (.pin (.lst ds)))) else .stuck
  | _ => .stuck
section
variable {K : PySem.W.Frag} {mg : Str → Option Value} {W : WX} {L : Addr × Addr} {F0 H0 F H F' H' : Hp} {σ : L2.St} {ρ : Fr} {l : Addr} {i : Nat} {ds : List D}
theorem isOwn_set {j : Nat} {s u : S} (h : ρ[i]? = some s) (e : (ownO (some s)).isSome = (ownO (some u)).isSome) : isOwn (ρ.set i u)[j]? ↔ isOwn ρ[j]? := by
  by_cases c : j = i
  · subst c
    have hl : j < ρ.length := (List.getElem?_eq_some_iff.mp h).1
    rw [List.getElem?_set_self hl, h]
    unfold isOwn
    rw [e]
  · rw [List.getElem?_set_ne (Ne.symm c)]
theorem Env.toPin {o : OD} (E : Env K L F0 H0 F H σ ρ) (h : ρ[i]? = some (.own o)) (np : noPin ρ) (hl : σ[i]? = some (some (.ref l))) : Env K (l, L.2) F0 H0 F H σ (ρ.set i (.pin o)) where
  st := E.st
  len := by rw [List.length_set]; exact E.len
  sl := fun j s q => by
    rcases set_get q with ⟨e, es, hlen⟩ | ⟨ne, h'⟩
    · subst es
      rw [← e]
      obtain ⟨l', ho, e, r1, r2, r3, r4⟩ := E.sl i _ h
      rw [hl] at e
      cases e
      exact ⟨by rw [hl]; rfl, r1, r2, ho, r3, r4⟩
    · have r := E.sl j s h'
      cases s with
      | none => exact r
      | val d => exact r
      | own od => exact r
      | pin od => exact (np j od h').elim
      | err n => exact r
  sep := fun j k m h1 h2 e1 e2 => E.sep j k m ((isOwn_set (u := .pin o) h rfl).mp h1) ((isOwn_set (u := .pin o) h rfl).mp h2) e1 e2
theorem Env.toOwn {o : OD} (E : Env K (l, L.2) F0 H0 F H σ ρ) (h : ρ[i]? = some (.pin o)) : Env K L F0 H0 F H σ (ρ.set i (.own o)) where
  st := E.st
  len := by rw [List.length_set]; exact E.len
  sl := fun j s q => by
    rcases set_get q with ⟨e, es, hlen⟩ | ⟨ne, h'⟩
    · subst es
      rw [← e]
      obtain ⟨e, r1, r2, ho, r3, r4⟩ := E.sl i _ h
      exact ⟨l, ho, e, r1, r2, r3, r4⟩
    · have r := E.sl j s h'
      cases s with
      | none => exact r
      | val d => exact r
      | own od => exact r
      | pin od =>
        exfalso
        obtain ⟨e1, _⟩ := E.sl i _ h
        obtain ⟨e2, _⟩ := r
        have a1 : σ[i]? = some (some (.ref l)) := join_some e1
        have a2 : σ[j]? = some (some (.ref l)) := join_some e2
        exact ne (E.sep i j l (by unfold isOwn; rw [h]; rfl) (by unfold isOwn; rw [h']; rfl) a1 a2)
      | err n => exact r
  sep := fun j k m h1 h2 e1 e2 => E.sep j k m ((isOwn_set (u := .own o) h rfl).mp h1) ((isOwn_set (u := .own o) h rfl).mp h2) e1 e2
variable {gg : TG} {tg : D → Fr → Option Fr} {is : List Nat} {t : TS} {g : MS}
theorem walk_own {n : Nat} : Walk (Itl K l) n (fun H => ∃ xs, SqL K H l xs ∧ xs.length = n) (fun i H x H' => H' = H ∧ ∀ xs, SqL K H l xs → xs[i]? = some x) :=
  ⟨fun i _ hi ⟨xs, q, e⟩ => ⟨xs, xs[i]'(by omega), q, by simp [show i < xs.length by omega]⟩, fun _ ⟨xs, q, e⟩ => ⟨xs, q, Nat.le_of_eq e⟩, fun _ _ _ _ _ _ y => y⟩
theorem pin_of {D : Ends} {es : List Dn.D} (w : WO K mg W L F0 H0 F D (outO i ds (loopFor (forP i ds tg g) es ρ))) : ρ[i]? = some (.pin (.lst ds)) := by
  refine Classical.byContradiction fun ne => ?_
  cases es with
  | nil =>
    have e : outO i ds (loopFor (forP i ds tg g) [] ρ) = .stuck := if_neg ne
    rw [e] at w
    exact w.elim
  | cons d es =>
    unfold loopFor at w
    have e : forP i ds tg g d ρ = .stuck := if_neg ne
    rw [e] at w
    exact w.elim
theorem ds_forO {i : Nat} (hg : ∀ L, DG K L gg tg is) (hb : ∀ L, DS K L mg W t g) : DS K L mg W (tFor (iSq K (tVar i)) gg t) (sForO i tg g) := fun F0 H0 F H σ ρ D E w => by
  unfold sForO at w
  split at w
  · rename_i ds ho
    split at w
    · rename_i np
      obtain ⟨l, hho, e, f, h0, hl, r, _⟩ := E.ownv (o := .lst ds) (by rw [ho]; rfl)
      obtain ⟨vs, rfl, r'⟩ := r.isl
      have E1 := E.toPin ho np e
      refine ⟨_, e, ?_⟩
      refine ⟨_, _, rfl, .inl ⟨.of hl, ?_⟩⟩
      have std : ∀ {F1 H1 : Hp} {σ1 : L2.St} {ρ1 : Fr}, Env K (l, L.2) F0 H0 F1 H1 σ1 ρ1 → ρ1[i]? = some (.pin (.lst ds)) → ∃ xs, H1 l = some (.lst xs) ∧ RepL K F1 xs ds := fun {F1 H1 σ1 ρ1} E2 hp => by
        obtain ⟨_, _, _, ho, h1, h2⟩ := E2.sl i _ hp
        obtain ⟨xs, rfl, h3⟩ := h2.isl
        exact ⟨xs, h1, h3⟩
      have wk := walk_own (K := K) (l := l) (n := ds.length)
      refine for_it wk (fun j σ H => ∃ F1 ρ1, Ex F F1 ∧ Env K (l, L.2) F0 H0 F1 H σ ρ1 ∧ WO K mg W L F0 H0 F1 D (outO i ds (loopFor (forP i ds tg g) (ds.drop j) ρ1)))
        ⟨F, _, Ex.refl _, E1, by rw [List.drop_zero]; exact w⟩ ?_ ?_ ?_
      · rintro j σ2 H2 _ ⟨F2, ρ2, e2, E2, w2⟩
        obtain ⟨xs, h1, h2⟩ := std E2 (pin_of w2)
        exact ⟨xs, .of h1, h2.length⟩
      · rintro j x σ2 H2 H3 hlt ⟨F2, ρ2, e2, E2, w2⟩ ⟨rfl, y⟩
        have hp := pin_of w2
        obtain ⟨xs, h1, h2⟩ := std E2 hp
        have hx := y xs (.of h1)
        obtain ⟨d, hd, r3⟩ := h2.get hx
        have ed : ds.drop j = d :: ds.drop (j + 1) := by
          obtain ⟨h1, h2⟩ := List.getElem?_eq_some_iff.mp hd
          rw [List.drop_eq_getElem_cons h1, h2]
        rw [ed] at w2
        unfold loopFor at w2
        have ef : forP i ds tg g d ρ2 = forB tg g d ρ2 := if_pos hp
        rw [ef] at w2
        unfold forB at w2
        cases q : tg d ρ2 with
        | none => rw [q] at w2; exact w2.elim
        | some ρ3 =>
          rw [q] at w2
          refine hg (l, L.2) F0 H0 F2 H3 σ2 ρ2 x d _ ρ3 E2 r3 q fun σ3 E3 _ => ?_
          refine hb (l, L.2) F0 H0 F2 H3 σ3 ρ3 _ E3 ?_
          have w4 : WO K mg W L F0 H0 F2 D (outO i ds (match g ρ3 with
            | .nx ρ' => loopFor (forP i ds tg g) (ds.drop (j + 1)) ρ'
            | .cont ρ' => loopFor (forP i ds tg g) (ds.drop (j + 1)) ρ'
            | .brk ρ' => .nx ρ'
            | o => o)) := w2
          cases qq : g ρ3 with
          | nx ρ4 => rw [qq] at w4; exact fun F4 H4 σ4 e4 E4 => ⟨F4, ρ4, e2.trans e4, E4, WO.mono e4 w4⟩
          | cont ρ4 => rw [qq] at w4; exact fun F4 H4 σ4 e4 E4 => ⟨F4, ρ4, e2.trans e4, E4, WO.mono e4 w4⟩
          | brk ρ4 =>
            rw [qq] at w4
            have hp4 : ρ4[i]? = some (.pin (.lst ds)) := pin_of (tg := tg) (g := g) (es := []) w4
            rw [outO_nx, if_pos hp4] at w4
            exact fun F4 H4 σ4 e4 E4 => w4 F4 H4 σ4 e4 (E4.toOwn hp4)
          | ret d ρ4 =>
            rw [qq, outO_ret] at w4
            by_cases hp4 : ρ4[i]? = some (.pin (.lst ds))
            · rw [if_pos hp4] at w4
              exact fun F4 H4 σ4 v e4 E4 rv => w4 F4 H4 σ4 v e4 (E4.toOwn hp4) rv
            · rw [if_neg hp4] at w4; exact w4.elim
          | retL ds ρ => rw [qq] at w4; exact w4.elim
          | exc n ρ4 =>
            rw [qq, outO_exc] at w4
            by_cases hp4 : ρ4[i]? = some (.pin (.lst ds))
            · rw [if_pos hp4] at w4
              exact fun F4 H4 σ4 e4 E4 => w4 F4 H4 σ4 e4 (E4.toOwn hp4)
            · rw [if_neg hp4] at w4; exact w4.elim
          | stuck => rw [qq] at w4; exact w4.elim
      · rintro σ2 H2 ⟨F2, ρ2, e2, E2, w2⟩
        have hp := pin_of w2
        rw [List.drop_length] at w2
        rw [show loopFor (forP i ds tg g) [] ρ2 = .nx ρ2 from rfl, outO_nx, if_pos hp] at w2
        exact w2 F2 H2 σ2 (Ex.refl _) (E2.toOwn hp)
    · exact w.elim
  · exact w.elim
end
/-! ### made plain -/
theorem forO_nx {i : Nat} {tg : D → Fr → Option Fr} {g : MS} {ρ ρ' : Fr} {ds : List D} (h : ρ[i]? = some (.own (.lst ds))) (np : noPin ρ) (lp : loopFor (forP i ds tg g) ds (ρ.set i (.pin (.lst ds))) = .nx ρ') (h' : ρ'[i]? = some (.pin (.lst ds))) : sForO i tg g ρ = .nx (ρ'.set i (.own (.lst ds))) := by
  unfold sForO
  rw [h]
  refine (if_pos np).trans ?_
  rw [lp, outO_nx]
  exact if_pos h'
theorem forP_ap {i : Nat} {tg : D → Fr → Option Fr} {g : MS} {ρ : Fr} {ds : List D} {d : D} (h : ρ[i]? = some (.pin (.lst ds))) : forP i ds tg g d ρ = forB tg g d ρ := if_pos h
end Dn

set_option Elab.async false
set_option linter.all false
set_option maxRecDepth 100000
set_option maxHeartbeats 4000000
/-! DenZI: get of a dict with one argument -/
namespace Dn
open PySem PySem.Spec PyProof.Rows L2
section
variable {X : Cx} {o e : Expr} {apos cpos : Pos} {td ty : TE}
theorem pe_dget1R (hu : X.A.units + 65 < cLine) (ho : PE X o td) (he : PE X e ty) (m : M1 X o "get" apos e cpos) : PE X (.Call (.Attribute o "get" apos) [e] [] cpos) (tDGet1 td ty) := pe_dget1 (by omega) ho he m
end
def eGet1 (a b : ME) : ME := fun ρ => (a ρ).bind fun x => (lift (od? x)).bind fun o => (b ρ).bind fun y => lift ((odGet o y).map fun r => r.getD .none)
@[simp] theorem eGet1_ap {a b : ME} {ρ : Fr} : eGet1 a b ρ = (a ρ).bind fun x => (lift (od? x)).bind fun o => (b ρ).bind fun y => lift ((odGet o y).map fun r => r.getD .none) := rfl
section
variable {K : PySem.W.Frag} {L : Addr × Addr} {mg : Str → Option Value} {W : WX} {ta tb : TE} {a b : ME}
theorem df_dget1 (ha : DE K L mg W ta a) (hb : DE K L mg W tb b) : DF K L mg W (tDGet1 ta tb) (eGet1 a b) := fun F0 H0 F H σ ρ Q E p => by
  refine ha F0 H0 F H σ ρ _ E (post_mono (post_bind p) (fun d k F1 H1 x s1 r1 => ?_) fun _ z => z)
  obtain ⟨o, qo, k⟩ := post_lift (post_bind k)
  obtain ⟨l, ho, rfl, hl, ro⟩ := r1.od s1.fh qo
  refine ⟨l, rfl, isD_of hl ro (od_nol qo), ?_⟩
  refine hb F0 H0 F1 H1 σ ρ _ (E.step s1) (post_mono (post_bind k) (fun e k2 F2 H2 y s2 r2 => ?_) fun n z => WE'.on s1 z)
  obtain ⟨z, ez, k4⟩ := post_lift k2
  cases q2 : odGet o e with
  | none => rw [q2] at ez; cases ez
  | some r =>
    rw [q2] at ez
    cases ez
    have hl3 := ex_rd s2.hh hl
    have ro3 := ro.mono s2.ff
    obtain ⟨ov, g, fd⟩ := od_get s2.fh hl3 ro3 r2 q2
    refine ⟨ov, g, k4 F2 H2 _ (s1.trans s2) ?_⟩
    cases ov with
    | none => cases r with
      | none => exact .non
      | some _ => exact fd.elim
    | some v => cases r with
      | none => exact fd.elim
      | some _ => exact fd
end
end Dn

set_option Elab.async false
set_option linter.all false
set_option maxRecDepth 100000
set_option maxHeartbeats 4000000
/-! DenZJ: remove of a list of ints -/
namespace Dn
open PySem PySem.Spec PyProof.Rows L2
def remM (ds es : List D) : Option (List D × D) := match es with
  | [.int k] => (ints? ds).bind fun ns => if k ∈ ns then some ((ns.erase k).map .int, .none) else none
  | _ => none
/-- where the first one stands -/
theorem rem_at {k : Int} : ∀ {ns : List Int}, k ∈ ns → ∃ j, ns[j]? = some k ∧ (∀ i, i < j → ns[i]? ≠ some k) ∧ ns.eraseIdx j = ns.erase k
  | a :: ns, h => by
    by_cases c : a = k
    · subst c
      exact ⟨0, rfl, fun i hi => absurd hi (Nat.not_lt_zero i), by simp⟩
    · have h' : k ∈ ns := (List.mem_cons.mp h).resolve_left fun z => c z.symm
      obtain ⟨j, h1, h2, h3⟩ := rem_at h'
      refine ⟨j + 1, h1, fun i hi => ?_, ?_⟩
      · cases i with
        | zero => exact fun z => c (Option.some.inj z)
        | succ i => exact h2 i (by omega)
      · rw [List.erase_cons_tail (by simpa using c), ← h3]
        rfl
section
variable {K : PySem.W.Frag}
theorem rm_remove : RMD K rRemI remM := by
  intro F H l vs ds xs es ds' z Q ex hl r ra h k
  unfold remM at h
  split at h
  · obtain ⟨x, rfl, rx⟩ := ra.one'
    cases rx
    cases q : ints? ds with
    | none => rw [q] at h; cases h
    | some ns =>
      rw [q, Option.bind_some] at h
      obtain rfl := ints?_eq q
      split at h
      · rename_i kk hk
        cases h
        obtain rfl := r.ints
        obtain ⟨j, j2, j3, j4⟩ := rem_at hk
        refine ⟨l, ns, kk, j, rfl, rfl, hl, j2, j3, ?_⟩
        rw [j4]
        exact k _ _ (repL_ints _) .non
      · cases h
  · cases h
end
theorem remM_ok {ns : List Int} {k : Int} (h : k ∈ ns) : remM (ns.map .int) [.int k] = some ((ns.erase k).map .int, .none) := by
  show (ints? (ns.map PyData.int)).bind _ = _
  rw [ints?_map, Option.bind_some, if_pos h]
end Dn

set_option Elab.async false
set_option linter.all false
set_option maxRecDepth 100000
set_option maxHeartbeats 4000000
/-! DenZK: sorted of a list of tuples of ints and texts -/
namespace Dn
open PySem PySem.Spec PyProof.Rows L2
abbrev Ky := List (Int ⊕ List Nat)
abbrev tLt (a b : Ky) : Bool := (listOrd itemOrd).blt a b
theorem tLt_swo {α : Type} (k : α → Ky) : SrtO.Swo fun x y => tLt (k x) (k y) := by
  refine ⟨fun x y h => ?_, fun x y z h1 h2 => ?_⟩
  · rcases SrtO.bcase (tLt (k y) (k x)) with q | q
    · have := (listOrd itemOrd).trans _ _ _ h q
      rw [(listOrd itemOrd).irrefl] at this
      cases this
    · exact q
  · rcases SrtO.bcase (tLt (k z) (k x)) with q | q
    · rcases (listOrd itemOrd).negTrans _ (k y) _ q with e | e
      · exact absurd (h2.symm.trans e) (by decide)
      · exact absurd (h1.symm.trans e) (by decide)
    · exact q
section
variable {α : Type} (lt : α → α → Bool)
def insO (x : α) : List α → List α
  | [] => [x]
  | y :: l => if lt y x then y :: insO x l else x :: y :: l
def isort : List α → List α
  | [] => []
  | x :: l => insO lt x (isort l)
variable {lt}
theorem ins_perm (x : α) : ∀ l : List α, (insO lt x l).Perm (x :: l)
  | [] => List.Perm.refl _
  | y :: l => by
    unfold insO
    split
    · exact ((ins_perm x l).cons y).trans (List.Perm.swap x y l)
    · exact List.Perm.refl _
theorem isort_perm : ∀ l : List α, (isort lt l).Perm l
  | [] => List.Perm.refl _
  | x :: l => (ins_perm x _).trans ((isort_perm l).cons x)
theorem ins_srtd (O : SrtO.Swo lt) (x : α) : ∀ {l : List α}, SrtO.Srtd lt l → SrtO.Srtd lt (insO lt x l)
  | [], _ => List.pairwise_singleton _ _
  | y :: l, h => by
    have h1 := (List.pairwise_cons.mp h).1
    have h2 := (List.pairwise_cons.mp h).2
    unfold insO
    split
    · rename_i c
      refine List.pairwise_cons.mpr ⟨fun z hz => ?_, ins_srtd O x h2⟩
      rcases List.mem_cons.mp ((ins_perm x l).mem_iff.mp hz) with rfl | hz
      · exact O.asym _ _ c
      · exact h1 z hz
    · rename_i c
      have c : lt y x = false := by simpa using c
      refine List.pairwise_cons.mpr ⟨fun z hz => ?_, h⟩
      rcases List.mem_cons.mp hz with rfl | hz
      · exact c
      · exact O.tr _ _ _ c (h1 z hz)
theorem isort_srtd (O : SrtO.Swo lt) : ∀ l : List α, SrtO.Srtd lt (isort lt l)
  | [] => List.Pairwise.nil
  | x :: l => ins_srtd O x (isort_srtd O l)
theorem ins_cls (O : SrtO.Swo lt) (z x : α) : ∀ l : List α, (insO lt x l).filter (SrtO.eqv lt z) = (x :: l).filter (SrtO.eqv lt z)
  | [] => rfl
  | y :: l => by
    unfold insO
    split
    · rename_i c
      have ih := ins_cls O z x l
      rw [List.filter_cons, ih]
      simp only [List.filter_cons]
      rcases SrtO.bcase (SrtO.eqv lt z x) with q | q
      · rcases SrtO.bcase (SrtO.eqv lt z y) with p | p
        · have e := SrtO.eqv_trans O (v := y) q
          rw [p] at e
          have := (SrtO.eqv_iff.mp e.symm).2
          rw [c] at this
          cases this
        · simp [p]
      · simp [q]
    · rfl
theorem isort_stb (O : SrtO.Swo lt) (l : List α) : SrtO.Stb lt (isort lt l) l := ⟨isort_perm l, fun z => by
  induction l with
  | nil => rfl
  | cons x l ih =>
    show (insO lt x (isort lt l)).filter _ = _
    rw [ins_cls O, List.filter_cons, List.filter_cons, ih]⟩
end
/-! ### the machine's side -/
def itemV : V → Int ⊕ List Nat
  | .int i => .inl i
  | .str x => .inr x.cps.toList
  | _ => .inl 0
def kV (H : Hp) : V → Ky
  | .ref t => match H t with
    | some (.tup ys) => ys.map itemV
    | _ => []
  | _ => []
def confV (shape : Nat → Bool) : Nat → List V → Prop
  | _, [] => True
  | i, .int _ :: r => shape i = false ∧ confV shape (i + 1) r
  | i, .str _ :: r => shape i = true ∧ confV shape (i + 1) r
  | _, _ :: _ => False
theorem conf_items {shape : Nat → Bool} : ∀ {ys : List V} {its : List Value} {i : Nat}, Vals ys its → confV shape i ys → tupItems shape i its = some (ys.map itemV)
  | _, _, _, .nil, _ => rfl
  | .int n :: ys, _ :: its, i, .cons r t, c => by
    obtain ⟨k, rfl⟩ := (show ∃ k, _ = Value.int n k from r)
    have ih := conf_items t c.2
    show (if shape i = true then none else (tupItems shape (i + 1) its).map (Sum.inl n :: ·)) = _
    rw [if_neg (by rw [c.1]; decide), ih]
    rfl
  | .str x :: ys, _ :: its, i, .cons r t, c => by
    obtain ⟨k, rfl⟩ := (show ∃ k, _ = Value.str x k from r)
    have ih := conf_items t c.2
    show (if shape i = true then (tupItems shape (i + 1) its).map (Sum.inr x.cps.toList :: ·) else none) = _
    rw [if_pos c.1, ih]
    rfl
def rSortT (K : PySem.W.Frag) : List V → Hp → VK → Prop := fun vs H Q => ∃ (a : Addr) (xs : List V) (shape : Nat → Bool), vs = [V.ref a] ∧ SqL K H a xs ∧
  (∀ x ∈ xs, ∃ t ys, x = V.ref t ∧ H t = some (.tup ys) ∧ confV shape 0 ys ∧ ys ≠ []) ∧
  ∀ p, H p = none → Q (.ref p) (upd H p (.lst (isort (fun x y => tLt (kV H x) (kV H y)) xs)))
def IsTp (h : Heap) (shape : Nat → Bool) (v : Value) (l : Ky) : Prop := ∃ a o xs n, v = .ref a ∧ h.get? a = some o ∧ o.cls = .type "tuple" ∧ o.data = .seq xs n ∧ tupItems shape 0 xs.toList = some l ∧ 0 < xs.size
theorem IsTp.keeps {h h' : Heap} {shape : Nat → Bool} {v : Value} {l : Ky} (p : IsTp h shape v l) (k : ∀ b o, h.get? b = some o → h'.get? b = some o) : IsTp h' shape v l := by
  obtain ⟨a, o, xs, n, e, ho, hc, hd, hi, hs⟩ := p
  exact ⟨a, o, xs, n, e, k _ _ ho, hc, hd, hi, hs⟩
theorem IsTp.key {h : Heap} {shape : Nat → Bool} {v : Value} {l : Ky} (p : IsTp h shape v l) : (tupKind h shape).keyOf v = some l := by
  obtain ⟨a, o, xs, n, rfl, ho, hc, hd, hi, hs⟩ := p
  show tupKey h shape (.ref a) = some l
  unfold tupKey
  simp only [ho, hd]
  exact hi
theorem tups_ex {h : Heap} {shape : Nat → Bool} : ∀ {vs : List Value}, (∀ v ∈ vs, ∃ l, IsTp h shape v l) → ∃ fs, TupsOf h shape vs fs ∧ fs.length = vs.length
  | [], _ => ⟨[], .nil, rfl⟩
  | v :: vs, hp => by
    obtain ⟨fs, h1, h2⟩ := tups_ex fun u hu => hp u (List.mem_cons_of_mem _ hu)
    obtain ⟨l, a, o, xs, n, rfl, ho, hc, hd, hi, hs⟩ := hp v List.mem_cons_self
    obtain ⟨f, r, e⟩ : ∃ f r, xs.toList = f :: r := by
      cases q : xs.toList with
      | nil => have : xs.toList.length = 0 := by rw [q]; rfl
               rw [Array.length_toList] at this
               omega
      | cons f r => exact ⟨f, r, rfl⟩
    rw [e] at hi
    refine ⟨f :: fs, .cons ⟨a, o, xs, n, rfl, ho, hc, hd, ?_, fun hz => ?_, fun hz => ?_⟩ h1, by rw [List.length_cons, List.length_cons, h2]⟩
    · rw [← Array.getElem?_toList, e]
      rfl
    · obtain ⟨k, t, l', e1, _⟩ := tupItems_int hz hi
      exact ⟨k, t, e1⟩
    · obtain ⟨k, t, l', e1, _⟩ := tupItems_str hz hi
      exact ⟨k, t, e1⟩
theorem cr_sortT {X : Cx} : CallR X (.builtin "sorted") (rSortT X.K) := by
  intro pins s σ H vs us Q I r h
  obtain ⟨a, xs, shape, rfl, hs, hx, q⟩ := h
  obtain ⟨its, rv, hl, hz⟩ := I.list hs
  rw [Vals.ref1 r]
  obtain ⟨e1, e2⟩ := refs_back rv fun x m => by
    obtain ⟨t, ys, e, _⟩ := hx x m
    exact ⟨t, e⟩
  have tp : ∀ v ∈ its, IsTp s.heap shape v (kV H (backV v)) := fun v hv => by
    obtain ⟨t, rfl⟩ := e2 v hv
    have hm : V.ref t ∈ xs := by rw [e1]; exact List.mem_map.mpr ⟨_, hv, rfl⟩
    obtain ⟨t', ys, e, ht, cf, ne⟩ := hx _ hm
    cases e
    obtain ⟨_, its2, r2, o, ho, hc, n, hd⟩ := I.hok _ _ ht
    have kk : kV H (backV (.ref t)) = ys.map itemV := by
      show (match H t with | some (.tup ys) => ys.map itemV | _ => []) = _
      rw [ht]
    rw [kk]
    refine ⟨t, o, its2.toArray, n, rfl, ho, hc, hd, by simpa using conf_items r2 cf, ?_⟩
    have := r2.length
    have : ys.length ≠ 0 := fun z => ne (List.eq_nil_of_length_eq_zero z)
    rw [List.size_toArray]
    omega
  refine SrtO.sorted_ord (tLt_swo fun v => kV H (backV v)) hl.isList (by rw [← rv.length]; exact hz) (fun h2 h₁ a' ha kk => ?_) fun out h1 h2 => ?_
  · intro h' keep
    have tp' : ∀ v ∈ its, IsTp h' shape v (kV H (backV v)) := fun v hv => (tp v hv).keeps fun b o e => keep b o (kk b o e).1 (kk b o e).2
    obtain ⟨fs, t1, t2⟩ := tups_ex fun v hv => ⟨_, tp' v hv⟩
    refine ⟨tuples' true, fun Q E hq => tup_kind (s := { s with heap := h' }) (by omega) t1 hq, fun p q hp hq => ?_⟩
    exact tup_ltAt (s := { s with heap := h' }) true _ _ _ _ _ _ (tp' _ hp).key (tp' _ hq).key ⟨rfl, rfl⟩
  · have h3 : ∀ u ∈ out, ∃ a, u = Value.ref a := fun u hu => e2 u (h2.perm.mem_iff.mp hu)
    obtain ⟨ep, he'⟩ := PyProof.Rows.sortedAll_at s.heap its out.toArray
    have O := tLt_swo (kV H)
    have hb : SrtO.Stb (fun x y => tLt (kV H x) (kV H y)) (out.map backV) xs := by
      rw [e1]
      exact SrtO.Stb.map O backV h2
    have st := isort_stb O xs
    have e := SrtO.stb_uniq O (SrtO.srtd_map (f := backV) (lt := fun x y => tLt (kV H x) (kV H y)) h1) (isort_srtd O xs) (hb.trans ⟨st.perm.symm, fun x => (st.cls x).symm⟩)
    have q' := q _ (I.hok.fresh (Nat.le_succ _))
    rw [← e] at q'
    have hlen : (out.map backV).length ≤ sizeLine := by rw [hb.len]; exact hz
    exact ⟨.ref _, upd H (s.heap.objs.size + 1) (.lst (out.map backV)), I.laid (t' := s.toks) (fun _ _ => PyProof.Rows.sortedAll_old) (Nat.le_succ _) ⟨hlen, out, ep, vals_back h3, he'⟩, rfl, q'⟩
theorem kSortT {X : Cx} {K : PySem.W.Frag} (h : X.K = K := by rfl) : CallR X (.builtin "sorted") (rSortT K) := h ▸ cr_sortT
/-! ### the data's side -/
def itemK : D → Int ⊕ List Nat
  | .int i => .inl i
  | .str x => .inr x.cps.toList
  | _ => .inl 0
def kD : D → Ky
  | .tuple es => es.map itemK
  | _ => []
def confD (shape : Nat → Bool) : Nat → List D → Bool
  | _, [] => true
  | i, .int _ :: r => !shape i && confD shape (i + 1) r
  | i, .str _ :: r => shape i && confD shape (i + 1) r
  | _, _ :: _ => false
def okD (shape : Nat → Bool) : D → Bool
  | .tuple es => confD shape 0 es && !es.isEmpty
  | _ => false
def shapeOf : List D → Nat → Bool
  | .tuple es :: _, i => match es[i]? with
    | some (.str _) => true
    | _ => false
  | _, _ => false
def dLt (x y : D) : Bool := tLt (kD x) (kD y)
def sortTD : List D → Option (List D)
  | [.list ds] => if ds.all (okD (shapeOf ds)) then some (isort dLt ds) else none
  | _ => none
section
variable {K : PySem.W.Frag} {F H : Hp}
theorem conf_rep {shape : Nat → Bool} : ∀ {es : List D} {ys : List V} {i : Nat}, RepL K F ys es → confD shape i es = true → confV shape i ys ∧ ys.map itemV = es.map itemK
  | [], ys, i, r, _ => by cases r; exact ⟨trivial, rfl⟩
  | d :: es, ys, i, r, c => by
    cases r with
    | cons a q =>
      unfold confD at c
      split at c
      · rename_i h; cases h
      · rename_i h
        cases h
        cases a
        have c := Bool.and_eq_true_iff.mp c
        obtain ⟨h1, h2⟩ := conf_rep q c.2
        exact ⟨⟨by simpa using c.1, h1⟩, by rw [List.map_cons, List.map_cons, h2]; rfl⟩
      · rename_i h
        cases h
        cases a
        have c := Bool.and_eq_true_iff.mp c
        obtain ⟨h1, h2⟩ := conf_rep q c.2
        exact ⟨⟨by simpa using c.1, h1⟩, by rw [List.map_cons, List.map_cons, h2]; rfl⟩
      · cases c
theorem ok_rep {shape : Nat → Bool} {v : V} {d : D} (ex : Ex F H) (r : Rep K F v d) (c : okD shape d = true) : (∃ t ys, v = V.ref t ∧ H t = some (.tup ys) ∧ confV shape 0 ys ∧ ys ≠ []) ∧ kV H v = kD d := by
  cases d with
  | tuple es =>
    have c := Bool.and_eq_true_iff.mp (show (confD shape 0 es && !es.isEmpty) = true from c)
    cases r with
    | tup h q =>
      obtain ⟨h1, h2⟩ := conf_rep q c.1
      have hh := ex _ _ h
      refine ⟨⟨_, _, rfl, hh, h1, fun z => ?_⟩, ?_⟩
      · subst z
        cases q
        simp at c
      · show (match H _ with | some (.tup ys) => ys.map itemV | _ => []) = _
        rw [hh]
        exact h2
  | _ => cases c
theorem ins_rep {shape : Nat → Bool} (ex : Ex F H) {v : V} {d : D} (r : Rep K F v d) (c : okD shape d = true) : ∀ {ds : List D} {vs : List V}, RepL K F vs ds → (∀ e ∈ ds, okD shape e = true) → RepL K F (insO (fun x y => tLt (kV H x) (kV H y)) v vs) (insO dLt d ds)
  | [], _, q, _ => by cases q; exact .cons r .nil
  | e :: ds, _, q, hc => by
    cases q with
    | cons a q =>
      have k1 := (ok_rep ex r c).2
      have k2 := (ok_rep ex a (hc e List.mem_cons_self)).2
      unfold insO dLt
      rw [k1, k2]
      split
      · exact .cons a (ins_rep ex r c q fun e he => hc e (List.mem_cons_of_mem _ he))
      · exact .cons r (.cons a q)
theorem isort_rep {shape : Nat → Bool} (ex : Ex F H) : ∀ {ds : List D} {vs : List V}, RepL K F vs ds → (∀ e ∈ ds, okD shape e = true) → RepL K F (isort (fun x y => tLt (kV H x) (kV H y)) vs) (isort dLt ds)
  | [], _, q, _ => by cases q; exact .nil
  | e :: ds, _, q, hc => by
    cases q with
    | cons a q =>
      have hc' := fun e he => hc e (List.mem_cons_of_mem _ he)
      refine ins_rep ex a (hc e List.mem_cons_self) (isort_rep ex q hc') fun u hu => hc' u ((isort_perm ds).mem_iff.mp hu)
theorem RepL.mem_rep : ∀ {ds : List D} {vs : List V}, RepL K F vs ds → ∀ v ∈ vs, ∃ d ∈ ds, Rep K F v d
  | _, _, .nil, v, hv => by cases hv
  | _, _, .cons a q, v, hv => by
    rcases List.mem_cons.mp hv with rfl | hv
    · exact ⟨_, List.mem_cons_self, a⟩
    · obtain ⟨d, hd, r⟩ := RepL.mem_rep q v hv
      exact ⟨d, List.mem_cons_of_mem _ hd, r⟩
end
theorem rc_sortT {K : PySem.W.Frag} : RCL K (rSortT K) sortTD := by
  intro F H xs ds Q z ex rx h k
  unfold sortTD at h
  split at h
  · rename_i es
    obtain ⟨x, rfl, r⟩ := rx.one
    obtain ⟨l, vs, rfl, a, b⟩ := r.isl ex
    split at h
    · rename_i c
      cases h
      have c := List.all_eq_true.mp c
      refine ⟨l, vs, shapeOf es, rfl, .of a, fun v hv => ?_, fun p hp => k.new ex (isort_rep ex b c) p hp⟩
      obtain ⟨d, hd, rr⟩ := b.mem_rep v hv
      exact (ok_rep ex rr (c d hd)).1
    · cases h
  · cases h
/-- a list sorted already stays as it is -/
theorem isort_id {α : Type} {lt : α → α → Bool} (O : SrtO.Swo lt) {l : List α} (h : SrtO.Srtd lt l) : isort lt l = l := SrtO.stb_uniq O (isort_srtd O l) h (isort_stb O l)
end Dn

set_option Elab.async false
set_option linter.all false
set_option maxRecDepth 100000
set_option maxHeartbeats 4000000
/-! DenZL: the sum of two tuples, its object known -/
namespace Dn
open PySem PySem.Spec PyProof.Rows L2
def rCatK (K : PySem.W.Frag) : R2 := fun x y H Q => ∃ a b xs ys, x = .ref a ∧ y = .ref b ∧ SqT K H a xs ∧ SqT K H b ys ∧ xs ≠ [] ∧ ys ≠ [] ∧ xs.length + ys.length ≤ sizeLine ∧
  ∀ p o, H p = none → KtO o → Q (.ref p) (upd H p (.frz o (.tup (xs ++ ys))))
theorem op_catK {X : Cx} : OpR X (binaryOp .Add) (rCatK X.K) := by
  intro pins s σ H x y v u Q I rx ry h
  obtain ⟨a, b, xs, ys, rfl, rfl, ha, hb, hx, hy, hz, q⟩ := h
  cases rx
  cases ry
  obtain ⟨its, r1, p1, _⟩ := I.tuple ha
  obtain ⟨its2, r2, p2, _⟩ := I.tuple hb
  have n1 : its ≠ [] := fun z => by subst z; cases r1; exact hx rfl
  have n2 : its2 ≠ [] := fun z => by subst z; cases r2; exact hy rfl
  refine HT.cat_tup p1 p2 n1 (fun z => absurd z n2) (fun z => ?_) (by rw [← r1.length, ← r2.length]; exact hz)
  have new : ObjOk X.prog X.w (upd H s.heap.objs.size (.frz { cls := .type "tuple", data := .seq (its ++ its2).toArray } (.tup (xs ++ ys)))) (s.heap.push { cls := .type "tuple", data := .seq (its ++ its2).toArray }) s.heap.objs.size (.frz { cls := .type "tuple", data := .seq (its ++ its2).toArray } (.tup (xs ++ ys))) :=
    ⟨Heap.get?_push_size _ rfl, by rw [List.length_append]; exact hz, _, r1.append r2, IsTup.new _ _⟩
  exact ⟨.ref s.heap.objs.size, _, I.laid (t' := s.toks) (fun b ob q => Heap.get?_push_of_some _ q) (Nat.le_refl _) new, rfl, q _ _ (I.hok.fresh (Nat.le_refl _)) ⟨rfl, rfl⟩⟩
theorem kAddK {X : Cx} {K : PySem.W.Frag} (h : X.K = K := by rfl) : OpR X (binaryOp .Add) (rCatK K) := h ▸ op_catK
open Classical in
noncomputable def addKD : D → D → Option D
  | .tuple a, .tuple b => if a ≠ [] ∧ b ≠ [] ∧ a.length + b.length ≤ sizeLine then some (ktD (a ++ b)) else none
  | _, _ => none
theorem rd_addK {K : PySem.W.Frag} : R2D K (rCatK K) addKD := by
  intro F H x y d e Q z ex rx ry h k
  unfold addKD at h
  split at h
  · split at h
    · rename_i a b hz
      cases h
      obtain ⟨l, vs, rfl, h1, r1, f1⟩ := rx.ist ex
      obtain ⟨m, ws, rfl, h2, r2, f2⟩ := ry.ist ex
      refine ⟨l, m, vs, ws, rfl, rfl, h1, h2, fun e => ?_, fun e => ?_, by rw [r1.length, r2.length]; exact hz.2.2, fun p o hp ho => WF.newK ex k (r1.append r2) p o hp ho⟩
      · subst e; cases r1; exact hz.1 rfl
      · subst e; cases r2; exact hz.2.1 rfl
    · cases h
  · cases h
theorem addKD_ok {a b : List D} (h1 : a ≠ []) (h2 : b ≠ []) (h : a.length + b.length ≤ 16777216) : addKD (.tuple a) (.tuple b) = some (ktD (a ++ b)) := if_pos ⟨h1, h2, (show _ ≤ sizeLine from h)⟩
end Dn

set_option Elab.async false
set_option linter.all false
set_option maxRecDepth 100000
set_option maxHeartbeats 4000000
/-! DenZM: sorted of a list of lists of ints -/
namespace Dn
open PySem PySem.Spec PyProof.Rows L2
def iV : V → D
  | .int i => .int i
  | _ => .int 0
def allI : List V → Prop
  | [] => True
  | .int _ :: r => allI r
  | _ :: _ => False
def kLV (H : Hp) : V → Ky
  | .ref t => match H t with
    | some (.lst ys) => PySem.W.keyToks (.list (ys.map iV))
    | _ => []
  | _ => []
def rSortL (K : PySem.W.Frag) : List V → Hp → VK → Prop := fun vs H Q => ∃ (a : Addr) (xs : List V), vs = [V.ref a] ∧ SqL K H a xs ∧
  (∀ x ∈ xs, ∃ t ys, x = V.ref t ∧ H t = some (.lst ys) ∧ allI ys) ∧
  ∀ p, H p = none → Q (.ref p) (upd H p (.lst (isort (fun x y => tLt (kLV H x) (kLV H y)) xs)))
theorem reads_iL {h : Heap} : ∀ {ys : List V} {its : List Value}, Vals ys its → allI ys → ∃ as, ReadsAll h its (ys.map iV) as
  | _, _, .nil, _ => ⟨[], .nil⟩
  | .int n :: ys, _ :: its, .cons r t, c => by
    obtain ⟨k, rfl⟩ := (show ∃ k, _ = Value.int n k from r)
    obtain ⟨as, h1⟩ := reads_iL (h := h) t c
    exact ⟨_, .cons (.int n k) h1⟩
theorem alike_iL : ∀ {ys zs : List V}, allI ys → allI zs → PySem.W.alikeAll (ys.map iV) (zs.map iV) = true
  | [], _, _, _ => by rw [List.map_nil, PySem.W.alikeAll]
  | .int n :: ys, [], _, _ => by rw [List.map_cons, List.map_nil, PySem.W.alikeAll]
  | .int n :: ys, .int m :: zs, a, b => by
    rw [List.map_cons, List.map_cons, PySem.W.alikeAll, alike_iL (ys := ys) (zs := zs) a b]
    simp [iV, PySem.W.alike]
theorem depth_iL : ∀ {ys : List V}, PyData.depthAll (ys.map iV) = 0
  | [] => by simp [PyData.depthAll]
  | y :: ys => by
    rw [List.map_cons, PyData.depthAll, depth_iL (ys := ys)]
    cases y <;> simp [iV, PyData.depth]
/-- a list of ints in the heap -/
def IsLs (h : Heap) (v : Value) (ys : List V) : Prop := ∃ a o xs n, v = .ref a ∧ h.get? a = some o ∧ o.cls = .type "list" ∧ o.data = .seq xs n ∧ Vals ys xs.toList ∧ allI ys
theorem IsLs.keeps {h h' : Heap} {v : Value} {l : List V} (p : IsLs h v l) (k : ∀ b o, h.get? b = some o → h'.get? b = some o) : IsLs h' v l := by
  obtain ⟨a, o, xs, n, e, ho, hc, hd, hi, hs⟩ := p
  exact ⟨a, o, xs, n, e, k _ _ ho, hc, hd, hi, hs⟩
theorem IsLs.reads {h : Heap} {v : Value} {l : List V} (p : IsLs h v l) : ∃ as, Reads h v (.list (l.map iV)) as := by
  obtain ⟨a, o, xs, n, rfl, ho, hc, hd, hi, hs⟩ := p
  obtain ⟨as, r⟩ := reads_iL (h := h) hi hs
  exact ⟨_, .list ho hc hd r⟩
theorem IsLs.looks {M : Model} {h : Heap} {v : Value} {l : List V} (p : IsLs h v l) : PySem.W.Looks M h (typeOf v) (Value.type "list") := by
  obtain ⟨a, o, xs, n, rfl, ho, hc, hd, hi, hs⟩ := p
  rw [← hc]
  exact (PySem.W.Looks.ld ho).andThen .now
theorem cr_sortL {X : Cx} (hu : X.A.units + 64 < cLine) : CallR X (.builtin "sorted") (rSortL X.K) := by
  intro pins s σ H vs us Q I r h
  obtain ⟨a, xs, rfl, hs, hx, q⟩ := h
  obtain ⟨its, rv, hl, hz⟩ := I.list hs
  rw [Vals.ref1 r]
  obtain ⟨e1, e2⟩ := refs_back rv fun x m => by
    obtain ⟨t, ys, e, _⟩ := hx x m
    exact ⟨t, e⟩
  have tp : ∀ v ∈ its, ∃ l, IsLs s.heap v l ∧ kLV H (backV v) = PySem.W.keyToks (.list (l.map iV)) := fun v hv => by
    obtain ⟨t, rfl⟩ := e2 v hv
    have hm : V.ref t ∈ xs := by rw [e1]; exact List.mem_map.mpr ⟨_, hv, rfl⟩
    obtain ⟨t', ys, e, ht, ai⟩ := hx _ hm
    cases e
    obtain ⟨_, its2, n, r2, e⟩ := I.hok _ _ ht
    refine ⟨ys, ⟨t, _, its2.toArray, n, rfl, e, rfl, rfl, by simpa using r2, ai⟩, ?_⟩
    show (match H t with | some (.lst ys) => PySem.W.keyToks (.list (ys.map iV)) | _ => []) = _
    rw [ht]
  refine SrtO.sorted_ord (tLt_swo fun v => kLV H (backV v)) hl.isList (by rw [← rv.length]; exact hz) (fun h2 h₁ a' ha kk => ?_) fun out h1 h2 => ?_
  · intro h' keep
    have tp' : ∀ v ∈ its, ∃ l, IsLs h' v l ∧ kLV H (backV v) = PySem.W.keyToks (.list (l.map iV)) := fun v hv => by
      obtain ⟨l, h3, h4⟩ := tp v hv
      exact ⟨l, h3.keeps fun b o e => keep b o (kk b o e).1 (kk b o e).2, h4⟩
    refine ⟨oneType', fun Q E hq => PySem.W.kas_kind (T := .type "list") (s := { s with heap := h' }) h2 (fun v hv => ?_) (by rfl) (by rfl) hq, fun p q hp hq => ?_⟩
    · obtain ⟨l, h3, _⟩ := tp' v hv
      exact h3.looks
    · obtain ⟨l, h3, h4⟩ := tp' _ hp
      obtain ⟨m, h5, h6⟩ := tp' _ hq
      obtain ⟨as, r1⟩ := h3.reads
      obtain ⟨bs, r2⟩ := h5.reads
      obtain ⟨_, _, _, _, _, _, _, _, _, a1⟩ := h3
      obtain ⟨_, _, _, _, _, _, _, _, _, a2⟩ := h5
      refine PySem.W.oneLt_alike (s := { s with heap := h' }) (f := true) (fun _ xs e => by cases e) r1 r2 (by rw [PySem.W.alike]; exact alike_iL a1 a2) (fun e => by cases e) ?_ ⟨rfl, ?_⟩
      · rw [PyData.depth, PyData.depth, depth_iL, depth_iL]
        show X.A.units + 1 + 1 + _ < _
        omega
      · show _ = tLt (kLV H (backV p.1)) (kLV H (backV q.1))
        rw [h4, h6]
        rfl
  · have h3 : ∀ u ∈ out, ∃ a, u = Value.ref a := fun u hu => e2 u (h2.perm.mem_iff.mp hu)
    obtain ⟨ep, he'⟩ := PyProof.Rows.sortedAll_at s.heap its out.toArray
    have O := tLt_swo (kLV H)
    have hb : SrtO.Stb (fun x y => tLt (kLV H x) (kLV H y)) (out.map backV) xs := by
      rw [e1]
      exact SrtO.Stb.map O backV h2
    have st := isort_stb O xs
    have e := SrtO.stb_uniq O (SrtO.srtd_map (f := backV) (lt := fun x y => tLt (kLV H x) (kLV H y)) h1) (isort_srtd O xs) (hb.trans ⟨st.perm.symm, fun x => (st.cls x).symm⟩)
    have q' := q _ (I.hok.fresh (Nat.le_succ _))
    rw [← e] at q'
    have hlen : (out.map backV).length ≤ sizeLine := by rw [hb.len]; exact hz
    exact ⟨.ref _, upd H (s.heap.objs.size + 1) (.lst (out.map backV)), I.laid (t' := s.toks) (fun _ _ => PyProof.Rows.sortedAll_old) (Nat.le_succ _) ⟨hlen, out, ep, vals_back h3, he'⟩, rfl, q'⟩
theorem kSortL {X : Cx} {K : PySem.W.Frag} (hu : X.A.units + 64 < cLine) (h : X.K = K := by rfl) : CallR X (.builtin "sorted") (rSortL K) := h ▸ cr_sortL hu
/-! ### the data's side -/
def allID : List D → Bool
  | [] => true
  | .int _ :: r => allID r
  | _ :: _ => false
def okLD : D → Bool
  | .list es => allID es
  | _ => false
def lLt (x y : D) : Bool := tLt (PySem.W.keyToks x) (PySem.W.keyToks y)
def sortLD : List D → Option (List D)
  | [.list ds] => if ds.all okLD then some (isort lLt ds) else none
  | _ => none
section
variable {K : PySem.W.Frag} {F H : Hp}
theorem allI_rep : ∀ {es : List D} {ys : List V}, RepL K F ys es → allID es = true → allI ys ∧ ys.map iV = es
  | [], ys, r, _ => by cases r; exact ⟨trivial, rfl⟩
  | d :: es, ys, r, c => by
    cases r with
    | cons a q =>
      unfold allID at c
      split at c
      · rename_i h; cases h
      · rename_i h
        cases h
        cases a
        obtain ⟨h1, h2⟩ := allI_rep q c
        exact ⟨h1, by rw [List.map_cons, h2]; rfl⟩
      · cases c
theorem okL_rep {v : V} {d : D} (ex : Ex F H) (r : Rep K F v d) (c : okLD d = true) : (∃ t ys, v = V.ref t ∧ H t = some (.lst ys) ∧ allI ys) ∧ kLV H v = PySem.W.keyToks d := by
  cases d with
  | list es =>
    cases r with
    | lst h q =>
      obtain ⟨h1, h2⟩ := allI_rep q c
      have hh := ex _ _ h
      refine ⟨⟨_, _, rfl, hh, h1⟩, ?_⟩
      show (match H _ with | some (.lst ys) => PySem.W.keyToks (.list (ys.map iV)) | _ => []) = _
      rw [hh, ← h2]
  | _ => cases c
theorem insL_rep (ex : Ex F H) {v : V} {d : D} (r : Rep K F v d) (c : okLD d = true) : ∀ {ds : List D} {vs : List V}, RepL K F vs ds → (∀ e ∈ ds, okLD e = true) → RepL K F (insO (fun x y => tLt (kLV H x) (kLV H y)) v vs) (insO lLt d ds)
  | [], _, q, _ => by cases q; exact .cons r .nil
  | e :: ds, _, q, hc => by
    cases q with
    | cons a q =>
      have k1 := (okL_rep ex r c).2
      have k2 := (okL_rep ex a (hc e List.mem_cons_self)).2
      unfold insO lLt
      rw [k1, k2]
      split
      · exact .cons a (insL_rep ex r c q fun e he => hc e (List.mem_cons_of_mem _ he))
      · exact .cons r (.cons a q)
theorem isortL_rep (ex : Ex F H) : ∀ {ds : List D} {vs : List V}, RepL K F vs ds → (∀ e ∈ ds, okLD e = true) → RepL K F (isort (fun x y => tLt (kLV H x) (kLV H y)) vs) (isort lLt ds)
  | [], _, q, _ => by cases q; exact .nil
  | e :: ds, _, q, hc => by
    cases q with
    | cons a q =>
      have hc' := fun e he => hc e (List.mem_cons_of_mem _ he)
      refine insL_rep ex a (hc e List.mem_cons_self) (isortL_rep ex q hc') fun u hu => hc' u ((isort_perm ds).mem_iff.mp hu)
end
theorem rc_sortL {K : PySem.W.Frag} : RCL K (rSortL K) sortLD := by
  intro F H xs ds Q z ex rx h k
  unfold sortLD at h
  split at h
  · rename_i es
    obtain ⟨x, rfl, r⟩ := rx.one
    obtain ⟨l, vs, rfl, a, b⟩ := r.isl ex
    split at h
    · rename_i c
      cases h
      have c := List.all_eq_true.mp c
      refine ⟨l, vs, rfl, .of a, fun v hv => ?_, fun p hp => k.new ex (isortL_rep ex b c) p hp⟩
      obtain ⟨d, hd, rr⟩ := b.mem_rep v hv
      exact (okL_rep ex rr (c d hd)).1
    · cases h
  · cases h
/-! ### plain -/
def liD (l : List Int) : D := .list (l.map .int)
def iLt (a b : List Int) : Bool := lLt (liD a) (liD b)
theorem iLt_swo : SrtO.Swo iLt := tLt_swo fun l : List Int => PySem.W.keyToks (liD l)
theorem toks_inj : ∀ {a b : List Int}, PySem.W.keyToksAll (a.map PyData.int) = PySem.W.keyToksAll (b.map PyData.int) → a = b
  | [], [], _ => rfl
  | [], y :: b, h => by simp [PySem.W.keyToksAll] at h
  | x :: a, [], h => by simp [PySem.W.keyToksAll] at h
  | x :: a, y :: b, h => by
    simp only [List.map_cons, PySem.W.keyToksAll, PySem.W.keyToks, List.cons_append, List.nil_append, List.cons.injEq, Sum.inl.injEq, true_and] at h
    rw [h.1, toks_inj h.2]
theorem iLt_tot {a b : List Int} (h1 : iLt a b = false) (h2 : iLt b a = false) : a = b := by
  have := (listOrd itemOrd).total _ _ h1 h2
  unfold liD at this
  rw [PySem.W.keyToks, PySem.W.keyToks] at this
  exact toks_inj this
theorem insL_map (x : List Int) : ∀ l : List (List Int), insO lLt (liD x) (l.map liD) = (insO iLt x l).map liD
  | [] => rfl
  | y :: l => by
    rw [List.map_cons]
    unfold insO
    show (if iLt y x = true then _ else _) = _
    split
    · rw [List.map_cons, insL_map x l]
    · rfl
theorem isortL_map : ∀ l : List (List Int), isort lLt (l.map liD) = (isort iLt l).map liD
  | [] => rfl
  | x :: l => by
    show insO lLt (liD x) (isort lLt (l.map liD)) = (insO iLt x (isort iLt l)).map liD
    rw [isortL_map l, insL_map]
theorem allID_ints : ∀ l : List Int, allID (l.map PyData.int) = true
  | [] => rfl
  | x :: l => by rw [List.map_cons]; exact allID_ints l
theorem sortL_li (l : List (List Int)) : sortLD [.list (l.map liD)] = some ((isort iLt l).map liD) := by
  have ok : (l.map liD).all okLD = true := List.all_eq_true.mpr fun d hd => by
    obtain ⟨x, _, rfl⟩ := List.mem_map.mp hd
    exact allID_ints x
  have e : sortLD [.list (l.map liD)] = if (l.map liD).all okLD then some (isort lLt (l.map liD)) else none := rfl
  rw [e, if_pos ok, isortL_map]
theorem isortL_perm {l m : List (List Int)} (p : l.Perm m) : isort iLt l = isort iLt m :=
  List.Perm.eq_of_pairwise (le := fun x y => iLt y x = false) (fun a b _ _ h1 h2 => iLt_tot h2 h1) (isort_srtd iLt_swo l) (isort_srtd iLt_swo m) ((isort_perm l).trans (p.trans (isort_perm m).symm))
/-- a comprehension over what is told of a list -/
theorem loopLc_enc {α : Type} (enc dec : α → D) {tg : D → Fr → Option Fr} {e : ME} {vs : List Nat} {ρ : Fr} : ∀ (xs : List α) (acc : List D), acc.length + xs.length < sizeLine →
    (∀ x ∈ xs, ∃ ρ', tg (enc x) (wipeF ρ vs) = some ρ' ∧ e ρ' = .ok (dec x)) → loopLc tg tYesF e vs ρ (xs.map enc) acc = .ok (acc ++ xs.map dec)
  | [], acc, _, _ => by unfold loopLc; simp
  | x :: xs, acc, hz, h => by
    obtain ⟨ρ', h1, h2⟩ := h x (List.mem_cons_self ..)
    rw [List.length_cons] at hz
    rw [List.map_cons]
    unfold loopLc
    rw [h1]
    show (noX (.ok true)).bind _ = _
    rw [show noX (M.ok true) = .ok true from rfl, M.bind_ok, if_pos rfl, h2, show noX (M.ok (dec x)) = .ok (dec x) from rfl, M.bind_ok, if_pos (by omega)]
    rw [loopLc_enc enc dec xs (acc ++ [dec x]) (by rw [List.length_append, List.length_singleton]; omega) fun d hd => h d (List.mem_cons_of_mem _ hd)]
    simp
/-- a loop that goes back with the first thing found -/
theorem search_ex {α : Type} {body : D → Fr → Out} {enc : α → D} {I : Fr → Prop} {E : α → Prop} : ∀ (xs : List α)
    (h : ∀ x ∈ xs, ∀ ρ, I ρ → (∃ d ρ', isNone d = false ∧ E x ∧ body (enc x) ρ = .ret d ρ') ∨ (¬ E x ∧ ∃ ρ', I ρ' ∧ body (enc x) ρ = .nx ρ')) (ρ : Fr), I ρ →
    (∃ d ρ', isNone d = false ∧ (∃ x ∈ xs, E x) ∧ loopFor body (xs.map enc) ρ = .ret d ρ') ∨ ((∀ x ∈ xs, ¬ E x) ∧ ∃ ρ', I ρ' ∧ loopFor body (xs.map enc) ρ = .nx ρ')
  | [], _, ρ, hI => .inr ⟨fun x hx => (by cases hx), ρ, hI, rfl⟩
  | x :: xs, h, ρ, hI => by
    rcases h x List.mem_cons_self ρ hI with ⟨d, ρ', h1, h2, h3⟩ | ⟨h1, ρ', h2, h3⟩
    · exact .inl ⟨d, ρ', h1, ⟨x, List.mem_cons_self, h2⟩, loop_ret h3⟩
    · rw [List.map_cons, loop_nx h3]
      rcases search_ex xs (fun y hy => h y (List.mem_cons_of_mem _ hy)) ρ' h2 with ⟨d, ρ'', g1, ⟨y, hy, g2⟩, g3⟩ | ⟨g1, g2⟩
      · exact .inl ⟨d, ρ'', g1, ⟨y, List.mem_cons_of_mem _ hy, g2⟩, g3⟩
      · exact .inr ⟨fun y hy => (List.mem_cons.mp hy).elim (fun e => by rw [e]; exact h1) (g1 y), g2⟩
end Dn

set_option Elab.async false
set_option linter.all false
set_option maxRecDepth 100000
set_option maxHeartbeats 4000000
/-! DenZN: a dict display of texts and ints -/
namespace Dn
open PySem PySem.Spec PyProof.Rows L2
def dispV (kvs : List (Str × Int)) : List (Key × V) := kvs.map fun kv => (.inr kv.1, .int kv.2)
def dispK (kvs : List (Str × Int)) : List (Key × D) := kvs.map fun kv => (.inr kv.1, .int kv.2)
def dispT (kvs : List (Str × Int)) : List (TE × TE) := kvs.map fun kv => (tC (.str kv.1), tC (.int kv.2))
theorem disp_pairs : ∀ (kvs : List (Str × Int)) (σ : L2.St) (H : Hp) (Q : List (V × V) → Hp → Prop), Q ((dispV kvs).map fun kv => (L2.kV kv.1, kv.2)) H → tPairs (dispT kvs) σ H Q
  | [], _, _, _, h => h
  | kv :: kvs, σ, H, Q, h => disp_pairs kvs σ H (fun ps H3 => Q ((.str kv.1, .int kv.2) :: ps) H3) h
theorem disp_rep {K : PySem.W.Frag} {F : Hp} : ∀ kvs : List (Str × Int), RepK K F (dispV kvs) (dispK kvs)
  | [] => .nil
  | kv :: kvs => .cons (.int _) (disp_rep kvs)
def dispD (kvs : List (Str × Int)) : D := .dict (dkD (dispK kvs))
section
variable {K : PySem.W.Frag} {L : Addr × Addr} {mg : Str → Option Value} {W : WX}
theorem df_disp {kvs : List (Str × Int)} (hm : mergeK [] (dispV kvs) = dispV kvs) (h15 : kvs.length ≤ 15) : DF K L mg W (tDisp (dispT kvs)) (eC (dispD kvs)) := fun F0 H0 F H σ ρ Q E k => by
  intro p hp
  refine disp_pairs kvs σ _ _ ⟨upd_same, dispV kvs, rfl, by unfold dispV; rw [List.length_map]; exact h15, ?_⟩
  rw [upd_upd, hm]
  exact k _ _ _ (Step.new E.st.fh hp) (.dK upd_same (disp_rep kvs) rfl)
end
end Dn

set_option Elab.async false
set_option linter.all false
set_option maxRecDepth 100000
set_option maxHeartbeats 4000000
/-! DenZO: displays and sums of tuples whose object is known, empty ones too -/
namespace Dn
open PySem PySem.Spec PyProof.Rows L2
def tTupK (t : TA) : TE := fun σ H Q => t σ H fun xs H1 => xs.length ≤ sizeLine ∧ ∀ p o, H1 p = none → KtO o → Q (.ref p) (upd H1 p (.frz o (.tup xs)))
theorem pe_tupKn {X : Cx} {es : List Expr} {t : TA} {x1} {pos : Pos} (h : PA X es t) : PE X (.Tuple es x1 pos) (tTupK t) := by
  refine ⟨fun pins s σ H Q I hq => ?_⟩
  refine wpAny_Tuple_spliced (thn (h.run pos pins s σ H _ I hq) fun us s1 ⟨xs, H1, I1, r, z, q⟩ => ⟨by rw [← r.length]; exact z, ?_⟩)
  have hf : H1 s1.heap.objs.size = none := I1.hok.fresh (Nat.le_refl _)
  refine ⟨.ref s1.heap.objs.size, _, I1.laid (t' := s1.toks) (fun b u e => Heap.get?_push_of_some _ e) (Nat.le_refl _) ?_, rfl, q _ { cls := .type "tuple", data := .seq us.toArray } hf ⟨rfl, rfl⟩⟩
  exact ⟨Heap.get?_push_size _ rfl, z, us, r, ⟨_, Heap.get?_push_size _ rfl, rfl, _, rfl⟩⟩
def eTupK (as : ML) : ME := fun ρ => (as ρ).bind fun ds => .ok (ktD ds)
@[simp] theorem eTupK_ap {as : ML} {ρ : Fr} : eTupK as ρ = (as ρ).bind fun ds => .ok (ktD ds) := rfl
section
variable {K : PySem.W.Frag} {L : Addr × Addr} {mg : Str → Option Value} {W : WX} {tas : TA} {as : ML}
theorem df_tupKn {n : Nat} (ha : DAF K L mg W tas as) (hf : fewA as n) (hn : n ≤ 100000 := by decide) : DF K L mg W (tTupK tas) (eTupK as) := fun F0 H0 F H σ ρ Q E p => by
  refine ha F0 H0 F H σ ρ _ E ?_
  cases q : as ρ with
  | ok ds =>
    unfold eTupK at p
    rw [q] at p
    intro F1 H1 xs s1 r1
    refine ⟨lt_line (by rw [r1.length, hf ρ ds q]; exact hn), fun l o hl ho => ?_⟩
    exact WF.newK s1.fh (WF.on s1 p) r1 l o hl ho
  | exc n => unfold eTupK at p; rw [q] at p; exact p
  | stuck => unfold eTupK at p; rw [q] at p; exact p
end
def rCatA (K : PySem.W.Frag) : R2 := fun x y H Q => ∃ a b xs ys, x = .ref a ∧ y = .ref b ∧ SqT K H a xs ∧ SqT K H b ys ∧ (xs = [] → Q y H) ∧ (xs ≠ [] → ys = [] → Q x H) ∧ xs.length + ys.length ≤ sizeLine ∧
  (xs ≠ [] → ys ≠ [] → ∀ p o, H p = none → KtO o → Q (.ref p) (upd H p (.frz o (.tup (xs ++ ys)))))
theorem op_catA {X : Cx} : OpR X (binaryOp .Add) (rCatA X.K) := by
  intro pins s σ H x y v u Q I rx ry h
  obtain ⟨a, b, xs, ys, rfl, rfl, ha, hb, h0, h1, hz, q⟩ := h
  cases rx
  cases ry
  obtain ⟨its, r1, p1, _⟩ := I.tuple ha
  obtain ⟨its2, r2, p2, _⟩ := I.tuple hb
  by_cases c0 : xs = []
  · have n1 : its = [] := r1.nil_iff.mpr c0
    subst n1
    exact cat_tup0 p1 p2 ⟨.ref b, H, I, rfl, h0 c0⟩
  · have n1 : its ≠ [] := fun z => c0 (r1.nil_iff.mp z)
    refine HT.cat_tup p1 p2 n1 (fun z => ⟨.ref a, H, I, rfl, h1 c0 (r2.nil_iff.mp z)⟩) (fun z => ?_) (by rw [← r1.length, ← r2.length]; exact hz)
    have c1 : ys ≠ [] := fun w => z (r2.nil_iff.mpr w)
    have new : ObjOk X.prog X.w (upd H s.heap.objs.size (.frz { cls := .type "tuple", data := .seq (its ++ its2).toArray } (.tup (xs ++ ys)))) (s.heap.push { cls := .type "tuple", data := .seq (its ++ its2).toArray }) s.heap.objs.size (.frz { cls := .type "tuple", data := .seq (its ++ its2).toArray } (.tup (xs ++ ys))) :=
      ⟨Heap.get?_push_size _ rfl, by rw [List.length_append]; exact hz, _, r1.append r2, IsTup.new _ _⟩
    exact ⟨.ref s.heap.objs.size, _, I.laid (t' := s.toks) (fun b ob q => Heap.get?_push_of_some _ q) (Nat.le_refl _) new, rfl, q c0 c1 _ _ (I.hok.fresh (Nat.le_refl _)) ⟨rfl, rfl⟩⟩
theorem kAddA {X : Cx} {K : PySem.W.Frag} (h : X.K = K := by rfl) : OpR X (binaryOp .Add) (rCatA K) := h ▸ op_catA
def tupD? : D → Option (List D)
  | .tuple ds => some ds
  | .dict [(.none, .tuple ds)] => some ds
  | _ => none
theorem tupD_is {K : PySem.W.Frag} {F H : Hp} {v : V} {d : D} {ds : List D} (e : Ex F H) (r : RepB K F H v d) (h : tupD? d = some ds) : ∃ l vs, v = .ref l ∧ SqT K H l vs ∧ RepL K F vs ds ∧ Rep K F v d := by
  unfold tupD? at h
  split at h
  · cases h; exact r.ist e
  · cases h; exact RepB.iktT e r
  · cases h
open Classical in
noncomputable def addKA (x y : D) : Option D := (tupD? x).bind fun a => (tupD? y).bind fun b => if a.length + b.length ≤ sizeLine then some (if a = [] then y else if b = [] then x else ktD (a ++ b)) else none
theorem rd_addA {K : PySem.W.Frag} : R2D K (rCatA K) addKA := by
  intro F H x y d e Q z ex rx ry h k
  unfold addKA at h
  cases ha : tupD? d with
  | none => rw [ha] at h; cases h
  | some a =>
    cases hb : tupD? e with
    | none => rw [ha, hb] at h; cases h
    | some b =>
      rw [ha, hb] at h
      obtain ⟨l, vs, rfl, h1, r1, f1⟩ := tupD_is ex rx ha
      obtain ⟨m, ws, rfl, h2, r2, f2⟩ := tupD_is ex ry hb
      have n1 : vs = [] ↔ a = [] := ⟨fun z => by subst z; cases r1; rfl, fun z => by subst z; cases r1; rfl⟩
      have n2 : ws = [] ↔ b = [] := ⟨fun z => by subst z; cases r2; rfl, fun z => by subst z; cases r2; rfl⟩
      have h : (if a.length + b.length ≤ sizeLine then some (if a = [] then e else if b = [] then d else ktD (a ++ b)) else none) = some z := h
      split at h
      · rename_i hz
        cases h
        refine ⟨l, m, vs, ws, rfl, rfl, h1, h2, fun c0 => ?_, fun c0 c1 => ?_, by rw [r1.length, r2.length]; exact hz, fun c0 c1 p o hp ho => ?_⟩
        · rw [if_pos (n1.mp c0)] at k
          exact k.here ex f2
        · rw [if_neg (fun w => c0 (n1.mpr w)), if_pos (n2.mp c1)] at k
          exact k.here ex f1
        · rw [if_neg (fun w => c0 (n1.mpr w)), if_neg (fun w => c1 (n2.mpr w))] at k
          exact WF.newK ex k (r1.append r2) p o hp ho
      · cases h
@[simp] theorem tupD_t {ds : List D} : tupD? (.tuple ds) = some ds := rfl
@[simp] theorem tupD_k {ds : List D} : tupD? (ktD ds) = some ds := rfl
theorem addKA_ok {x y : D} {a b : List D} (hx : tupD? x = some a) (hy : tupD? y = some b) (h : a.length + b.length ≤ 16777216) : addKA x y = some (if a = [] then y else if b = [] then x else ktD (a ++ b)) := by
  unfold addKA
  rw [hx, hy]
  exact if_pos (show _ ≤ sizeLine from h)
end Dn

set_option Elab.async false
set_option linter.all false
set_option maxRecDepth 100000
set_option maxHeartbeats 4000000
/-! DenZP: list(d.values()) -/
namespace Dn
open PySem PySem.Spec PyProof.Rows L2
def tListVals (te : TE) : TE := fun σ H Q => te σ H fun x H1 => ∃ d, x = .ref d ∧
  ((∃ kvs, Rd H1 d (.dK kvs) ∧ ∀ q, H1 q = none → Q (.ref q) (upd H1 q (.lst (kvs.map fun p => p.2)))) ∨
   (∃ kvs, Rd H1 d (.dT kvs) ∧ ∀ q, H1 q = none → Q (.ref q) (upd H1 q (.lst (kvs.map fun p => p.2)))))
section
variable {X : Cx} {e : Expr} {te : TE} {p apos cpos pos : Pos}
theorem paired_gt {α β : Type} {F : α → β → Prop} : ∀ {xs : List α} {ys : List β}, Paired F xs ys → ∀ {i : Nat} {x : α}, xs[i]? = some x → ∃ y, ys[i]? = some y ∧ F x y
  | _, _, .nil, i, x, h => by cases h
  | _, _, .cons r t, 0, x, h => by
    have e := Option.some.inj h
    subst e
    exact ⟨_, rfl, r⟩
  | _, _, .cons r t, i + 1, x, h => paired_gt t h
/-- a dict that may be read: its entries' values -/
theorem dict_vals {pins : List (Addr × Obj)} {σ : L2.St} {H : Hp} {s : Shared} {d : Addr} (I : Inv X pins σ H s) {us : List V}
    (h : (∃ kvs, Rd H d (.dK kvs) ∧ us = kvs.map fun p => p.2) ∨ (∃ kvs, Rd H d (.dT kvs) ∧ us = kvs.map fun p => p.2)) :
    us.length ≤ sizeLine ∧ (d == sysModules) = false ∧ ∃ es ep, s.heap.DictRaw d es ep ∧ es.size = us.length ∧ ∀ (i : Nat) (hi : i < es.size) (u : V), us[i]? = some u → RelV u es[i].val := by
  rcases h with ⟨kvs, hd, rfl⟩ | ⟨kvs, hd, rfl⟩
  · obtain ⟨z, lo, vs, rk, hdo⟩ := (show ObjOk X.prog X.w H s.heap d (.dK kvs) from hd.ok I.hok)
    obtain ⟨es, ep, raw, sz, hv⟩ := hdo.raw
    have hl : kvs.length = vs.length := Paired.length rk
    refine ⟨by rw [List.length_map]; exact z, lo, es, ep, raw, by rw [List.length_map, sz, hl], fun i hi u hu => ?_⟩
    rw [List.getElem?_map] at hu
    cases hk : kvs[i]? with
    | none => rw [hk] at hu; cases hu
    | some q =>
      rw [hk] at hu
      cases hu
      obtain ⟨u', hu', ru⟩ := kv_get rk (k := q.1) (v := q.2) hk
      obtain ⟨_, e2⟩ := hv i hi _ _ hu'
      rw [e2]
      exact ru
  · obtain ⟨z, hs, ks, pr, o, es, ep, ho, hx, hdt, he, hn⟩ := (show ObjOk X.prog X.w H s.heap d (.dT kvs) from hd.ok I.hok)
    have l1 : es.size = ks.length := size_of_entries he
    have l2 : kvs.length = ks.length := Paired.length pr
    refine ⟨by rw [List.length_map]; exact z, hs, es, ep, ⟨o, ho, hx, hdt⟩, by rw [List.length_map, l1, l2], fun i hi u hu => ?_⟩
    rw [List.getElem?_map] at hu
    cases hk : kvs[i]? with
    | none => rw [hk] at hu; cases hu
    | some q =>
      rw [hk] at hu
      cases hu
      obtain ⟨y, hy, _, _, ry⟩ := paired_gt pr hk
      have qe := entry_at he i
      rw [Array.getElem?_eq_getElem hi, hy] at qe
      have e2 := Option.some.inj qe
      rw [e2]
      exact ry
theorem pe_listVals (hc : X.calm = true) (he : PE X e te) (hg : Gl X "list") (hm : X.mg "list" = none) (hv : bootBuiltins "list" = some (.type "list")) (hbase : attributeBase e "values" X.env (eval e X.env) = eval e X.env := by rfl) (hline : (apos.endLine == cpos.line) = true := by rfl)
    (hs : starEach [.Call (.Attribute e "values" apos) [] [] cpos] X.env = (false, eval (.Call (.Attribute e "values" apos) [] [] cpos) X.env) :: starEach [] X.env := by rfl) :
    PE X (.Call (.Name "list" p) [.Call (.Attribute e "values" apos) [] [] cpos] [] pos) (tListVals te) := by
  refine ⟨fun pins s σ H Q I hq => ?_⟩
  refine wpAny_Call_Name_kw (ld_blt I hg hm hv ?_)
  refine PyProof.Rows.callWith_type1 ?_ hs rfl
  rw [hs]
  show wpAny _ _ (spliced ((false, eval (.Call (.Attribute e "values" apos) [] [] cpos) X.env) :: backTo pos (starEach [] X.env))) _ _ s
  refine Calls.spliced_cons ?_
  refine wpAny_Call_method (T := "dict") (id := "dict.values") hbase rfl hline F.plainAttrs_dict F.slot_dict_values F.type_dict_values (thn (he.run pins s σ H _ I hq) fun u s1 ⟨x, H1, I1, rx, d, ex, q⟩ => ?_)
  subst ex
  obtain rfl : u = Value.ref d := rx
  obtain ⟨us, hus, q⟩ : ∃ us, ((∃ kvs, Rd H1 d (.dK kvs) ∧ us = kvs.map fun p => p.2) ∨ (∃ kvs, Rd H1 d (.dT kvs) ∧ us = kvs.map fun p => p.2)) ∧ ∀ q, H1 q = none → Q (.ref q) (upd H1 q (.lst us)) := by
    rcases q with ⟨kvs, hd, q⟩ | ⟨kvs, hd, q⟩
    · exact ⟨_, .inl ⟨kvs, hd, rfl⟩, q⟩
    · exact ⟨_, .inr ⟨kvs, hd, rfl⟩, q⟩
  obtain ⟨hz, hs0, es, ep, raw, sz, hval⟩ := dict_vals I1 hus
  have I2 : Inv X pins σ H1 { s1 with heap := s1.heap.push { cls := .type "dict_values", data := .fields #[.ref d] } } := I1.kept (t' := s1.toks) fun b ob q => Heap.get?_push_of_some _ q
  obtain ⟨o, ho, hx, _⟩ := id raw
  refine ⟨raw.typeIs, fun a z => by cases z; exact ⟨o, ho, hx.2.1⟩, ?_⟩
  show wpAny _ _ (callWith cpos (.builtin "dict.values") [.ref d] [] []) _ X.xe s1
  refine method_meetsIn F.slot_dict_values F.entry_dict_values rfl (PySem.evalArgs_none ⟨rfl, raw.typeIs, F.args_dict_values_1 _, _, meets_dict_values_raw d hs0, ⟨es, ep, raw⟩, ?_⟩)
  refine Calls.spliced_nil ?_
  refine PySem.W.kdl_call (KdlSrc.rawValues (es := es) (ep := ep) (d := d)) (I1.ok.hd hc) ⟨⟨_, Heap.get?_push_size _ rfl, rfl, rfl⟩, raw.push _⟩ (by omega) fun h' tk acc' c' hk hS hacc => ?_
  have hsz : (s1.heap.push { cls := .type "dict_values", data := .fields #[.ref d] }).objs.size = s1.heap.objs.size + 1 := by simp [Heap.push]
  have hH : H1 (s1.heap.objs.size + 1) = none := I1.hok.fresh (Nat.le_succ _)
  have hH0 : H1 (s1.heap.push { cls := .type "dict_values", data := .fields #[.ref d] }).objs.size = none := by rw [hsz]; exact hH
  refine ⟨.ref _, upd H1 (s1.heap.push { cls := .type "dict_values", data := .fields #[.ref d] }).objs.size (.lst us), I2.laid (t' := tk) hk (Nat.le_refl _) (show ObjOk X.prog X.w _ _ _ (.lst us) from ⟨hz, acc'.toList, c', ?_, ?_⟩), rfl, q _ hH0⟩
  · have el : acc'.toList.length = acc'.size := by simp
    refine vals_of_at (by rw [el, hacc.1, sz]) fun j x w h1 h2 => ?_
    obtain ⟨hi, hw⟩ := hacc.2 j w (by rw [← Array.getElem?_toList]; exact h2)
    rw [hw]
    exact hval j hi x h1
  · rw [Array.toArray_toList]; exact hS
end
/-- list(d.values()) -/
def odVals : OD → Option (List D)
  | .dK kvs => some (kvs.map fun p => p.2)
  | .dT kvs => some (kvs.map fun p => p.2)
  | _ => none
def eLV (a : ME) : ML := fun ρ => (a ρ).bind fun x => (lift (od? x)).bind fun o => lift (odVals o)
@[simp] theorem eLV_ap {a : ME} {ρ : Fr} : eLV a ρ = (a ρ).bind fun x => (lift (od? x)).bind fun o => lift (odVals o) := rfl
@[simp] theorem odVals_K {kvs : List (Key × D)} : odVals (.dK kvs) = some (kvs.map fun p => p.2) := rfl
@[simp] theorem odVals_T {kvs : List (List Key × D)} : odVals (.dT kvs) = some (kvs.map fun p => p.2) := rfl
section
variable {K : PySem.W.Frag} {L : Addr × Addr} {mg : Str → Option Value} {W : WX} {ta : TE} {a : ME} {F H : Hp}
theorem repK_vals : ∀ {xs : List (Key × V)} {ds : List (Key × D)}, RepK K F xs ds → RepL K F (xs.map fun p => p.2) (ds.map fun p => p.2)
  | _, _, .nil => .nil
  | _, _, .cons r t => .cons r (repK_vals t)
theorem repT_vals : ∀ {xs : List (List Key × V)} {ds : List (List Key × D)}, RepT K F xs ds → RepL K F (xs.map fun p => p.2) (ds.map fun p => p.2)
  | _, _, .nil => .nil
  | _, _, .cons r t => .cons r (repT_vals t)
theorem dl_listVals (ha : DE K L mg W ta a) : DL K L mg W (tListVals ta) (eLV a) := fun F0 H0 F H σ ρ Q E p => by
  refine ha F0 H0 F H σ ρ _ E (post_mono (post_bind p) (fun d k F1 H1 x s1 r1 => ?_) fun _ z => z)
  obtain ⟨o, qo, k⟩ := post_lift (post_bind k)
  obtain ⟨l, ho, rfl, hl, ro⟩ := r1.od s1.fh qo
  obtain ⟨ds, ez, k⟩ := post_lift k
  refine ⟨l, rfl, ?_⟩
  cases ro with
  | lst _ => cases ez
  | dK r => cases ez; exact .inl ⟨_, hl, fun q hq => k F1 H1 q _ s1 hq (repK_vals r)⟩
  | dT r => cases ez; exact .inr ⟨_, hl, fun q hq => k F1 H1 q _ s1 hq (repT_vals r)⟩
end
end Dn

set_option Elab.async false
set_option linter.all false
set_option maxRecDepth 100000
set_option maxHeartbeats 4000000
/-! DenZQ: a loop over a display of new lists, each of which the body may change -/
namespace Dn
open PySem PySem.Spec PyProof.Rows L2
section
variable {K : PySem.W.Frag} {L : Addr × Addr} {F0 H0 G F H Fb Hb : Hp} {σ : L2.St} {ρ : Fr}
theorem Env.weak (e : Ex H0 G) (E : Env K L F0 G F H σ ρ) : Env K L F0 H0 F H σ ρ where
  st := ⟨E.st.ff, fun a u q => E.st.hh a u (e a u q), fun a u q1 q2 q3 => E.st.nw a u q1 (e a u q2) q3, E.st.fh⟩
  len := E.len
  sep := E.sep
  sl := fun i t h => by
    have q := E.sl i t h
    cases t with
    | none => trivial
    | err n => exact q
    | val d => exact q
    | own ds =>
      obtain ⟨l, ho, e', f, h0, hl, r⟩ := q
      exact ⟨l, ho, e', f, e.free h0, hl, r⟩
    | pin ds =>
      obtain ⟨e', f, h0, ho, hl, r⟩ := q
      exact ⟨e', f, e.free h0, ho, hl, r⟩
/-- things made since then are kept as they are -/
theorem Env.strong (Eb : Env K L F0 H0 Fb Hb σ ρ) (E : Env K L F0 H0 F H σ ρ) (hG : ∀ a u, G a = some u → H0 a = some u ∨ (Hb a = none ∧ H a = some u ∧ F a = none)) (e : Ex H0 G) : Env K L F0 G F H σ ρ where
  st := ⟨E.st.ff, fun a u q => by
      rcases hG a u q with h | h
      · exact E.st.hh a u h
      · exact h.2.1, fun a u q1 q2 q3 => by
      rcases hG a u q2 with h | h
      · exact E.st.nw a u q1 h q3
      · exact h.2.2, E.st.fh⟩
  len := E.len
  sep := E.sep
  sl := fun i t h => by
    have no : ∀ l ho, H0 l = none → Hb l = some ho → G l = none := fun l ho h1 h2 => by
      cases q : G l with
      | none => rfl
      | some u =>
        rcases hG l u q with z | z
        · rw [h1] at z; cases z
        · rw [h2] at z; cases z.1
    have q := E.sl i t h
    have qb := Eb.sl i t h
    cases t with
    | none => trivial
    | err n => exact q
    | val d => exact q
    | own ds =>
      obtain ⟨l, ho, e', f, h0, hl, r⟩ := q
      obtain ⟨l', ho', e'', f', h0', hl', r'⟩ := qb
      rw [e'] at e''
      cases e''
      exact ⟨l, ho, e', f, no l ho' h0 hl', hl, r⟩
    | pin ds =>
      obtain ⟨e', f, h0, ho, hl, r⟩ := q
      obtain ⟨e'', f', h0', ho', hl', r'⟩ := qb
      exact ⟨e', f, no _ ho' h0 hl', ho, hl, r⟩
/-- one of the kept things becomes a slot's own -/
theorem Env.take (E : Env K L F0 G F H σ ρ) {p : Addr} {vs : List V} {ds : List D} (hG : G p = some (.lst vs)) (f0 : F0 p = none) (r : RepL K F vs ds) (i : Nat) :
    Env K L F0 (fun a => if a = p then none else G a) F H (σ.set i (some (.ref p))) (ρ.set i (.own (.lst ds))) where
  st := ⟨E.st.ff, fun a u q => by
      by_cases z : a = p
      · rw [if_pos z] at q; cases q
      · rw [if_neg z] at q; exact E.st.hh a u q, fun a u q1 q2 q3 => by
      by_cases z : a = p
      · rw [if_pos z] at q2; cases q2
      · rw [if_neg z] at q2; exact E.st.nw a u q1 q2 q3, E.st.fh⟩
  len := by rw [List.length_set, List.length_set]; exact E.len
  sl := fun j s h => by
    have nn : ∀ l, G l = none → (if l = p then none else G l) = none := fun l hl => by split <;> first | rfl | exact hl
    rcases set_get h with ⟨e, es, hl⟩ | ⟨ne, h'⟩
    · subst e; subst es
      rw [List.getElem?_set_self (by rw [E.len]; exact hl)]
      exact ⟨p, .lst vs, rfl, E.st.nw p _ f0 hG (fun _ z => by cases z), if_pos rfl, E.st.hh p _ hG, .lst r⟩
    · rw [List.getElem?_set_ne ne]
      have q := E.sl j s h'
      cases s with
      | none => trivial
      | err n => exact q
      | val d => exact q
      | own ds =>
        obtain ⟨l, ho, e', f, h0, hl, r⟩ := q
        exact ⟨l, ho, e', f, nn l h0, hl, r⟩
      | pin ds =>
        obtain ⟨e', f, h0, ho, hl, r⟩ := q
        exact ⟨e', f, nn _ h0, ho, hl, r⟩
  sep := fun j k l h1 h2 e1 e2 => by
    have no : ∀ {m : Nat}, isOwn ρ[m]? → σ[m]? = some (some (.ref p)) → False := fun {m} hm em => by
      cases q : ownO ρ[m]? with
      | none => unfold isOwn at hm; rw [q] at hm; cases hm
      | some o =>
        obtain ⟨l', ho', el, _, h0, hl, _⟩ := E.ownv q
        rw [el] at em
        cases em
        rw [hG] at h0
        cases h0
    by_cases nj : i = j
    · by_cases nk : i = k
      · exact nj.symm.trans nk
      · subst nj
        rw [List.getElem?_set_ne nk] at h2 e2
        rw [List.getElem?_set] at e1
        simp at e1
        obtain ⟨_, e1⟩ := e1
        subst e1
        exact (no h2 e2).elim
    · rw [List.getElem?_set_ne nj] at h1 e1
      by_cases nk : i = k
      · subst nk
        rw [List.getElem?_set] at e2
        simp at e2
        obtain ⟨_, e2⟩ := e2
        subst e2
        exact (no h1 e1).elim
      · rw [List.getElem?_set_ne nk] at h2 e2
        exact E.sep j k l h1 h2 e1 e2
end
/-! ### new lists as arguments -/
def evL : List ML → Fr → M (List (List D))
  | [], _ => .ok []
  | f :: r, ρ => (f ρ).bind fun ds => (evL r ρ).bind fun t => .ok (ds :: t)
inductive PN (K : PySem.W.Frag) (F Hb H : Hp) : List Addr → List (List V) → List (List D) → Prop
  | nil : PN K F Hb H [] [] []
  | cons {p : Addr} {ps : List Addr} {vs : List V} {vss : List (List V)} {ds : List D} {dss : List (List D)} : Hb p = none → H p = some (.lst vs) → F p = none → p ∉ ps → RepL K F vs ds → PN K F Hb H ps vss dss → PN K F Hb H (p :: ps) (vs :: vss) (ds :: dss)
theorem PN.lower {K : PySem.W.Frag} {F Hb Hc H : Hp} (e : Ex Hb Hc) : ∀ {ps : List Addr} {vss : List (List V)} {dss : List (List D)}, PN K F Hc H ps vss dss → PN K F Hb H ps vss dss
  | _, _, _, .nil => .nil
  | _, _, _, .cons a b c d r t => .cons (e.free a) b c d r (PN.lower e t)
theorem PN.notin {K : PySem.W.Frag} {F Hc H : Hp} {p : Addr} {u : HO} (h : Hc p = some u) : ∀ {ps : List Addr} {vss : List (List V)} {dss : List (List D)}, PN K F Hc H ps vss dss → p ∉ ps
  | _, _, _, .nil => List.not_mem_nil
  | _, _, _, .cons a _ _ _ _ t => fun z => by
    rcases List.mem_cons.mp z with z | z
    · subst z; rw [a] at h; cases h
    · exact PN.notin h t z
theorem PN.len {K : PySem.W.Frag} {F Hc H : Hp} : ∀ {ps : List Addr} {vss : List (List V)} {dss : List (List D)}, PN K F Hc H ps vss dss → ps.length = dss.length
  | _, _, _, .nil => rfl
  | _, _, _, .cons _ _ _ _ _ t => congrArg (· + 1) (PN.len t)
theorem PN.at {K : PySem.W.Frag} {F Hc H : Hp} : ∀ {ps : List Addr} {vss : List (List V)} {dss : List (List D)}, PN K F Hc H ps vss dss → ∀ {i : Nat} {p : Addr}, ps[i]? = some p → ∃ vs ds, dss[i]? = some ds ∧ Hc p = none ∧ H p = some (.lst vs) ∧ F p = none ∧ RepL K F vs ds ∧ ∀ j, i < j → ps[j]? ≠ some p
  | _, _, _, .cons a b c d r t, 0, p, h => by
    simp at h
    subst h
    refine ⟨_, _, rfl, a, b, c, r, fun j hj z => ?_⟩
    obtain ⟨j', rfl⟩ : ∃ j', j = j' + 1 := ⟨j - 1, by omega⟩
    rw [List.getElem?_cons_succ] at z
    exact d (List.mem_of_getElem? z)
  | _, _, _, .cons a b c d r t, i + 1, p, h => by
    rw [List.getElem?_cons_succ] at h
    obtain ⟨vs, ds, e1, e2, e3, e4, e5, e6⟩ := PN.at t h
    refine ⟨vs, ds, by rw [List.getElem?_cons_succ]; exact e1, e2, e3, e4, e5, fun j hj z => ?_⟩
    obtain ⟨j', rfl⟩ : ∃ j', j = j' + 1 := ⟨j - 1, by omega⟩
    rw [List.getElem?_cons_succ] at z
    exact e6 j' (by omega) z
section
variable {K : PySem.W.Frag} {L : Addr × Addr} {mg : Str → Option Value} {W : WX} {te : TE} {ta : TA} {f : ML} {fs : List ML} {t : TS} {g : MS}
def DAN (K : PySem.W.Frag) (L : Addr × Addr) (mg : Str → Option Value) (W : WX) (t : TA) (fs : List ML) : Prop := ∀ F0 H0 F H σ ρ (Q : List V → Hp → Prop), Env K L F0 H0 F H σ ρ →
  post (evL fs ρ) (fun dss => ∀ F' H' ps vss, Step F H F' H' → PN K F' H H' ps vss dss → Q (ps.map V.ref) H') (WE' mg W F H σ) → t σ H Q
theorem dan_nil : DAN K L mg W tNil [] := fun F0 H0 F H σ ρ Q E p => p F H [] [] (Step.refl E.st.fh) .nil
theorem dan_cons (he : DL K L mg W te f) (hr : DAN K L mg W ta fs) : DAN K L mg W (tCons te ta) (f :: fs) := fun F0 H0 F H σ ρ Q E p => by
  have p : post ((f ρ).bind fun ds => (evL fs ρ).bind fun t => .ok (ds :: t)) _ _ := p
  refine he F0 H0 F H σ ρ _ E (post_mono (post_bind p) (fun ds k F1 H1 q vs s n r => ?_) fun _ z => z)
  have e1 : Ex F1 (upd H1 q (.lst vs)) := s.fh.trans (Ex.new n)
  have s1 : Step F H F1 (upd H1 q (.lst vs)) := s.trans (Step.new0 s.fh n)
  refine hr F0 H0 F1 (upd H1 q (.lst vs)) σ ρ _ (E.step s1) (post_mono (post_bind k) (fun dss k2 F2 H2 ps vss s2 pn => ?_) fun _ z => WE'.on s1 z)
  have k2 : ∀ F' H' ps' vss', Step F H F' H' → PN K F' H H' ps' vss' (ds :: dss) → Q (ps'.map V.ref) H' := k2
  refine k2 F2 H2 (q :: ps) (vs :: vss) (s1.trans s2) (.cons (s.hh.free n) (s2.hh q _ upd_same) (s2.nw q _ (s.fh.free n) upd_same (fun _ z => by cases z)) (PN.notin (u := .lst vs) upd_same pn) (r.mono s2.ff) (pn.lower s1.hh))
def loopL (g : List D → Fr → Out) : List (List D) → Fr → Out
  | [], ρ => .nx ρ
  | d :: ds, ρ => match g d ρ with
    | .nx ρ' => loopL g ds ρ'
    | .cont ρ' => loopL g ds ρ'
    | .brk ρ' => .nx ρ'
    | o => o
def ownB (i : Nat) (g : MS) : List D → Fr → Out := fun ds ρ => g (ρ.set i (.own (.lst ds)))
def sForN (fs : List ML) (i : Nat) (g : MS) : MS := fun ρ => Out.of (evL fs ρ) ρ fun dss => loopL (ownB i g) dss ρ
@[simp] theorem sForN_ap {i : Nat} {ρ : Fr} : sForN fs i g ρ = Out.of (evL fs ρ) ρ fun dss => loopL (ownB i g) dss ρ := rfl
@[simp] theorem evL_nil {ρ : Fr} : evL [] ρ = .ok [] := rfl
@[simp] theorem evL_cons {ρ : Fr} : evL (f :: fs) ρ = (f ρ).bind fun ds => (evL fs ρ).bind fun t => .ok (ds :: t) := rfl
theorem WO.weak {F0 H0 G F : Hp} {D : Ends} {o : Out} (e : Ex H0 G) (w : WO K mg W L F0 H0 F D o) : WO K mg W L F0 G F D o := by
  cases o with
  | nx ρ => exact fun F' H' σ' a E => w F' H' σ' a (E.weak e)
  | brk ρ => exact fun F' H' σ' a E => w F' H' σ' a (E.weak e)
  | cont ρ => exact fun F' H' σ' a E => w F' H' σ' a (E.weak e)
  | ret d ρ => exact fun F' H' σ' v a E r => w F' H' σ' v a (E.weak e) r
  | retL ds ρ => exact fun F' H1 σ' p vs a E n r => w F' H1 σ' p vs a (E.weak e) n r
  | exc n ρ => exact fun F' H' σ' a E => w F' H' σ' a (E.weak e)
  | stuck => exact w
theorem ds_forN {i : Nat} (ha : DAN K L mg W ta fs) (hn : fs.length ≤ 30) (hb : DS K L mg W t g) : DS K L mg W (tFor (iSq K (tLst ta)) (gName i) t) (sForN fs i g) := fun F0 H0 F H σ ρ D E w => by
  have lenF : ∀ (fs : List ML) ρ dss, evL fs ρ = .ok dss → dss.length = fs.length := fun fs => by
    induction fs with
    | nil => intro ρ dss h; cases h; rfl
    | cons f fs ih =>
      intro ρ dss h
      have h : (f ρ).bind (fun ds => (evL fs ρ).bind fun t => .ok (ds :: t)) = .ok dss := h
      cases q : f ρ with
      | ok ds =>
        rw [q] at h
        have h : (evL fs ρ).bind (fun t => .ok (ds :: t)) = .ok dss := h
        cases q2 : evL fs ρ with
        | ok t => rw [q2] at h; cases h; exact congrArg (· + 1) (ih ρ t q2)
        | exc n => rw [q2] at h; cases h
        | stuck => rw [q2] at h; cases h
      | exc n => rw [q] at h; cases h
      | stuck => rw [q] at h; cases h
  refine ha F0 H0 F H σ ρ _ E ?_
  have w : WO K mg W L F0 H0 F D (Out.of (evL fs ρ) ρ fun dss => loopL (ownB i g) dss ρ) := w
  have po := WO.of E w
  revert po
  cases qe : evL fs ρ with
  | stuck => exact fun po => po
  | exc n => exact fun po => po
  | ok dss =>
    intro po
    have hl := lenF fs ρ dss qe
    intro F1 H1 ps vss s pn
    have po : WO K mg W L F0 H0 F D (loopL (ownB i g) dss ρ) := po
    refine ⟨by rw [List.length_map, pn.len, hl]; exact Nat.le_trans hn (by decide), fun p0 hp0 => ?_⟩
    refine ⟨p0, ps.map V.ref, rfl, .inl ⟨.of upd_same, ?_⟩⟩
    have hF1 : F1 p0 = none := s.fh.free hp0
    have s' : Step F H F1 (upd H1 p0 (.lst (ps.map V.ref))) := s.trans (Step.new0 s.fh hp0)
    have hG0 : ∃ G, Ex H0 G ∧ G p0 = some (.lst (ps.map V.ref)) ∧ (∀ (j : Nat) p, ps[j]? = some p → 0 ≤ j → ∃ vs, G p = some (.lst vs) ∧ H1 p = some (.lst vs)) ∧ Env K L F0 G F1 (upd H1 p0 (.lst (ps.map V.ref))) σ ρ := by
      refine ⟨fun a => if a = p0 ∨ a ∈ ps then upd H1 p0 (.lst (ps.map V.ref)) a else H0 a, fun a u q => ?_, ?_, fun j p hp _ => ?_, ?_⟩
      · show (if _ then _ else _) = _
        split
        · rename_i z
          rcases z with z | z
          · subst z
            exact absurd (E.st.hh _ _ q) (by rw [s.hh.free hp0]; simp)
          · obtain ⟨k, hk⟩ := List.getElem?_of_mem z
            obtain ⟨_, _, _, e2, _⟩ := pn.at hk
            exact absurd (E.st.hh _ _ q) (by rw [e2]; simp)
        · exact q
      · show (if _ then _ else _) = _
        rw [if_pos (.inl rfl), upd_same]
      · obtain ⟨vs, ds, _, e2, e3, _⟩ := pn.at hp
        refine ⟨vs, ?_, e3⟩
        show (if _ then _ else _) = _
        rw [if_pos (.inr (List.mem_of_getElem? hp)), upd_ne (ne_of_none e3 hp0)]
        exact e3
      · refine Env.strong E (E.step s') (fun a u q => ?_) (fun a u q => ?_)
        · by_cases z : a = p0 ∨ a ∈ ps
          · have q : (if a = p0 ∨ a ∈ ps then upd H1 p0 (.lst (ps.map V.ref)) a else H0 a) = some u := q
            rw [if_pos z] at q
            refine .inr ⟨?_, q, ?_⟩
            · rcases z with z | z
              · subst z; exact s.hh.free hp0
              · obtain ⟨k, hk⟩ := List.getElem?_of_mem z
                obtain ⟨_, _, _, e2, _⟩ := pn.at hk
                exact e2
            · rcases z with z | z
              · subst z; exact hF1
              · obtain ⟨k, hk⟩ := List.getElem?_of_mem z
                obtain ⟨_, _, _, _, _, e4, _⟩ := pn.at hk
                exact e4
          · have q : (if a = p0 ∨ a ∈ ps then upd H1 p0 (.lst (ps.map V.ref)) a else H0 a) = some u := q
            rw [if_neg z] at q
            exact .inl q
        · show (if _ then _ else _) = _
          split
          · rename_i z
            rcases z with z | z
            · subst z
              exact absurd (E.st.hh _ _ q) (by rw [s.hh.free hp0]; simp)
            · obtain ⟨k, hk⟩ := List.getElem?_of_mem z
              obtain ⟨_, _, _, e2, _⟩ := pn.at hk
              exact absurd (E.st.hh _ _ q) (by rw [e2]; simp)
          · exact q
    obtain ⟨G0, g1, g2, g3, g4⟩ := hG0
    have f0 : ∀ p, H1 p = none ∨ (∃ k, ps[k]? = some p) → F0 p = none := fun p hp => by
      have hF : F p = none := by
        rcases hp with hp | ⟨k, hk⟩
        · exact E.st.fh.free (s.hh.free hp)
        · obtain ⟨_, _, _, e2, _⟩ := pn.at hk
          exact E.st.fh.free e2
      exact E.st.ff.free hF
    refine for_it walk_list (fun j σ H => ∃ G F ρ, Ex H0 G ∧ Ex F1 F ∧ G p0 = some (.lst (ps.map V.ref)) ∧ (∀ (k : Nat) p, ps[k]? = some p → j ≤ k → ∃ vs, G p = some (.lst vs) ∧ H1 p = some (.lst vs)) ∧ Env K L F0 G F H σ ρ ∧ WO K mg W L F0 H0 F D (loopL (ownB i g) (dss.drop j) ρ))
      ⟨G0, F1, ρ, g1, Ex.refl _, g2, g3, g4, by rw [List.drop_zero]; exact WO.mono s.ff po⟩
      (fun j σ H _ ⟨G, F, ρ, _, _, h3, _, E', _⟩ => .of (E'.st.hh _ _ h3)) ?_ ?_
    · rintro j x σ2 H2 H3 hlt ⟨G, F2, ρ2, h1, h2, h3, h4, E2, w2⟩ ⟨rfl, hx⟩
      rw [List.getElem?_map] at hx
      obtain ⟨p, hp, rfl⟩ := Option.map_eq_some_iff.mp hx
      obtain ⟨vs, ds, e1, e2, e3, e4, e5, e6⟩ := pn.at hp
      obtain ⟨vs', hGp, hHp⟩ := h4 j p hp (Nat.le_refl _)
      rw [e3] at hHp
      cases hHp
      have ed : dss.drop j = ds :: dss.drop (j + 1) := by
        obtain ⟨z1, z2⟩ := List.getElem?_eq_some_iff.mp e1
        rw [List.drop_eq_getElem_cons z1, z2]
      rw [ed] at w2
      have E3 := E2.take hGp (f0 p (.inr ⟨j, hp⟩)) (e5.mono h2) i
      have hp00 : H0 p = none := by
        cases q : H0 p with
        | none => rfl
        | some u => exact absurd (E.st.hh _ _ q) (by rw [e2]; simp)
      have x1 : Ex H0 (fun a => if a = p then none else G a) := fun a u q => by
        show (if _ then _ else _) = _
        rw [if_neg (fun z => by subst z; rw [hp00] at q; cases q)]
        exact h1 a u q
      have x3 : (fun a => if a = p then none else G a) p0 = some (.lst (ps.map V.ref)) := by
        show (if _ then _ else _) = _
        rw [if_neg (fun z => by subst z; rw [hp0] at e3; cases e3)]
        exact h3
      have x4 : ∀ (k : Nat) p', ps[k]? = some p' → j + 1 ≤ k → ∃ vs, (fun a => if a = p then none else G a) p' = some (.lst vs) ∧ H1 p' = some (.lst vs) := fun k p' hk hjk => by
        obtain ⟨vs', y1, y2⟩ := h4 k p' hk (by omega)
        refine ⟨vs', ?_, y2⟩
        show (if _ then _ else _) = _
        rw [if_neg (fun z => by subst z; exact e6 k (by omega) hk)]
        exact y1
      show t _ (σ2.set i (some (.ref p))) H3
      refine hb F0 _ F2 H3 _ _ _ E3 ?_
      have w3 : WO K mg W L F0 H0 F2 D (match g (ρ2.set i (.own (.lst ds))) with
        | .nx ρ' => loopL (ownB i g) (dss.drop (j + 1)) ρ'
        | .cont ρ' => loopL (ownB i g) (dss.drop (j + 1)) ρ'
        | .brk ρ' => .nx ρ'
        | o => o) := w2
      cases qq : g (ρ2.set i (.own (.lst ds))) with
      | nx ρ4 => rw [qq] at w3; exact fun F4 H4 σ4 e4 E4 => ⟨_, F4, ρ4, x1, h2.trans e4, x3, x4, E4, WO.mono e4 w3⟩
      | cont ρ4 => rw [qq] at w3; exact fun F4 H4 σ4 e4 E4 => ⟨_, F4, ρ4, x1, h2.trans e4, x3, x4, E4, WO.mono e4 w3⟩
      | brk ρ4 => rw [qq] at w3; exact WO.weak (o := .nx ρ4) x1 w3
      | ret d ρ => rw [qq] at w3; exact WO.weak (o := .ret d ρ) x1 w3
      | retL ds ρ => rw [qq] at w3; exact WO.weak (o := .retL ds ρ) x1 w3
      | exc n ρ => rw [qq] at w3; exact WO.weak (o := .exc n ρ) x1 w3
      | stuck => rw [qq] at w3; exact w3
    · rintro σ2 H2 ⟨G, F2, ρ2, h1, h2, h3, h4, E2, w2⟩
      rw [List.length_map, pn.len, List.drop_length] at w2
      exact w2 F2 H2 σ2 (Ex.refl _) (E2.weak h1)
end
end Dn

set_option Elab.async false
set_option linter.all false
set_option maxRecDepth 100000
set_option maxHeartbeats 4000000
/-! DenZR: tuple(reversed(x)), x a list or a tuple -/
namespace Dn
open PySem PySem.Spec PyProof.Rows L2
theorem nolen_rt : typeLookup (.type "reversed") "__len__" = pure none := by rw [typeLookup_type, builtinLookup_eq_fast]; kernel_rfl
theorem hint_rt : typeLookup (.type "reversed") "__length_hint__" = pure (some (.builtin "reversed.__length_hint__")) := by rw [typeLookup_type, builtinLookup_eq_fast]; kernel_rfl
theorem slot_rt_hint : Slot "reversed" "__length_hint__" "reversed.__length_hint__" :=
  .of (owner := "reversed") (n := "__length_hint__") (by rw [typeLookup_type, builtinLookup_eq_fast]; kernel_rfl) (by decide +kernel) (by decide +kernel) (by decide +kernel)
    (by first | exact .inl (by decide +kernel) | exact .inr (by decide +kernel)) (by rw [isSubtype_type]; kernel_rfl)
theorem entry_rt_hint : entryFor table "reversed.__length_hint__" = some Builtin.«reversed.__length_hint__» := entryFor_of_tree (by kernel_rfl)
theorem args_rt_hint (a : Value) : argsOk "reversed.__length_hint__" ⟨[a], []⟩ := by
  unfold argsOk; rw [signature?_of (id := "reversed.__length_hint__") (n := ['_', '_', 't', 'n', 'i', 'h', '_', 'h', 't', 'g', 'n', 'e', 'l', '_', '_']) (o := ['d', 'e', 's', 'r', 'e', 'v', 'e', 'r']) (by kernel_rfl) RT.owner_rt]; kernel_rfl
theorem bind_hint (self : Value) : bindSpecial (.builtin "reversed.__length_hint__") self = pure (.builtin "reversed.__length_hint__", [self]) := by
  unfold bindSpecial
  rfl
section
variable {prog : Program} {w : World} {A : Around} {E : Value → Shared → Prop} {s : Shared}
theorem call_rt_hint {it t : Addr} {items : Array Value} {Q : Value → Shared → Prop} (hit : RT.IsRt s.heap it t ((items.size : Int) - 1)) (ht : IsTup s.heap t items) (hsz : items.size ≤ sizeLine)
    (h : ∀ tk u, Q (.int (items.size : Int) u) { s with toks := tk }) : wpAny (model prog w) A (call (.builtin "reversed.__length_hint__") [.ref it]) Q E s := by
  obtain ⟨o, ho, hc, hd⟩ := id hit
  have hn := line63
  refine wpAny_call_entry slot_rt_hint hit.typeIs entry_rt_hint ?_ (args_rt_hint _)
  unfold Builtin.«reversed.__length_hint__»
  refine wpAny_bind (wpAny_of_eq (a := Value.ref it) rfl ?_)
  try dsimp only
  refine wpAny_bind (wpAny_field ho hd (x := .ref t) rfl ?_)
  try dsimp only
  try rw [if_neg (by decide)]
  try dsimp only
  refine wpAny_bind (len_tuple ht (by omega) ?_)
  refine wpAny_bind (wpAny_of_eq (a := some ((items.size : Nat) : Int)) rfl ?_)
  try dsimp only
  refine wpAny_bind (wpAny_field (s := { s with toks := s.toks + 1 + 1 }) ho hd (x := rawInt ((items.size : Int) - 1)) rfl ?_)
  show wpAny _ _ (if (items.size : Int) < ((items.size : Int) - 1) + 1 then _ else _) _ _ _
  rw [if_neg (by omega)]
  refine wpAny_ret_mkInt ?_
  rw [show ((items.size : Int) - 1) + 1 = (items.size : Int) by omega]
  exact h _ _
theorem hint_rev {it t : Addr} {items : Array Value} {Q : Bool → Shared → Prop} (hit : RT.IsRt s.heap it t ((items.size : Int) - 1)) (ht : IsTup s.heap t items) (hsz : items.size ≤ sizeLine)
    (h : ∀ b tk, Q b { s with toks := tk }) : wpAny (model prog w) A (Builtin.List.listLengthHint (.ref it)) Q E s := by
  have hT := hit.typeIs
  have hn := line63
  unfold Builtin.List.listLengthHint
  refine wpAny_bind (wpAny_specialOf hT nolen_rt ?_)
  try dsimp only
  show wpAny _ _ (specialOf (Value.ref it) (Str.ofString "__length_hint__") >>= _) _ _ _
  refine wpAny_bind (wpAny_specialOf hT hint_rt ?_)
  generalize hid : ("reversed.__length_hint__" : String) = id0
  wp_delta
  rw [show splitId id0 = some ("reversed", "__length_hint__") from by subst hid; decide +kernel]
  subst hid
  refine wpAny_bind (wpAny_isInstance (b := true) hT (by rw [isSubtype_type]; kernel_rfl) ?_)
  rw [if_neg (by decide)]
  rw [if_neg (by decide +kernel)]
  refine wpAny_bind (wpAny_rule ?_)
  refine wpAny_bind (wpAny_of_eq (bind_hint _) ?_)
  try dsimp only
  refine wpAny_bind (wpAny_attempt (call_rt_hint hit ht hsz fun tk u => ?_))
  have z0 : 0 ≤ ((items.size : Nat) : Int) := Int.natCast_nonneg _
  have z1 : ((items.size : Nat) : Int) ≤ 16777216 := by rw [sizeLine_eq] at hsz; omega
  generalize ((items.size : Nat) : Int) = z at z0 z1
  have f1 : Builtin.List.listFitsIndex z = true := by
    unfold Builtin.List.listFitsIndex
    rw [Bool.and_eq_true, decide_eq_true_eq, decide_eq_true_eq]
    exact ⟨Int.le_trans (by decide) z0, Int.lt_of_le_of_lt z1 (by decide)⟩
  have f2 : Builtin.List.listTooLong z.toNat = false := by
    unfold Builtin.List.listTooLong
    rw [sizeLine_eq]
    exact decide_eq_false (by omega)
  have f3 : ¬ z < 0 := by omega
  show wpAny _ _ (asInt? (Value.int z u) >>= _) _ _ _
  rw [show asInt? (Value.int z u) = pure (some z) from rfl]
  refine wpAny_bind (wpAny_pure ?_)
  try dsimp only
  rw [if_neg (by rw [f1]; decide)]
  try dsimp only
  rw [if_neg f3]
  try dsimp only
  rw [if_neg (by rw [f2]; exact Bool.false_ne_true)]
  exact wpAny_pure (h _ _)
theorem tup_at {h h' : Heap} {t : Addr} {items : Array Value} (x : IsTup h t items) (e : ∀ o, h.get? t = some o → h'.get? t = some o) : IsTup h' t items := let ⟨o, ho, r⟩ := x; ⟨o, e _ ho, r⟩
theorem Walks.tupRev {A : Around} (hh : A.handled = none) (I t : Addr) (hne : t ≠ I) (items : Array Value) (hsz : items.size ≤ sizeLine) :
    Walks prog w A I [I, t] [I] items.size (fun i v => items[items.size - 1 - i]? = some v) (fun i h => i ≤ items.size ∧ RT.IsRt h I t ((items.size : Int) - 1 - (i : Int)) ∧ IsTup h t items) where
  sub := fun b hb => by simp at hb; simp [hb]
  frame := fun _ _ _ x hk => ⟨x.1, x.2.1.at fun o e => hk I (by simp) o e, tup_at x.2.2 fun o e => hk t (by simp) o e⟩
  item := fun i s Q E hi x hQ => by
    have e : (items.size : Int) - 1 - (i : Int) = ((items.size - 1 - i : Nat) : Int) := by omega
    have hit := x.2.1
    rw [e] at hit
    have hx : items[items.size - 1 - i]? = some (items[items.size - 1 - i]'(by omega)) := Array.getElem?_eq_getElem (by omega)
    refine RT.next_rt_item hit x.2.2 hx hsz fun h' hit' hs' => ?_
    have e2 : ((items.size - 1 - i : Nat) : Int) - 1 = (items.size : Int) - 1 - ((i + 1 : Nat) : Int) := by omega
    rw [e2] at hit'
    exact hQ _ h' (s.toks + 1) hx ⟨hi, hit', tup_at x.2.2 fun o eo => (hs'.2 t hne).trans eo⟩ fun b o hb eo => hs'.extBut b o (fun h => hb (by simp [h])) eo
  done := fun s Q E x hQ => by
    have e : (items.size : Int) - 1 - (items.size : Int) = -1 := by omega
    have hit := x.2.1
    rw [e] at hit
    exact RT.next_rt_end hh hit fun h' he' => hQ h' s.toks fun b o hb eo => he' b o (fun h => hb (by simp [h])) eo
  self := fun _ _ _ _ x hQ => RT.iter_rt x.2.1 hQ
theorem collect_rt {it l : Addr} {items : Array Value} {Q : List Value → Shared → Prop} (hh : A.handled = none) (hit : RT.IsRt s.heap it l ((items.size : Int) - 1)) (hl : IsTup s.heap l items) (hne : l ≠ it) (hn : items.size ≤ sizeLine)
    (hQ : ∀ (h' : Heap) (tk : Nat) (acc : Array Value), (∀ b o, b ≠ it → s.heap.get? b = some o → h'.get? b = some o) → ItemsOf (fun i v => items[items.size - 1 - i]? = some v) acc items.size → Q acc.toList { s with heap := h', toks := tk }) :
    wpAny (model prog w) A (collect (.ref it)) Q E s := by
  have W := (Walks.tupRev (prog := prog) (w := w) (A := A.in1) hh it l hne items hn).toS
  obtain ⟨oi, hoi, _⟩ := id hit
  obtain ⟨ol, hol, _⟩ := id hl
  have hSi : s.heap.objs.size ≠ it := Nat.ne_of_gt (Heap.lt_size hoi)
  have hSl : s.heap.objs.size ≠ l := Nat.ne_of_gt (Heap.lt_size hol)
  have hSf : s.heap.objs.size ∉ [it, l] := by simp only [List.mem_cons, List.not_mem_nil, or_false, not_or]; exact ⟨hSi, hSl⟩
  unfold collect
  refine wpAny_bind (wpAny_runValue (codeAny_builtin F.entry_proto_collect ?_))
  rw [Around.under_plainId F.plain_proto_collect _]
  show wpAny _ A.in1 (newList [] >>= fun l' => again (.builtin "list.__iadd__" ⟨[l', .ref it], []⟩)) _ _ s
  refine wpAny_bind (wpAny_newObj_type ?_)
  refine wpAny_pure ⟨plainId_quiet F.plain_list_iadd _, codeAny_builtin F.entry_list_iadd ?_⟩
  rw [Around.under_plainId F.plain_list_iadd _]
  have hS₁ : (s.heap.push { cls := .type "list", data := .seq ([] : List Value).toArray }).get? s.heap.objs.size = some { cls := .type "list", data := .seq ([] : List Value).toArray } := Heap.get?_push_size _ rfl
  have hit1 : RT.IsRt (s.heap.push { cls := .type "list", data := .seq ([] : List Value).toArray }) it l ((items.size : Int) - 1) := hit.at fun o e => Heap.get?_push_of_some _ e
  have hl1 : IsTup (s.heap.push { cls := .type "list", data := .seq ([] : List Value).toArray }) l items := tup_at hl fun o e => Heap.get?_push_of_some _ e
  have hT : ({ s with heap := s.heap.push { cls := .type "list", data := .seq ([] : List Value).toArray } } : Shared).TypeIs (.ref it) "reversed" := RT.IsRt.typeIs (s := { s with heap := s.heap.push { cls := .type "list", data := .seq ([] : List Value).toArray } }) hit1
  have h1 : Builtin.List.listSameRef (.ref s.heap.objs.size) (.ref it) = false := by simp [Builtin.List.listSameRef, hSi]
  have e0 : ((items.size : Nat) : Int) - 1 - ((0 : Nat) : Int) = (items.size : Int) - 1 := by omega
  show wpAny _ A.in1 (Builtin.List.listExtendWith (.ref s.heap.objs.size) (.ref it) (.ref s.heap.objs.size)) _ _ _
  unfold Builtin.List.listExtendWith
  refine wpAny_bind (wpAny_typeOf hT ?_)
  rw [if_neg (by rw [h1]; decide)]
  refine wpAny_bind (RT.iter_rt (s := { s with heap := s.heap.push { cls := .type "list", data := .seq ([] : List Value).toArray } }) hit1 ?_)
  refine wpAny_bind (wpAny_holding ?_)
  refine hint_rev (s := { s with heap := s.heap.push { cls := .type "list", data := .seq ([] : List Value).toArray } }) hit1 hl1 hn fun b tk => ?_
  have fin : ∀ (h : Heap) (c₁ : Nat), RT.IsRt h it l ((items.size : Int) - 1) → IsTup h l items → (∀ b o, b ≠ it → s.heap.get? b = some o → h.get? b = some o) → h.get? s.heap.objs.size = some { cls := .type "list", data := .seq #[] c₁ } →
      ∀ (s' : Shared) (acc' : Array Value) (c' : Nat), Moved (s.heap.objs.size :: [it]) (fun a b => b = a) { s with heap := h, toks := tk } s' → s'.heap.get? s.heap.objs.size = some { cls := .type "list", dict := none, data := .seq acc' c', slots := #[] } → ItemsOf (fun i v => items[items.size - 1 - i]? = some v) acc' items.size →
      wpAny (model prog w) A (do
        let __do_lift ← load s.heap.objs.size
        match __do_lift.data with
          | Data.seq xs epoch => pure xs.toList
          | x => unsupported "internal:collect") Q E s' := by
    intro h c₁ g1 g2 g3 g4 s' acc' c' hm hS' hacc
    refine wpAny_bind (wpAny_load hS' ?_)
    refine wpAny_pure ?_
    rw [Moved.eq_with hm]
    refine hQ s'.heap s'.toks acc' (fun b o hb e => hm.heap b o (fun hmem => ?_) (g3 b o hb e)) hacc
    rcases List.mem_cons.mp hmem with e' | hmem
    · exact absurd (Heap.lt_size e) (by rw [e']; exact Nat.lt_irrefl _)
    · exact hb (List.mem_singleton.mp hmem)
  refine wpAny_ite_split (fun _ => ?_) (fun _ => ?_)
  · refine wpAny_bind (wpAny_rule ?_)
    refine wpAny_bind ?_
    show wpAny _ _ (updateSeq s.heap.objs.size (·.push .none) >>= fun _ => updateSeq s.heap.objs.size (·.pop)) _ _ _
    refine wpAny_bind (wpAny_updateSeq hS₁ rfl ?_)
    have hS₂ := Heap.get?_update_self (Obj.mapSeq (·.push Value.none)) hS₁ rfl
    refine wpAny_updateSeq (hz := by seq_fits) hS₂ rfl ?_
    have hS₃ := Heap.get?_update_self (Obj.mapSeq (·.pop)) hS₂ rfl
    have oth : ∀ b o, b ≠ s.heap.objs.size → (s.heap.push { cls := .type "list", data := .seq ([] : List Value).toArray }).get? b = some o → (((s.heap.push { cls := .type "list", data := .seq ([] : List Value).toArray }).update s.heap.objs.size (Obj.mapSeq (·.push Value.none))).update s.heap.objs.size (Obj.mapSeq (·.pop))).get? b = some o := fun b o hb e =>
      (Heap.get?_update_other _ _ (Ne.symm hb)).trans ((Heap.get?_update_other _ _ (Ne.symm hb)).trans e)
    have hit3 := hit1.at fun o e => oth it o (Ne.symm hSi) e
    have hl3 := tup_at hl1 fun o e => oth l o (Ne.symm hSl) e
    refine wpAny_pure ⟨plainId_quiet F.plain_extend_loop _, codeAny_extend_loopS W hn _ hSf _ items.size 0 _ _ _ rfl (Nat.zero_le _) ⟨Nat.zero_le _, by rw [e0]; exact hit3, hl3⟩ hS₃ (ItemsOf.nil _) fun s' acc' c' hm hS' hacc => ?_⟩
    exact fin _ _ hit3 hl3 (fun b o hb e => oth b o (Nat.ne_of_lt (Heap.lt_size e)) (Heap.get?_push_of_some _ e)) hS₃ s' acc' c' hm hS' hacc
  · refine wpAny_pure ⟨plainId_quiet F.plain_extend_loop _, codeAny_extend_loopS W hn _ hSf _ items.size 0 _ _ _ rfl (Nat.zero_le _) ⟨Nat.zero_le _, by rw [e0]; exact hit1, hl1⟩ hS₁ (ItemsOf.nil _) fun s' acc' c' hm hS' hacc => ?_⟩
    exact fin _ _ hit1 hl1 (fun b o hb e => Heap.get?_push_of_some _ e) hS₁ s' acc' c' hm hS' hacc
theorem code_tuple_new_rt {it l : Addr} {items : Array Value} {Q₁ : Value → Shared → Prop} (hh : A.handled = none) (hit : RT.IsRt s.heap it l ((items.size : Int) - 1)) (hl : IsTup s.heap l items) (hne : l ≠ it) (hn : items.size ≤ sizeLine)
    (h : ∀ (h' : Heap) (tk : Nat) (acc : Array Value), (∀ b o, b ≠ it → s.heap.get? b = some o → h'.get? b = some o) → ItemsOf (fun i v => items[items.size - 1 - i]? = some v) acc items.size →
      Q₁ (.ref h'.objs.size) { s with heap := h'.push { cls := .type "tuple", data := .seq acc }, toks := tk }) :
    codeAny (model prog w) A (.call (.builtin "tuple.__new__") ⟨[.type "tuple", .ref it], []⟩) (wants Q₁ E) s := by
  refine codeAny_of_tree ?_
  show wpAny _ A.in1 (do checkBuiltinCall "tuple.__new__" ⟨[.type "tuple", .ref it], []⟩; again (.builtin "tuple.__new__" ⟨[.type "tuple", .ref it], []⟩)) _ _ s
  refine wpAny_bind (wpAny_of_eq (F.newCall_tuple_1 _) (wpAny_pure ⟨plainId_quiet F.plain_tuple_new _, codeAny_builtin F.entry_tuple_new ?_⟩))
  rw [Around.under_plainId F.plain_tuple_new _]
  have hsub := sub_tuple_self
  have hinit := init_tuple_lookup
  have hmh := madeHere_tuple
  have hTI : s.TypeIs (.ref it) "reversed" := hit.typeIs
  have hh1 : A.in1.handled = none := hh
  wp_walk using wpAny_typeOf hTI, collect_rt (A := A.in1) hh1 hit hl hne hn
  intro h' tk acc hk hacc
  show wpAny _ _ (Builtin.Tuple.tupleExact acc.toList.toArray >>= fun v => ret v) _ _ _
  unfold Builtin.Tuple.tupleExact
  refine wpAny_bind (wpAny_newObj_type ?_ (by show acc.toList.toArray.size ≤ sizeLine; simp only [Array.toArray_toList]; rw [hacc.1]; exact hn))
  refine wpAny_pure ?_
  have e : acc.toList.toArray = acc := by simp
  rw [e]
  exact h h' tk acc hk hacc
theorem call_tuple_rt {it l : Addr} {items : Array Value} {Q : Value → Shared → Prop} (hh : A.handled = none) (hit : RT.IsRt s.heap it l ((items.size : Int) - 1)) (hl : IsTup s.heap l items) (hne : l ≠ it) (hn : items.size ≤ sizeLine)
    (hQ : ∀ (h' : Heap) (tk : Nat) (acc : Array Value), (∀ b o, b ≠ it → s.heap.get? b = some o → h'.get? b = some o) → ItemsOf (fun i v => items[items.size - 1 - i]? = some v) acc items.size →
      Q (.ref h'.objs.size) { s with heap := h'.push { cls := .type "tuple", data := .seq acc }, toks := tk }) :
    wpAny (model prog w) A (call (.type "tuple") [.ref it]) Q E s := by
  refine callType_codes (Q₁ := fun obj s₁ => s₁.TypeIs obj "tuple" ∧ Q obj s₁) F.called_tuple (F.typeCall_tuple_1 _) F.entry_object_init
    (code_tuple_new_rt (A := A.in1) hh hit hl hne hn fun h' tk acc hk hacc => ⟨⟨_, Heap.get?_push_size _ rfl, rfl⟩, hQ h' tk acc hk hacc⟩) fun obj s₁ h₁ => ?_
  exact ⟨h₁.1, F.args_object_init_2 obj _, object_init_meets F.called_tuple.init.lookup F.called_tuple.made (by decide) prog w A.in1 _ s₁ ⟨h₁.1, rfl, h₁.2⟩⟩
end
/-- tuple(reversed(x)), x a list or a tuple: a new tuple -/
def tTupRevA (K : PySem.W.Frag) (te : TE) : TE := fun σ H Q => te σ H fun v H1 => ∃ (a : Addr) (xs : List V), v = .ref a ∧ (SqL K H1 a xs ∨ SqT K H1 a xs) ∧ ∀ q, H1 q = none → Q (.ref q) (upd H1 q (.tup xs.reverse))
section
variable {X : Cx}
theorem pe_tupRevA {e : Expr} {te : TE} {p p2 pos pos2 : Pos} {K : PySem.W.Frag} (hc : X.calm = true) (hg : Gl X "tuple") (hm : X.mg "tuple" = none) (hg2 : Gl X "reversed") (hm2 : X.mg "reversed" = none) (he : PE X e te) (hK : X.K = K := by rfl)
    (hs : starEach [e] X.env = (false, eval e X.env) :: starEach [] X.env := by rfl)
    (hs2 : starEach [.Call (.Name "reversed" p2) [e] [] pos2] X.env = (false, eval (.Call (.Name "reversed" p2) [e] [] pos2) X.env) :: starEach [] X.env := by rfl) :
    PE X (.Call (.Name "tuple" p) [.Call (.Name "reversed" p2) [e] [] pos2] [] pos) (tTupRevA K te) := by
  subst hK
  refine ⟨fun pins s σ H Q I h => ?_⟩
  refine Call_ (ld_blt I hg hm boot_tuple (PyProof.Rows.callWith_type1 (args_cons (Call_ (ld_blt I hg2 hm2 PyProof.Rows.boot_reversed (PyProof.Rows.callWith_type1 (args_cons (thn (he.run pins s σ H _ I h) fun u s1 ⟨v, H1, I1, r1, q1⟩ => args_nil ?_) hs) hs rfl))) hs2) hs2 rfl))
  obtain ⟨a, xs, ev, hq, q⟩ := q1
  subst ev
  obtain rfl : u = Value.ref a := r1
  rcases hq with hq | hq
  · obtain ⟨its, rv, p', hz⟩ := I1.list hq
    refine call_reversed_list p'.isList (args_nil ?_)
    have k0 : ∀ b o, s1.heap.get? b = some o → (s1.heap.push (revObj a ((its.toArray.size : Int) - 1))).get? b = some o := fun b o e => Heap.get?_push_of_some _ e
    have I2 : Inv X pins σ H1 { s1 with heap := s1.heap.push (revObj a ((its.toArray.size : Int) - 1)) } := I1.kept (t' := s1.toks) k0
    obtain ⟨f0, f1, f2, f3, f4, f5⟩ := I1.fpOk (H' := H1) (b := s1.heap.objs.size) (Nat.le_refl _) (I1.hok.fresh (Nat.le_refl _))
    have hl := p'.isList
    obtain ⟨ol, hol, _⟩ := id hl
    have hne : a ≠ s1.heap.objs.size := Nat.ne_of_lt (Heap.lt_size hol)
    have hn : its.toArray.size ≤ sizeLine := by rw [List.size_toArray, ← rv.length]; exact hz
    refine RT.call_tuple_rev (s := { s1 with heap := s1.heap.push (revObj a ((its.toArray.size : Int) - 1)) }) (I1.ok.hd hc) ⟨_, Heap.get?_push_size _ rfl, rfl, rfl⟩ (hl.push _) hne hn fun h' tk acc hk hi => ?_
    have I3 : Inv X pins σ H1 { s1 with heap := h', toks := tk } := I2.turned (t' := tk) (fun b o hb e => hk b o hb e) f0 f1 f3 f4 f5
    refine ⟨.ref h'.objs.size, upd H1 h'.objs.size (.tup xs.reverse), I3.laid (t' := tk) (fun c o e => Heap.get?_push_of_some _ e) (Nat.le_refl _) (show ObjOk X.prog X.w _ _ _ (.tup xs.reverse) from ⟨by rw [List.length_reverse]; exact hz, acc.toList, RT.vals_rev rv hi, ?_⟩), rfl, q _ (I3.hok.fresh (Nat.le_refl _))⟩
    rw [Array.toArray_toList]
    exact IsTup.new _ _
  · obtain ⟨its, rv, p', hz⟩ := I1.tuple hq
    have hn63 := line63
    refine RT.call_reversed_tup p' (fun A E Q k => len_tuple p' (by simp only [List.size_toArray]; rw [← rv.length]; omega) k) (args_nil ?_)
    have k0 : ∀ b o, s1.heap.get? b = some o → (s1.heap.push (RT.rtObj a ((its.toArray.size : Int) - 1))).get? b = some o := fun b o e => Heap.get?_push_of_some _ e
    have I2 : Inv X pins σ H1 { s1 with heap := s1.heap.push (RT.rtObj a ((its.toArray.size : Int) - 1)), toks := s1.toks + 1 + 1 } := I1.kept (t' := s1.toks + 1 + 1) k0
    obtain ⟨f0, f1, f2, f3, f4, f5⟩ := I1.fpOk (H' := H1) (b := s1.heap.objs.size) (Nat.le_refl _) (I1.hok.fresh (Nat.le_refl _))
    obtain ⟨ol, hol, _⟩ := id p'
    have hne : a ≠ s1.heap.objs.size := Nat.ne_of_lt (Heap.lt_size hol)
    have hn : its.toArray.size ≤ sizeLine := by rw [List.size_toArray, ← rv.length]; exact hz
    refine call_tuple_rt (s := { s1 with heap := s1.heap.push (RT.rtObj a ((its.toArray.size : Int) - 1)), toks := s1.toks + 1 + 1 }) (I1.ok.hd hc) ⟨_, Heap.get?_push_size _ rfl, rfl, rfl⟩ (tup_at p' fun o e => Heap.get?_push_of_some _ e) hne hn fun h' tk acc hk hi => ?_
    have I3 : Inv X pins σ H1 { s1 with heap := h', toks := tk } := I2.turned (t' := tk) (fun b o hb e => hk b o hb e) f0 f1 f3 f4 f5
    refine ⟨.ref h'.objs.size, upd H1 h'.objs.size (.tup xs.reverse), I3.laid (t' := tk) (fun c o e => Heap.get?_push_of_some _ e) (Nat.le_refl _) (show ObjOk X.prog X.w _ _ _ (.tup xs.reverse) from ⟨by rw [List.length_reverse]; exact hz, acc.toList, RT.vals_rev rv hi, ?_⟩), rfl, q _ (I3.hok.fresh (Nat.le_refl _))⟩
    rw [Array.toArray_toList]
    exact IsTup.new _ _
/-- tuple(reversed(x)) -/
def trD : D → Option D
  | .list ds => some (.tuple ds.reverse)
  | .tuple ds => some (.tuple ds.reverse)
  | _ => none
def eTR (a : ME) : ME := fun ρ => (a ρ).bind fun d => lift (trD d)
@[simp] theorem eTR_ap {a : ME} {ρ : Fr} : eTR a ρ = (a ρ).bind fun d => lift (trD d) := rfl
@[simp] theorem trD_l {ds : List D} : trD (.list ds) = some (.tuple ds.reverse) := rfl
@[simp] theorem trD_t {ds : List D} : trD (.tuple ds) = some (.tuple ds.reverse) := rfl
variable {K : PySem.W.Frag} {L : Addr × Addr} {mg : Str → Option Value} {W : WX} {ta : TE} {a : ME}
theorem df_tupRev (ha : DE K L mg W ta a) : DF K L mg W (tTupRevA K ta) (eTR a) := fun F0 H0 F H σ ρ Q E p => by
  refine ha F0 H0 F H σ ρ _ E (post_mono (post_bind p) (fun d k F1 H1 x s1 r1 => ?_) fun _ z => z)
  obtain ⟨z, ez, k⟩ := post_lift k
  unfold trD at ez
  split at ez
  · cases ez
    obtain ⟨l, vs, rfl, h, r⟩ := r1.isl s1.fh
    exact ⟨l, vs, rfl, .inl (.of h), fun q hq => WF.newT s1.fh (WF.on s1 k) r.reverse q hq⟩
  · cases ez
    obtain ⟨l, vs, rfl, h, r, _⟩ := r1.ist s1.fh
    exact ⟨l, vs, rfl, .inr h, fun q hq => WF.newT s1.fh (WF.on s1 k) r.reverse q hq⟩
  · cases ez
end
end Dn

set_option Elab.async false
set_option linter.all false
set_option maxRecDepth 100000
set_option maxHeartbeats 4000000
/-! DenZS: tests that call a def which changes a list handed in; such defs that call themselves -/
namespace Dn
open PySem PySem.Spec PyProof.Rows L2
section
variable {K : PySem.W.Frag} {L : Addr × Addr} {mg : Str → Option Value} {W : WX} {F0 H0 F H : Hp} {σ : L2.St} {ρ : Fr} {t u : TS} {g h : MS} {uu : TT} {uf : MT}
def sNotM (i : Nat) (f : List D → M (List D × D)) (as : ML) (g h : MS) : MS := sCallM i f as fun d ρ => Out.of (toB d) ρ fun b => if b = true then h ρ else g ρ
def sNotMO (i : Nat) (f : List D → M (List D × D)) (as : ML) (uf : MT) (g h : MS) : MS := sCallM i f as fun d ρ => Out.of (toB d) ρ fun b => if b = true then sIf uf g h ρ else g ρ
theorem toB_rep {F1 : Hp} {v : V} {d : D} {b : Bool} (r : Rep K F1 v d) (h : toB d = .ok b) : v = .bl b := by
  unfold toB at h
  split at h
  · cases h
    cases r
    rfl
  · cases h
theorem of_toB {Dd : Ends} {d : D} {ρ : Fr} {k : Bool → Out} (w : WO K mg W L F0 H0 F Dd (Out.of (toB d) ρ k)) : ∃ b, toB d = .ok b ∧ WO K mg W L F0 H0 F Dd (k b) := by
  cases q : toB d with
  | ok b => rw [q] at w; exact ⟨b, rfl, w⟩
  | exc n =>
    exfalso
    unfold toB at q
    split at q <;> cases q
  | stuck => rw [q] at w; exact w.elim
theorem ds_ifNotM {i j : Nat} {f : List D → M (List D × D)} {tas : TA} {as : ML} (ha : DAJ K L mg W i j tas as) (h1 : DS K L mg W t g) (h2 : DS K L mg W u h) : DS K L mg W (tIfS (tNot (tB (tCallS (spM K mg j f) (WE W) tas))) t u) (sNotM i f as g h) := fun F0 H0 F H σ ρ Dd E w =>
  callM_core ha E w fun d F1 H1 v ρ1 e w1 E1 r => by
    obtain ⟨b, hb, w2⟩ := of_toB w1
    refine ⟨b, toB_rep r hb, ?_⟩
    cases b with
    | true => exact iteF (h2 F0 H0 F1 H1 σ ρ1 Dd E1 w2)
    | false => exact iteT (h1 F0 H0 F1 H1 σ ρ1 Dd E1 w2)
theorem ds_ifNotMO {i j : Nat} {f : List D → M (List D × D)} {tas : TA} {as : ML} (ha : DAJ K L mg W i j tas as) (hu : DT K L mg W uu uf) (h1 : DS K L mg W t g) (h2 : DS K L mg W u h) : DS K L mg W (tIfS (tOr (tNot (tB (tCallS (spM K mg j f) (WE W) tas))) uu) t u) (sNotMO i f as uf g h) := fun F0 H0 F H σ ρ Dd E w =>
  callM_core ha E w fun d F1 H1 v ρ1 e w1 E1 r => by
    obtain ⟨b, hb, w2⟩ := of_toB w1
    refine ⟨b, toB_rep r hb, ?_⟩
    cases b with
    | true => exact iteF (ds_if hu h1 h2 F0 H0 F1 H1 σ ρ1 Dd E1 w2)
    | false => exact iteT (iteT (h1 F0 H0 F1 H1 σ ρ1 Dd E1 w2))
@[simp] theorem sNotM_ap {i : Nat} {f : List D → M (List D × D)} {as : ML} : sNotM i f as g h ρ = sCallM i f as (fun d ρ => Out.of (toB d) ρ fun b => if b = true then h ρ else g ρ) ρ := rfl
@[simp] theorem sNotMO_ap {i : Nat} {f : List D → M (List D × D)} {as : ML} : sNotMO i f as uf g h ρ = sCallM i f as (fun d ρ => Out.of (toB d) ρ fun b => if b = true then sIf uf g h ρ else g ρ) ρ := rfl
end
section
variable {P : Program} {w : World} {K : PySem.W.Frag} {mg : Str → Option Value} {base : Heap}
theorem fn_stuckM {x : Str} {st : Stmt} {ps : List Str} {k j : Nat} (Df : DefAt K mg x st)
    (hb : ∀ (kV doc pm : Value) (an : Option Addr) (cdv ct : Value) (us : List Value), us.length = ps.length → bindArgs (PySem.W.fnOf x x (defArgs st) (defBody st) (defScope st) .none kV doc pm an cdv ct) ⟨us, []⟩ = pure (ps.zip us)) :
    FnAtM P w K mg base x ps k j (fun _ => .stuck) := by
  obtain ⟨f, fd, hm, F⟩ := Df
  have no : ∀ vs H Q E, ¬ spM K mg j (fun _ => .stuck) vs H Q E := fun vs H Q E h => by
    obtain ⟨F, ds, l, ws, _, _, _, _, p⟩ := h
    exact p
  exact ⟨f, fd, hm, F.kp, F.binds hb, ⟨fun vs H Q E h => (no vs H Q E h).elim, fun A outer s H args us vs Q E hr e b v h => (no vs H Q E h).elim⟩⟩
end
end Dn

set_option Elab.async false
set_option linter.all false
set_option maxRecDepth 100000
set_option maxHeartbeats 4000000
/-! DenZT: a call that hands in nothing -/
namespace Dn
open PySem PySem.Spec PyProof.Rows L2
section
variable {X : Cx} {CX : CXT} {k : Nat} {f : Addr} {fd : FuncData} {ps : List Str} {sp : Sp} {E : L2.St → XK} {x : Str} {p pos : Pos}
theorem pe_callS0 (F : FnOk X.prog X.w X.K X.mg X.base CX k f fd ps sp) (hr : Room k X.A) (hg : Gl X x) (hm : X.mg x = some (.ref f)) (hk : PySem.W.keepIn X.K (.ref f) = true) (hb : Binds X.K fd ps []) (hx : ∀ σ, PassesAt CX X σ (E σ))
    (hdb : (x == ("__debug__" : Str)) = false := by decide) : PE X (.Call (.Name x p) [] [] pos) (tCallS sp E tNil) := by
  refine ⟨fun pins s σ H Q I h => ?_⟩
  refine wpAny_Call_Name_kw (ld_glob I hg hm ?_ hdb)
  exact PySem.W.callWith_K0 I.kIn hk (run_fnS (us := []) (vs := []) F hr hb (hx σ) I .nil h)
end
end Dn

set_option Elab.async false
set_option linter.all false
set_option maxRecDepth 100000
set_option maxHeartbeats 4000000
/-! DenZU: == of data 180 deep; what is never reached -/
namespace Dn
open PySem PySem.Spec PyProof.Rows L2
/-! ### == of deep data -/
def shX (d : D) : Bool := d.canLay0 && decide (d.depth ≤ 180)
theorem shX_lay {d : D} (h : shX d = true) : d.canLay0 = true := (Bool.and_eq_true_iff.mp h).1
theorem shX_dep {d : D} (h : shX d = true) : d.depth ≤ 180 := of_decide_eq_true (Bool.and_eq_true_iff.mp h).2
theorem room_x {A : Around} {da db : D} (h : shX da = true) (hu : A.units + 190 < cLine) : A.units + min da.depth db.depth < cLine := by
  have h1 := shX_dep h
  have h2 : min da.depth db.depth ≤ da.depth := Nat.min_le_left _ _
  omega
def rEqX (K : PySem.W.Frag) : R2 := fun x y H Q => ∃ d e, Dp K H x d ∧ Dp K H y e ∧ shX d = true ∧ shX e = true ∧ Q (.bl (PyData.eqv d e)) H
section
variable {X : Cx} {K : PySem.W.Frag}
theorem op_eqX (hu : X.A.units + 190 < cLine) : OpR X (compareOp .Eq) (rEqX X.K) := by
  intro pins s σ H x y v u Q I rx ry h
  obtain ⟨d, e, hd, he, sd, se, q⟩ := h
  obtain ⟨as, r1⟩ := Dp.reads I d x v hd rx
  obtain ⟨bs, r2⟩ := Dp.reads I e y u he ry
  exact SeqAt.compareEq_reads r1 r2 (shX_lay sd) (shX_lay se) (room_x sd hu) ⟨.bl _, H, I, rfl, q⟩
theorem kEqX (hu : X.A.units + 190 < cLine) (h : X.K = K := by rfl) : OpR X (compareOp .Eq) (rEqX K) := h ▸ op_eqX hu
end
theorem hu190 {A : Around} {k : Nat} (h : Room k A) : A.units + 190 < cLine := by have := h.un; omega
def eqXD (d e : D) : Option D := if shX d && shX e then some (.bool (PyData.eqv d e)) else none
section
variable {K : PySem.W.Frag}
theorem rd_eqX : R2D K (rEqX K) eqXD := by
  intro F H x y d e Q z ex rx ry h k
  unfold eqXD at h
  split at h
  · rename_i c
    rw [Bool.and_eq_true] at c
    cases h
    exact ⟨d, e, (rx.now ex).dp (shX_lay c.1), (ry.now ex).dp (shX_lay c.2), c.1, c.2, k.here ex (.bl _)⟩
  · cases h
end
/-! ### what is never reached -/
section
variable {X : Cx} {e : Expr} {st : Stmt} {ss : List Stmt} {es : List Expr}
theorem pe_any : PE X e (fun _ _ _ => False) := ⟨fun _ _ _ _ _ _ h => h.elim⟩
theorem pt_any : PT X e (fun _ _ _ => False) := ⟨fun _ _ _ _ _ _ h => h.elim⟩
theorem pa_any : PA X es (fun _ _ _ => False) := ⟨fun _ _ _ _ _ _ _ h => h.elim⟩
theorem ps_any : PS X st (fun _ _ _ => False) := ⟨fun _ _ _ _ _ _ h => h.elim⟩
theorem pss_any : PSs X ss (fun _ _ _ => False) := ⟨fun _ _ _ _ _ _ h => h.elim⟩
end
def eStk : ME := fun _ => .stuck
def sStk : MS := fun _ => .stuck
@[simp] theorem eStk_ap {ρ : Fr} : eStk ρ = .stuck := rfl
@[simp] theorem sStk_ap {ρ : Fr} : sStk ρ = .stuck := rfl
section
variable {K : PySem.W.Frag} {L : Addr × Addr} {mg : Str → Option Value} {W : WX}
theorem df_stk : DF K L mg W (fun _ _ _ => False) eStk := fun _ _ _ _ _ _ _ _ p => p.elim
theorem ds_stk : DS K L mg W (fun _ _ _ => False) sStk := fun _ _ _ _ _ _ _ _ w => w.elim
end
end Dn

set_option Elab.async false
set_option linter.all false
set_option maxRecDepth 100000
set_option maxHeartbeats 4000000
/-! DenZV: remove of a list of any data -/
namespace PySem.SeqAt
open PySem PySem.MeetsSeq
theorem dn_remove_loopAt (l : Addr) (items : Array Value) (n : Nat) (x : Value) (e : Value → Bool) (j : Nat) (hj : j < items.size) (hit : e items[j] = true) (k : Nat) (hs1 : items.size ≤ sizeLine) :
    ∀ i : Nat, j - i = k → i ≤ j → (∀ m (hm : m < items.size), i ≤ m → m < j → e items[m] = false) → Meets (Builtin.«list.remove.loop» ⟨[.ref l, x, rawInt i], []⟩)
      (fun A R s => s.heap.get? l = some { cls := .type "list", dict := none, data := .seq items n, slots := #[] } ∧ (∀ y, y ∈ items → EqAt A.in1 s y x (e y)) ∧ R (.ok (.ret .none)) { s with heap := s.heap.update l (Obj.mapSeq fun xs => xs.eraseIdxIfInBounds j) }) := by
  induction k with
  | zero =>
    intro i hk hij hno prog w A R s h
    obtain ⟨hp, g, d, tk, os⟩ := s; obtain ⟨hl, he, h⟩ := h
    have hij' : i = j := by omega
    subst hij'
    wp_walk using wpAny_loadPart' hl
    have hi : items[((i : Nat) : Int).toNat]? = some items[i] := by simp [hj]
    rw [hi]
    refine wpAny_bind (he _ (Array.getElem_mem hj) prog w _ _ ?_)
    rw [hit]
    have hz' : (items.eraseIdxIfInBounds i).size ≤ sizeLine + 1 := Nat.le_trans (size_erased items _) (Nat.le_succ_of_le hs1)
    wp_walk using (wpAny_updateSeq hl rfl (hz := hs1) (_hz' := hz')), wpAny_loadPart' hl
    simpa using h
  | succ k ih =>
    intro i hk hij hno prog w A R s h
    obtain ⟨hp, g, d, tk, os⟩ := s; obtain ⟨hl, he, h⟩ := h
    have hlt : i < items.size := by omega
    wp_walk using wpAny_loadPart' hl
    have hi : items[((i : Nat) : Int).toNat]? = some items[i] := by simp [hlt]
    have hc : ((i : Int) + 1) = ((i + 1 : Nat) : Int) := by push_cast; rfl
    rw [hi]
    refine wpAny_bind (he _ (Array.getElem_mem hlt) prog w _ _ ?_)
    rw [hno i hlt (Nat.le_refl _) (by omega)]
    wp_walk
    rw [hc]
    exact ⟨plainId_quiet plain_remove_loop _, codeAny_builtin entry_remove_loop (by
      rw [Around.under_plainId plain_remove_loop _]
      exact ih (i + 1) (by omega) (by omega) (fun m hm h1 h2 => hno m hm (by omega) h2) prog w A R _ ⟨hl, he, h⟩)⟩
theorem dn_list_removeAt (l : Addr) (items : Array Value) (n : Nat) (x : Value) (e : Value → Bool) (j : Nat) (hj : j < items.size)
    (hit : e items[j] = true) (hno : ∀ m (hm : m < items.size), m < j → e items[m] = false) (hs1 : items.size ≤ sizeLine) :
    Meets (Builtin.«list.remove» ⟨[.ref l, x], []⟩)
      (fun A R s => s.heap.get? l = some { cls := .type "list", dict := none, data := .seq items n, slots := #[] } ∧ (∀ y, y ∈ items → EqAt A.in1 s y x (e y)) ∧ R (.ok (.ret .none)) { s with heap := s.heap.update l (Obj.mapSeq fun xs => xs.eraseIdxIfInBounds j) }) := by
  intro prog w A R s h
  obtain ⟨hp, g, d, tk, os⟩ := s; obtain ⟨hl, he, h⟩ := h
  wp_walk using wpAny_loadPart' hl
  exact ⟨plainId_quiet plain_remove_loop _, codeAny_builtin entry_remove_loop (by
    rw [Around.under_plainId plain_remove_loop _]
    exact dn_remove_loopAt l items n x e j hj hit _ hs1 0 rfl (Nat.zero_le _) (fun m hm _ h2 => hno m hm h2) prog w A R _ ⟨hl, he, h⟩)⟩
end PySem.SeqAt
namespace Dn
open PySem PySem.Spec PyProof.Rows L2
def rRemX (K : PySem.W.Frag) : V → List V → Hp → VK → Prop := fun x xs H Q => ∃ (l : Addr) (ws : List V) (y : V) (d : D) (ds : List D) (j : Nat) (z : D), x = V.ref l ∧ xs = [y] ∧ H l = some (.lst ws) ∧ DpAll K H ws ds ∧ Dp K H y d ∧
  SeqAt.shaped (.list ds) = true ∧ SeqAt.shaped d = true ∧ ds[j]? = some z ∧ PyData.eqv z d = true ∧ (∀ (m : Nat) (z' : D), m < j → ds[m]? = some z' → PyData.eqv z' d = false) ∧ Q .non (upd H l (.lst (ws.eraseIdx j)))
section
variable {X : Cx}
theorem mt_removeX (hu : X.A.units + 65 < cLine) : MtM X "list.remove" (rRemX X.K) := by
  intro pins s σ H x xs v us Q I rx rxs h
  obtain ⟨l, ws, y, d, ds, j, zz, rfl, rfl, hH, ha, hy, sl, sd, hz, hzj, hno, q⟩ := h
  cases rx
  cases rxs with
  | cons ry rt =>
    rename_i uy ut
    cases rt
    obtain ⟨bs, r1⟩ := Dp.reads I d y uy hy ry
    have hxs : PyData.canLayAll0 ds = true := SeqAt.canLay_of_shaped sl
    have hroom : X.A.units + 1 + min (PyData.depthAll ds) d.depth < cLine := room_in_shaped sd hu
    obtain ⟨z, its, n, r, hl, e⟩ := I.lstM hH
    obtain ⟨as, h4⟩ := Dp.readsAll I ds _ its ha r
    have hn : its.length = ds.length := SeqAt.ReadsAll.length ds its as h4
    have hmap : its.map (SeqAt.readOf s.heap) = ds := SeqAt.readsAll_map ds its as hxs h4
    obtain ⟨hjd, _⟩ := List.getElem?_eq_some_iff.mp hz
    have hjl : j < its.length := by omega
    have hj : j < its.toArray.size := by simpa using hjl
    have at_ : ∀ (m : Nat) (hm : m < its.toArray.size) (z' : PyData), ds[m]? = some z' → SeqAt.readOf s.heap its.toArray[m] = z' := by
      intro m hm z' hz'
      have hml : m < its.length := by simpa using hm
      rw [← hmap, List.getElem?_map, List.getElem?_eq_getElem hml] at hz'
      have e1 : SeqAt.readOf s.heap its[m] = z' := Option.some.inj (show some (SeqAt.readOf s.heap its[m]) = some z' from hz')
      simpa using e1
    refine call_meets PySem.F.slot_list_remove ⟨_, e, rfl⟩ PySem.F.entry_list_remove (PySem.F.args_list_remove_2 _ _)
      (SeqAt.dn_list_removeAt l its.toArray n uy (fun u => PyData.eqv (SeqAt.readOf s.heap u) d) j hj ?_ ?_ (by rw [List.size_toArray]; omega)) ⟨e, SeqAt.items_eqAt (vs := its.toArray) (show ReadsAll s.heap its.toArray.toList ds as from h4) r1 hxs (SeqAt.canLay_of_shaped sd) hroom, ?_⟩
    · show PyData.eqv (SeqAt.readOf s.heap its.toArray[j]) d = true
      rw [at_ j hj zz hz]
      exact hzj
    · intro m hm hmj
      have hmd : m < ds.length := by omega
      have hz' : ds[m]? = some ds[m] := List.getElem?_eq_getElem hmd
      show PyData.eqv (SeqAt.readOf s.heap its.toArray[m]) d = false
      rw [at_ m hm _ hz']
      exact hno m _ hmj hz'
    · have rr := r.eraseIdx j
      refine ⟨.non, _, I.lset (its' := its.eraseIdx j) (t' := s.toks) hH e ?_ rr ?_, rfl, q⟩
      · show its.toArray.eraseIdxIfInBounds j = (its.eraseIdx j).toArray
        rw [List.eraseIdxIfInBounds_toArray]
      · have z2 : (ws.eraseIdx j).length ≤ ws.length := (List.eraseIdx_sublist ws j).length_le
        omega
theorem kRemX {K : PySem.W.Frag} (hu : X.A.units + 65 < cLine) (h : X.K = K := by rfl) : MtM X "list.remove" (rRemX K) := h ▸ mt_removeX hu
end
def remXM (ds es : List D) : Option (List D × D) := match es with
  | [d] => if SeqAt.shaped (.list ds) && SeqAt.shaped d then (ds.findIdx? fun z => PyData.eqv z d).map fun j => (ds.eraseIdx j, .none) else none
  | _ => none
section
variable {K : PySem.W.Frag}
theorem RepL.eraseIdx {H : Hp} : ∀ {vs : List V} {ds : List D} (j : Nat), RepL K H vs ds → RepL K H (vs.eraseIdx j) (ds.eraseIdx j)
  | _, _, _, .nil => by simp; exact .nil
  | _, _, 0, .cons a r => by simp; exact r
  | _, _, j + 1, .cons a r => by simp; exact .cons a (RepL.eraseIdx j r)
theorem rm_removeX : RMD K (rRemX K) remXM := by
  intro F H l vs ds xs es ds' z Q ex hl r ra h k
  unfold remXM at h
  split at h
  · rename_i d
    obtain ⟨x, rfl, rx⟩ := ra.one'
    split at h
    · rename_i c
      rw [Bool.and_eq_true] at c
      cases q : ds.findIdx? fun z => PyData.eqv z d with
      | none => rw [q] at h; cases h
      | some j =>
        rw [q] at h
        cases h
        obtain ⟨hj, h1, h2⟩ := List.findIdx?_eq_some_iff_getElem.mp q
        have cl : (PyData.list ds).canLay0 = true := SeqAt.canLay_of_shaped c.1
        refine ⟨l, vs, x, d, ds, j, ds[j], rfl, rfl, hl, RepL.dp (by simpa [PyData.canLay0] using cl) (r.mono ex), (rx.mono ex).dp (SeqAt.canLay_of_shaped c.2), c.1, c.2, List.getElem?_eq_getElem hj, h1, fun m z' hm hz' => ?_, ?_⟩
        · obtain ⟨hm', e⟩ := List.getElem?_eq_some_iff.mp hz'
          have := h2 m hm
          rw [e] at this
          simpa using this
        · exact k _ _ (r.eraseIdx j) .non
    · cases h
  · cases h
end
theorem find_erase {α : Type} [DecidableEq α] {x : α} : ∀ {xs : List α}, x ∈ xs → ∃ j, xs.findIdx? (fun y => decide (y = x)) = some j ∧ xs.eraseIdx j = xs.erase x
  | a :: xs, h => by
    by_cases c : a = x
    · subst c
      exact ⟨0, by rw [List.findIdx?_cons, decide_eq_true rfl]; rfl, by simp⟩
    · obtain ⟨j, h1, h2⟩ := find_erase ((List.mem_cons.mp h).resolve_left fun z => c z.symm)
      refine ⟨j + 1, ?_, ?_⟩
      · rw [List.findIdx?_cons, decide_eq_false c, h1]; rfl
      · rw [List.eraseIdx_cons_succ, h2, List.erase_cons_tail (by simpa using c)]
theorem map_erase' {α : Type} {f : α → D} : ∀ (xs : List α) (j : Nat), (xs.map f).eraseIdx j = (xs.eraseIdx j).map f
  | [], j => by simp
  | a :: xs, 0 => by simp
  | a :: xs, j + 1 => by
    rw [List.map_cons, List.eraseIdx_cons_succ, List.eraseIdx_cons_succ, List.map_cons, map_erase' xs j]
/-- the first one alike, of data of one kind -/
theorem remX_ok {α : Type} [DecidableEq α] {n : Nat} {f : α → D} (G : Gr n f) (h : n ≤ 62) {xs : List α} {x : α} (hx : x ∈ xs) : remXM (xs.map f) [f x] = some ((xs.erase x).map f, .none) := by
  obtain ⟨j, h1, h2⟩ := find_erase hx
  show (if SeqAt.shaped (.list (xs.map f)) && SeqAt.shaped (f x) then ((xs.map f).findIdx? fun z => PyData.eqv z (f x)).map fun j => ((xs.map f).eraseIdx j, PyData.none) else none) = _
  rw [(gr_list G).shaped (by omega) xs, G.shaped (by omega) x, List.findIdx?_map]
  have e : (fun z => PyData.eqv z (f x)) ∘ f = fun y => decide (y = x) := by funext y; exact G.eqv y x
  rw [e, h1]
  show some ((xs.map f).eraseIdx j, PyData.none) = _
  rw [← h2, map_erase']
end Dn

set_option Elab.async false
set_option linter.all false
set_option maxRecDepth 100000
set_option maxHeartbeats 4000000
/-! DenZW: < of alike data (lists of tuples of whole numbers ..) -/
namespace Dn
open PySem PySem.Spec PyProof.Rows L2
def rLtX (K : PySem.W.Frag) : R2 := fun x y H Q => ∃ d e, Dp K H x d ∧ Dp K H y e ∧ PySem.W.alike d e = true ∧ d ≠ .none ∧ d.depth ≤ 60 ∧ Q (.bl (PySem.W.dataLt d e)) H
section
variable {X : Cx} {K : PySem.W.Frag}
theorem op_ltX (hu : X.A.units + 64 < cLine) : OpR X (compareOp .Lt) (rLtX X.K) := by
  intro pins s σ H x y v u Q I rx ry h
  obtain ⟨d, e, hd, he, al, nn, dp, q⟩ := h
  obtain ⟨as, r1⟩ := Dp.reads I d x v hd rx
  obtain ⟨bs, r2⟩ := Dp.reads I e y u he ry
  have hroom : X.A.units + min d.depth e.depth < cLine := by
    have : min d.depth e.depth ≤ d.depth := Nat.min_le_left _ _
    omega
  exact PySem.W.rcLt_alike d e X.A s v u as bs r1 r2 al nn hroom _ _ _ _ ⟨.bl _, H, I, rfl, q⟩
theorem kLtX (hu : X.A.units + 64 < cLine) (h : X.K = K := by rfl) : OpR X (compareOp .Lt) (rLtX K) := h ▸ op_ltX hu
end
def isNonD : D → Bool
  | .none => true
  | _ => false
def ltXD (d e : D) : Option D := if d.canLay0 && e.canLay0 && PySem.W.alike d e && !isNonD d && decide (d.depth ≤ 60) then some (.bool (PySem.W.dataLt d e)) else none
section
variable {K : PySem.W.Frag}
theorem rd_ltX : R2D K (rLtX K) ltXD := by
  intro F H x y d e Q z ex rx ry h k
  unfold ltXD at h
  split at h
  · rename_i c
    simp only [Bool.and_eq_true, decide_eq_true_eq] at c
    obtain ⟨⟨⟨⟨c1, c2⟩, c3⟩, c4⟩, c5⟩ := c
    cases h
    refine ⟨d, e, (rx.now ex).dp c1, (ry.now ex).dp c2, c3, fun z => ?_, c5, k.here ex (.bl _)⟩
    subst z
    cases c4
  · cases h
end
/-! ### divmod by a greater number -/
open Classical in
noncomputable def divmodWD : List D → Option D
  | [.int i, .int j] => if 0 < j ∧ j.natAbs.log2 < 9000 then some (.tuple [.int (i / j), .int (i % j)]) else none
  | _ => none
def rDivmodW : List V → Hp → VK → Prop := fun xs H Q => ∃ i j, xs = [.int i, .int j] ∧ CDivW i j ∧ ∀ p, H p = none → Q (.ref p) (upd H p (.tup [.int (i / j), .int (i % j)]))
section
variable {X : Cx}
theorem kDivmodW : CallR X (.builtin "divmod") rDivmodW := by
  intro pins s σ H xs us Q I r h
  obtain ⟨i, j, rfl, ⟨h1, h2⟩, q⟩ := h
  exact call_divmodW pins s σ H _ us Q I r ⟨i, j, rfl, ⟨h1, PyProof.noPylong_of_log2 h2⟩, q⟩
end
section
variable {K : PySem.W.Frag}
theorem rc_divmodW : RCD K rDivmodW divmodWD := by
  intro F H xs ds Q z ex rx h k
  unfold divmodWD at h
  split at h
  · split at h
    · rename_i i j c
      cases h
      obtain ⟨x, y, rfl, r, r'⟩ := rx.two
      obtain rfl := r.isi
      obtain rfl := r'.isi
      exact ⟨i, j, rfl, c, k.newT ex (.cons (.int _) (.cons (.int _) .nil))⟩
    · cases h
  · cases h
end
theorem divmodW_pos {x y : Int} (h : 0 < y) (h2 : y < 2 ^ 62) : divmodWD [.int x, .int y] = some (.tuple [.int (x / y), .int (x % y)]) := if_pos ⟨h, log_small h h2⟩
end Dn

set_option Elab.async false
set_option linter.all false
set_option maxRecDepth 100000
set_option maxHeartbeats 4000000
/-! DenZX: a list of one's own lists, as long as it changes -/
namespace Dn
open PySem L2
/-- the mark of the slot that holds the outer list -/
def mkE : S := .err ""
def nlD (dss : List (List D)) : D := .list (dss.map .list)
structure Nst (K : PySem.W.Frag) (H0 H1 F : Hp) (a : Addr) (bs : List Addr) (dss : List (List D)) : Prop where
  ex : Ex H0 H1
  za : H0 a = none
  zb : ∀ b ∈ bs, H0 b = none
  fa : F a = none
  fb : ∀ b ∈ bs, F b = none
  ha : H1 a = some (.lst (bs.map V.ref))
  nd : (a :: bs).Nodup
  ln : bs.length = dss.length
  hb : ∀ (j : Nat) (b : Addr) (ds : List D), bs[j]? = some b → dss[j]? = some ds → ∃ vs, H1 b = some (.lst vs) ∧ RepL K F vs ds
def EnvN (K : PySem.W.Frag) (i : Nat) (L1 : Addr) (F0 H0 F H : Hp) (σ : St) (ρ : Fr) : Prop :=
  ∃ (a : Addr) (bs : List Addr) (dss : List (List D)) (H1 : Hp), Env K (L1, a) F0 H1 F H σ (ρ.set i mkE) ∧ ρ[i]? = some (.val (nlD dss)) ∧ noErr ρ = true ∧ Nst K H0 H1 F a bs dss
def WOn (K : PySem.W.Frag) (i : Nat) (L1 : Addr) (F0 H0 F : Hp) (D : Ends) : Out → Prop
  | .nx ρ => ∀ F' H' σ', Ex F F' → EnvN K i L1 F0 H0 F' H' σ' ρ → D.nx σ' H'
  | _ => False
def DSn (K : PySem.W.Frag) (mg : Str → Option Value) (W : WX) (i : Nat) (t : TS) (g : MS) : Prop :=
  ∀ L1 F0 H0 F H σ ρ D, EnvN K i L1 F0 H0 F H σ ρ → WOn K i L1 F0 H0 F D (g ρ) → t D σ H
section
variable {K : PySem.W.Frag} {mg : Str → Option Value} {W : WX} {i : Nat} {L1 a : Addr} {F0 H0 H1 F H F' H' : Hp} {σ : St} {ρ ρ' : Fr} {D : Ends} {bs : List Addr} {dss : List (List Dn.D)}
theorem WOn.mono {o : Out} (s : Ex F F') (w : WOn K i L1 F0 H0 F D o) : WOn K i L1 F0 H0 F' D o := by
  cases o with
  | nx ρ => exact fun F1 H1 σ1 e => w F1 H1 σ1 (s.trans e)
  | brk ρ => exact w
  | cont ρ => exact w
  | ret d ρ => exact w
  | retL ds ρ => exact w
  | exc n ρ => exact w
  | stuck => exact w
theorem WOn.of {α : Type} {m : M α} {k : α → Out} {ke : Str → Prop} (w : WOn K i L1 F0 H0 F D (Out.of m ρ k)) : post m (fun a => WOn K i L1 F0 H0 F D (k a)) ke := by
  cases m with
  | ok a => exact w
  | exc n => exact w.elim
  | stuck => exact w.elim
theorem WOn.ofO {α : Type} {m : Option α} {k : α → Out} (w : WOn K i L1 F0 H0 F D (Out.ofO m k)) : ∃ a, m = some a ∧ WOn K i L1 F0 H0 F D (k a) := by
  cases m with
  | some a => exact ⟨a, rfl, w⟩
  | none => exact w.elim
/-- the nest behind steps that keep what stood -/
theorem Nst.on (N : Nst K H0 H1 F a bs dss) (e : Ex F F') (s : Step F0 H1 F' H') (f0 : Ex F0 F) : Nst K H0 H1 F' a bs dss := by
  have z : ∀ p o, F p = none → H1 p = some o → NTup o → F' p = none := fun p o h1 h2 h3 => by
    refine s.nw p o ?_ h2 h3
    cases q : F0 p with
    | none => rfl
    | some u => rw [f0 p u q] at h1; cases h1
  refine ⟨N.ex, N.za, N.zb, z _ _ N.fa N.ha (fun _ q => nomatch q), fun b hb => ?_, N.ha, N.nd, N.ln, fun j b ds h1 h2 => ?_⟩
  · obtain ⟨j, hj, e⟩ := List.getElem_of_mem hb
    obtain ⟨vs, hv, _⟩ := N.hb j b (dss[j]'(by rw [← N.ln]; exact hj)) (by rw [List.getElem?_eq_getElem hj, e]) (List.getElem?_eq_getElem _)
    exact z _ _ (N.fb b hb) hv (fun _ q => nomatch q)
  · obtain ⟨vs, hv, r⟩ := N.hb j b ds h1 h2
    exact ⟨vs, hv, r.mono e⟩
def errAt (i : Nat) (ρ : Fr) : Bool := match ρ[i]? with
  | some s => isErr s
  | none => false
theorem errAt_is (h : errAt i ρ = true) : ∃ n, ρ[i]? = some (.err n) := by
  unfold errAt at h
  cases q : ρ[i]? with
  | none => rw [q] at h; cases h
  | some s =>
    rw [q] at h
    cases s with
    | err n => exact ⟨n, rfl⟩
    | none => cases h
    | val d => cases h
    | own d => cases h
    | pin d => cases h
theorem Env.mark {L : Addr × Addr} (E : Env K L F0 H0 F H σ ρ) {n : Str} (h : ρ[i]? = some (.err n)) : Env K L F0 H0 F H σ (ρ.set i mkE) where
  st := E.st
  len := by rw [List.length_set]; exact E.len
  sl := fun j s q => by
    rcases set_get q with ⟨e, es, _⟩ | ⟨_, h'⟩
    · subst e; subst es
      have z := E.sl i _ h
      exact z
    · exact E.sl j s h'
  sep := fun j k l h1 h2 e1 e2 => by
    have nj := own_ne (s := mkE) rfl h1
    have nk := own_ne (s := mkE) rfl h2
    rw [List.getElem?_set_ne nj] at h1
    rw [List.getElem?_set_ne nk] at h2
    exact E.sep j k l h1 h2 e1 e2
/-- a frame behind a statement that leaves the nest alone -/
def backN (i : Nat) (s : S) (ρ1 : Fr) : Option Fr := if errAt i ρ1 && noErr (ρ1.set i s) then some (ρ1.set i s) else none
theorem backN_env {s : S} {ρ1 ρ2 : Fr} (q : backN i s ρ1 = some ρ2) (hs : s = .val (nlD dss)) (N : Nst K H0 H1 F a bs dss) (f0 : Ex F0 F) (e : Ex F F') (E : Env K (L1, a) F0 H1 F' H' σ ρ1) : EnvN K i L1 F0 H0 F' H' σ ρ2 := by
  unfold backN at q
  split at q
  · rename_i c
    cases q
    rw [Bool.and_eq_true] at c
    obtain ⟨n, hn⟩ := errAt_is c.1
    have hl := (List.getElem?_eq_some_iff.mp hn).1
    refine ⟨a, bs, dss, H1, ?_, ?_, c.2, N.on e E.st f0⟩
    · rw [List.set_set]
      exact E.mark hn
    · rw [List.getElem?_set_self hl, hs]
  · cases q
/-- a statement that leaves the nest alone -/
def sLift (i : Nat) (g : MS) : MS := fun ρ => Out.ofO ρ[i]? fun s => match g (ρ.set i mkE) with
  | .nx ρ1 => Out.ofO (backN i s ρ1) .nx
  | _ => .stuck
theorem dsn_lift {t : TS} {g : MS} (h : ∀ L, DS K L mg W t g) : DSn K mg W i t (sLift i g) := fun L1 F0 H0 F H σ ρ D ⟨a, bs, dss, H1, E, hi, ne, N⟩ w => by
  refine h (L1, a) F0 H1 F H σ _ D E ?_
  unfold sLift at w
  rw [hi] at w
  have w : WOn K i L1 F0 H0 F D (match g (ρ.set i mkE) with
    | .nx ρ1 => Out.ofO (backN i (.val (nlD dss)) ρ1) .nx
    | _ => .stuck) := w
  cases q : g (ρ.set i mkE) with
  | nx ρ1 =>
    rw [q] at w
    obtain ⟨ρ2, q2, w2⟩ := WOn.ofO w
    exact fun F' H' σ' e E' => w2 F' H' σ' e (backN_env q2 rfl N E.st.ff e E')
  | brk ρ => rw [q] at w; exact w.elim
  | cont ρ => rw [q] at w; exact w.elim
  | ret d ρ => rw [q] at w; exact w.elim
  | retL ds ρ => rw [q] at w; exact w.elim
  | exc n ρ => rw [q] at w; exact w.elim
  | stuck => rw [q] at w; exact w.elim
theorem dsn_next : DSn K mg W i tNext sNext := fun L1 F0 H0 F H σ ρ D E w => w F H σ (Ex.refl _) E
theorem dsn_seq {t u : TS} {g h : MS} (h1 : DSn K mg W i t g) (h2 : DSn K mg W i u h) : DSn K mg W i (tSeq t u) (sSeq g h) := fun L1 F0 H0 F H σ ρ D E w => by
  refine h1 L1 F0 H0 F H σ ρ _ E ?_
  unfold sSeq at w
  cases q : g ρ with
  | nx ρ' => rw [q] at w; exact fun F1 H1 σ1 e E1 => h2 L1 F0 H0 F1 H1 σ1 ρ' D E1 (w.mono e)
  | brk ρ => rw [q] at w; exact w
  | cont ρ => rw [q] at w; exact w
  | ret d ρ => rw [q] at w; exact w
  | retL ds ρ => rw [q] at w; exact w
  | exc n ρ => rw [q] at w; exact w
  | stuck => rw [q] at w; exact w
/-- an expression ahead keeps the nest -/
theorem EnvN.step {L : Unit} (E : Env K (L1, a) F0 H1 F H σ (ρ.set i mkE)) (N : Nst K H0 H1 F a bs dss) (s : Step F H F' H') : Env K (L1, a) F0 H1 F' H' σ (ρ.set i mkE) ∧ Nst K H0 H1 F' a bs dss :=
  ⟨E.step s, N.on s.ff (E.step s).st E.st.ff⟩
def sIfN (i : Nat) (tf : MT) (g h : MS) : MS := fun ρ => Out.of (tf (ρ.set i mkE)) ρ fun b => if b = true then g ρ else h ρ
theorem dsn_if {tt : TT} {tf : MT} {t u : TS} {g h : MS} (ht : ∀ L, DT K L mg W tt tf) (h1 : DSn K mg W i t g) (h2 : DSn K mg W i u h) : DSn K mg W i (tIfS tt t u) (sIfN i tf g h) := fun L1 F0 H0 F H σ ρ D ⟨a, bs, dss, H1, E, hi, ne, N⟩ w => by
  refine ht (L1, a) F0 H1 F H σ _ _ E (post_mono (WOn.of w) (fun c k F1 H2 s => ?_) fun _ z => z)
  have EN : EnvN K i L1 F0 H0 F1 H2 σ ρ := ⟨a, bs, dss, H1, E.step s, hi, ne, N.on s.ff (E.step s).st E.st.ff⟩
  cases c with
  | true => exact iteT (h1 L1 F0 H0 F1 H2 σ ρ D EN (WOn.mono s.ff k))
  | false => exact iteF (h2 L1 F0 H0 F1 H2 σ ρ D EN (WOn.mono s.ff k))
end
end Dn

set_option Elab.async false
set_option linter.all false
set_option maxRecDepth 100000
set_option maxHeartbeats 4000000
/-! DenZY: a list of one's own lists: the inner lists change; loops; how it begins and ends -/
namespace Dn
open PySem L2
section
variable {K : PySem.W.Frag} {mg : Str → Option Value} {W : WX} {i : Nat} {L1 a b : Addr} {L : Addr × Addr} {F0 H0 H1 F H F' H' : Hp} {σ : St} {ρ ρ' : Fr} {D : Ends} {bs : List Addr} {dss : List (List Dn.D)} {ho o : HO}
theorem Env.both (E : Env K L F0 H1 F H σ ρ) (fb : F b = none) (hb : H1 b = some o) : Env K L F0 (upd H1 b ho) F (upd H b ho) σ ρ where
  st := by
    refine ⟨E.st.ff, E.st.hh.upd, fun x u h1 h2 h3 => ?_, fun x u q => ?_⟩
    · by_cases z : x = b
      · rw [z]; exact fb
      · rw [upd_ne z] at h2; exact E.st.nw x u h1 h2 h3
    · rw [upd_ne (ne_of_none q fb)]; exact E.st.fh x u q
  len := E.len
  sl := fun j s q => by
    have z := E.sl j s q
    cases s with
    | none => trivial
    | err n => exact z
    | val d => exact z
    | own us =>
      obtain ⟨m, ho2, e, f2, h2, hH2, rr⟩ := z
      have ne : m ≠ b := fun q => by rw [q, hb] at h2; cases h2
      exact ⟨m, ho2, e, f2, by rw [upd_ne ne]; exact h2, by rw [upd_ne ne]; exact hH2, rr⟩
    | pin us =>
      obtain ⟨e, f2, h2, ho2, hH2, rr⟩ := z
      have ne : L.1 ≠ b := fun q => by rw [q, hb] at h2; cases h2
      exact ⟨e, f2, by rw [upd_ne ne]; exact h2, ho2, by rw [upd_ne ne]; exact hH2, rr⟩
  sep := E.sep
def mutAt (fm : List Dn.D → List Dn.D → Option (List Dn.D × Dn.D)) (ls : List Dn.D) : Dn.D → List Dn.D → Option (List Dn.D)
  | .int j, es => (ixN ls.length j).bind fun n => match ls[n]? with
    | some (.list ds) => (fm ds es).map fun r => ls.set n (.list r.1)
    | _ => none
  | _, _ => none
/-- l[k].m(..) that changes the inner list -/
def sMutN (i : Nat) (kf : ME) (fm : List Dn.D → List Dn.D → Option (List Dn.D × Dn.D)) (as : ML) : MS := fun ρ => match ρ[i]? with
  | some (.val (.list ls)) => Out.of (kf (ρ.set i mkE)) ρ fun j => Out.of (as (ρ.set i mkE)) ρ fun es => Out.ofO (mutAt fm ls j es) fun ls' => .nx (ρ.set i (.val (.list ls')))
  | _ => .stuck
theorem Nst.mut {n : Nat} {ws : List V} {ds' : List Dn.D} (N : Nst K H0 H1 F a bs dss) (hn : bs[n]? = some b) (r : RepL K F ws ds') : Nst K H0 (upd H1 b (.lst ws)) F a bs (dss.set n ds') := by
  have mb := List.mem_of_getElem? hn
  obtain ⟨na, nb⟩ := List.nodup_cons.mp N.nd
  have ab : a ≠ b := fun z => na (by rw [z]; exact mb)
  refine ⟨fun x u q => ?_, N.za, N.zb, N.fa, N.fb, by rw [upd_ne ab]; exact N.ha, N.nd, by rw [List.length_set]; exact N.ln, fun j b' ds h1 h2 => ?_⟩
  · rw [upd_ne (ne_of_none q (N.zb b mb))]; exact N.ex x u q
  · obtain ⟨l1, e1⟩ := List.getElem?_eq_some_iff.mp h1
    obtain ⟨l2, e2⟩ := List.getElem?_eq_some_iff.mp hn
    by_cases c : n = j
    · subst c
      have : b' = b := by rw [← e1, ← e2]
      subst this
      rw [List.getElem?_set_self (by rw [← N.ln]; exact l1)] at h2
      cases h2
      exact ⟨ws, upd_same, r⟩
    · rw [List.getElem?_set_ne c] at h2
      have ne : b' ≠ b := fun z => c ((List.getElem_inj nb).mp (by rw [e1, e2, z])).symm
      obtain ⟨vs, hv, r'⟩ := N.hb j b' ds h1 h2
      exact ⟨vs, by rw [upd_ne ne]; exact hv, r'⟩
theorem dsn_mut {r : V → List V → Hp → VK → Prop} {fm : List Dn.D → List Dn.D → Option (List Dn.D × Dn.D)} {tk : TE} {kf : ME} {tas : TA} {as : ML} (hr : RMD K r fm) (hk : ∀ L, DE K L mg W tk kf) (ha : ∀ L, DAF K L mg W tas as) :
    DSn K mg W i (tDrop (tBM K "list" r (tOp (rIx K) (tVar i) tk) tas)) (sMutN i kf fm as) := fun L1 F0 H0 F H σ ρ D ⟨a, bs, dss, H1, E, hi, ne, N⟩ w => by
  have li := (List.getElem?_eq_some_iff.mp hi).1
  unfold sMutN at w
  rw [hi] at w
  have w : WOn K i L1 F0 H0 F D (Out.of (kf (ρ.set i mkE)) ρ fun j => Out.of (as (ρ.set i mkE)) ρ fun es => Out.ofO (mutAt fm (dss.map .list) j es) fun ls' => .nx (ρ.set i (.val (.list ls')))) := w
  have el : σ[i]? = some (some (.ref a)) := join_some (E.sl i mkE (List.getElem?_set_self li))
  show tBM K "list" r (tOp (rIx K) (tVar i) tk) tas σ H fun _ H' => D.nx σ H'
  refine ⟨_, el, ?_⟩
  refine hk (L1, a) F0 H1 F H σ _ _ E (post_mono (WOn.of w) (fun j k F2 H2 y s r1 => ?_) fun _ z => z)
  have E2 := E.step s
  have N2 := N.on s.ff E2.st E.st.ff
  cases q : as (ρ.set i mkE) with
  | exc n => rw [q] at k; exact k.elim
  | stuck => rw [q] at k; exact k.elim
  | ok es =>
    rw [q] at k
    obtain ⟨ls', q2, k2⟩ := WOn.ofO k
    cases j with
    | int jj =>
      have q2 : ((ixN (dss.map PyData.list).length jj).bind fun n => match (dss.map PyData.list)[n]? with
        | some (.list ds) => (fm ds es).map fun r => (dss.map PyData.list).set n (.list r.1)
        | _ => none) = some ls' := q2
      rw [List.length_map] at q2
      cases qj : ixN dss.length jj with
      | none => rw [qj] at q2; cases q2
      | some n =>
        rw [qj] at q2
        have q2 : (match (dss.map PyData.list)[n]? with
          | some (.list ds) => (fm ds es).map fun r => (dss.map PyData.list).set n (.list r.1)
          | _ => none) = some ls' := q2
        rw [List.getElem?_map] at q2
        cases qd : dss[n]? with
        | none => rw [qd] at q2; cases q2
        | some ds =>
          rw [qd] at q2
          have q2 : ((fm ds es).map fun r => (dss.map PyData.list).set n (.list r.1)) = some ls' := q2
          cases qf : fm ds es with
          | none => rw [qf] at q2; cases q2
          | some rz =>
            obtain ⟨ds', z⟩ := rz
            rw [qf] at q2
            cases q2
            have nl := (List.getElem?_eq_some_iff.mp qd).1
            have nb : n < bs.length := by rw [N.ln]; exact nl
            have hb : bs[n]? = some bs[n] := List.getElem?_eq_getElem nb
            generalize bs[n] = b at hb
            have mb := List.mem_of_getElem? hb
            obtain ⟨vs, hv, rl⟩ := N2.hb n b ds hb qd
            obtain rfl := r1.isi
            have hA : H2 a = some (.lst (bs.map V.ref)) := E2.st.hh _ _ N.ha
            have hB : H2 b = some (.lst vs) := E2.st.hh _ _ hv
            refine .inl ⟨a, bs.map V.ref, jj, .ref b, rfl, rfl, SqL.of hA, ?_, .inl ⟨rfl, _, SqL.of hB⟩, ?_⟩
            · unfold atI
              rw [List.length_map, N.ln, qj]
              show (bs.map V.ref)[n]? = _
              rw [List.getElem?_map, hb]
              rfl
            · refine ha (L1, a) F0 H1 F2 H2 σ _ _ E2 ?_
              rw [q]
              intro F3 H3 xs s3 r3
              have E3 := E2.step s3
              have N3 := N2.on s3.ff E3.st E2.st.ff
              obtain ⟨vs3, hv3, rl3⟩ := N3.hb n b ds hb qd
              have hB3 : H3 b = some (.lst vs3) := E3.st.hh _ _ hv3
              refine hr F3 H3 b vs3 ds xs es ds' z _ E3.st.fh hB3 rl3 r3 qf fun ws v rw' rz => ?_
              have e1 : (dss.map PyData.list).set n (.list ds') = (dss.set n ds').map .list := by rw [List.map_set]
              have k2 : WOn K i L1 F0 H0 F D (.nx (ρ.set i (.val (.list ((dss.map PyData.list).set n (.list ds')))))) := k2
              rw [e1] at k2
              refine k2 F3 _ σ (s.ff.trans s3.ff) ⟨a, bs, dss.set n ds', upd H1 b (.lst ws), ?_, List.getElem?_set_self li, noErr_set ne _ rfl, N3.mut hb rw'⟩
              rw [List.set_set]
              exact E3.both (N3.fb b mb) hv3
    | _ => cases q2
/-- a loop -/
def tgN (i : Nat) (tg : Dn.D → Fr → Option Fr) : Dn.D → Fr → Option Fr := fun d ρ => ρ[i]?.bind fun s => (tg d (ρ.set i mkE)).bind fun ρ1 => backN i s ρ1
def loopN (tg : Dn.D → Fr → Option Fr) (g : MS) : List Dn.D → Fr → Out
  | [], ρ => .nx ρ
  | d :: ds, ρ => Out.ofO (tg d ρ) fun ρ1 => match g ρ1 with
    | .nx ρ2 => loopN tg g ds ρ2
    | _ => .stuck
def sForM (i : Nat) (f : ML) (tg : Dn.D → Fr → Option Fr) (g : MS) : MS := fun ρ => Out.of (f (ρ.set i mkE)) ρ fun ds => loopN (tgN i tg) g ds ρ
theorem dsn_for {wi : TI} {f : ML} {gg : TG} {tg : Dn.D → Fr → Option Fr} {is : List Nat} {t : TS} {g : MS} (hi : ∀ L, DI K L mg W wi f) (hg : ∀ L, DG K L gg tg is) (hb : DSn K mg W i t g) : DSn K mg W i (tFor wi gg t) (sForM i f tg g) := fun L1 F0 H0 F H σ ρ D ⟨a, bs, dss, H1, E, hi', ne, N⟩ w => by
  refine hi (L1, a) F0 H1 F H σ _ _ E (post_mono (WOn.of w) (fun ds w1 F1 H2 J s src => ?_) fun _ z => z)
  obtain ⟨G, Y, wk, hG, hY⟩ := src
  have EN : EnvN K i L1 F0 H0 F1 H2 σ ρ := ⟨a, bs, dss, H1, E.step s, hi', ne, N.on s.ff (E.step s).st E.st.ff⟩
  refine for_it wk (fun j σ H => ∃ F ρ, Ex F1 F ∧ EnvN K i L1 F0 H0 F H σ ρ ∧ WOn K i L1 F0 H0 F D (loopN (tgN i tg) g (ds.drop j) ρ)) ⟨F1, ρ, Ex.refl _, EN, by rw [List.drop_zero]; exact WOn.mono s.ff w1⟩
    (fun j σ H _ ⟨F, ρ, e, ⟨_, _, _, _, E, _⟩, _⟩ => hG F H e E.st.fh) ?_ ?_
  · rintro j x σ2 H2 H3 hlt ⟨F2, ρ2, e2, ⟨a2, bs2, dss2, H12, E2, hi2, ne2, N2⟩, w2⟩ y
    obtain ⟨F3, d, s3, hd, r3⟩ := hY j F2 H2 x H3 hlt e2 E2.st.fh y
    have ed : ds.drop j = d :: ds.drop (j + 1) := by
      obtain ⟨h1, h2⟩ := List.getElem?_eq_some_iff.mp hd
      rw [List.drop_eq_getElem_cons h1, h2]
    rw [ed] at w2
    have w3 := WOn.mono s3.ff w2
    unfold loopN at w3
    obtain ⟨ρ3, q3, w4⟩ := WOn.ofO w3
    unfold tgN at q3
    rw [hi2] at q3
    have q3 : ((tg d (ρ2.set i mkE)).bind fun ρ1 => backN i (.val (nlD dss2)) ρ1) = some ρ3 := q3
    cases q4 : tg d (ρ2.set i mkE) with
    | none => rw [q4] at q3; cases q3
    | some ρ1 =>
      rw [q4] at q3
      refine hg (L1, a2) F0 H12 F3 H3 σ2 _ x d _ ρ1 (E2.step s3) r3 q4 fun σ3 E3 _ => ?_
      refine hb L1 F0 H0 F3 H3 σ3 ρ3 _ (backN_env q3 rfl N2 E2.st.ff s3.ff E3) ?_
      cases qq : g ρ3 with
      | nx ρ4 => rw [qq] at w4; exact fun F4 H4 σ4 e4 E4 => ⟨F4, ρ4, e2.trans (s3.ff.trans e4), E4, WOn.mono e4 w4⟩
      | cont ρ4 => rw [qq] at w4; exact w4
      | brk ρ4 => rw [qq] at w4; exact w4
      | ret d ρ => rw [qq] at w4; exact w4
      | retL ds ρ => rw [qq] at w4; exact w4
      | exc n ρ => rw [qq] at w4; exact w4
      | stuck => rw [qq] at w4; exact w4
  · rintro σ2 H2 ⟨F2, ρ2, e2, E2, w2⟩
    rw [List.drop_length] at w2
    exact w2 F2 H2 σ2 (Ex.refl _) E2
theorem err_no (h : noErr ρ = true) {j : Nat} {n : Str} (q : ρ[j]? = some (.err n)) : False := by
  unfold noErr at h
  have := List.all_eq_true.mp h _ (List.mem_of_getElem? q)
  cases this
/-- the nest is frozen -/
theorem EnvN.out (X : EnvN K i L.1 F0 H0 F H σ ρ) : ∃ F', Ex F F' ∧ Env K L F0 H0 F' H σ ρ := by
  obtain ⟨a, bs, dss, H1, E, hi, ne, N⟩ := X
  have li := (List.getElem?_eq_some_iff.mp hi).1
  have el : σ[i]?.join = some (.ref a) := E.sl i mkE (List.getElem?_set_self li)
  obtain ⟨na, nb⟩ := List.nodup_cons.mp N.nd
  let F' : Hp := fun p => if p = a then H1 a else if p ∈ bs then H1 p else F p
  have Fa : F' a = some (.lst (bs.map V.ref)) := by show (if a = a then H1 a else _) = _; rw [if_pos rfl]; exact N.ha
  have Fb : ∀ b ∈ bs, F' b = H1 b := fun b hb => by
    show (if b = a then H1 a else if b ∈ bs then H1 b else F b) = _
    rw [if_neg (fun z => na (by rw [← z]; exact hb)), if_pos hb]
  have Fo : ∀ p, p ≠ a → p ∉ bs → F' p = F p := fun p h1 h2 => by
    show (if p = a then H1 a else if p ∈ bs then H1 p else F p) = _
    rw [if_neg h1, if_neg h2]
  have ef : Ex F F' := fun p o q => by
    rw [Fo p (ne_of_none q N.fa) (fun z => by rw [N.fb p z] at q; cases q)]
    exact q
  have h1b : ∀ b ∈ bs, ∃ o, H1 b = some o := fun b hb => by
    obtain ⟨j, hj, e⟩ := List.getElem_of_mem hb
    obtain ⟨vs, hv, _⟩ := N.hb j b (dss[j]'(by rw [← N.ln]; exact hj)) (by rw [List.getElem?_eq_getElem hj, e]) (List.getElem?_eq_getElem _)
    exact ⟨_, hv⟩
  have own : ∀ l, H1 l = none → l ≠ a ∧ l ∉ bs := fun l hl => ⟨fun z => (by rw [z, N.ha] at hl; cases hl), fun z => by obtain ⟨o, ho⟩ := h1b l z; rw [ho] at hl; cases hl⟩
  have z0 : ∀ l, H1 l = none → H0 l = none := fun l hl => by
    cases q : H0 l with
    | none => rfl
    | some o => rw [N.ex l o q] at hl; cases hl
  refine ⟨F', ef, ⟨E.st.ff.trans ef, N.ex.trans E.st.hh, fun x o h1 h2 h3 => ?_, fun x o q => ?_⟩, by have := E.len; rw [List.length_set] at this; exact this, fun j s q => ?_, fun j k l h1 h2 e1 e2 => ?_⟩
  · rw [Fo x (ne_of_none h2 N.za) (fun z => by rw [N.zb x z] at h2; cases h2)]
    exact E.st.nw x o h1 (N.ex x o h2) h3
  · by_cases c1 : x = a
    · rw [c1, Fa] at q; rw [c1, ← q]; exact E.st.hh _ _ N.ha
    · by_cases c2 : x ∈ bs
      · rw [Fb x c2] at q; exact E.st.hh _ _ q
      · rw [Fo x c1 c2] at q; exact E.st.fh _ _ q
  · by_cases c : i = j
    · subst c
      rw [hi] at q
      cases q
      refine ⟨.ref a, el, ?_⟩
      have rl : RepL K F' (bs.map V.ref) (dss.map PyData.list) := by
        have key : ∀ (bs : List Addr) (dss : List (List Dn.D)), bs.length = dss.length → (∀ (j : Nat) (b : Addr) (ds : List Dn.D), bs[j]? = some b → dss[j]? = some ds → ∃ vs, F' b = some (.lst vs) ∧ RepL K F' vs ds) → RepL K F' (bs.map V.ref) (dss.map PyData.list) := by
          intro bs
          induction bs with
          | nil => intro dss hl _; cases dss with | nil => exact .nil | cons _ _ => cases hl
          | cons b bs ih =>
            intro dss hl hb
            cases dss with
            | nil => cases hl
            | cons ds dss =>
              obtain ⟨vs, hv, r⟩ := hb 0 b ds rfl rfl
              refine .cons (.lst hv r) (ih dss (by simpa using hl) fun j b' ds' h1 h2 => hb (j + 1) b' ds' (by simpa using h1) (by simpa using h2))
        refine key bs dss N.ln fun j b ds h1 h2 => ?_
        obtain ⟨vs, hv, r⟩ := N.hb j b ds h1 h2
        exact ⟨vs, by rw [Fb b (List.mem_of_getElem? h1)]; exact hv, r.mono ef⟩
      exact .lst Fa rl
    · have z := E.sl j s (by rw [List.getElem?_set_ne c]; exact q)
      cases s with
      | none => trivial
      | err n => exact (err_no ne q).elim
      | val d => obtain ⟨v, e, r⟩ := z; exact ⟨v, e, r.mono ef⟩
      | own us =>
        obtain ⟨m, ho2, e, f2, h2, hH2, rr⟩ := z
        obtain ⟨o1, o2⟩ := own m h2
        exact ⟨m, ho2, e, by rw [Fo m o1 o2]; exact f2, z0 m h2, hH2, rr.mono ef⟩
      | pin us =>
        obtain ⟨e, f2, h2, ho2, hH2, rr⟩ := z
        obtain ⟨o1, o2⟩ := own L.1 h2
        exact ⟨e, by rw [Fo _ o1 o2]; exact f2, z0 _ h2, ho2, hH2, rr.mono ef⟩
  · have no : ∀ m, isOwn ρ[m]? → i ≠ m := fun m hm z => by
      subst z
      unfold isOwn at hm
      rw [hi] at hm
      cases hm
    exact E.sep j k l (by rw [List.getElem?_set_ne (no j h1)]; exact h1) (by rw [List.getElem?_set_ne (no k h2)]; exact h2) e1 e2
end
end Dn

set_option Elab.async false
set_option linter.all false
set_option maxRecDepth 100000
set_option maxHeartbeats 4000000
/-! DenXA: l = [[] for v in ..]; a statement in which the inner lists change; then l is only read -/
namespace Dn
open PySem L2
def sNst (i : Nat) (f : ML) (gN h : MS) : MS := fun ρ => if noErr ρ = true ∧ i < ρ.length then Out.of (f ρ) ρ fun ds => if ds.length < sizeLine then (match gN (ρ.set i (.val (nlD (ds.map fun _ => [])))) with
  | .nx ρ' => h ρ'
  | _ => .stuck) else .stuck else .stuck
theorem yes_t {σ : St} {H : Hp} {A B : Hp → Prop} (h : A H) : tYes σ H (fun b H' => if b = true then A H' else B H') := by
  show (if true = true then A H else B H)
  rw [if_pos rfl]
  exact h
section
variable {K : PySem.W.Frag} {mg : Str → Option Value} {W : WX} {L : Addr × Addr}
theorem ds_nst {i v : Nat} {wi : TI} {f : ML} {vs : List Nat} {t u : TS} {gN gh : MS} (hi : DIB K L mg W wi f) (hv : v ∈ vs) (hN : DSn K mg W i t gN) (hu : DS K L mg W u gh) :
    DS K L mg W (tSeq (tAsg (tLc wi (gName v) tYes (tLst tNil) vs) (gName i)) (tSeq t u)) (sNst i f gN gh) := fun F0 H0 F H σ ρ D E w => by
  unfold sNst at w
  by_cases c0 : noErr ρ = true ∧ i < ρ.length
  · rw [if_pos c0] at w
    obtain ⟨ne, li⟩ := c0
    refine hi F0 H0 F H σ ρ _ E (post_mono (WO.of E w) (fun ds k F1 H1 J s src => ?_) fun _ z => z)
    obtain ⟨G, Y, wk, hG, hY⟩ := src
    by_cases c1 : ds.length < sizeLine
    · rw [if_pos c1] at k
      intro Z hZ
      refine lc_it wk (fun j Hc => ∃ F2 H2 bs, Step F1 H1 F2 H2 ∧ F2 Z = none ∧ H2 Z = none ∧ (∀ b ∈ bs, H2 b = some (.lst []) ∧ F2 b = none ∧ H1 b = none) ∧ bs.Nodup ∧ bs.length = j ∧ j ≤ ds.length ∧ Hc = upd H2 Z (.lst (bs.map V.ref)))
        ⟨F1, H1, [], Step.refl s.fh, s.fh.free hZ, hZ, fun b hb => (by cases hb), List.nodup_nil, rfl, Nat.zero_le _, rfl⟩ ?_ ?_ ?_
      · rintro j Hc _ ⟨F2, H2, bs, s2, f2, l2, hb, nd, lb, lj, rfl⟩
        exact hG F2 _ s2.ff (s2.hh.trans (Ex.new l2)) (s2.fh.trans (Ex.new l2))
      · rintro j x Hc Hy hlt ⟨F2, H2, bs, s2, f2, l2, hb, nd, lb, lj, rfl⟩ y
        obtain ⟨F3, d, s3, hd, r3⟩ := hY j F2 _ x Hy hlt s2.ff (s2.hh.trans (Ex.new l2)) (s2.fh.trans (Ex.new l2)) y
        obtain ⟨sb, fz, hz⟩ := Step.beside (o := .lst _) (fun _ z => nomatch z) l2 f2 s3
        refine ⟨wipe_set hv |>.trans wipe_wipe, ?_⟩
        refine yes_t ?_
        refine ⟨Nat.zero_le _, fun p hp => ⟨bs.map V.ref, ?_, ?_, ?_⟩⟩
        · rw [upd_ne (ne_of_none hz hp)]; exact hz
        · rw [List.length_map, lb]; exact Nat.lt_of_lt_of_le hlt (Nat.le_of_lt c1)
        · have pz : p ≠ Z := (ne_of_none hz hp).symm
          have dp : del Hy Z p = none := by rw [del_ne pz]; exact hp
          have st := (s2.trans sb).trans (Step.new0 (o := .lst []) sb.fh dp)
          have bk : ∀ b ∈ bs, del Hy Z b = some (.lst []) := fun b h => sb.hh b _ (hb b h).1
          refine ⟨F3, upd (del Hy Z) p (.lst []), bs ++ [p], st, fz, by rw [upd_ne pz.symm]; exact del_same, fun b h => ?_, ?_, by rw [List.length_append, lb]; rfl, hlt, ?_⟩
          · rcases List.mem_append.mp h with h | h
            · refine ⟨by rw [upd_ne (ne_of_none (bk b h) dp)]; exact bk b h, sb.nw b _ (hb b h).2.1 (hb b h).1 (fun _ z => nomatch z), (hb b h).2.2⟩
            · rw [List.mem_singleton.mp h]
              exact ⟨upd_same, sb.fh.free dp, (s2.trans sb).hh.free dp⟩
          · rw [List.nodup_append]
            refine ⟨nd, by simp, fun b h c hc => ?_⟩
            rw [List.mem_singleton.mp hc]
            exact ne_of_none (bk b h) dp
          · funext q
            by_cases e1 : q = Z
            · rw [e1, upd_same, upd_same, List.map_append]; rfl
            · rw [upd_ne e1, upd_ne e1]
              by_cases e2 : q = p
              · rw [e2, upd_same, upd_same]
              · rw [upd_ne e2, upd_ne e2, del_ne e1]
      · rintro Hc ⟨F2, H2, bs, s2, f2, l2, hb, nd, lb, lj, rfl⟩
        show (tSeq t u) D (σ.set i (some (.ref Z))) (upd H2 Z (.lst (bs.map V.ref)))
        have s12 : Step F H F2 H2 := s.trans s2
        have H1Z : H1 Z = none := hZ
        have HZ : H Z = none := s.hh.free hZ
        have Hb : ∀ b ∈ bs, H b = none := fun b h => s.hh.free (hb b h).2.2
        have zb : Z ∉ bs := fun z => by rw [(hb Z z).1] at l2; cases l2
        have E2 : Env K L F0 H0 F2 H2 σ ρ := E.step s12
        let Hn : Hp := fun p => if p = Z then some (.lst (bs.map V.ref)) else if p ∈ bs then some (.lst []) else H0 p
        have na : Hn Z = some (.lst (bs.map V.ref)) := if_pos rfl
        have nb : ∀ b ∈ bs, Hn b = some (.lst []) := fun b h => by
          show (if b = Z then some (HO.lst (bs.map V.ref)) else if b ∈ bs then some (HO.lst []) else H0 b) = _
          rw [if_neg (fun z : b = Z => zb (by rw [← z]; exact h)), if_pos h]
        have no : ∀ p, p ≠ Z → p ∉ bs → Hn p = H0 p := fun p h1 h2 => by
          show (if p = Z then some (HO.lst (bs.map V.ref)) else if p ∈ bs then some (HO.lst []) else H0 p) = _
          rw [if_neg h1, if_neg h2]
        have z0 : H0 Z = none := E.st.hh.free HZ
        have zb0 : ∀ b ∈ bs, H0 b = none := fun b h => E.st.hh.free (Hb b h)
        have ex : Ex H0 Hn := fun p o q => by
          rw [no p (ne_of_none q z0) (fun z => by rw [zb0 p z] at q; cases q)]
          exact q
        have own : ∀ l ho, H l = some ho → Hn l = H0 l := fun l ho q => no l (ne_of_none q HZ) (fun z => by rw [Hb l z] at q; cases q)
        have ln : i < (ρ.set i (S.val (nlD (ds.map fun _ => [])))).length := by rw [List.length_set]; exact li
        refine hN L.1 F0 H0 F2 _ _ (ρ.set i (.val (nlD (ds.map fun _ => [])))) _ ⟨Z, bs, ds.map fun _ => [], Hn, ?_, List.getElem?_set_self li, noErr_set ne _ rfl, ?_⟩ ?_
        · rw [List.set_set]
          refine ⟨⟨E2.st.ff, fun p o q => ?_, fun p o q1 q2 q3 => ?_, E2.st.fh.trans (Ex.new l2)⟩, by rw [List.length_set, List.length_set]; exact E.len, fun j sl q => ?_, fun j k' l h1 h2 e1 e2 => ?_⟩
          · by_cases c : p = Z
            · rw [c, na] at q; rw [c, upd_same]; exact q
            · rw [upd_ne c]
              by_cases c2 : p ∈ bs
              · rw [nb p c2] at q; rw [← q]; exact (hb p c2).1
              · rw [no p c c2] at q; exact E2.st.hh _ _ q
          · by_cases c : p = Z
            · rw [c]; exact f2
            · by_cases c2 : p ∈ bs
              · exact (hb p c2).2.1
              · rw [no p c c2] at q2; exact E2.st.nw p o q1 q2 q3
          · rcases set_get q with ⟨e, es, _⟩ | ⟨nj, h'⟩
            · subst e; subst es
              rw [List.getElem?_set_self (by rw [E.len]; exact li)]
              rfl
            · rw [List.getElem?_set_ne nj]
              have z := E2.sl j sl h'
              have z1 := E.sl j sl h'
              cases sl with
              | none => trivial
              | err n => exact (err_no ne h').elim
              | val d => exact z
              | own us =>
                obtain ⟨m, ho2, e, g2, g3, g4, rr⟩ := z
                obtain ⟨m1, ho1, e1, _, _, g5, _⟩ := z1
                rw [e] at e1
                cases e1
                exact ⟨m, ho2, e, g2, by rw [own m _ g5]; exact g3, by rw [upd_ne (ne_of_none g5 HZ)]; exact g4, rr⟩
              | pin us =>
                obtain ⟨e, g2, g3, ho2, g4, rr⟩ := z
                obtain ⟨_, _, _, ho1, g5, _⟩ := z1
                exact ⟨e, g2, by rw [own L.1 _ g5]; exact g3, ho2, by rw [upd_ne (ne_of_none g5 HZ)]; exact g4, rr⟩
          · have nj := own_ne (s := mkE) rfl h1
            have nk := own_ne (s := mkE) rfl h2
            rw [List.getElem?_set_ne nj] at h1 e1
            rw [List.getElem?_set_ne nk] at h2 e2
            exact E.sep j k' l h1 h2 e1 e2
        · refine ⟨ex, z0, zb0, f2, fun b h => (hb b h).2.1, na, List.nodup_cons.mpr ⟨zb, nd⟩, by rw [List.length_map]; exact lb, fun j b ds' h1 h2 => ?_⟩
          rw [List.getElem?_map] at h2
          obtain ⟨_, _, rfl⟩ := Option.map_eq_some_iff.mp h2
          exact ⟨[], nb b (List.mem_of_getElem? h1), .nil⟩
        · cases q : gN (ρ.set i (.val (nlD (ds.map fun _ => [])))) with
          | nx ρ' =>
            rw [q] at k
            intro F' H' σ' e X
            obtain ⟨F'', e2, X2⟩ := EnvN.out X
            exact hu F0 H0 F'' H' σ' ρ' D X2 (WO.mono ((s.ff.trans s2.ff).trans (e.trans e2)) k)
          | brk ρ => rw [q] at k; exact k.elim
          | cont ρ => rw [q] at k; exact k.elim
          | ret d ρ => rw [q] at k; exact k.elim
          | retL ds ρ => rw [q] at k; exact k.elim
          | exc n ρ => rw [q] at k; exact k.elim
          | stuck => rw [q] at k; exact k.elim
    · rw [if_neg c1] at k; exact k.elim
  · rw [if_neg c0] at w; exact w.elim
end
end Dn

set_option Elab.async false
set_option linter.all false
set_option maxRecDepth 100000
set_option maxHeartbeats 4000000
/-! DenXB: expressions within which a list of one's own changes: ends.append(2 * left.pop(e) + f) -/
namespace Dn
open PySem L2
abbrev MX := Fr → M (D × Fr)
def DEX (K : PySem.W.Frag) (L : Addr × Addr) (mg : Str → Option Value) (W : WX) (t : TE) (g : MX) : Prop :=
  ∀ F0 H0 F H σ ρ Q, Env K L F0 H0 F H σ ρ → post (g ρ) (fun r => ∀ F' H' v, Ex F F' → Env K L F0 H0 F' H' σ r.2 → Rep K F' v r.1 → Q v H') (WE' mg W F H σ) → t σ H Q
/-- l.pop(e) -/
def xMut (j : Nat) (fm : List D → List D → Option (List D × D)) (as : ML) : MX := fun ρ => (lift (ownAt j ρ)).bind fun ds => (as ρ).bind fun es => (lift (fm ds es)).bind fun r => .ok (r.2, putL j r.1 ρ)
/-- a op b, the change in b -/
def xR (op : D → D → Option D) (a : ME) (g : MX) : MX := fun ρ => (a ρ).bind fun x => match g ρ with
  | .ok r => (lift (op x r.1)).bind fun v => .ok (v, r.2)
  | _ => .stuck
/-- .. in a -/
def xL (op : D → D → Option D) (g : MX) (b : ME) : MX := fun ρ => match g ρ with
  | .ok r => (match b r.2 with
    | .ok y => (lift (op r.1 y)).bind fun v => .ok (v, r.2)
    | _ => .stuck)
  | _ => .stuck
/-- l.append(e), the change in e -/
def sMutX (i : Nat) (fm : List D → List D → Option (List D × D)) (g : MX) : MS := fun ρ => match g ρ with
  | .ok r => Out.ofO (ownAt i r.2) fun ds => Out.ofO (fm ds [r.1]) fun q => .nx (putL i q.1 r.2)
  | _ => .stuck
section
variable {K : PySem.W.Frag} {L : Addr × Addr} {mg : Str → Option Value} {W : WX}
theorem dx_mut {j : Nat} {r : V → List V → Hp → VK → Prop} {fm : List D → List D → Option (List D × D)} {tas : TA} {as : ML} (hr : RMD K r fm) (ha : DAF K L mg W tas as) : DEX K L mg W (tBM K "list" r (tVar j) tas) (xMut j fm as) := fun F0 H0 F H σ ρ Q E p => by
  obtain ⟨ds, q, p2⟩ := post_lift (post_bind p)
  have q := ownAt_eq q
  obtain ⟨l, ho, el, _, _, hl0, rl0, _⟩ := E.ownv q
  obtain ⟨vs, rfl, _⟩ := rl0.isl
  refine ⟨_, el, .inl ⟨rfl, _, .of hl0⟩, ?_⟩
  refine ha F0 H0 F H σ ρ _ E (post_mono (post_bind p2) (fun es p3 F1 H1 xs s r1 => ?_) fun _ z => z)
  have E1 := E.step s
  obtain ⟨⟨ds', z⟩, q3, p4⟩ := post_lift (post_bind p3)
  obtain ⟨l', ho', el', _, _, hl, rl, _⟩ := E1.ownv q
  rw [el] at el'
  cases el'
  obtain ⟨vs', rfl, rl'⟩ := rl.isl
  refine hr F1 H1 l vs' ds xs es ds' z _ s.fh hl rl' r1 q3 fun ws v rw' rz => ?_
  exact p4 F1 _ v s.ff (E1.mut q el (.lst rw')) rz
theorem dx_mut0 {j : Nat} {r : V → List V → Hp → VK → Prop} {fm : List D → List D → Option (List D × D)} (hr : RMD K r fm) : DEX K L mg W (tBM0 K "list" r (tVar j)) (xMut j fm aNil) := dx_mut hr daf_nil
theorem dx_R {ta tb : TE} {a : ME} {g : MX} {r : R2} {op : D → D → Option D} (hr : R2D K r op) (ha : DF K L mg W ta a) (hb : DEX K L mg W tb g) : DEX K L mg W (tOp r ta tb) (xR op a g) := fun F0 H0 F H σ ρ Q E p => by
  refine ha F0 H0 F H σ ρ _ E (post_mono (post_bind p) (fun d k F1 H1 x s1 r1 => ?_) fun _ z => z)
  refine hb F0 H0 F1 H1 σ ρ _ (E.step s1) ?_
  cases q : g ρ with
  | exc n => rw [q] at k; exact k.elim
  | stuck => rw [q] at k; exact k.elim
  | ok z =>
    rw [q] at k
    obtain ⟨v, ez, k2⟩ := post_lift (post_bind k)
    intro F2 H2 y e2 E2 r2
    exact hr F2 H2 x y d z.1 Q v E2.st.fh (.frz (r1.mono e2)) (.frz r2) ez fun F3 H3 u s3 r3 => k2 F3 H3 u ((s1.ff.trans e2).trans s3.ff) (E2.step s3) r3
theorem dx_L {ta tb : TE} {b : ME} {g : MX} {r : R2} {op : D → D → Option D} (hr : R2D K r op) (ha : DEX K L mg W ta g) (hb : DE K L mg W tb b) : DEX K L mg W (tOp r ta tb) (xL op g b) := fun F0 H0 F H σ ρ Q E p => by
  refine ha F0 H0 F H σ ρ _ E ?_
  unfold xL at p
  cases q : g ρ with
  | exc n => rw [q] at p; exact p.elim
  | stuck => rw [q] at p; exact p.elim
  | ok z =>
    rw [q] at p
    have p : post (match b z.2 with
      | .ok y => (lift (op z.1 y)).bind fun v => .ok (v, z.2)
      | _ => .stuck) (fun r => ∀ F' H' v, Ex F F' → Env K L F0 H0 F' H' σ r.2 → Rep K F' v r.1 → Q v H') (WE' mg W F H σ) := p
    intro F1 H1 x e1 E1 r1
    refine hb F0 H0 F1 H1 σ z.2 _ E1 ?_
    cases qb : b z.2 with
    | exc n => rw [qb] at p; exact p.elim
    | stuck => rw [qb] at p; exact p.elim
    | ok y =>
      rw [qb] at p
      obtain ⟨v, ez, k2⟩ := post_lift (post_bind p)
      intro F2 H2 u s2 r2
      exact hr F2 H2 x u z.1 y Q v s2.fh (.frz (r1.mono s2.ff)) r2 ez fun F3 H3 w s3 r3 => k2 F3 H3 w ((e1.trans s2.ff).trans s3.ff) ((E1.step s2).step s3) r3
theorem ds_mutX {i : Nat} {r : V → List V → Hp → VK → Prop} {fm : List D → List D → Option (List D × D)} {te : TE} {g : MX} (hr : RMD K r fm) (hg : DEX K L mg W te g) (hi : ∀ ρ z, g ρ = .ok z → (ownAt i ρ).isSome = true) : DS K L mg W (tDrop (tBM K "list" r (tVar i) (tCons te tNil))) (sMutX i fm g) := fun F0 H0 F H σ ρ D E w => by
  unfold sMutX at w
  cases qg : g ρ with
  | exc n => rw [qg] at w; exact w.elim
  | stuck => rw [qg] at w; exact w.elim
  | ok z =>
    rw [qg] at w
    obtain ⟨ds, q, w2⟩ := WO.ofO w
    obtain ⟨⟨ds', y⟩, q3, w3⟩ := WO.ofO w2
    obtain ⟨ds0, q0⟩ := Option.isSome_iff_exists.mp (hi ρ z qg)
    have q0 := ownAt_eq q0
    obtain ⟨l, ho, el, _, _, hl0, rl0, _⟩ := E.ownv q0
    obtain ⟨vs, rfl, _⟩ := rl0.isl
    refine ⟨_, el, .inl ⟨rfl, _, .of hl0⟩, ?_⟩
    refine hg F0 H0 F H σ ρ _ E ?_
    rw [qg]
    intro F1 H1 v e1 E1 r1
    have q := ownAt_eq q
    obtain ⟨l', ho', el', _, _, hl, rl, _⟩ := E1.ownv q
    rw [el] at el'
    cases el'
    obtain ⟨vs', rfl, rl'⟩ := rl.isl
    show r (.ref l) [v] H1 _
    refine hr F1 H1 l vs' ds [v] [z.1] ds' y _ E1.st.fh hl rl' (.cons r1 .nil) q3 fun ws u rw' rz => ?_
    exact w3 F1 _ σ e1 (E1.mut q el (.lst rw'))
/-- whether the slot held a list ahead: asked -/
def xAsk (i : Nat) (g : MX) : MX := fun ρ => match ownAt i ρ with
  | some _ => g ρ
  | none => .stuck
theorem dx_ask {i : Nat} {te : TE} {g : MX} (hg : DEX K L mg W te g) : DEX K L mg W te (xAsk i g) := fun F0 H0 F H σ ρ Q E p => by
  unfold xAsk at p
  cases q : ownAt i ρ with
  | none => rw [q] at p; exact p.elim
  | some _ => rw [q] at p; exact hg F0 H0 F H σ ρ Q E p
theorem xAsk_is {i : Nat} {g : MX} : ∀ ρ z, xAsk i g ρ = .ok z → (ownAt i ρ).isSome = true := fun ρ z h => by
  unfold xAsk at h
  cases q : ownAt i ρ with
  | none => rw [q] at h; cases h
  | some _ => rfl
end
section
variable {ρ : Fr} {e a b : ME} {as : ML} {g : MX} {op : D → D → Option D} {fm : List D → List D → Option (List D × D)} {i j : Nat}
@[simp] theorem xMut_ap : xMut j fm as ρ = (lift (ownAt j ρ)).bind fun ds => (as ρ).bind fun es => (lift (fm ds es)).bind fun r => .ok (r.2, putL j r.1 ρ) := rfl
@[simp] theorem xR_ap : xR op a g ρ = (a ρ).bind fun x => match g ρ with
  | .ok r => (lift (op x r.1)).bind fun v => .ok (v, r.2)
  | _ => .stuck := rfl
@[simp] theorem xL_ap : xL op g b ρ = match g ρ with
  | .ok r => (match b r.2 with
    | .ok y => (lift (op r.1 y)).bind fun v => .ok (v, r.2)
    | _ => .stuck)
  | _ => .stuck := rfl
@[simp] theorem xAsk_ap : xAsk i g ρ = match ownAt i ρ with
  | some _ => g ρ
  | none => .stuck := rfl
@[simp] theorem sMutX_ap : sMutX i fm g ρ = match g ρ with
  | .ok r => Out.ofO (ownAt i r.2) fun ds => Out.ofO (fm ds [r.1]) fun q => .nx (putL i q.1 r.2)
  | _ => .stuck := rfl
end
/-- a block within a block -/
def relabelS (scope sc : Scope) : Scope :=
  { scope with names := scope.names.map fun (n, k) => if (k == .free && sc.kind == .function && sc.names.lookup n == some .cell) then (n, .cell) else (n, k) }
theorem blk_in {N : List Str} {scope inner sc0 : Scope} {own : List (Str × Nat)} {env : PySem.Env} (he : env.scope = sc0) (h : blkC N (relabelS scope sc0) inner own = true) : BlkOk N (relabel scope env) inner own := by
  have e : relabel scope env = relabelS scope sc0 := by subst he; rfl
  rw [e]
  exact blkOk_by h
end Dn

set_option Elab.async false
set_option linter.all false
set_option maxRecDepth 100000
set_option maxHeartbeats 4000000
/-! DenXC: min of a list of alike data (tuples of ints) -/
namespace Dn
open PySem PySem.Spec PyProof.Rows L2
section
open PySem.W
variable {prog : Program} {w : World} {A : Around} {E : Value → Shared → Prop} {s : Shared}
/-- the item itself, by its place -/
theorem min_list_ix {l : Addr} {vs : Array Value} {x : PyData} {xs : List PyData} {as : List Addr} {Q : Value → Shared → Prop} (hh : A.handled = none) (hl : s.heap.IsList l vs) (hr : ReadsAll s.heap vs.toList (x :: xs) as) (ha : AlikeAll (x :: xs)) (hu : A.units + 1 + PyData.depthAll (x :: xs) < cLine)
    (h : ∀ (i : Nat) v h' tk, vs[i]? = some v → (x :: xs)[i]? = some (PySem.W.minD x xs) → (∀ b o, s.heap.get? b = some o → h'.get? b = some o) → Q v { s with heap := h', toks := tk }) :
    wpAny (model prog w) A (call (.builtin "min") [.ref l]) Q E s := by
  have hn : vs.size = xs.length + 1 := readsAll_len hr
  refine call_min_walkH (iter_listW (A := A.in1) hh hl fun s₂ e W st hfp hw hk => ?_)
  refine ⟨_, _, _, _, _, _, _, s.heap, _, rfl, W, st, hfp, by omega, hw, hk, cmpIn_lt (A := A.in1) hr ha (by show A.units + 1 + _ < _; exact hu), fun v s' hP m => ?_⟩
  obtain ⟨h', tk, rfl, hk'⟩ := moved_old e rfl m
  have e1 : vs.size - 1 = xs.length := by omega
  obtain ⟨e0, e2⟩ := (argBest_fold dataLt PyData.none x xs xs.length (Nat.le_refl _))
  rw [List.take_length] at e2
  refine h _ v h' tk hP ?_ hk'
  have hlt : argBest (fun i j => dataLt ((x :: xs).getD i PyData.none) ((x :: xs).getD j PyData.none)) (vs.size - 1) < (x :: xs).length := by rw [e1, List.length_cons]; omega
  rw [List.getElem?_eq_getElem hlt]
  unfold PySem.W.minD
  rw [← e2, List.getD_eq_getElem?_getD, ← e1, List.getElem?_eq_getElem hlt]
  rfl
end
def rMinX (K : PySem.W.Frag) : List V → Hp → VK → Prop := fun vs H Q => ∃ (a : Addr) (ws : List V) (x : D) (xs : List D), vs = [V.ref a] ∧ SqL K H a ws ∧ DpAll K H ws (x :: xs) ∧ PySem.W.AlikeAll (x :: xs) ∧ PyData.depthAll (x :: xs) ≤ 60 ∧
  ∀ (i : Nat) w, ws[i]? = some w → (x :: xs)[i]? = some (PySem.W.minD x xs) → Q w H
theorem cr_minX {X : Cx} (hc : X.calm = true) (hu : X.A.units + 65 < cLine) : CallR X (.builtin "min") (rMinX X.K) := by
  intro pins s σ H vs us Q I r h
  obtain ⟨a, ws, x, xs, rfl, hs, dp, al, dd, q⟩ := h
  obtain ⟨its, rv, hl, _⟩ := I.list hs
  rw [Vals.ref1 r]
  obtain ⟨as, hr⟩ := Dp.readsAll I _ _ _ dp rv
  refine min_list_ix (I.ok.hd hc) hl.isList (as := as) (by simpa using hr) al (by omega) fun i v h' tk hv hd hk => ?_
  have hv : its[i]? = some v := by simpa using hv
  have li := (List.getElem?_eq_some_iff.mp hv).1
  have lw : i < ws.length := by rw [rv.length]; exact li
  obtain ⟨u, e, rr⟩ := rv.get (List.getElem?_eq_getElem lw)
  rw [hv] at e
  cases e
  exact ⟨ws[i], H, I.kept hk, rr, q i _ (List.getElem?_eq_getElem lw) hd⟩
theorem kMinX {X : Cx} {K : PySem.W.Frag} (hc : X.calm = true) (hu : X.A.units + 65 < cLine) (h : X.K = K := by rfl) : CallR X (.builtin "min") (rMinX K) := h ▸ cr_minX hc hu
def alikeB (ds : List D) : Bool := (ds.all fun x => ds.all fun y => PySem.W.alike x y) && ds.all fun x => !isNonD x
theorem alikeB_is {ds : List D} (h : alikeB ds = true) : PySem.W.AlikeAll ds := by
  unfold alikeB at h
  rw [Bool.and_eq_true, List.all_eq_true, List.all_eq_true] at h
  refine ⟨fun x hx y hy => List.all_eq_true.mp (h.1 x hx) y hy, fun x hx z => ?_⟩
  have := h.2 x hx
  subst z
  cases this
def minXD : List D → Option D
  | [.list (x :: xs)] => if PyData.canLayAll0 (x :: xs) && alikeB (x :: xs) && decide (PyData.depthAll (x :: xs) ≤ 60) then some (PySem.W.minD x xs) else none
  | _ => none
theorem rc_minX {K : PySem.W.Frag} : RCD K (rMinX K) minXD := by
  intro F H xs ds Q z ex rx h k
  unfold minXD at h
  split at h
  · obtain ⟨v, rfl, r⟩ := rx.one
    rename_i x es
    obtain ⟨l, vs, rfl, a, b⟩ := r.isl ex
    split at h
    · rename_i c
      simp only [Bool.and_eq_true, decide_eq_true_eq] at c
      obtain ⟨⟨c1, c2⟩, c3⟩ := c
      cases h
      refine ⟨l, vs, x, es, rfl, .of a, RepL.dp c1 (b.mono ex), alikeB_is c2, c3, fun i w hw hd => ?_⟩
      obtain ⟨d, hd', r'⟩ := b.get hw
      rw [hd] at hd'
      cases hd'
      exact k.here ex r'
    · cases h
  · cases h
end Dn

set_option Elab.async false
set_option linter.all false
set_option maxRecDepth 100000
set_option maxHeartbeats 4000000
/-! DenXD: list(d) of a known dict whose keys are tuples -/
namespace Dn
open PySem PySem.Spec PyProof.Rows L2
def oListT : List V → Hp → VK → Prop := fun xs H Q => ∃ d kvs, xs = [V.ref d] ∧ Rd H d (.dT kvs) ∧ ∀ p bs, H p = none → IsKeys H kvs bs → Q (.ref p) (upd H p (.lst (bs.map V.ref)))
theorem kListT {X : Cx} (hc : X.calm = true) : CallR X (.type "list") oListT := call_list_dT hc
def listTD : List D → Option (List D)
  | [.dict ((.bool true, .bool true) :: ps)] => (decT ps).map fun kvs => kvs.map fun p => .tuple (p.1.map keyD)
  | _ => none
@[simp] theorem listTD_T {kvs : List (List Key × D)} : listTD [.dict (kdT kvs)] = some (kvs.map fun p => .tuple (p.1.map keyD)) := by
  show (decT _).map _ = _; rw [decT_map]; rfl
section
variable {K : PySem.W.Frag} {F H : Hp}
theorem froz_all : ∀ {kvs : List (List Key × V)} {bs : List Addr} {F : Hp}, Ex F H → IsKeys H kvs bs → ∃ F', Step F H F' H ∧ RepL K F' (bs.map V.ref) (kvs.map fun p => (.tuple (p.1.map keyD) : D))
  | _, _, F, ex, .nil => ⟨F, Step.refl ex, .nil⟩
  | _, _, F, ex, .cons h t => by
    obtain ⟨F1, s1, r1⟩ := froz (K := K) ex h
    obtain ⟨F2, s2, r2⟩ := froz_all s1.fh t
    exact ⟨F2, s1.trans s2, .cons (r1.mono s2.ff) r2⟩
theorem repT_keys {xs : List (List Key × V)} {ds : List (List Key × D)} (r : RepT K F xs ds) : xs.map (fun p => (.tuple (p.1.map keyD) : D)) = ds.map fun p => .tuple (p.1.map keyD) := by
  induction ds generalizing xs with
  | nil => cases r; rfl
  | cons d ds ih =>
    cases r with
    | cons a q => rw [List.map_cons, List.map_cons, ih q]
theorem rc_listT : RCL K oListT listTD := by
  intro F H xs ds Q z ex rx h k
  unfold listTD at h
  split at h
  · obtain ⟨x, rfl, r⟩ := rx.one
    rename_i ps
    generalize hd : (PyData.dict ((.bool true, .bool true) :: ps)) = d at r
    cases r with
    | frz r =>
      cases r.kn (by rw [← hd]; rfl) with
      | k h' q => unfold kdK at hd; injection hd with hd; injection hd with h1 _; injection h1 with h1 _; cases h1
      | @t a vs es o h' q =>
        unfold kdT at hd
        injection hd with hd
        injection hd with _ hd
        rw [hd, decT_map] at h
        cases h
        refine ⟨a, vs, rfl, .inr ⟨o, ex _ _ h'⟩, fun p bs hp ik => ?_⟩
        obtain ⟨F', s, rl⟩ := froz_all (K := K) ex ik
        rw [repT_keys q] at rl
        exact k F' H p _ s hp rl
    | thg hl ro =>
      cases ro with
      | lst r => cases hd
      | dK r => injection hd with hd; unfold dkD at hd; injection hd with h1 _; injection h1 with _ h2; cases h2
      | dT r => injection hd with hd; unfold dtD at hd; injection hd with h1 _; injection h1 with _ h2; cases h2
  · cases h
end
end Dn

set_option Elab.async false
set_option linter.all false
set_option maxRecDepth 100000
set_option maxHeartbeats 4000000
/-! DenXE: a dict whose keys are pairs of a tuple and an int or a text: {}, in, d[k] = v -/
namespace Dn
open PySem PySem.Spec PyProof.Rows L2
abbrev NK := List Key × Key
def kn : Key → NestedKey
  | .inl i => .num i
  | .inr x => .text x
def nkN (k : NK) : NestedKey := .tup [.tup (k.1.map kn), kn k.2]
theorem kn_inj {a b : Key} (h : kn a = kn b) : a = b := by
  cases a <;> cases b <;> simp [kn] at h <;> rw [h]
theorem kns_inj : ∀ {a b : List Key}, a.map kn = b.map kn → a = b
  | [], [], _ => rfl
  | [], _ :: _, h => by simp at h
  | _ :: _, [], h => by simp at h
  | x :: a, y :: b, h => by
    rw [List.map_cons, List.map_cons] at h
    injection h with h1 h2
    rw [kn_inj h1, kns_inj h2]
theorem nkN_inj {a b : NK} (h : nkN a = nkN b) : a = b := by
  unfold nkN at h
  injection h with h
  injection h with h1 h
  injection h with h2 _
  injection h1 with h1
  exact Prod.ext (kns_inj h1) (kn_inj h2)
theorem kn_dep : ∀ ks : List Key, NestedKey.depthAll (ks.map kn) = 0
  | [] => rfl
  | k :: ks => by
    rw [List.map_cons, NestedKey.depthAll, kn_dep ks]
    cases k <;> rfl
theorem nk_dep (k : NK) : (nkN k).depth ≤ 8 := by
  unfold nkN
  rw [NestedKey.depth, NestedKey.depthAll, NestedKey.depth, kn_dep, NestedKey.depthAll, NestedKey.depthAll]
  cases k.2 <;> simp [kn, NestedKey.depth]
/-- the key tuple at b -/
def NkH (H : Hp) (b : Addr) (k : NK) : Prop := ∃ p, H b = some (.tup [.ref p, L2.kV k.2]) ∧ H p = some (.tup (k.1.map L2.kV))
theorem NkH.mono {H H' : Hp} {b : Addr} {k : NK} (e : Ex H H') (h : NkH H b k) : NkH H' b k := by
  obtain ⟨p, h1, h2⟩ := h
  exact ⟨p, e _ _ h1, e _ _ h2⟩
abbrev NX := List (NK × Addr × Value)
abbrev nxs (xs : NX) : List (NestedKey × Addr × Value) := xs.map fun x => (nkN x.1, x.2)
section
variable (P : Program) (w : World)
def nstO (a : Addr) (xs : NX) : HO := .ext fun h => ∃ o es ep, h.get? a = some o ∧ o.ExactDict ∧ o.data = .dict es ep ∧ es.toList = (nxs xs).map (entryOfKey (nestedKind P w)) ∧ ((nxs xs).map (·.1)).Nodup
end
section
variable {P : Program} {w : World} {H : Hp} {h : Heap} {a b : Addr}
theorem nst_ok {xs : NX} {o : Obj} {es : Array DictEntry} {ep : _} (h1 : h.get? a = some o) (h2 : o.ExactDict) (h3 : o.data = .dict es ep) (h4 : es.toList = (nxs xs).map (entryOfKey (nestedKind P w))) (h5 : ((nxs xs).map (·.1)).Nodup) : ObjOk P w H h a (nstO P w a xs) :=
  ⟨⟨o, es, ep, h1, h2, h3, h4, h5⟩, ⟨o, h1⟩, fun g1 g2 ⟨o, es, ep, q1, q⟩ k => ⟨o, es, ep, k o q1, q⟩⟩
theorem kV_nested {k : Key} {u : Value} (r : RelV (L2.kV k) u) : NestedIs h (kn k) u := by
  cases k with
  | inl i => obtain ⟨t, rfl⟩ := (show ∃ t, u = Value.int i t from r); exact .int i t
  | inr x => obtain ⟨t, rfl⟩ := (show ∃ t, u = Value.str x t from r); exact .text x t
theorem kVs_nested : ∀ {ks : List Key} {us : List Value}, Vals (ks.map L2.kV) us → NestedAll h (ks.map kn) us
  | [], _, r => by rw [List.map_nil] at r; cases r; exact .nil
  | k :: ks, _, r => by
    rw [List.map_cons] at r
    cases r with
    | cons r t => exact .cons (kV_nested r) (kVs_nested t)
theorem nk_is {k : NK} (ok : HOk P w H h) (e : NkH H b k) : (nestedKind P w).is h (nkN k) b := by
  obtain ⟨p, e1, e2⟩ := e
  obtain ⟨_, its, r, o, h1, h2, n, h3⟩ := (show ObjOk P w H h b (.tup [.ref p, L2.kV k.2]) from ok b _ e1)
  obtain ⟨_, its2, r2, o2, g1, g2, n2, g3⟩ := (show ObjOk P w H h p (.tup (k.1.map L2.kV)) from ok p _ e2)
  refine ⟨?_, nk_dep k⟩
  cases r with
  | cons ra r =>
    cases r with
    | cons rb r =>
      cases r
      refine .tup h1 h2 h3 ?_
      rename_i u1 u2
      have e1 : u1 = Value.ref p := ra
      subst e1
      exact .cons (.tup g1 g2 g3 (by simpa using kVs_nested r2)) (.cons (kV_nested rb) .nil)
theorem nst_dict {xs : NX} (ok : HOk P w H h) (e : H a = some (nstO P w a xs)) (ks : ∀ x ∈ xs, NkH H x.2.1 x.1) : h.DictOfH (nestedKind P w) a (nxs xs) := by
  obtain ⟨⟨o, es, ep, q1, q2, q3, q4, q5⟩, _⟩ := (show ObjOk P w H h a (nstO P w a xs) from ok a _ e)
  refine ⟨o, es, ep, q1, q2, q3, q4, fun x hx => ?_, q5⟩
  obtain ⟨y, hy, rfl⟩ := List.mem_map.mp hx
  exact nk_is ok (ks y hy)
def keysX (xs : NX) : List NK := xs.map fun x => x.1
def hasK (l : List NK) (k : NK) : Bool := l.any fun x => decide (x = k)
def hasN (xs : NX) (k : NK) : Bool := hasK (keysX xs) k
theorem at_nxs (xs : NX) (k : NK) : (atKey (nxs xs) (nkN k)).isSome = hasN xs k := by
  induction xs with
  | nil => rfl
  | cons x xs ih =>
    show ((((nkN x.1, x.2) :: nxs xs).find? fun y => decide (y.1 = nkN k)).map (·.2)).isSome = (decide (x.1 = k) || hasN xs k)
    rw [List.find?_cons]
    by_cases c : x.1 = k
    · subst c
      simp
    · have c' : ¬ nkN x.1 = nkN k := fun z => c (nkN_inj z)
      have ih : (((nxs xs).find? fun y => decide (y.1 = nkN k)).map (·.2)).isSome = hasN xs k := ih
      have e : decide ((nkN x.1, x.2).1 = nkN k) = false := decide_eq_false c'
      rw [e, decide_eq_false c, Bool.false_or, ← ih]
def storedN (xs : NX) (k : NK) (b : Addr) (u : Value) : NX := if hasN xs k then xs.map (fun x => if x.1 = k then (x.1, x.2.1, u) else x) else xs ++ [(k, b, u)]
theorem stored_nxs (xs : NX) (k : NK) (b : Addr) (u : Value) : storedH (nxs xs) (nkN k) b u = nxs (storedN xs k b u) := by
  unfold storedH storedN
  rw [at_nxs]
  cases hasN xs k with
  | true =>
    rw [if_pos rfl, if_pos rfl]
    unfold nxs
    rw [List.map_map, List.map_map]
    refine List.map_congr_left fun x _ => ?_
    show putAt (nkN k) u (nkN x.1, x.2) = (nkN (if x.1 = k then (x.1, x.2.1, u) else x).1, (if x.1 = k then (x.1, x.2.1, u) else x).2)
    unfold putAt
    by_cases c : x.1 = k
    · rw [if_pos c, if_pos (by rw [c])]
    · rw [if_neg c, if_neg (fun z => c (nkN_inj z))]
  | false =>
    rw [if_neg (by decide), if_neg (by decide)]
    unfold nxs
    rw [List.map_append]
    rfl
theorem storedN_keys (xs : NX) (k : NK) (b : Addr) (u : Value) : keysX (storedN xs k b u) = if hasN xs k then keysX xs else keysX xs ++ [k] := by
  unfold storedN keysX
  cases hasN xs k with
  | true =>
    rw [if_pos rfl, if_pos rfl, List.map_map]
    refine List.map_congr_left fun x _ => ?_
    show (if x.1 = k then (x.1, x.2.1, u) else x).1 = x.1
    split <;> rfl
  | false => rw [if_neg (by decide), if_neg (by decide), List.map_append]; rfl
theorem storedN_nk {xs : NX} {k : NK} {u : Value} (ks : ∀ x ∈ xs, NkH H x.2.1 x.1) (hb : NkH H b k) : ∀ x ∈ storedN xs k b u, NkH H x.2.1 x.1 := fun x hx => by
  unfold storedN at hx
  split at hx
  · obtain ⟨y, hy, rfl⟩ := List.mem_map.mp hx
    have := ks y hy
    split
    · exact this
    · exact this
  · rcases List.mem_append.mp hx with hx | hx
    · exact ks x hx
    · rw [List.mem_singleton.mp hx]; exact hb
end
/-! ### rules -/
section
variable (P : Program) (w : World)
def tDNewN : TE := fun _ H Q => ∀ p, H p = none → p ≠ sysModules → Q (.ref p) (upd H p (nstO P w p []))
def rNIn : R2 := fun y x H Q => ∃ a xs b k, x = .ref a ∧ H a = some (nstO P w a xs) ∧ a ≠ sysModules ∧ y = .ref b ∧ NkH H b k ∧ (∀ z ∈ xs, NkH H z.2.1 z.1) ∧ Q (.bl (hasN xs k)) H
def rSetN : TSet := fun x y v H Q => ∃ a xs b k, x = .ref a ∧ H a = some (nstO P w a xs) ∧ y = .ref b ∧ NkH H b k ∧ (∀ z ∈ xs, NkH H z.2.1 z.1) ∧ xs.length < sizeLine ∧ ∀ u, Q (upd H a (nstO P w a (storedN xs k b u)))
end
section
variable {X : Cx} {o i : Expr} {td ty : TE} {pos : Pos}
theorem room_nk {A : Around} (hu : A.units + 65 < cLine) : (nestedKind X.prog X.w).room A.in1 := by
  show A.in1.units + 8 < cLine
  have : A.in1.units = A.units + 1 := rfl
  omega
theorem pe_dnewN {P : Program} {w : World} (hP : X.prog = P := by rfl) (hw : X.w = w := by rfl) : PE X (.Dict [] [] pos) (tDNewN P w) := ⟨fun pins s σ H Q I h => by
  subst hP hw
  have hb := I.big
  refine wpAny_Dict_empty ⟨.ref s.heap.objs.size, _, I.laid (a := s.heap.objs.size) (o := nstO X.prog X.w s.heap.objs.size []) (t' := s.toks) (fun _ _ q => Heap.get?_push_of_some _ q) (Nat.le_refl _) (nst_ok (es := #[]) (ep := 0) (Heap.get?_push_size _ rfl) ⟨rfl, rfl, rfl⟩ rfl rfl List.nodup_nil), rfl, h _ (I.hok.fresh (Nat.le_refl _)) (Ne.symm (Nat.ne_of_lt hb))⟩⟩
theorem pc_nin {P : Program} {w : World} (hu : X.A.units + 65 < cLine) (hi : PE X i ty) (ho : PE X o td) (hP : X.prog = P := by rfl) (hw : X.w = w := by rfl) : PC X .In i o (tOp (rNIn P w) ty td) := by
  subst hP hw
  refine ⟨fun pins s σ H Q I h => ?_⟩
  refine thn (hi.run pins s σ H _ I h) fun iv s1 ⟨y, H1, I1, ry, q1⟩ => thn (ho.run pins s1 σ H1 _ I1 q1) fun u s2 ⟨x, H2, I2, rx, a, xs, b, k, ex, e, ns, ey, hk, ks, q2⟩ => ?_
  subst ex ey
  obtain rfl : u = Value.ref a := rx
  obtain rfl : iv = Value.ref b := ry
  refine wpAny_in_heap (room_nk hu) (nk_is I2.hok hk) (beq_eq_false_iff_ne.mpr ns) (nst_dict I2.hok e ks) ?_
  rw [at_nxs]
  exact ⟨.bl _, H2, I2.tok _, rfl, q2⟩
theorem pt_ninR {P : Program} {w : World} (hu : X.A.units + 65 < cLine) (hi : PE X i ty) (ho : PE X o td) (h1 : behindInMarks .In o = false := by rfl) (hP : X.prog = P := by rfl) (hw : X.w = w := by rfl) : PT X (.Compare i [.In] [o] pos) (tTest (tOp (rNIn P w) ty td)) := pt_cmp (pc_nin hu hi ho hP hw) h1
theorem set_nst {P : Program} {w : World} (hu : X.A.units + 65 < cLine) (hP : X.prog = P := by rfl) (hw : X.w = w := by rfl) : PSet X (rSetN P w) := by
  subst hP hw
  intro pins s σ H x y v ov iv u Q I rx ry rv h
  obtain ⟨a, xs, b, k, ex, e, ey, hk, ks, hl, q⟩ := h
  subst ex ey
  obtain rfl : ov = Value.ref a := rx
  obtain rfl : iv = Value.ref b := ry
  have hz : (nxs xs).length ≤ sizeLine := by rw [List.length_map]; omega
  refine wpAny_setItem_heap (hsz := hz) (room_nk hu) (nk_is I.hok hk) (nst_dict I.hok e ks) fun h' dd' hs => ?_
  rw [stored_nxs] at dd'
  obtain ⟨ob, es, ep, d1, d2, d3, d4, _, d6⟩ := dd'
  exact ⟨_, d_write I (by rw [e]; exact True.intro) hs ⟨ob, d1⟩ (nst_ok d1 d2 d3 d4 d6), q u⟩
end
end Dn

set_option Elab.async false
set_option linter.all false
set_option maxRecDepth 100000
set_option maxHeartbeats 4000000
/-! DenXF: statements as long as a thing of another kind (a dict with nested keys) stands in a slot -/
namespace Dn
open PySem L2
def nk? : D → Option NK
  | .tuple [t, d] => (keyT? t).bind fun ks => (key? d).map fun k => (ks, k)
  | _ => none
def nkD (k : NK) : D := .tuple [.tuple (k.1.map keyD), keyD k.2]
theorem keyT_keyD (ks : List Key) : keyT? (.tuple (ks.map keyD)) = some ks := by
  show keys? (ks.map keyD) = some ks
  induction ks with
  | nil => rfl
  | cons k ks ih =>
    show (key? (keyD k)).bind (fun k => (keys? (ks.map keyD)).map (k :: ·)) = _
    rw [key_keyD, ih]; rfl
@[simp] theorem nk_nkD (k : NK) : nk? (nkD k) = some k := by
  show (keyT? (.tuple (k.1.map keyD))).bind (fun ks => (key? (keyD k.2)).map fun k => (ks, k)) = _
  rw [keyT_keyD, key_keyD]; rfl
/-- the dict's keys as data -/
def ksD (ks : List NK) : D := .list (ks.map nkD)
def ks? : D → Option (List NK)
  | .list ds => ds.mapM nk?
  | _ => none
theorem mapM_nk : ∀ ks : List NK, (ks.map nkD).mapM nk? = some ks
  | [] => rfl
  | k :: ks => by rw [List.map_cons, List.mapM_cons, nk_nkD, mapM_nk ks]; rfl
@[simp] theorem ks_ksD (ks : List NK) : ks? (ksD ks) = some ks := mapM_nk ks
structure RN (P : Program) (w : World) (H0 H1 F : Hp) (a : Addr) (ks : List NK) : Prop where
  ex : Ex H0 H1
  za : H0 a = none
  fa : F a = none
  ns : a ≠ sysModules
  xs : ∃ xs : NX, H1 a = some (nstO P w a xs) ∧ keysX xs = ks ∧ ∀ x ∈ xs, NkH F x.2.1 x.1
section
variable (K : PySem.W.Frag) (P : Program) (w : World)
def EnvX (i : Nat) (L1 : Addr) (F0 H0 F H : Hp) (σ : St) (ρ : Fr) : Prop :=
  ∃ (a : Addr) (ks : List NK) (H1 : Hp), Env K (L1, a) F0 H1 F H σ (ρ.set i mkE) ∧ ρ[i]? = some (.val (ksD ks)) ∧ noErr ρ = true ∧ RN P w H0 H1 F a ks
def WOX (mg : Str → Option Value) (W : WX) (i : Nat) (L1 : Addr) (F0 H0 F : Hp) (D : Ends) : Out → Prop
  | .nx ρ => ∀ F' H' σ', Ex F F' → EnvX K P w i L1 F0 H0 F' H' σ' ρ → D.nx σ' H'
  | .brk ρ => ∀ F' H' σ', Ex F F' → EnvX K P w i L1 F0 H0 F' H' σ' ρ → D.bk σ' H'
  | .cont ρ => ∀ F' H' σ', Ex F F' → EnvX K P w i L1 F0 H0 F' H' σ' ρ → D.ct σ' H'
  | .ret d ρ => ∀ F' H' σ' v a, Ex F F' → Env K (L1, a) F0 H0 F' H' σ' ρ → Rep K F' v d → D.rt v H'
  | .exc n ρ => ∀ F' H' σ' a, Ex F F' → Env K (L1, a) F0 H0 F' H' σ' ρ → Wm mg W n σ' H'
  | _ => False
def DSX (mg : Str → Option Value) (W : WX) (i : Nat) (t : TS) (g : MS) : Prop :=
  ∀ L1 F0 H0 F H σ ρ D, EnvX K P w i L1 F0 H0 F H σ ρ → WOX K P w mg W i L1 F0 H0 F D (g ρ) → t D σ H
end
section
variable {K : PySem.W.Frag} {P : Program} {w : World} {mg : Str → Option Value} {W : WX} {i : Nat} {L1 a : Addr} {F0 H0 H1 F H F' H' : Hp} {σ : St} {ρ ρ' : Fr} {D : Ends} {ks : List NK}
theorem WOX.mono {o : Out} (s : Ex F F') (q : WOX K P w mg W i L1 F0 H0 F D o) : WOX K P w mg W i L1 F0 H0 F' D o := by
  cases o with
  | nx ρ => exact fun F1 H1 σ1 e => q F1 H1 σ1 (s.trans e)
  | brk ρ => exact fun F1 H1 σ1 e => q F1 H1 σ1 (s.trans e)
  | cont ρ => exact fun F1 H1 σ1 e => q F1 H1 σ1 (s.trans e)
  | ret d ρ => exact fun F1 H1 σ1 v a e => q F1 H1 σ1 v a (s.trans e)
  | retL ds ρ => exact q
  | exc n ρ => exact fun F1 H1 σ1 a e => q F1 H1 σ1 a (s.trans e)
  | stuck => exact q
theorem WOX.ofO {α : Type} {m : Option α} {k : α → Out} (q : WOX K P w mg W i L1 F0 H0 F D (Out.ofO m k)) : ∃ a, m = some a ∧ WOX K P w mg W i L1 F0 H0 F D (k a) := by
  cases m with
  | some a => exact ⟨a, rfl, q⟩
  | none => exact q.elim
theorem RN.on (N : RN P w H0 H1 F a ks) (e : Ex F F') (s : Step F0 H1 F' H') (f0 : Ex F0 F) : RN P w H0 H1 F' a ks := by
  obtain ⟨xs, h1, h2, h3⟩ := N.xs
  refine ⟨N.ex, N.za, ?_, N.ns, xs, h1, h2, fun x hx => (h3 x hx).mono e⟩
  refine s.nw a _ ?_ h1 (fun _ q => nomatch q)
  cases q : F0 a with
  | none => rfl
  | some u => have := f0 _ _ q; rw [N.fa] at this; cases this
/-- the ground taken smaller -/
theorem Env.less {L : Addr × Addr} (E : Env K L F0 H1 F H σ ρ) (ex : Ex H0 H1) : Env K L F0 H0 F H σ ρ where
  st := ⟨E.st.ff, ex.trans E.st.hh, fun x o q1 q2 q3 => E.st.nw x o q1 (ex x o q2) q3, E.st.fh⟩
  len := E.len
  sl := fun j s q => by
    have z0 : ∀ l, H1 l = none → H0 l = none := fun l hl => by
      cases r : H0 l with
      | none => rfl
      | some o => rw [ex l o r] at hl; cases hl
    have z := E.sl j s q
    cases s with
    | none => trivial
    | err n => exact z
    | val d => exact z
    | own us => obtain ⟨m, ho, e, f, h, hh, r⟩ := z; exact ⟨m, ho, e, f, z0 m h, hh, r⟩
    | pin us => obtain ⟨e, f, h, r⟩ := z; exact ⟨e, f, z0 _ h, r⟩
  sep := E.sep
theorem backX_env {s : S} {ρ1 ρ2 : Fr} (q : backN i s ρ1 = some ρ2) (hs : s = .val (ksD ks)) (N : RN P w H0 H1 F a ks) (f0 : Ex F0 F) (e : Ex F F') (E : Env K (L1, a) F0 H1 F' H' σ ρ1) : EnvX K P w i L1 F0 H0 F' H' σ ρ2 := by
  unfold backN at q
  split at q
  · rename_i c
    cases q
    rw [Bool.and_eq_true] at c
    obtain ⟨n, hn⟩ := errAt_is c.1
    have hl := (List.getElem?_eq_some_iff.mp hn).1
    refine ⟨a, ks, H1, ?_, ?_, c.2, N.on e E.st f0⟩
    · rw [List.set_set]
      exact E.mark hn
    · rw [List.getElem?_set_self hl, hs]
  · cases q
/-- a statement that leaves the dict alone -/
def sLiftX (i : Nat) (g : MS) : MS := fun ρ => Out.ofO ρ[i]? fun s => match g (ρ.set i mkE) with
  | .nx ρ1 => Out.ofO (backN i s ρ1) .nx
  | .brk ρ1 => Out.ofO (backN i s ρ1) .brk
  | .cont ρ1 => Out.ofO (backN i s ρ1) .cont
  | .ret d ρ1 => .ret d ρ1
  | .exc n ρ1 => .exc n ρ1
  | _ => .stuck
theorem dsx_lift {t : TS} {g : MS} (h : ∀ L, DS K L mg W t g) : DSX K P w mg W i t (sLiftX i g) := fun L1 F0 H0 F H σ ρ D ⟨a, ks, H1, E, hi, ne, N⟩ q => by
  refine h (L1, a) F0 H1 F H σ _ D E ?_
  unfold sLiftX at q
  rw [hi] at q
  have q : WOX K P w mg W i L1 F0 H0 F D (match g (ρ.set i mkE) with
    | .nx ρ1 => Out.ofO (backN i (.val (ksD ks)) ρ1) .nx
    | .brk ρ1 => Out.ofO (backN i (.val (ksD ks)) ρ1) .brk
    | .cont ρ1 => Out.ofO (backN i (.val (ksD ks)) ρ1) .cont
    | .ret d ρ1 => .ret d ρ1
    | .exc n ρ1 => .exc n ρ1
    | _ => .stuck) := q
  cases qg : g (ρ.set i mkE) with
  | nx ρ1 =>
    rw [qg] at q
    obtain ⟨ρ2, q2, w2⟩ := WOX.ofO q
    exact fun F' H' σ' e E' => w2 F' H' σ' e (backX_env q2 rfl N E.st.ff e E')
  | brk ρ1 =>
    rw [qg] at q
    obtain ⟨ρ2, q2, w2⟩ := WOX.ofO q
    exact fun F' H' σ' e E' => w2 F' H' σ' e (backX_env q2 rfl N E.st.ff e E')
  | cont ρ1 =>
    rw [qg] at q
    obtain ⟨ρ2, q2, w2⟩ := WOX.ofO q
    exact fun F' H' σ' e E' => w2 F' H' σ' e (backX_env q2 rfl N E.st.ff e E')
  | ret d ρ1 => rw [qg] at q; exact fun F' H' σ' v e E' r => q F' H' σ' v a e (E'.less N.ex) r
  | retL ds ρ => rw [qg] at q; exact q.elim
  | exc n ρ1 => rw [qg] at q; exact fun F' H' σ' e E' => q F' H' σ' a e (E'.less N.ex)
  | stuck => rw [qg] at q; exact q.elim
theorem dsx_next : DSX K P w mg W i tNext sNext := fun L1 F0 H0 F H σ ρ D E q => q F H σ (Ex.refl _) E
theorem dsx_seq {t u : TS} {g h : MS} (h1 : DSX K P w mg W i t g) (h2 : DSX K P w mg W i u h) : DSX K P w mg W i (tSeq t u) (sSeq g h) := fun L1 F0 H0 F H σ ρ D E q => by
  refine h1 L1 F0 H0 F H σ ρ _ E ?_
  unfold sSeq at q
  cases qg : g ρ with
  | nx ρ' => rw [qg] at q; exact fun F1 H1 σ1 e E1 => h2 L1 F0 H0 F1 H1 σ1 ρ' D E1 (q.mono e)
  | brk ρ => rw [qg] at q; exact q
  | cont ρ => rw [qg] at q; exact q
  | ret d ρ => rw [qg] at q; exact q
  | retL ds ρ => rw [qg] at q; exact q
  | exc n ρ => rw [qg] at q; exact q
  | stuck => rw [qg] at q; exact q
/-- what an expression ahead may raise -/
theorem WOX.of {α : Type} {m : M α} {k : α → Out} (E : Env K (L1, a) F0 H1 F H σ (ρ.set i mkE)) (ex : Ex H0 H1) (q : WOX K P w mg W i L1 F0 H0 F D (Out.of m (ρ.set i mkE) k)) : post m (fun a => WOX K P w mg W i L1 F0 H0 F D (k a)) (WE' mg W F H σ) := by
  cases m with
  | ok a => exact q
  | exc n => exact fun F1 H2 s => q F1 H2 σ a s.ff ((E.step s).less ex)
  | stuck => exact q.elim
def sIfX (i : Nat) (tf : MT) (g h : MS) : MS := fun ρ => Out.of (tf (ρ.set i mkE)) (ρ.set i mkE) fun b => if b = true then g ρ else h ρ
theorem dsx_if {tt : TT} {tf : MT} {t u : TS} {g h : MS} (ht : ∀ L, DT K L mg W tt tf) (h1 : DSX K P w mg W i t g) (h2 : DSX K P w mg W i u h) : DSX K P w mg W i (tIfS tt t u) (sIfX i tf g h) := fun L1 F0 H0 F H σ ρ D ⟨a, ks, H1, E, hi, ne, N⟩ q => by
  refine ht (L1, a) F0 H1 F H σ _ _ E (post_mono (WOX.of E N.ex q) (fun c k F1 H2 s => ?_) fun _ z => z)
  have EN : EnvX K P w i L1 F0 H0 F1 H2 σ ρ := ⟨a, ks, H1, E.step s, hi, ne, N.on s.ff (E.step s).st E.st.ff⟩
  cases c with
  | true => exact iteT (h1 L1 F0 H0 F1 H2 σ ρ D EN (WOX.mono s.ff k))
  | false => exact iteF (h2 L1 F0 H0 F1 H2 σ ρ D EN (WOX.mono s.ff k))
/-- loops -/
def loopX (tg : Dn.D → Fr → Option Fr) (g : MS) : List Dn.D → Fr → Out
  | [], ρ => .nx ρ
  | d :: ds, ρ => Out.ofO (tg d ρ) fun ρ1 => match g ρ1 with
    | .nx ρ2 => loopX tg g ds ρ2
    | .cont ρ2 => loopX tg g ds ρ2
    | .brk ρ2 => .nx ρ2
    | o => o
def sForX (i : Nat) (f : ML) (tg : Dn.D → Fr → Option Fr) (g : MS) : MS := fun ρ => Out.of (f (ρ.set i mkE)) (ρ.set i mkE) fun ds => loopX (tgN i tg) g ds ρ
theorem dsx_for {wi : TI} {f : ML} {gg : TG} {tg : Dn.D → Fr → Option Fr} {is : List Nat} {t : TS} {g : MS} (hi : ∀ L, DI K L mg W wi f) (hg : ∀ L, DG K L gg tg is) (hb : DSX K P w mg W i t g) : DSX K P w mg W i (tFor wi gg t) (sForX i f tg g) := fun L1 F0 H0 F H σ ρ D ⟨a, ks, H1, E, hi', ne, N⟩ q => by
  refine hi (L1, a) F0 H1 F H σ _ _ E (post_mono (WOX.of E N.ex q) (fun ds w1 F1 H2 J s src => ?_) fun _ z => z)
  obtain ⟨G, Y, wk, hG, hY⟩ := src
  have EN : EnvX K P w i L1 F0 H0 F1 H2 σ ρ := ⟨a, ks, H1, E.step s, hi', ne, N.on s.ff (E.step s).st E.st.ff⟩
  refine for_it wk (fun j σ H => ∃ F ρ, Ex F1 F ∧ EnvX K P w i L1 F0 H0 F H σ ρ ∧ WOX K P w mg W i L1 F0 H0 F D (loopX (tgN i tg) g (ds.drop j) ρ)) ⟨F1, ρ, Ex.refl _, EN, by rw [List.drop_zero]; exact WOX.mono s.ff w1⟩
    (fun j σ H _ ⟨F, ρ, e, ⟨_, _, _, E, _⟩, _⟩ => hG F H e E.st.fh) ?_ ?_
  · rintro j x σ2 H2 H3 hlt ⟨F2, ρ2, e2, ⟨a2, ks2, H12, E2, hi2, ne2, N2⟩, w2⟩ y
    obtain ⟨F3, d, s3, hd, r3⟩ := hY j F2 H2 x H3 hlt e2 E2.st.fh y
    have ed : ds.drop j = d :: ds.drop (j + 1) := by
      obtain ⟨h1, h2⟩ := List.getElem?_eq_some_iff.mp hd
      rw [List.drop_eq_getElem_cons h1, h2]
    rw [ed] at w2
    have w3 := WOX.mono s3.ff w2
    unfold loopX at w3
    obtain ⟨ρ3, q3, w4⟩ := WOX.ofO w3
    unfold tgN at q3
    rw [hi2] at q3
    have q3 : ((tg d (ρ2.set i mkE)).bind fun ρ1 => backN i (.val (ksD ks2)) ρ1) = some ρ3 := q3
    cases q4 : tg d (ρ2.set i mkE) with
    | none => rw [q4] at q3; cases q3
    | some ρ1 =>
      rw [q4] at q3
      refine hg (L1, a2) F0 H12 F3 H3 σ2 _ x d _ ρ1 (E2.step s3) r3 q4 fun σ3 E3 _ => ?_
      refine hb L1 F0 H0 F3 H3 σ3 ρ3 _ (backX_env q3 rfl N2 E2.st.ff s3.ff E3) ?_
      cases qq : g ρ3 with
      | nx ρ4 => rw [qq] at w4; exact fun F4 H4 σ4 e4 E4 => ⟨F4, ρ4, e2.trans (s3.ff.trans e4), E4, WOX.mono e4 w4⟩
      | cont ρ4 => rw [qq] at w4; exact fun F4 H4 σ4 e4 E4 => ⟨F4, ρ4, e2.trans (s3.ff.trans e4), E4, WOX.mono e4 w4⟩
      | brk ρ4 => rw [qq] at w4; exact w4
      | ret d ρ => rw [qq] at w4; exact w4
      | retL ds ρ => rw [qq] at w4; exact w4
      | exc n ρ => rw [qq] at w4; exact w4
      | stuck => rw [qq] at w4; exact w4
  · rintro σ2 H2 ⟨F2, ρ2, e2, E2, w2⟩
    rw [List.drop_length] at w2
    exact w2 F2 H2 σ2 (Ex.refl _) E2
/-! ### the dict -/
theorem nk_rep {v : V} {d : Dn.D} {k : NK} (r : Rep K F v d) (h : nk? d = some k) : ∃ b, v = .ref b ∧ NkH F b k := by
  unfold nk? at h
  split at h
  · rename_i t d'
    cases qt : keyT? t with
    | none => rw [qt] at h; cases h
    | some ks =>
      cases qd : key? d' with
      | none => rw [qt, qd] at h; cases h
      | some k' =>
        rw [qt, qd] at h
        cases h
        cases r with
        | tup e rl =>
          cases rl with
          | cons r1 rl =>
            cases rl with
            | cons r2 rl =>
              cases rl
              obtain ⟨p, rfl, hp⟩ := keyT_rep (Ex.refl _) (.frz r1 : RepB K F F _ _) qt
              have := key_rep (F := F) (H := F) (.frz r2) qd
              subst this
              exact ⟨_, rfl, p, e, hp⟩
  · cases h
/-- if k in d -/
def sIfIn (i : Nat) (kf : ME) (g h : MS) : MS := fun ρ => Out.ofO ρ[i]? fun s => match s with
  | .val d => Out.ofO (ks? d) fun ks => Out.of (kf (ρ.set i mkE)) (ρ.set i mkE) fun kd => Out.ofO (nk? kd) fun k => if hasK ks k = true then g ρ else h ρ
  | _ => .stuck
theorem dsx_ifIn {tk : TE} {kf : ME} {t u : TS} {g h : MS} (hk : ∀ L, DF K L mg W tk kf) (h1 : DSX K P w mg W i t g) (h2 : DSX K P w mg W i u h) : DSX K P w mg W i (tIfS (tTest (tOp (rNIn P w) tk (tVar i))) t u) (sIfIn i kf g h) := fun L1 F0 H0 F H σ ρ D ⟨a, ks, H1, E, hi, ne, N⟩ q => by
  have li := (List.getElem?_eq_some_iff.mp hi).1
  unfold sIfIn at q
  rw [hi, ofO_some] at q
  have q : WOX K P w mg W i L1 F0 H0 F D (Out.ofO (ks? (ksD ks)) fun ks => Out.of (kf (ρ.set i mkE)) (ρ.set i mkE) fun kd => Out.ofO (nk? kd) fun k => if hasK ks k = true then g ρ else h ρ) := q
  rw [ks_ksD, ofO_some] at q
  have el : σ[i]? = some (some (.ref a)) := join_some (E.sl i mkE (List.getElem?_set_self li))
  refine hk (L1, a) F0 H1 F H σ _ _ E (post_mono (WOX.of E N.ex q) (fun kd k F1 H2 v s r => ?_) fun _ z => z)
  obtain ⟨nk, qn, k2⟩ := WOX.ofO k
  obtain ⟨b, rfl, hb⟩ := nk_rep r qn
  have E1 := E.step s
  have N1 := N.on s.ff E1.st E.st.ff
  obtain ⟨xs, x1, x2, x3⟩ := N1.xs
  refine ⟨.ref a, el, a, xs, b, nk, rfl, E1.st.hh _ _ x1, N.ns, rfl, hb.mono E1.st.fh, fun x hx => (x3 x hx).mono E1.st.fh, ?_⟩
  have EN : EnvX K P w i L1 F0 H0 F1 H2 σ ρ := ⟨a, ks, H1, E1, hi, ne, N1⟩
  have e : hasN xs nk = hasK ks nk := by unfold hasN; rw [x2]
  rw [e]
  cases c : hasK ks nk with
  | true => rw [c] at k2; exact ⟨true, rfl, iteT (h1 L1 F0 H0 F1 H2 σ ρ D EN (WOX.mono s.ff k2))⟩
  | false => rw [c] at k2; exact ⟨false, rfl, iteF (h2 L1 F0 H0 F1 H2 σ ρ D EN (WOX.mono s.ff k2))⟩
/-- d[k] = True -/
def sPutX (i : Nat) (kf : ME) : MS := fun ρ => Out.ofO ρ[i]? fun s => match s with
  | .val d => Out.ofO (ks? d) fun ks => Out.of (kf (ρ.set i mkE)) (ρ.set i mkE) fun kd => Out.ofO (nk? kd) fun k => if ks.length < sizeLine then .nx (ρ.set i (.val (ksD (if hasK ks k then ks else ks ++ [k])))) else .stuck
  | _ => .stuck
theorem dsx_put {tv tk : TE} {kf vf : ME} (hv : ∀ L, DF K L mg W tv vf) (hvk : ∀ ρ, ∃ d, vf ρ = .ok d) (hk : ∀ L, DF K L mg W tk kf) : DSX K P w mg W i (tAsg tv (gSub (tVar i) tk (rSetN P w))) (sPutX i kf) := fun L1 F0 H0 F H σ ρ D ⟨a, ks, H1, E, hi, ne, N⟩ q => by
  have li := (List.getElem?_eq_some_iff.mp hi).1
  unfold sPutX at q
  rw [hi, ofO_some] at q
  have q : WOX K P w mg W i L1 F0 H0 F D (Out.ofO (ks? (ksD ks)) fun ks => Out.of (kf (ρ.set i mkE)) (ρ.set i mkE) fun kd => Out.ofO (nk? kd) fun k => if ks.length < sizeLine then .nx (ρ.set i (.val (ksD (if hasK ks k then ks else ks ++ [k])))) else .stuck) := q
  rw [ks_ksD, ofO_some] at q
  have el : σ[i]? = some (some (.ref a)) := join_some (E.sl i mkE (List.getElem?_set_self li))
  obtain ⟨dv, hdv⟩ := hvk (ρ.set i mkE)
  refine hv (L1, a) F0 H1 F H σ _ _ E ?_
  rw [hdv]
  intro F1 H2 v s1 r1
  have E1 := E.step s1
  have N1 := N.on s1.ff E1.st E.st.ff
  refine ⟨.ref a, el, ?_⟩
  refine hk (L1, a) F0 H1 F1 H2 σ _ _ E1 (post_mono (WOX.of E1 N.ex (WOX.mono s1.ff q)) (fun kd k F2 H3 y s2 r2 => ?_) fun _ z => z)
  obtain ⟨nk, qn, k2⟩ := WOX.ofO k
  obtain ⟨b, rfl, hb⟩ := nk_rep r2 qn
  have E2 := E1.step s2
  have N2 := N1.on s2.ff E2.st E1.st.ff
  obtain ⟨xs, x1, x2, x3⟩ := N2.xs
  split at k2
  · rename_i hl
    have xl : xs.length < sizeLine := by
      have : (keysX xs).length = xs.length := by unfold keysX; rw [List.length_map]
      rw [← this, x2]; exact hl
    refine ⟨a, xs, b, nk, rfl, E2.st.hh _ _ x1, rfl, hb.mono E2.st.fh, fun x hx => (x3 x hx).mono E2.st.fh, xl, fun u => ?_⟩
    refine k2 F2 _ σ s2.ff ⟨a, _, upd H1 a (nstO P w a (storedN xs nk b u)), ?_, List.getElem?_set_self li, noErr_set ne _ rfl, ?_⟩
    · rw [List.set_set]
      exact E2.both N2.fa x1
    · refine ⟨fun x o z => ?_, N.za, N2.fa, N.ns, storedN xs nk b u, upd_same, ?_, storedN_nk x3 hb⟩
      · rw [upd_ne (ne_of_none z N.za)]; exact N.ex x o z
      · rw [storedN_keys]
        unfold hasN
        rw [x2]
  · exact k2.elim
/-! ### the region -/
def clrI (i : Nat) (ρ : Fr) : Fr := ρ.set i .none
def sRegX (i : Nat) (g : MS) : MS := fun ρ => if noErr ρ = true ∧ i < ρ.length then (match g (ρ.set i (.val (ksD []))) with
  | .ret d ρ1 => if noErr (clrI i ρ1) then .ret d (clrI i ρ1) else .stuck
  | .exc n ρ1 => if noErr (clrI i ρ1) then .exc n (clrI i ρ1) else .stuck
  | _ => .stuck) else .stuck
theorem Env.other {L L' : Addr × Addr} (E : Env K L F0 H0 F H σ ρ) (ne : noErr ρ = true) (h1 : L'.1 = L.1) : Env K L' F0 H0 F H σ ρ where
  st := E.st
  len := E.len
  sl := fun j s q => by
    have z := E.sl j s q
    cases s with
    | none => trivial
    | err n => exact (err_no ne q).elim
    | val d => exact z
    | own us => exact z
    | pin us => obtain ⟨e, r⟩ := z; rw [← h1] at e r; exact ⟨e, r⟩
  sep := E.sep
theorem Env.clr {L : Addr × Addr} (E : Env K L F0 H0 F H σ ρ) : Env K L F0 H0 F H σ (clrI i ρ) where
  st := E.st
  len := by unfold clrI; rw [List.length_set]; exact E.len
  sl := fun j s q => by
    rcases set_get q with ⟨e, es, _⟩ | ⟨nj, h'⟩
    · subst es; trivial
    · exact E.sl j s h'
  sep := fun j k l h1 h2 e1 e2 => by
    have nj := own_ne (s := .none) rfl h1
    have nk := own_ne (s := .none) rfl h2
    unfold clrI at h1 h2
    rw [List.getElem?_set_ne nj] at h1
    rw [List.getElem?_set_ne nk] at h2
    exact E.sep j k l h1 h2 e1 e2
theorem ds_reg {L : Addr × Addr} {t : TS} {g : MS} (hg : DSX K P w mg W i t g) : DS K L mg W (tSeq (tAsg (tDNewN P w) (gName i)) t) (sRegX i g) := fun F0 H0 F H σ ρ D E q => by
  unfold sRegX at q
  by_cases c : noErr ρ = true ∧ i < ρ.length
  · rw [if_pos c] at q
    obtain ⟨ne, li⟩ := c
    intro p hp hsys
    show t D (σ.set i (some (.ref p))) (upd H p (nstO P w p []))
    have h0 : H0 p = none := E.st.hh.free hp
    have f0 : F p = none := E.st.fh.free hp
    refine hg L.1 F0 H0 F _ _ (ρ.set i (.val (ksD []))) _ ⟨p, [], upd H0 p (nstO P w p []), ?_, List.getElem?_set_self li, noErr_set ne _ rfl, ?_⟩ ?_
    · rw [List.set_set]
      refine ⟨⟨E.st.ff, E.st.hh.upd, fun x u q1 q2 q3 => ?_, E.st.fh.trans (Ex.new hp)⟩, by rw [List.length_set, List.length_set]; exact E.len, fun j sl qj => ?_, fun j k l h1 h2 e1 e2 => ?_⟩
      · by_cases z : x = p
        · rw [z]; exact f0
        · rw [upd_ne z] at q2; exact E.st.nw x u q1 q2 q3
      · rcases set_get qj with ⟨e, es, _⟩ | ⟨nj, h'⟩
        · subst e; subst es
          rw [List.getElem?_set_self (by rw [E.len]; exact li)]
          rfl
        · rw [List.getElem?_set_ne nj]
          have z := E.sl j sl h'
          cases sl with
          | none => trivial
          | err n => exact (err_no ne h').elim
          | val d => exact z
          | own us =>
            obtain ⟨m, ho2, e, g2, g3, g4, rr⟩ := z
            have nm : m ≠ p := ne_of_none g4 hp
            exact ⟨m, ho2, e, g2, by rw [upd_ne nm]; exact g3, by rw [upd_ne nm]; exact g4, rr⟩
          | pin us =>
            obtain ⟨e, g2, g3, ho2, g4, rr⟩ := z
            have nm : L.1 ≠ p := ne_of_none g4 hp
            exact ⟨e, g2, by rw [upd_ne nm]; exact g3, ho2, by rw [upd_ne nm]; exact g4, rr⟩
      · have nj := own_ne (s := mkE) rfl h1
        have nk := own_ne (s := mkE) rfl h2
        rw [List.getElem?_set_ne nj] at h1 e1
        rw [List.getElem?_set_ne nk] at h2 e2
        exact E.sep j k l h1 h2 e1 e2
    · refine ⟨Ex.new h0, h0, f0, hsys, [], upd_same, rfl, fun x hx => by cases hx⟩
    · cases qg : g (ρ.set i (.val (ksD []))) with
      | ret d ρ1 =>
        rw [qg] at q
        have q : WO K mg W L F0 H0 F D (if noErr (clrI i ρ1) then .ret d (clrI i ρ1) else .stuck) := q
        split at q
        · rename_i n1
          exact fun F' H' σ' v a e E' r => q F' H' σ' v e ((E'.clr).other n1 rfl) r
        · exact q.elim
      | exc n ρ1 =>
        rw [qg] at q
        have q : WO K mg W L F0 H0 F D (if noErr (clrI i ρ1) then .exc n (clrI i ρ1) else .stuck) := q
        split at q
        · rename_i n1
          exact fun F' H' σ' a e E' => q F' H' σ' e ((E'.clr).other n1 rfl)
        · exact q.elim
      | nx ρ => rw [qg] at q; exact q.elim
      | brk ρ => rw [qg] at q; exact q.elim
      | cont ρ => rw [qg] at q; exact q.elim
      | retL ds ρ => rw [qg] at q; exact q.elim
      | stuck => rw [qg] at q; exact q.elim
  · rw [if_neg c] at q; exact q.elim
end
end Dn
namespace Dn
open PySem L2
section
variable {i : Nat} {ρ : Fr} {ks : List NK} {k : NK} {kf : ME} {g h : MS}
theorem sIfIn_at (hi : ρ[i]? = some (.val (ksD ks))) (hk : kf (ρ.set i mkE) = .ok (nkD k)) : sIfIn i kf g h ρ = if hasK ks k = true then g ρ else h ρ := by
  unfold sIfIn
  rw [hi, ofO_some]
  show (Out.ofO (ks? (ksD ks)) fun ks => Out.of (kf (ρ.set i mkE)) (ρ.set i mkE) fun kd => Out.ofO (nk? kd) fun k => if hasK ks k = true then g ρ else h ρ) = _
  rw [ks_ksD, ofO_some, hk, of_ok, nk_nkD, ofO_some]
theorem sPutX_at (hi : ρ[i]? = some (.val (ksD ks))) (hk : kf (ρ.set i mkE) = .ok (nkD k)) (hl : ks.length < 16777216) : sPutX i kf ρ = .nx (ρ.set i (.val (ksD (if hasK ks k then ks else ks ++ [k])))) := by
  unfold sPutX
  rw [hi, ofO_some]
  show (Out.ofO (ks? (ksD ks)) fun ks => Out.of (kf (ρ.set i mkE)) (ρ.set i mkE) fun kd => Out.ofO (nk? kd) fun k => if ks.length < sizeLine then Out.nx (ρ.set i (.val (ksD (if hasK ks k then ks else ks ++ [k])))) else .stuck) = _
  rw [ks_ksD, ofO_some, hk, of_ok, nk_nkD, ofO_some]
  exact if_pos (show ks.length < sizeLine from hl)
theorem loopX_cons {tg : D → Fr → Option Fr} {d : D} {ds : List D} {ρ1 : Fr} (h1 : tg d ρ = some ρ1) : loopX tg g (d :: ds) ρ = match g ρ1 with
    | .nx ρ2 => loopX tg g ds ρ2
    | .cont ρ2 => loopX tg g ds ρ2
    | .brk ρ2 => .nx ρ2
    | o => o := by
  conv => lhs; unfold loopX
  rw [h1, ofO_some]
end
end Dn

set_option Elab.async false
set_option linter.all false
set_option maxRecDepth 100000
set_option maxHeartbeats 4000000
/-! DenXG: min of three numbers -/
namespace Dn
open PySem PySem.Spec PyProof.Rows L2
def oMin3 : List V → Hp → VK → Prop := fun xs H Q => ∃ i j k, xs = [.int i, .int j, .int k] ∧ Q (.int (min (min i j) k)) H
theorem vals3 {x y z : V} {us : List Value} (r : Vals [x, y, z] us) : ∃ u v w', us = [u, v, w'] ∧ RelV x u ∧ RelV y v ∧ RelV z w' := by
  cases r with
  | cons r1 r2 =>
    cases r2 with
    | cons r3 r4 => cases r4 with
      | cons r5 r6 => cases r6; exact ⟨_, _, _, rfl, r1, r3, r5⟩
theorem call_min3 {X : Cx} (hc : X.calm = true) : CallR X (.builtin "min") oMin3 := by
  intro pins s σ H xs us Q I r h
  obtain ⟨i, j, l, rfl, q⟩ := h
  obtain ⟨u, v, w', rfl, ⟨t, rfl⟩, ⟨t', rfl⟩, ⟨t2, rfl⟩⟩ := vals3 r
  refine min_three_ints (I.ok.hd hc) fun h' tk k => ⟨_, H, I.kept k, ?_, q⟩
  by_cases h1 : j < i
  · rw [if_pos h1]
    by_cases h2 : l < j
    · rw [if_pos h2, show min (min i j) l = l by omega]; exact ⟨_, rfl⟩
    · rw [if_neg h2, show min (min i j) l = j by omega]; exact ⟨_, rfl⟩
  · rw [if_neg h1]
    by_cases h2 : l < i
    · rw [if_pos h2, show min (min i j) l = l by omega]; exact ⟨_, rfl⟩
    · rw [if_neg h2, show min (min i j) l = i by omega]; exact ⟨_, rfl⟩
theorem kMin3 {X : Cx} (hc : X.calm = true) : CallR X (.builtin "min") oMin3 := call_min3 hc
def min3D : List D → Option D
  | [.int i, .int j, .int k] => some (.int (min (min i j) k))
  | _ => none
theorem rc_min3 {K : PySem.W.Frag} : RCD K oMin3 min3D := by
  intro F H xs ds Q z ex rx h k
  unfold min3D at h
  split at h
  · cases h
    cases rx with
    | cons r1 rx => cases rx with
      | cons r2 rx => cases rx with
        | cons r3 rx =>
          cases rx
          obtain rfl := r1.isi
          obtain rfl := r2.isi
          obtain rfl := r3.isi
          exact ⟨_, _, _, rfl, k.here ex (.int _)⟩
  · cases h
end Dn

set_option Elab.async false
set_option linter.all false
set_option maxRecDepth 100000
set_option maxHeartbeats 4000000
/-! DenXH: max of a tuple of ints -/
namespace Dn
open PySem PySem.Spec PyProof.Rows L2
def rMaxT (K : PySem.W.Frag) : List V → Hp → VK → Prop := fun vs H Q => ∃ (a : Addr) (n : Int) (ns : List Int), vs = [V.ref a] ∧ SqT K H a ((n :: ns).map V.int) ∧ Q (.int (ns.foldl max n)) H
theorem cr_maxT {X : Cx} (hc : X.calm = true) (hu : X.A.units + 65 < cLine) : CallR X (.builtin "max") (rMaxT X.K) := by
  intro pins s σ H vs us Q I r h
  obtain ⟨a, n, ns, rfl, hs, q⟩ := h
  obtain ⟨its, rv, hl, _⟩ := I.tuple hs
  rw [Vals.ref1 r]
  have hi := rv.ints
  have hr : ReadsAll s.heap its.toArray.toList (.int n :: ns.map PyData.int) [] := reads_ints (ns := n :: ns) hi
  refine PySem.W.max_tuple_data (I.ok.hd hc) hl hr (alike_ints (n :: ns)) ?_ fun i v h' tk bs hv rd hk => ?_
  · have : PyData.depthAll (.int n :: ns.map PyData.int) = 0 := dep_ints (n :: ns)
    rw [this]
    omega
  · rw [PySem.W.maxD_ints] at rd
    cases rd
    exact ⟨.int _, H, I.kept hk, ⟨_, rfl⟩, q⟩
theorem kMaxT {X : Cx} {K : PySem.W.Frag} (hc : X.calm = true) (hu : X.A.units + 65 < cLine) (h : X.K = K := by rfl) : CallR X (.builtin "max") (rMaxT K) := h ▸ cr_maxT hc hu
def maxTD : List D → Option D
  | [.tuple ds] => (ints? ds).bind fun ns => match ns with
    | n :: ns => some (.int (ns.foldl max n))
    | [] => none
  | _ => none
theorem rc_maxT {K : PySem.W.Frag} : RCD K (rMaxT K) maxTD := by
  intro F H xs ds Q z ex rx h k
  unfold maxTD at h
  split at h
  · obtain ⟨x, rfl, r⟩ := rx.one
    rename_i es
    obtain ⟨l, vs, rfl, a, b, _⟩ := r.ist ex
    cases q : ints? es with
    | none => rw [q] at h; cases h
    | some ns =>
      rw [q] at h
      obtain rfl := ints?_eq q
      obtain rfl := b.ints
      cases ns with
      | nil => cases h
      | cons n ns =>
        cases h
        exact ⟨l, n, ns, rfl, a, k.here ex (.int _)⟩
  · cases h
theorem maxTD_two {i j : Int} : maxTD [.tuple [.int i, .int j]] = some (.int (max i j)) := rfl
end Dn

set_option Elab.async false
set_option linter.all false
set_option maxRecDepth 100000
set_option maxHeartbeats 4000000
/-! DenXI: len(set(xs)), xs a list of tuples of ints that are all the same -/
namespace Dn
open PySem PySem.Spec PyProof.Rows L2
def tLenSetT (K : PySem.W.Frag) (ta : TE) : TE := fun σ H Q => ta σ H fun x H1 => ∃ (l : Addr) (ks : List (Addr × List Int)), x = V.ref l ∧ SqL K H1 l (ks.map fun p => V.ref p.1) ∧ (∀ p ∈ ks, SqT K H1 p.1 (p.2.map V.int)) ∧ ks.length < 64 ∧
  ∀ ls : List (List Int), ls.Nodup → (∀ k ∈ ls, k ∈ ks.map (·.2)) → (∀ p ∈ ks, p.2 ∈ ls) → Q (.int (ls.length : Int)) H1
theorem pe_lenSetT {X : Cx} {K : PySem.W.Frag} {a : Expr} {ta : TE} {p p2 q pos : Pos} (hc : X.calm = true) (hu : X.A.units + 65 < cLine) (hg : Gl X "len") (hm : X.mg "len" = none) (hg2 : Gl X "set") (hm2 : X.mg "set" = none) (ha : PE X a ta)
    (hK : X.K = K := by rfl) (na : starEach [a] X.env = (false, eval a X.env) :: starEach [] X.env := by rfl) : PE X (.Call (.Name "len" p) [.Call (.Name "set" p2) [a] [] q] [] pos) (tLenSetT K ta) := by
  subst hK
  refine ⟨fun pins s σ H Q I h => ?_⟩
  refine Call_ (ld_blt I hg hm PySem.boot_len ?_)
  refine PyProof.Rows.callWith_builtin1 (PyProof.Rows.args_cons ?_ rfl) rfl rfl
  refine Call_ (ld_blt I hg2 hm2 PyProof.Rows.boot_set ?_)
  refine PyProof.Rows.callWith_type1 (PyProof.Rows.args_cons (thn (ha.run pins s σ H _ I h) fun v s1 ⟨x, H1, I1, r1, q1⟩ => PyProof.Rows.args_nil ?_) na) na rfl
  obtain ⟨l, ks, rfl, hl, hk, hf, q1⟩ := q1
  cases r1
  obtain ⟨its, rv, pl, hz⟩ := I1.list hl
  refine L2.call_set_tups (P := X.prog) (w := X.w) ks (I1.ok.hd hc) pl.isList (by simpa using refs_of_vals rv) (fun p hp => I1.isT (hk p hp)) hf (by omega) fun h' tk L es ep t R g k => ?_
  refine PyProof.Rows.args_nil ?_
  obtain ⟨o, ho, hex, hd⟩ := R.ob
  have I2 : Inv X pins σ H1 { s1 with heap := h', toks := tk } := I1.kept k
  have hn : es.size = L.length := R.size (s := { s1 with heap := h', toks := tk })
  refine call_len_set ho hex hd (R.fits (s := { s1 with heap := h', toks := tk })) (by have := R.few; rw [hn]; omega) ⟨.int (L.length : Int), H1, I2.tok _, ⟨_, by rw [hn]⟩, ?_⟩
  have := q1 (L.map (·.2)) R.nd (fun k hk' => ?_) fun p hp => g.all p (by rw [List.take_length]; exact hp)
  · rw [List.length_map] at this; exact this
  · obtain ⟨p, hp, rfl⟩ := List.mem_map.mp hk'
    exact List.mem_map.mpr ⟨p, List.mem_of_mem_take (g.sub p hp), rfl⟩
open Classical in
noncomputable def lsD : D → Option D
  | .list (d :: ds) => if (∀ e ∈ ds, e = d) ∧ ds.length < 63 ∧ ∃ ns : List Int, d = .tuple (ns.map .int) then some (.int 1) else none
  | _ => none
noncomputable def eLS (a : ME) : ME := fun ρ => (a ρ).bind fun d => lift (lsD d)
@[simp] theorem eLS_ap {a : ME} {ρ : Fr} : eLS a ρ = (a ρ).bind fun d => lift (lsD d) := rfl
section
variable {K : PySem.W.Frag} {L : Addr × Addr} {mg : Str → Option Value} {W : WX} {ta : TE} {a : ME}
theorem same_tups {F H : Hp} (ex : Ex F H) {ns : List Int} : ∀ {vs : List V} {ds : List D}, RepL K F vs ds → (∀ e ∈ ds, e = .tuple (ns.map .int)) → ∃ as : List Addr, vs = as.map V.ref ∧ ∀ a ∈ as, SqT K H a (ns.map V.int)
  | _, _, .nil, _ => ⟨[], rfl, fun a h => by cases h⟩
  | _, _, .cons (v := v) (d := d) r q, h => by
    obtain ⟨as, e, hs⟩ := same_tups ex q fun e he => h e (by simp [he])
    have hd := h d (by simp)
    subst hd
    obtain ⟨l, ws, rfl, sq, b, _⟩ := RepB.ist ex (RepB.frz (K := K) (H := H) r)
    obtain rfl := b.ints
    refine ⟨l :: as, by rw [e]; rfl, fun a ha => ?_⟩
    rcases List.mem_cons.mp ha with rfl | ha
    · exact sq
    · exact hs a ha
theorem df_lenSet (ha : DE K L mg W ta a) : DF K L mg W (tLenSetT K ta) (eLS a) := fun F0 H0 F H σ ρ Q E p => by
  refine ha F0 H0 F H σ ρ _ E (post_mono (post_bind p) (fun d k F1 H1 x s1 r1 => ?_) fun _ z => z)
  obtain ⟨z, ez, k⟩ := post_lift k
  unfold lsD at ez
  split at ez
  · rename_i d ds
    split at ez
    · rename_i c
      obtain ⟨c1, c2, ns, rfl⟩ := c
      cases ez
      obtain ⟨l, vs, rfl, h, r⟩ := r1.isl s1.fh
      obtain ⟨as, rfl, hs⟩ := same_tups s1.fh r fun e he => by
        rcases List.mem_cons.mp he with e1 | e1
        · exact e1
        · exact c1 e e1
      have la : as.length = ds.length + 1 := by
        have := r.length
        rw [List.length_map, List.length_cons] at this
        exact this
      refine ⟨l, as.map fun a => (a, ns), rfl, ?_, fun p hp => ?_, by rw [List.length_map]; omega, fun ls nd sub all => ?_⟩
      · rw [List.map_map]
        exact .of h
      · obtain ⟨a, ha', rfl⟩ := List.mem_map.mp hp
        exact hs a ha'
      · have one : ls.length = 1 := by
          have sb : ∀ k ∈ ls, k = ns := fun k hk => by
            obtain ⟨p, hp, rfl⟩ := List.mem_map.mp (sub k hk)
            obtain ⟨a, _, rfl⟩ := List.mem_map.mp hp
            rfl
          cases as with
          | nil => simp at la
          | cons a as =>
            have m := all (a, ns) (by simp)
            match ls, nd, sb, m with
            | [], _, _, m => cases m
            | [k], _, _, _ => rfl
            | k :: k' :: r, nd, sb, _ =>
              have e1 := sb k (by simp)
              have e2 := sb k' (by simp)
              rw [e1, e2] at nd
              exact absurd (List.nodup_cons.mp nd).1 (by simp)
        rw [one]
        exact k F1 H1 _ s1 (.int _)
    · cases ez
  · cases ez
end
theorem lsD_same {ns : List Int} {n : Nat} (h : n < 63) : lsD (.list (List.replicate (n + 1) (.tuple (ns.map .int)))) = some (.int 1) := by
  rw [List.replicate_succ]
  unfold lsD
  exact if_pos ⟨fun e he => (List.mem_replicate.mp he).2, by rw [List.length_replicate]; exact h, ns, rfl⟩
end Dn

set_option Elab.async false
set_option linter.all false
set_option maxRecDepth 100000
set_option maxHeartbeats 4000000
/-! DenXJ: len(set(xs)), xs a list of truth values, or of ints (doubles too) -/
namespace Dn
open PySem PySem.Spec PyProof.Rows L2
/-- the distinct ones, in the order in which they come -/
def ddK {κ : Type} [DecidableEq κ] (ks : List κ) : List κ := ks.foldl (fun acc x => if x ∈ acc then acc else acc ++ [x]) []
section
variable {κ : Type} [DecidableEq κ]
theorem ddK_snoc (ks : List κ) (x : κ) : ddK (ks ++ [x]) = if x ∈ ddK ks then ddK ks else ddK ks ++ [x] := by
  unfold ddK
  rw [List.foldl_append]
  rfl
theorem snoc_ind {P : List κ → Prop} (h0 : P []) (h1 : ∀ ks x, P ks → P (ks ++ [x])) (ks : List κ) : P ks := by
  rw [← List.reverse_reverse ks]
  induction ks.reverse with
  | nil => exact h0
  | cons x r ih => rw [List.reverse_cons]; exact h1 _ _ ih
theorem mem_ddK (ks : List κ) : ∀ k : κ, k ∈ ddK ks ↔ k ∈ ks := by
  refine snoc_ind (P := fun ks => ∀ k : κ, k ∈ ddK ks ↔ k ∈ ks) (fun k => Iff.rfl) (fun ks x ih k => ?_) ks
  rw [ddK_snoc]
  split
  · rename_i hx
    rw [ih, List.mem_append, List.mem_singleton]
    exact ⟨.inl, fun z => z.elim id fun e => e ▸ (ih x).mp hx⟩
  · rw [List.mem_append, List.mem_append, ih]
theorem ddK_le (ks : List κ) : (ddK ks).length ≤ ks.length := by
  refine snoc_ind (P := fun ks => (ddK ks).length ≤ ks.length) (Nat.le_refl _) (fun ks x ih => ?_) ks
  rw [ddK_snoc, List.length_append]
  split
  · exact Nat.le_trans ih (Nat.le_add_right _ _)
  · rw [List.length_append]
    exact Nat.add_le_add_right ih _
theorem ddK_nodup (ks : List κ) : (ddK ks).Nodup := by
  refine snoc_ind (P := fun ks => (ddK ks).Nodup) List.nodup_nil (fun ks x ih => ?_) ks
  rw [ddK_snoc]
  split
  · exact ih
  · rename_i h
    rw [List.nodup_append]
    refine ⟨ih, by simp, fun a ha b hb e => ?_⟩
    rw [List.mem_singleton.mp hb] at e
    exact h (e ▸ ha)
end
section
variable {prog : Program} {w : World} {A : Around} {κ : Type} [DecidableEq κ] {knd : PySem.KeyKind prog w κ}
/-- keys that stand for values -/
def KeysAt (knd : PySem.KeyKind prog w κ) (ks : List κ) (i : Nat) (v : Value) : Prop := ∃ k, ks[i]? = some k ∧ knd.is k v = true ∧ v.scannable = true
theorem upd_loop {I : Addr} {fp wr : List Addr} {G : Array GenState → Array GenState → Prop} {n : Nat} {Y : Nat → Value → Prop} {St : Nat → Shared → Prop} {R : Result → Shared → Prop} (W : WalksS prog w A.in1 I fp wr G n Y St)
    (T : Addr) (hT : T ∉ fp) (ks : List κ) (hn : ks.length = n) (hY : ∀ i v, Y i v → KeysAt knd ks i v) (room : n + 1 < scanBound) :
    ∀ (m i : Nat) (s : Shared), i + m = n → St i s → s.heap.SetOf knd T (fun k => decide (k ∈ ddK (ks.take i))) (ddK (ks.take i)).length →
      (∀ s', Moved (T :: wr) G s s' → s'.heap.SetOf knd T (fun k => decide (k ∈ ddK ks)) (ddK ks).length → R (.ok (.ret .none)) s') →
      codeAny (model prog w) A (.builtin "set.update.loop" ⟨[.ref T, .ref I], []⟩) R s := by
  have out : T ∉ wr := fun z => hT (W.sub _ z)
  have wider : ∀ b ∈ wr, b ∈ T :: wr := fun b hb => List.mem_cons_of_mem _ hb
  have stays : ∀ {h h' : Heap} {S : κ → Bool} {c : Nat}, (∀ o, h.get? T = some o → h'.get? T = some o) → h.SetOf knd T S c → h'.SetOf knd T S c := fun q z => by
    obtain ⟨o, es, ep, t, ho, r⟩ := z
    exact ⟨o, es, ep, t, q o ho, r⟩
  intro m
  induction m with
  | zero =>
    intro i s e st hS k
    obtain rfl : i = n := by omega
    refine codeAny_builtin PyProof.Rows.F.entry_set_update_loop (?_ : wpAny _ _ _ _ _ _)
    rw [Around.under_plainId PyProof.Rows.F.plain_set_update_loop _]
    show wpAny _ A.in1 (pyNext (.ref I) >>= _) _ _ s
    refine wpAny_bind (W.done s _ _ st fun s1 mv => ?_)
    show wpAny _ A.in1 (ret .none) _ _ s1
    refine wpAny_pure (k s1 (mv.mono wider) (stays (fun o z => mv.heap T o out z) ?_))
    rw [List.take_of_length_le (by omega)] at hS
    exact hS
  | succ m ih =>
    intro i s e st hS k
    refine codeAny_builtin PyProof.Rows.F.entry_set_update_loop (?_ : wpAny _ _ _ _ _ _)
    rw [Around.under_plainId PyProof.Rows.F.plain_set_update_loop _]
    show wpAny _ A.in1 (pyNext (.ref I) >>= _) _ _ s
    refine wpAny_bind (W.item i s _ _ (by omega) st fun v s1 y st1 mv => ?_)
    obtain ⟨key, hk, his, hsc⟩ := hY i v y
    have hS1 : s1.heap.SetOf knd T _ _ := stays (fun o z => mv.heap T o out z) hS
    have tk : ks.take (i + 1) = ks.take i ++ [key] := by rw [List.take_succ, hk]; rfl
    have few : (ddK (ks.take i)).length + 1 < scanBound := by
      have q1 := ddK_le (ks.take i)
      have q2 := List.length_take_le i ks
      omega
    show wpAny _ A.in1 (holding [v] (setAdd T v) >>= _) _ _ s1
    refine wpAny_bind (wpAny_holding ?_)
    unfold setAdd
    refine wpAny_holding (wpAny_bind (knd.pyHash (k := key) his ?_))
    refine wpAny_setAddHashed_of (knd := knd) (s := { s1 with toks := s1.toks + 1 }) his hsc hS1 few fun h2 sb hS2 => ?_
    have hS3 : h2.SetOf knd T (fun k => decide (k ∈ ddK (ks.take (i + 1)))) (ddK (ks.take (i + 1))).length := by
      have ef : (fun k => decide (k ∈ ddK (ks.take (i + 1)))) = fun k' => decide (k' ∈ ddK (ks.take i)) || decide (k' = key) := by
        funext k'
        rw [tk]
        by_cases c : k' ∈ ks.take i
        · rw [decide_eq_true ((mem_ddK _ _).mpr (List.mem_append_left _ c)), decide_eq_true ((mem_ddK _ _).mpr c)]
          rfl
        · rw [decide_eq_false (fun z => c ((mem_ddK _ _).mp z)), Bool.false_or]
          refine decide_eq_decide.mpr ?_
          rw [mem_ddK, List.mem_append, List.mem_singleton]
          exact ⟨fun z => z.resolve_left c, .inr⟩
      have en : (ddK (ks.take (i + 1))).length = if decide (key ∈ ddK (ks.take i)) = true then (ddK (ks.take i)).length else (ddK (ks.take i)).length + 1 := by
        rw [tk, ddK_snoc]
        by_cases c : key ∈ ddK (ks.take i)
        · rw [if_pos c, if_pos (decide_eq_true c)]
        · rw [if_neg c, if_neg (by rw [decide_eq_false c]; exact Bool.false_ne_true), List.length_append]
          rfl
      rw [ef, en]
      exact hS2
    refine wpAny_pure ⟨plainId_quiet PyProof.Rows.F.plain_set_update_loop _, ih (i + 1) _ (by omega) (W.frame _ s1 _ _ st1 (Nat.le_succ _) fun b hb o z => ?_) hS3 fun s4 mv4 z4 => ?_⟩
    · have ne : b ≠ T := fun q => hT (q ▸ hb)
      rw [sb.2 b ne]
      exact z
    · refine k s4 (Moved.trans W.gtrans ((mv.mono wider).then_heap (Nat.le_succ _) fun b o hb z => ?_) mv4) z4
      have ne : b ≠ T := fun q => hb (q ▸ List.mem_cons_self)
      rw [sb.2 b ne]
      exact z

/-- a set that has just been made -/
def newS (led : Bool) : Obj := { cls := .type "set", dict := none, data := .set #[] 0 (.fresh 0 0 led) }
theorem call_set_kind {s : Shared} {E : Value → Shared → Prop} {l : Addr} {items : Array Value} (ks : List κ) {Q : Value → Shared → Prop} (hh : A.handled = none) (hl : s.heap.IsList l items) (hn : ks.length = items.size) (hk : ∀ i v, items[i]? = some v → KeysAt knd ks i v) (room : items.size + 1 < scanBound)
    (q : ∀ (h' : Heap) (tk : Nat), h'.SetOf knd s.heap.objs.size (fun k => decide (k ∈ ddK ks)) (ddK ks).length → (∀ b o, b < s.heap.objs.size → s.heap.get? b = some o → h'.get? b = some o) → Q (.ref s.heap.objs.size) { s with heap := h', toks := tk }) :
    wpAny (model prog w) A (call (.type "set") [.ref l]) Q E s := by
  obtain ⟨mro1, mro2, mro3⟩ := F.called_set.mro
  obtain ⟨made, sub, no1, no2, ct⟩ : _ ∧ _ ∧ _ ∧ _ ∧ _ := ⟨F.called_set.made, F.called_set.sub, F.called_set.notType, F.called_set.canCreate, F.typeCall_set_1 (.ref l)⟩
  refine wpAny_call (codeAny_of_tree ((?_ : wpAny _ _ (callAny (.type "set") _) _ _ _)))
  refine wpAny_pure ⟨Code.quiet_builtin _ (by decide +kernel), codeAny_builtin F.entry_type_call ?_⟩
  rw [Around.under_plain (weight_type_call_type "set" [.ref l] []) rfl]
  repeat (any_goals (first | assumption | wp_step))
  refine codeAny_mono (code_set_new_1 (.ref l) (E := E) (Q₁ := fun v s1 => ∃ led : Bool, v = .ref s.heap.objs.size ∧ s1 = { s with heap := s.heap.push (newS led) }) fun led => ⟨led, rfl, rfl⟩) fun r s1 hr => ?_
  cases r with
  | error e => exact hr
  | ok fl =>
   cases fl with
   | ret v =>
    obtain ⟨led, rfl, rfl⟩ := hr
    have at0 : (s.heap.push (newS led)).get? s.heap.objs.size = some (newS led) := Heap.get?_push_size _ rfl
    have ty : Shared.TypeIs { s with heap := s.heap.push (newS led) } (.ref s.heap.objs.size) "set" := ⟨_, at0, rfl⟩
    have i1 := F.called_set.init.lookup
    have i2 := F.called_set.init.bind (.ref s.heap.objs.size)
    repeat (any_goals (first | assumption | wp_step))
    refine codeAny_mono (codeAny_call_builtin (R := wants (fun r s2 => r = .none ∧ ∃ h' tk, s2 = { s with heap := h', toks := tk } ∧ h'.SetOf knd s.heap.objs.size (fun k => decide (k ∈ ddK ks)) (ddK ks).length ∧
      ∀ b o, b < s.heap.objs.size → s.heap.get? b = some o → h'.get? b = some o) E) F.called_set.init.plain F.entry_set_init (check_set_init_1 ty ?_)) fun r2 s2 hr2 => ?_
    · obtain ⟨ol, hol, hc, nl, hd⟩ := hl
      obtain ⟨_, od, _, os⟩ := ol
      simp only at hc hd
      subst hc hd
      have lt : l < s.heap.objs.size := Heap.lt_size hol
      have there : (s.heap.push (newS led)).get? l = some { cls := .type "list", dict := od, data := .seq items nl, slots := os } := Heap.get?_push_of_some _ hol
      have isl : (s.heap.push (newS led)).IsList l items := ⟨_, there, rfl, nl, rfl⟩
      have sz : (s.heap.push (newS led)).objs.size = s.heap.objs.size + 1 := by rw [Heap.size_push]
      have sub1 := F.sub_list_set
      have sub2 := F.sub_list_frozenset
      have ne : (Value.type "list" == Value.type "dict") = false := by decide
      unfold Builtin.«set.__init__» noKeywords Builtin.Frozenset.updateFrom
      generalize ei : pyIter = it
      wp_walk
      subst ei
      refine wpAny_pyIter_list isl (wpAny_bind (wpAny_runValue ?_))
      have calm : A.in1.in1.in1.handled = none := by simp [hh]
      refine upd_loop (knd := knd) ((Walks.list calm _ l (by rw [sz]; exact Nat.ne_of_lt (Nat.lt_succ_of_lt lt)) items).toS) s.heap.objs.size (fun z => by
        rw [sz] at z
        rcases List.mem_cons.mp z with e | z
        · exact absurd e (Nat.ne_of_lt (Nat.lt_succ_self _))
        · exact absurd (List.mem_singleton.mp z) (Nat.ne_of_gt lt)) ks hn hk room items.size 0 _ (Nat.zero_add _) ⟨⟨_, Heap.get?_push_size _ rfl, rfl, rfl⟩, isl.push _⟩ ?_ fun s3 mv st => ?_
      · exact (PyProof.Rows.setObjOf_fresh (knd := knd) led).setOf (Heap.get?_push_of_some _ at0) (by unfold scanBound; exact Nat.zero_lt_succ _)
      · obtain ⟨h3, g3, d3, t3, o3⟩ := s3
        obtain rfl : g3 = s.gens := mv.gens
        obtain rfl : d3 = s.drawn := mv.drawn
        obtain rfl : o3 = s.os := mv.os
        show wpAny _ _ _ _ _ _
        refine wpAny_pure ?_
        show wpAny _ _ (ret .none) _ _ _
        refine wpAny_pure ⟨rfl, h3, t3, rfl, st, fun b o lb e => mv.heap b o ?_ (Heap.get?_push_of_some _ (Heap.get?_push_of_some _ e))⟩
        intro z
        rw [sz] at z
        rcases List.mem_cons.mp z with e | z
        · exact absurd e (Nat.ne_of_lt lb)
        · exact absurd (List.mem_singleton.mp z) (Nat.ne_of_lt (Nat.lt_succ_of_lt lb))
    · cases r2 with
      | error e => exact hr2
      | ok fl =>
       cases fl with
       | ret v =>
        obtain ⟨rfl, h', tk, rfl, st, kept⟩ := hr2
        repeat (any_goals (first | assumption | wp_step))
        exact q _ _ st kept
       | _ => exact hr2.elim
   | _ => exact hr.elim
end
/-! ### len(set(xs)) -/
theorem vals_get : ∀ {xs : List V} {us : List Value}, Vals xs us → ∀ (i : Nat) (u : Value), us[i]? = some u → ∃ x, xs[i]? = some x ∧ RelV x u
  | _, _, .nil, i, u, h => by simp at h
  | _, _, .cons r _, 0, u, h => by simp at h; subst h; exact ⟨_, rfl, r⟩
  | _, _, .cons _ t, i + 1, u, h => by
    obtain ⟨x, e, r⟩ := vals_get t i u (by simpa using h)
    exact ⟨x, by simpa using e, r⟩
/-- what is counted: truth values, ints -/
inductive CV (K : PySem.W.Frag) (H : Hp) : List V → Nat → Prop
  | cbs (bs : List Bool) : CV K H (bs.map V.bl) (ddK bs).length
  | cis (ns : List Int) : CV K H (ns.map V.int) (ddK ns).length
def tLenSetC (K : PySem.W.Frag) (ta : TE) : TE := fun σ H Q => ta σ H fun x H1 => ∃ (l : Addr) (vs : List V) (n : Nat), x = V.ref l ∧ SqL K H1 l vs ∧ CV K H1 vs n ∧ vs.length < 1000 ∧ Q (.int (n : Int)) H1
theorem pe_lenSetC {X : Cx} {K : PySem.W.Frag} {a : Expr} {ta : TE} {p p2 q pos : Pos} (hc : X.calm = true) (hg : Gl X "len") (hm : X.mg "len" = none) (hg2 : Gl X "set") (hm2 : X.mg "set" = none) (ha : PE X a ta)
    (hK : X.K = K := by rfl) (na : starEach [a] X.env = (false, eval a X.env) :: starEach [] X.env := by rfl) : PE X (.Call (.Name "len" p) [.Call (.Name "set" p2) [a] [] q] [] pos) (tLenSetC K ta) := by
  subst hK
  refine ⟨fun pins s σ H Q I h => ?_⟩
  refine Call_ (ld_blt I hg hm PySem.boot_len (PyProof.Rows.callWith_builtin1 (PyProof.Rows.args_cons ?_ rfl) rfl rfl))
  refine Call_ (ld_blt I hg2 hm2 PyProof.Rows.boot_set (PyProof.Rows.callWith_type1 (PyProof.Rows.args_cons (thn (ha.run pins s σ H _ I h) fun v s1 ⟨x, H1, I1, r1, q1⟩ => PyProof.Rows.args_nil ?_) na) na rfl))
  obtain ⟨l, vs, n, rfl, hl, cv, few, q1⟩ := q1
  cases r1
  obtain ⟨its, rv, pl, hz⟩ := I1.list hl
  have si : its.toArray.size = vs.length := by rw [List.size_toArray, rv.length]
  cases cv with
  | cbs bs =>
    rw [List.length_map] at si few
    refine call_set_kind (knd := PpSet.boolK X.prog X.w) bs (I1.ok.hd hc) pl.isList si.symm (fun i v e => ?_) (by rw [si]; unfold scanBound; omega) fun h' tk R k => ?_
    · rw [List.getElem?_toArray] at e
      obtain ⟨x, ex, rx⟩ := vals_get rv i v e
      rw [List.getElem?_map] at ex
      obtain ⟨b, eb, rfl⟩ := Option.map_eq_some_iff.mp ex
      obtain rfl : v = Value.bool b := rx
      exact ⟨b, eb, PpSet.boolK_is _ _ _, rfl⟩
    · refine PyProof.Rows.args_nil ?_
      obtain ⟨o, es, ep, t, ho, hx, hd, _, _, _, hf, hn⟩ := R
      have le := ddK_le bs
      have I2 : Inv X pins σ H1 { s1 with heap := h', toks := tk } := I1.kept fun b o e => k b o (Heap.lt_size e) e
      exact call_len_set ho hx hd hf (by rw [hn]; omega) ⟨.int _, H1, I2.tok _, ⟨_, by rw [hn]⟩, q1⟩
  | cis ns =>
    rw [List.length_map] at si few
    refine call_set_kind (knd := intKind X.prog X.w) ns (I1.ok.hd hc) pl.isList si.symm (fun i v e => ?_) (by rw [si]; unfold scanBound; omega) fun h' tk R k => ?_
    · rw [List.getElem?_toArray] at e
      obtain ⟨x, ex, rx⟩ := vals_get rv i v e
      rw [List.getElem?_map] at ex
      obtain ⟨m, em, rfl⟩ := Option.map_eq_some_iff.mp ex
      obtain ⟨tv, rfl⟩ : ∃ tv, v = Value.int m tv := rx
      exact ⟨m, em, intKind_is _ _ _ _, rfl⟩
    · refine PyProof.Rows.args_nil ?_
      obtain ⟨o, es, ep, t, ho, hx, hd, _, _, _, hf, hn⟩ := R
      have le := ddK_le ns
      have I2 : Inv X pins σ H1 { s1 with heap := h', toks := tk } := I1.kept fun b o e => k b o (Heap.lt_size e) e
      exact call_len_set ho hx hd hf (by rw [hn]; omega) ⟨.int _, H1, I2.tok _, ⟨_, by rw [hn]⟩, q1⟩
open Classical in
/-- how many things a list holds, of truth values or ints -/
noncomputable def lcL (ds : List D) : Option D := if ds.length < 1000 then (if h : ∃ bs : List Bool, ds = bs.map .bool then some (.int ((ddK h.choose).length : Int)) else if h : ∃ ns : List Int, ds = ns.map .int then some (.int ((ddK h.choose).length : Int)) else none) else none
noncomputable def lcD : D → Option D
  | .list ds => lcL ds
  | _ => none
noncomputable def eLC (a : ME) : ME := fun ρ => (a ρ).bind fun d => lift (lcD d)
@[simp] theorem eLC_ap {a : ME} {ρ : Fr} : eLC a ρ = (a ρ).bind fun d => lift (lcD d) := rfl
theorem map_bool_inj {as bs : List Bool} (h : as.map PyData.bool = bs.map PyData.bool) : as = bs := by
  induction as generalizing bs with
  | nil => cases bs with | nil => rfl | cons _ _ => cases h
  | cons a as ih => cases bs with | nil => cases h | cons b bs => injection h with h1 h2; injection h1 with h1; rw [h1, ih h2]
theorem map_int_inj {as bs : List Int} (h : as.map PyData.int = bs.map PyData.int) : as = bs := by
  induction as generalizing bs with
  | nil => cases bs with | nil => rfl | cons _ _ => cases h
  | cons a as ih => cases bs with | nil => cases h | cons b bs => injection h with h1 h2; injection h1 with h1; rw [h1, ih h2]
theorem lcD_bools {bs : List Bool} (h : bs.length < 1000) : lcD (.list (bs.map .bool)) = some (.int ((ddK bs).length : Int)) := by
  have hx : ∃ cs : List Bool, bs.map PyData.bool = cs.map .bool := ⟨bs, rfl⟩
  have e := map_bool_inj hx.choose_spec
  show lcL _ = _
  unfold lcL
  rw [List.length_map, if_pos h, dif_pos hx, ← e]
theorem lcD_ints {ns : List Int} (h : ns.length < 1000) : lcD (.list (ns.map .int)) = some (.int ((ddK ns).length : Int)) := by
  show lcL _ = _
  unfold lcL
  rw [List.length_map, if_pos h]
  cases ns with
  | nil =>
    have hx : ∃ cs : List Bool, ([] : List Int).map PyData.int = cs.map .bool := ⟨[], rfl⟩
    have e : hx.choose = [] := by
      have := hx.choose_spec
      cases q : hx.choose with
      | nil => rfl
      | cons b bs => rw [q] at this; cases this
    rw [dif_pos hx, e]
    rfl
  | cons n ns =>
    have no : ¬ ∃ cs : List Bool, (n :: ns).map PyData.int = cs.map .bool := fun ⟨cs, e⟩ => by cases cs <;> cases e
    have hx : ∃ cs : List Int, (n :: ns).map PyData.int = cs.map .int := ⟨_, rfl⟩
    have e := map_int_inj hx.choose_spec
    rw [dif_neg no, dif_pos hx, ← e]
section
variable {K : PySem.W.Frag} {L : Addr × Addr} {mg : Str → Option Value} {W : WX} {ta : TE} {a : ME}
theorem df_lenSetC (ha : DE K L mg W ta a) : DF K L mg W (tLenSetC K ta) (eLC a) := fun F0 H0 F H σ ρ Q E p => by
  refine ha F0 H0 F H σ ρ _ E (post_mono (post_bind p) (fun d k F1 H1 x s1 r1 => ?_) fun _ z => z)
  obtain ⟨z, ez, k⟩ := post_lift k
  cases d with
  | list ds =>
    obtain ⟨l, vs, rfl, h, r⟩ := r1.isl s1.fh
    have ln := r.length
    by_cases few : ds.length < 1000
    · have few' := few
      rcases Classical.em (∃ bs : List Bool, ds = bs.map .bool) with ⟨bs, rfl⟩ | nb
      · rw [List.length_map] at few
        rw [lcD_bools few] at ez
        cases ez
        obtain rfl := r.bools
        exact ⟨l, _, _, rfl, .of h, .cbs bs, by rw [ln]; exact few', k F1 H1 _ s1 (.int _)⟩
      · rcases Classical.em (∃ ns : List Int, ds = ns.map .int) with ⟨ns, rfl⟩ | nn
        · rw [List.length_map] at few
          rw [lcD_ints few] at ez
          cases ez
          obtain rfl := r.ints
          exact ⟨l, _, _, rfl, .of h, .cis ns, by rw [ln]; exact few', k F1 H1 _ s1 (.int _)⟩
        · have ez : lcL ds = some z := ez
          unfold lcL at ez
          rw [if_pos few, dif_neg nb, dif_neg nn] at ez
          cases ez
    · have ez : lcL ds = some z := ez
      unfold lcL at ez
      rw [if_neg few] at ez
      cases ez
  | _ => cases ez
end
end Dn

set_option Elab.async false
set_option linter.all false
set_option maxRecDepth 100000
set_option maxHeartbeats 4000000
/-! DenXK: statements as long as things of one's own of another kind (lists of lists ..) hang on a slot: the general part -/
namespace Dn
open PySem L2
/-- what hangs on the slot, at a: above H0, up to H1, not frozen in F -/
structure Reg (X : Type) where
  inv : Hp → Hp → Hp → Addr → X → Prop
  enc : X → D
  dec : D → Option X
  de : ∀ x, dec (enc x) = some x
  ex : ∀ {H0 H1 F : Hp} {a : Addr} {x : X}, inv H0 H1 F a x → Ex H0 H1
  on : ∀ {H0 H1 F F' : Hp} {a : Addr} {x : X}, inv H0 H1 F a x → Ex F F' → (∀ p o, F p = none → H1 p = some o → NTup o → F' p = none) → inv H0 H1 F' a x
section
variable {X : Type} (R : Reg X) (K : PySem.W.Frag)
def EnvR (i : Nat) (L1 : Addr) (F0 H0 F H : Hp) (σ : St) (ρ : Fr) : Prop :=
  ∃ (a : Addr) (x : X) (H1 : Hp), Env K (L1, a) F0 H1 F H σ (ρ.set i mkE) ∧ ρ[i]? = some (.val (R.enc x)) ∧ noErr ρ = true ∧ R.inv H0 H1 F a x
def WOR (mg : Str → Option Value) (W : WX) (i : Nat) (L1 : Addr) (F0 H0 F : Hp) (D : Ends) : Out → Prop
  | .nx ρ => ∀ F' H' σ', Ex F F' → EnvR R K i L1 F0 H0 F' H' σ' ρ → D.nx σ' H'
  | .brk ρ => ∀ F' H' σ', Ex F F' → EnvR R K i L1 F0 H0 F' H' σ' ρ → D.bk σ' H'
  | .cont ρ => ∀ F' H' σ', Ex F F' → EnvR R K i L1 F0 H0 F' H' σ' ρ → D.ct σ' H'
  | .ret d ρ => ∀ F' H' σ' v a, Ex F F' → Env K (L1, a) F0 H0 F' H' σ' ρ → Rep K F' v d → D.rt v H'
  | .exc n ρ => ∀ F' H' σ' a, Ex F F' → Env K (L1, a) F0 H0 F' H' σ' ρ → Wm mg W n σ' H'
  | _ => False
def DSR (mg : Str → Option Value) (W : WX) (i : Nat) (t : TS) (g : MS) : Prop :=
  ∀ L1 F0 H0 F H σ ρ D, EnvR R K i L1 F0 H0 F H σ ρ → WOR R K mg W i L1 F0 H0 F D (g ρ) → t D σ H
end
/-- a loop -/
def loopR (tg : D → Fr → Option Fr) (g : MS) : List D → Fr → Out
  | [], ρ => .nx ρ
  | d :: ds, ρ => Out.ofO (tg d ρ) fun ρ1 => match g ρ1 with
    | .nx ρ2 => loopR tg g ds ρ2
    | .cont ρ2 => loopR tg g ds ρ2
    | .brk ρ2 => .nx ρ2
    | o => o
def sForR (i : Nat) (f : ML) (tg : D → Fr → Option Fr) (g : MS) : MS := fun ρ => Out.of (f (ρ.set i mkE)) (ρ.set i mkE) fun ds => loopR (tgN i tg) g ds ρ
def sIfR (i : Nat) (tf : MT) (g h : MS) : MS := fun ρ => Out.of (tf (ρ.set i mkE)) (ρ.set i mkE) fun b => if b = true then g ρ else h ρ
section
variable {X : Type} {R : Reg X} {K : PySem.W.Frag} {mg : Str → Option Value} {W : WX} {i : Nat} {L1 a : Addr} {F0 H0 H1 F H F' H' : Hp} {σ : St} {ρ ρ' : Fr} {D : Ends} {x : X}
theorem WOR.mono {o : Out} (s : Ex F F') (q : WOR R K mg W i L1 F0 H0 F D o) : WOR R K mg W i L1 F0 H0 F' D o := by
  cases o with
  | nx ρ => exact fun F1 H1 σ1 e => q F1 H1 σ1 (s.trans e)
  | brk ρ => exact fun F1 H1 σ1 e => q F1 H1 σ1 (s.trans e)
  | cont ρ => exact fun F1 H1 σ1 e => q F1 H1 σ1 (s.trans e)
  | ret d ρ => exact fun F1 H1 σ1 v a e => q F1 H1 σ1 v a (s.trans e)
  | retL ds ρ => exact q
  | exc n ρ => exact fun F1 H1 σ1 a e => q F1 H1 σ1 a (s.trans e)
  | stuck => exact q
theorem WOR.ofO {α : Type} {m : Option α} {k : α → Out} (q : WOR R K mg W i L1 F0 H0 F D (Out.ofO m k)) : ∃ a, m = some a ∧ WOR R K mg W i L1 F0 H0 F D (k a) := by
  cases m with
  | some a => exact ⟨a, rfl, q⟩
  | none => exact q.elim
theorem Reg.step (N : R.inv H0 H1 F a x) (e : Ex F F') (s : Step F0 H1 F' H') (f0 : Ex F0 F) : R.inv H0 H1 F' a x :=
  R.on N e fun p o h1 h2 h3 => by
    refine s.nw p o ?_ h2 h3
    cases q : F0 p with
    | none => rfl
    | some u => have := f0 _ _ q; rw [h1] at this; cases this
theorem backR_env {s : S} {ρ1 ρ2 : Fr} (q : backN i s ρ1 = some ρ2) (hs : s = .val (R.enc x)) (N : R.inv H0 H1 F a x) (f0 : Ex F0 F) (e : Ex F F') (E : Env K (L1, a) F0 H1 F' H' σ ρ1) : EnvR R K i L1 F0 H0 F' H' σ ρ2 := by
  unfold backN at q
  split at q
  · rename_i c
    cases q
    rw [Bool.and_eq_true] at c
    obtain ⟨n, hn⟩ := errAt_is c.1
    have hl := (List.getElem?_eq_some_iff.mp hn).1
    refine ⟨a, x, H1, ?_, ?_, c.2, Reg.step N e E.st f0⟩
    · rw [List.set_set]
      exact E.mark hn
    · rw [List.getElem?_set_self hl, hs]
  · cases q
theorem dsr_lift {t : TS} {g : MS} (h : ∀ L, DS K L mg W t g) : DSR R K mg W i t (sLiftX i g) := fun L1 F0 H0 F H σ ρ D ⟨a, x, H1, E, hi, ne, N⟩ q => by
  refine h (L1, a) F0 H1 F H σ _ D E ?_
  unfold sLiftX at q
  rw [hi] at q
  have q : WOR R K mg W i L1 F0 H0 F D (match g (ρ.set i mkE) with
    | .nx ρ1 => Out.ofO (backN i (.val (R.enc x)) ρ1) .nx
    | .brk ρ1 => Out.ofO (backN i (.val (R.enc x)) ρ1) .brk
    | .cont ρ1 => Out.ofO (backN i (.val (R.enc x)) ρ1) .cont
    | .ret d ρ1 => .ret d ρ1
    | .exc n ρ1 => .exc n ρ1
    | _ => .stuck) := q
  cases qg : g (ρ.set i mkE) with
  | nx ρ1 =>
    rw [qg] at q
    obtain ⟨ρ2, q2, w2⟩ := WOR.ofO q
    exact fun F' H' σ' e E' => w2 F' H' σ' e (backR_env q2 rfl N E.st.ff e E')
  | brk ρ1 =>
    rw [qg] at q
    obtain ⟨ρ2, q2, w2⟩ := WOR.ofO q
    exact fun F' H' σ' e E' => w2 F' H' σ' e (backR_env q2 rfl N E.st.ff e E')
  | cont ρ1 =>
    rw [qg] at q
    obtain ⟨ρ2, q2, w2⟩ := WOR.ofO q
    exact fun F' H' σ' e E' => w2 F' H' σ' e (backR_env q2 rfl N E.st.ff e E')
  | ret d ρ1 => rw [qg] at q; exact fun F' H' σ' v e E' r => q F' H' σ' v a e (E'.less (R.ex N)) r
  | retL ds ρ => rw [qg] at q; exact q.elim
  | exc n ρ1 => rw [qg] at q; exact fun F' H' σ' e E' => q F' H' σ' a e (E'.less (R.ex N))
  | stuck => rw [qg] at q; exact q.elim
theorem dsr_next : DSR R K mg W i tNext sNext := fun L1 F0 H0 F H σ ρ D E q => q F H σ (Ex.refl _) E
theorem dsr_brk : DSR R K mg W i tBreak sBrk := fun L1 F0 H0 F H σ ρ D E q => q F H σ (Ex.refl _) E
theorem dsr_cont : DSR R K mg W i tCont sCont := fun L1 F0 H0 F H σ ρ D E q => q F H σ (Ex.refl _) E
theorem dsr_seq {t u : TS} {g h : MS} (h1 : DSR R K mg W i t g) (h2 : DSR R K mg W i u h) : DSR R K mg W i (tSeq t u) (sSeq g h) := fun L1 F0 H0 F H σ ρ D E q => by
  refine h1 L1 F0 H0 F H σ ρ _ E ?_
  unfold sSeq at q
  cases qg : g ρ with
  | nx ρ' => rw [qg] at q; exact fun F1 H1 σ1 e E1 => h2 L1 F0 H0 F1 H1 σ1 ρ' D E1 (q.mono e)
  | brk ρ => rw [qg] at q; exact q
  | cont ρ => rw [qg] at q; exact q
  | ret d ρ => rw [qg] at q; exact q
  | retL ds ρ => rw [qg] at q; exact q
  | exc n ρ => rw [qg] at q; exact q
  | stuck => rw [qg] at q; exact q
/-- what an expression ahead may raise -/
theorem WOR.of {α : Type} {m : M α} {k : α → Out} (E : Env K (L1, a) F0 H1 F H σ (ρ.set i mkE)) (ex : Ex H0 H1) (q : WOR R K mg W i L1 F0 H0 F D (Out.of m (ρ.set i mkE) k)) : post m (fun a => WOR R K mg W i L1 F0 H0 F D (k a)) (WE' mg W F H σ) := by
  cases m with
  | ok a => exact q
  | exc n => exact fun F1 H2 s => q F1 H2 σ a s.ff ((E.step s).less ex)
  | stuck => exact q.elim
theorem dsr_if {tt : TT} {tf : MT} {t u : TS} {g h : MS} (ht : ∀ L, DT K L mg W tt tf) (h1 : DSR R K mg W i t g) (h2 : DSR R K mg W i u h) : DSR R K mg W i (tIfS tt t u) (sIfR i tf g h) := fun L1 F0 H0 F H σ ρ D ⟨a, x, H1, E, hi, ne, N⟩ q => by
  refine ht (L1, a) F0 H1 F H σ _ _ E (post_mono (WOR.of E (R.ex N) q) (fun c k F1 H2 s => ?_) fun _ z => z)
  have EN : EnvR R K i L1 F0 H0 F1 H2 σ ρ := ⟨a, x, H1, E.step s, hi, ne, Reg.step N s.ff (E.step s).st E.st.ff⟩
  cases c with
  | true => exact iteT (h1 L1 F0 H0 F1 H2 σ ρ D EN (WOR.mono s.ff k))
  | false => exact iteF (h2 L1 F0 H0 F1 H2 σ ρ D EN (WOR.mono s.ff k))
theorem dsr_for {wi : TI} {f : ML} {gg : TG} {tg : Dn.D → Fr → Option Fr} {is : List Nat} {t : TS} {g : MS} (hi : ∀ L, DI K L mg W wi f) (hg : ∀ L, DG K L gg tg is) (hb : DSR R K mg W i t g) : DSR R K mg W i (tFor wi gg t) (sForR i f tg g) := fun L1 F0 H0 F H σ ρ D ⟨a, x, H1, E, hi', ne, N⟩ q => by
  refine hi (L1, a) F0 H1 F H σ _ _ E (post_mono (WOR.of E (R.ex N) q) (fun ds w1 F1 H2 J s src => ?_) fun _ z => z)
  obtain ⟨G, Y, wk, hG, hY⟩ := src
  have EN : EnvR R K i L1 F0 H0 F1 H2 σ ρ := ⟨a, x, H1, E.step s, hi', ne, Reg.step N s.ff (E.step s).st E.st.ff⟩
  refine for_it wk (fun j σ H => ∃ F ρ, Ex F1 F ∧ EnvR R K i L1 F0 H0 F H σ ρ ∧ WOR R K mg W i L1 F0 H0 F D (loopR (tgN i tg) g (ds.drop j) ρ)) ⟨F1, ρ, Ex.refl _, EN, by rw [List.drop_zero]; exact WOR.mono s.ff w1⟩
    (fun j σ H _ ⟨F, ρ, e, ⟨_, _, _, E, _⟩, _⟩ => hG F H e E.st.fh) ?_ ?_
  · rintro j y σ2 H2 H3 hlt ⟨F2, ρ2, e2, ⟨a2, x2, H12, E2, hi2, ne2, N2⟩, w2⟩ yy
    obtain ⟨F3, d, s3, hd, r3⟩ := hY j F2 H2 y H3 hlt e2 E2.st.fh yy
    have ed : ds.drop j = d :: ds.drop (j + 1) := by
      obtain ⟨h1, h2⟩ := List.getElem?_eq_some_iff.mp hd
      rw [List.drop_eq_getElem_cons h1, h2]
    rw [ed] at w2
    have w3 := WOR.mono s3.ff w2
    unfold loopR at w3
    obtain ⟨ρ3, q3, w4⟩ := WOR.ofO w3
    unfold tgN at q3
    rw [hi2] at q3
    have q3 : ((tg d (ρ2.set i mkE)).bind fun ρ1 => backN i (.val (R.enc x2)) ρ1) = some ρ3 := q3
    cases q4 : tg d (ρ2.set i mkE) with
    | none => rw [q4] at q3; cases q3
    | some ρ1 =>
      rw [q4] at q3
      refine hg (L1, a2) F0 H12 F3 H3 σ2 _ y d _ ρ1 (E2.step s3) r3 q4 fun σ3 E3 _ => ?_
      refine hb L1 F0 H0 F3 H3 σ3 ρ3 _ (backR_env q3 rfl N2 E2.st.ff s3.ff E3) ?_
      cases qq : g ρ3 with
      | nx ρ4 => rw [qq] at w4; exact fun F4 H4 σ4 e4 E4 => ⟨F4, ρ4, e2.trans (s3.ff.trans e4), E4, WOR.mono e4 w4⟩
      | cont ρ4 => rw [qq] at w4; exact fun F4 H4 σ4 e4 E4 => ⟨F4, ρ4, e2.trans (s3.ff.trans e4), E4, WOR.mono e4 w4⟩
      | brk ρ4 => rw [qq] at w4; exact w4
      | ret d ρ => rw [qq] at w4; exact w4
      | retL ds ρ => rw [qq] at w4; exact w4
      | exc n ρ => rw [qq] at w4; exact w4
      | stuck => rw [qq] at w4; exact w4
  · rintro σ2 H2 ⟨F2, ρ2, e2, E2, w2⟩
    rw [List.drop_length] at w2
    exact w2 F2 H2 σ2 (Ex.refl _) E2
end
end Dn

set_option Elab.async false
set_option linter.all false
set_option maxRecDepth 100000
set_option maxHeartbeats 4000000
/-! DenXL: count of a list of truth values -/
namespace Dn
open PySem PySem.Spec PyProof.Rows L2
def rCntB (K : PySem.W.Frag) : V → List V → Hp → VK → Prop := fun x xs H Q => ∃ (p : Addr) (bs : List Bool) (k : Bool), x = .ref p ∧ xs = [.bl k] ∧ SqL K H p (bs.map V.bl) ∧ Q (.int (bs.count k : Nat)) H
theorem bools_of : ∀ {bs : List Bool} {us : List Value}, Vals (bs.map V.bl) us → us = bs.map Value.bool
  | [], _, r => by cases r; rfl
  | b :: bs, _, r => by
    cases r with
    | cons r t =>
      rw [bools_of t]
      rename_i u us
      have e : u = Value.bool b := r
      rw [e]; rfl
def eqb (k : Bool) : Value → Bool
  | .bool b => b == k
  | _ => false
theorem eqb_count (k : Bool) : ∀ bs : List Bool, (bs.map Value.bool).countP (eqb k) = bs.count k
  | [] => rfl
  | b :: bs => by
    rw [List.map_cons, List.countP_cons, eqb_count k bs, List.count_cons]
    rfl
section
variable {X : Cx}
theorem mt_countB : MtR X "list.count" (rCntB X.K) := by
  intro pins s σ H x xs v us Q I rx rxs h
  obtain ⟨p, bs, k, rfl, rfl, hs, q⟩ := h
  cases rx
  obtain ⟨u, rfl, ru⟩ := rxs.one
  obtain rfl : u = Value.bool k := ru
  obtain ⟨its, rv, ⟨⟨_, dd, _, sl⟩, n, ho, hc, hdn, hd⟩, hlen⟩ := I.list hs
  simp only at hc hd
  subst hc hd
  obtain rfl := bools_of rv
  refine call_meets PySem.F.slot_list_count ⟨_, ho, rfl⟩ PySem.F.entry_list_count (PySem.F.args_list_count_2 _ _) (SeqAt.list_countAt p (bs.map Value.bool).toArray n dd sl (.bool k) (eqb k)) ⟨ho, fun y hy => ?_, ?_⟩
  · obtain ⟨b, _, rfl⟩ := List.mem_map.mp (show y ∈ bs.map Value.bool from by rw [Array.mem_def] at hy; exact hy)
    exact SeqAt.EqAt.bool_bool b k
  · refine ⟨.int (bs.count k : Nat), H, I.tok _, ⟨s.toks, ?_⟩, q⟩
    rw [← eqb_count k bs]
end
theorem kCountB {X : Cx} {K : PySem.W.Frag} (h : X.K = K := by rfl) : MtR X "list.count" (rCntB K) := h ▸ mt_countB
def countBD : D → List D → Option D
  | .list ds, [.bool k] => (bools? ds).map fun bs => .int (bs.count k : Nat)
  | _, _ => none
@[simp] theorem countBD_ap (bs : List Bool) (k : Bool) : countBD (.list (bs.map .bool)) [.bool k] = some (.int (bs.count k : Nat)) := by
  show (bools? (bs.map .bool)).map (fun bs => PyData.int (bs.count k : Nat)) = _
  rw [bools?_map]; rfl
theorem rm_countB {K : PySem.W.Frag} : RMR K (rCntB K) countBD := by
  intro F H x xs d ds Q z ex rx rs h k
  unfold countBD at h
  split at h
  · rename_i es i
    cases q : bools? es with
    | none => rw [q] at h; cases h
    | some bs =>
      rw [q] at h
      cases h
      obtain ⟨y, rfl, ry⟩ := rs.one
      obtain rfl := ry.isb
      obtain ⟨l, vs, rfl, hl, rl⟩ := rx.isl ex
      obtain rfl := bools?_eq q
      obtain rfl := rl.bools
      exact ⟨l, bs, i, rfl, rfl, .of hl, k.here ex (.int _)⟩
  · cases h
end Dn

set_option Elab.async false
set_option linter.all false
set_option maxRecDepth 100000
set_option maxHeartbeats 4000000
/-! DenXM: a list of one's own lists and of data, as long as it changes: what it is -/
namespace Dn
open PySem L2
/-- an item: a list of one's own, or data -/
inductive Ch where
  | own (ds : List D) | dat (d : D)
def Ch.d : Ch → D
  | .own ds => .list ds
  | .dat d => d
def encC : Ch → D
  | .own ds => .list ds
  | .dat d => .tuple [d]
def decC : D → Option Ch
  | .list ds => some (.own ds)
  | .tuple [d] => some (.dat d)
  | _ => none
theorem decC_enc (c : Ch) : decC (encC c) = some c := by cases c <;> rfl
def encN (cs : List Ch) : D := .list (cs.map encC)
def decN : D → Option (List Ch)
  | .list ds => ds.mapM decC
  | _ => none
theorem decN_enc (cs : List Ch) : decN (encN cs) = some cs := by
  show (cs.map encC).mapM decC = some cs
  induction cs with
  | nil => rfl
  | cons c cs ih => rw [List.map_cons, List.mapM_cons, decC_enc, ih]; rfl
/-- .. as data -/
def outN (cs : List Ch) : D := .list (cs.map Ch.d)
section
variable (K : PySem.W.Frag)
def ChR (H0 H1 F : Hp) (a : Addr) (v : V) : Ch → Prop
  | .own ds => ∃ b ws, v = .ref b ∧ b ≠ a ∧ H0 b = none ∧ F b = none ∧ H1 b = some (.lst ws) ∧ RepL K F ws ds
  | .dat d => Rep K F v d
structure NestV (H0 H1 F : Hp) (a : Addr) (vs : List V) (cs : List Ch) : Prop where
  ex : Ex H0 H1
  za : H0 a = none
  fa : F a = none
  at0 : H1 a = some (.lst vs)
  ln : vs.length = cs.length
  ch : ∀ (j : Nat) (v : V) (c : Ch), vs[j]? = some v → cs[j]? = some c → ChR K H0 H1 F a v c
  un : ∀ (j k : Nat) (b : Addr) (ds es : List D), vs[j]? = some (.ref b) → vs[k]? = some (.ref b) → cs[j]? = some (.own ds) → cs[k]? = some (.own es) → j = k
end
section
variable {K : PySem.W.Frag} {H0 H1 F F' H H' F0 : Hp} {a b p : Addr} {vs ws : List V} {v : V} {cs : List Ch} {ds ds' : List D} {d : D} {σ : St} {ρ : Fr} {i : Nat} {L : Addr × Addr} {L1 : Addr}
theorem NestV.on (N : NestV K H0 H1 F a vs cs) (e : Ex F F') (nw : ∀ p o, F p = none → H1 p = some o → NTup o → F' p = none) : NestV K H0 H1 F' a vs cs where
  ex := N.ex
  za := N.za
  fa := nw _ _ N.fa N.at0 (fun _ z => nomatch z)
  at0 := N.at0
  ln := N.ln
  ch := fun j v c h1 h2 => by
    have z := N.ch j v c h1 h2
    cases c with
    | dat d => exact Rep.mono e z
    | own ds =>
      obtain ⟨b, ws, e1, e2, e3, e4, e5, e6⟩ := z
      exact ⟨b, ws, e1, e2, e3, nw _ _ e4 e5 (fun _ z => nomatch z), e5, e6.mono e⟩
  un := N.un
/-- the parts of the nest -/
def PrtN (a : Addr) (vs : List V) (cs : List Ch) (p : Addr) : Prop := p = a ∨ ∃ (j : Nat) (ds : List D), vs[j]? = some (V.ref p) ∧ cs[j]? = some (Ch.own ds)
theorem NestV.prt (N : NestV K H0 H1 F a vs cs) (h : PrtN a vs cs p) : H0 p = none ∧ F p = none ∧ ∃ o, H1 p = some o := by
  rcases h with rfl | ⟨j, ds, h1, h2⟩
  · exact ⟨N.za, N.fa, _, N.at0⟩
  · obtain ⟨b, ws, e1, _, e3, e4, e5, _⟩ := N.ch j _ _ h1 h2
    cases e1
    exact ⟨e3, e4, _, e5⟩
theorem repL_of : ∀ {vs : List V} {ds : List D}, vs.length = ds.length → (∀ (j : Nat) (v : V) (d : D), vs[j]? = some v → ds[j]? = some d → Rep K F v d) → RepL K F vs ds
  | [], [], _, _ => .nil
  | v :: vs, d :: ds, h, k => .cons (k 0 v d rfl rfl) (repL_of (by simpa using h) fun j v d h1 h2 => k (j + 1) v d (by simpa using h1) (by simpa using h2))
  | [], _ :: _, h, _ => by cases h
  | _ :: _, [], h, _ => by cases h
open Classical in
/-- all of it frozen -/
noncomputable def frzN (H1 F : Hp) (a : Addr) (vs : List V) (cs : List Ch) : Hp := fun p => if PrtN a vs cs p then H1 p else F p
theorem NestV.out (N : NestV K H0 H1 F a vs cs) (E : Env K (L.1, a) F0 H1 F H σ (ρ.set i mkE)) (li : i < ρ.length) (ne : noErr ρ = true) : ∃ F', Ex F F' ∧ Env K L F0 H0 F' H σ (ρ.set i (.val (outN cs))) := by
  have el : σ[i]?.join = some (.ref a) := E.sl i mkE (List.getElem?_set_self li)
  have Fp : ∀ p, PrtN a vs cs p → frzN H1 F a vs cs p = H1 p := fun p h => by unfold frzN; exact if_pos h
  have Fo : ∀ p, ¬ PrtN a vs cs p → frzN H1 F a vs cs p = F p := fun p h => by unfold frzN; exact if_neg h
  have ef : Ex F (frzN H1 F a vs cs) := fun p o q => by
    rw [Fo p fun z => by rw [(N.prt z).2.1] at q; cases q]
    exact q
  have own : ∀ l, H1 l = none → ¬ PrtN a vs cs l := fun l hl z => by
    obtain ⟨_, _, o, ho⟩ := N.prt z
    rw [ho] at hl; cases hl
  have z0 : ∀ l, H1 l = none → H0 l = none := fun l hl => by
    cases q : H0 l with
    | none => rfl
    | some o => rw [N.ex l o q] at hl; cases hl
  refine ⟨frzN H1 F a vs cs, ef, ⟨E.st.ff.trans ef, N.ex.trans E.st.hh, fun x o h1 h2 h3 => ?_, fun x o q => ?_⟩, by have := E.len; rw [List.length_set] at this ⊢; exact this, fun j s q => ?_, fun j k l h1 h2 e1 e2 => ?_⟩
  · rw [Fo x fun z => by rw [(N.prt z).1] at h2; cases h2]
    exact E.st.nw x o h1 (N.ex x o h2) h3
  · by_cases c : PrtN a vs cs x
    · rw [Fp x c] at q
      exact E.st.hh _ _ q
    · rw [Fo x c] at q; exact E.st.fh _ _ q
  · rcases set_get q with ⟨c, es, _⟩ | ⟨c, q⟩
    · subst c; subst es
      refine ⟨.ref a, el, ?_⟩
      have rl : RepL K (frzN H1 F a vs cs) vs (cs.map Ch.d) := repL_of (by rw [List.length_map]; exact N.ln) fun j v d h1 h2 => by
        rw [List.getElem?_map] at h2
        obtain ⟨c, hc, rfl⟩ := Option.map_eq_some_iff.mp h2
        have z := N.ch j v c h1 hc
        cases c with
        | dat d => exact Rep.mono ef z
        | own ds =>
          obtain ⟨b, ws, rfl, _, _, _, e5, e6⟩ := z
          exact .lst (by rw [Fp b (.inr ⟨j, ds, h1, hc⟩)]; exact e5) (e6.mono ef)
      exact .lst (by rw [Fp a (.inl rfl)]; exact N.at0) rl
    · have z := E.sl j s (by rw [List.getElem?_set_ne c]; exact q)
      cases s with
      | none => trivial
      | err n => exact (err_no ne q).elim
      | val d => obtain ⟨v, e, r⟩ := z; exact ⟨v, e, r.mono ef⟩
      | own us =>
        obtain ⟨m, ho2, e, f2, h2, hH2, rr⟩ := z
        exact ⟨m, ho2, e, by rw [Fo m (own m h2)]; exact f2, z0 m h2, hH2, rr.mono ef⟩
      | pin us =>
        obtain ⟨e, f2, h2, ho2, hH2, rr⟩ := z
        exact ⟨e, by rw [Fo _ (own _ h2)]; exact f2, z0 _ h2, ho2, hH2, rr.mono ef⟩
  · have n1 := own_ne (s := .val (outN cs)) rfl h1
    have n2 := own_ne (s := .val (outN cs)) rfl h2
    rw [List.getElem?_set_ne n1] at h1
    rw [List.getElem?_set_ne n2] at h2
    exact E.sep j k l (by rw [List.getElem?_set_ne n1]; exact h1) (by rw [List.getElem?_set_ne n2]; exact h2) e1 e2
/-- an inner list changes -/
theorem NestV.mut {n : Nat} (N : NestV K H0 H1 F a vs cs) (hn : vs[n]? = some (.ref b)) (hc : cs[n]? = some (.own ds)) (r : RepL K F ws ds') : NestV K H0 (upd H1 b (.lst ws)) F a vs (cs.set n (.own ds')) := by
  obtain ⟨b', ws', e1, e2, e3, e4, e5, e6⟩ := N.ch n _ _ hn hc
  cases e1
  have lc := (List.getElem?_eq_some_iff.mp hc).1
  refine ⟨fun x u q => ?_, N.za, N.fa, by rw [upd_ne e2.symm]; exact N.at0, by rw [List.length_set]; exact N.ln, fun j v c h1 h2 => ?_, fun j k q gs es h1 h2 h3 h4 => ?_⟩
  · rw [upd_ne (ne_of_none q e3)]; exact N.ex x u q
  · rcases set_get h2 with ⟨e, es, _⟩ | ⟨ne, h2⟩
    · subst e; subst es
      rw [hn] at h1
      cases h1
      exact ⟨b, ws, rfl, e2, e3, e4, upd_same, r⟩
    · have z := N.ch j v c h1 h2
      cases c with
      | dat d => exact z
      | own fs =>
        obtain ⟨q, us, rfl, f2, f3, f4, f5, f6⟩ := z
        have qb : q ≠ b := fun z => ne (N.un n j b ds fs hn (by rw [← z]; exact h1) hc h2)
        exact ⟨q, us, rfl, f2, f3, f4, by rw [upd_ne qb]; exact f5, f6⟩
  · have old : ∀ (m : Nat) (fs : List D), (cs.set n (.own ds'))[m]? = some (.own fs) → ∃ fs', cs[m]? = some (.own fs') := fun m fs h => by
      rcases set_get h with ⟨e, _, _⟩ | ⟨_, h⟩
      · subst e; exact ⟨ds, hc⟩
      · exact ⟨fs, h⟩
    obtain ⟨f1, g1⟩ := old j _ h3
    obtain ⟨f2, g2⟩ := old k _ h4
    exact N.un j k q f1 f2 h1 h2 g1 g2
/-- data behind -/
theorem NestV.appDat (N : NestV K H0 H1 F a vs cs) (r : Rep K F v d) : NestV K H0 (upd H1 a (.lst (vs ++ [v]))) F a (vs ++ [v]) (cs ++ [.dat d]) := by
  have ln := N.ln
  refine ⟨fun x u q => ?_, N.za, N.fa, upd_same, by rw [List.length_append, List.length_append, ln]; rfl, fun j w c h1 h2 => ?_, fun j k q fs es h1 h2 h3 h4 => ?_⟩
  · rw [upd_ne (ne_of_none q N.za)]; exact N.ex x u q
  · by_cases hj : j < cs.length
    · rw [List.getElem?_append_left (by omega)] at h1
      rw [List.getElem?_append_left hj] at h2
      have z := N.ch j w c h1 h2
      cases c with
      | dat d => exact z
      | own fs =>
        obtain ⟨q, us, rfl, f2, f3, f4, f5, f6⟩ := z
        exact ⟨q, us, rfl, f2, f3, f4, by rw [upd_ne f2]; exact f5, f6⟩
    · have hj' : j = cs.length := by
        have := (List.getElem?_eq_some_iff.mp h2).1
        rw [List.length_append, List.length_singleton] at this
        omega
      subst hj'
      rw [List.getElem?_append_right (by omega), ln, Nat.sub_self] at h1
      rw [List.getElem?_append_right (by omega), Nat.sub_self] at h2
      cases h1; cases h2
      exact r
  · have old : ∀ (m : Nat) (fs : List D), (cs ++ [Ch.dat d])[m]? = some (.own fs) → m < cs.length ∧ cs[m]? = some (.own fs) := fun m fs h => by
      by_cases hm : m < cs.length
      · rw [List.getElem?_append_left hm] at h; exact ⟨hm, h⟩
      · have hm' : m = cs.length := by
          have := (List.getElem?_eq_some_iff.mp h).1
          rw [List.length_append, List.length_singleton] at this
          omega
        subst hm'
        rw [List.getElem?_append_right (by omega), Nat.sub_self] at h
        cases h
    obtain ⟨l1, g1⟩ := old j _ h3
    obtain ⟨l2, g2⟩ := old k _ h4
    rw [List.getElem?_append_left (by omega)] at h1 h2
    exact N.un j k q _ _ h1 h2 g1 g2
/-- a new list behind -/
theorem NestV.appNew (N : NestV K H0 H1 F a vs cs) (hp : H1 p = none) (fp : F p = none) (r : RepL K F ws ds) : NestV K H0 (upd (upd H1 p (.lst ws)) a (.lst (vs ++ [.ref p]))) F a (vs ++ [.ref p]) (cs ++ [.own ds]) := by
  have ln := N.ln
  have pa : p ≠ a := fun z => by rw [z, N.at0] at hp; cases hp
  have p0 : H0 p = none := N.ex.free hp
  have inn : ∀ (j : Nat) (c : Ch), (cs ++ [Ch.own ds])[j]? = some c → (j < cs.length ∧ cs[j]? = some c ∧ (vs ++ [V.ref p])[j]? = vs[j]?) ∨ (j = cs.length ∧ c = .own ds ∧ (vs ++ [V.ref p])[j]? = some (.ref p)) := fun j c h => by
    by_cases hj : j < cs.length
    · rw [List.getElem?_append_left hj] at h
      exact .inl ⟨hj, h, List.getElem?_append_left (by omega)⟩
    · have hj' : j = cs.length := by
        have := (List.getElem?_eq_some_iff.mp h).1
        rw [List.length_append, List.length_singleton] at this
        omega
      subst hj'
      rw [List.getElem?_append_right (by omega), Nat.sub_self] at h
      cases h
      refine .inr ⟨rfl, rfl, ?_⟩
      rw [List.getElem?_append_right (by omega), ln, Nat.sub_self]
      rfl
  have np : ∀ (j : Nat) (c : Ch), cs[j]? = some c → vs[j]? = some (.ref p) → (∃ fs, c = .own fs) → False := fun j c h1 h2 ⟨fs, e⟩ => by
    subst e
    obtain ⟨q, us, e, _, _, _, f5, _⟩ := N.ch j _ _ h2 h1
    cases e
    rw [hp] at f5; cases f5
  refine ⟨fun x u q => ?_, N.za, N.fa, upd_same, by rw [List.length_append, List.length_append, ln]; rfl, fun j w c h1 h2 => ?_, fun j k q fs es h1 h2 h3 h4 => ?_⟩
  · rw [upd_ne (ne_of_none q N.za), upd_ne (ne_of_none q p0)]; exact N.ex x u q
  · rcases inn j c h2 with ⟨_, g1, g2⟩ | ⟨_, g1, g2⟩
    · rw [g2] at h1
      have z := N.ch j w c h1 g1
      cases c with
      | dat d => exact z
      | own fs =>
        obtain ⟨q, us, rfl, f2, f3, f4, f5, f6⟩ := z
        have qp : q ≠ p := fun z => by rw [z, hp] at f5; cases f5
        exact ⟨q, us, rfl, f2, f3, f4, by rw [upd_ne f2, upd_ne qp]; exact f5, f6⟩
    · rw [g2] at h1
      cases h1
      subst g1
      exact ⟨p, ws, rfl, pa, p0, fp, by rw [upd_ne pa, upd_same], r⟩
  · rcases inn j _ h3 with ⟨l1, g1, g2⟩ | ⟨l1, g1, g2⟩
    · rcases inn k _ h4 with ⟨m1, k1, k2⟩ | ⟨m1, k1, k2⟩
      · rw [g2] at h1; rw [k2] at h2
        exact N.un j k q _ _ h1 h2 g1 k1
      · rw [k2] at h2; cases h2
        rw [g2] at h1
        exact (np j _ g1 h1 ⟨_, rfl⟩).elim
    · rcases inn k _ h4 with ⟨m1, k1, k2⟩ | ⟨m1, k1, k2⟩
      · rw [g2] at h1; cases h1
        rw [k2] at h2
        exact (np k _ k1 h2 ⟨_, rfl⟩).elim
      · omega
/-- an item is put in another's stead -/
theorem NestV.setDat {n : Nat} (N : NestV K H0 H1 F a vs cs) (hn : n < cs.length) (r : Rep K F v d) : NestV K H0 (upd H1 a (.lst (vs.set n v))) F a (vs.set n v) (cs.set n (.dat d)) := by
  have ln := N.ln
  refine ⟨fun x u q => ?_, N.za, N.fa, upd_same, by rw [List.length_set, List.length_set, ln], fun j w c h1 h2 => ?_, fun j k q fs es h1 h2 h3 h4 => ?_⟩
  · rw [upd_ne (ne_of_none q N.za)]; exact N.ex x u q
  · rcases set_get h2 with ⟨e, es, _⟩ | ⟨ne, h2⟩
    · subst e; subst es
      rw [List.getElem?_set_self (by omega)] at h1
      cases h1
      exact r
    · rw [List.getElem?_set_ne ne] at h1
      have z := N.ch j w c h1 h2
      cases c with
      | dat d => exact z
      | own fs =>
        obtain ⟨q, us, rfl, f2, f3, f4, f5, f6⟩ := z
        exact ⟨q, us, rfl, f2, f3, f4, by rw [upd_ne f2]; exact f5, f6⟩
  · have old : ∀ (m : Nat) (fs : List D), (cs.set n (Ch.dat d))[m]? = some (.own fs) → n ≠ m ∧ cs[m]? = some (.own fs) := fun m fs h => by
      rcases set_get h with ⟨_, e, _⟩ | z
      · cases e
      · exact z
    obtain ⟨n1, g1⟩ := old j _ h3
    obtain ⟨n2, g2⟩ := old k _ h4
    rw [List.getElem?_set_ne n1] at h1
    rw [List.getElem?_set_ne n2] at h2
    exact N.un j k q _ _ h1 h2 g1 g2
/-- a new thing below -/
theorem Env.bothNew {ho : HO} (E : Env K L F0 H1 F H σ ρ) (hp : H p = none) : Env K L F0 (upd H1 p ho) F (upd H p ho) σ ρ where
  st := by
    refine ⟨E.st.ff, E.st.hh.upd, fun x u h1 h2 h3 => ?_, E.st.fh.trans (Ex.new hp)⟩
    by_cases z : x = p
    · rw [z]; exact E.st.fh.free hp
    · rw [upd_ne z] at h2; exact E.st.nw x u h1 h2 h3
  len := E.len
  sl := fun j s q => by
    have z := E.sl j s q
    cases s with
    | none => trivial
    | err n => exact z
    | val d => exact z
    | own us =>
      obtain ⟨m, ho2, e, f2, h2, hH2, rr⟩ := z
      have ne : m ≠ p := ne_of_none hH2 hp
      exact ⟨m, ho2, e, f2, by rw [upd_ne ne]; exact h2, by rw [upd_ne ne]; exact hH2, rr⟩
    | pin us =>
      obtain ⟨e, f2, h2, ho2, hH2, rr⟩ := z
      have ne : L.1 ≠ p := ne_of_none hH2 hp
      exact ⟨e, f2, by rw [upd_ne ne]; exact h2, ho2, by rw [upd_ne ne]; exact hH2, rr⟩
  sep := E.sep
end
/-- the nest as things of one's own of another kind -/
def nestR (K : PySem.W.Frag) : Reg (List Ch) where
  inv := fun H0 H1 F a cs => ∃ vs, NestV K H0 H1 F a vs cs
  enc := encN
  dec := decN
  de := decN_enc
  ex := fun ⟨_, N⟩ => N.ex
  on := fun ⟨vs, N⟩ e nw => ⟨vs, N.on e nw⟩
end Dn

set_option Elab.async false
set_option linter.all false
set_option maxRecDepth 100000
set_option maxHeartbeats 4000000
/-! DenXN: a list of one's own lists and of data, as long as it changes: the rules -/
namespace Dn
open PySem L2
def mB {α : Type} : M α → Option α
  | .ok a => some a
  | _ => none
@[simp] theorem mB_ok {α : Type} {a : α} : mB (M.ok a) = some a := rfl
theorem mB_is {α : Type} {m : M α} {a : α} (h : mB m = some a) : m = .ok a := by
  cases m with
  | ok b => cases h; rfl
  | exc n => cases h
  | stuck => cases h
/-- the nest's items, and the frame in which it is data -/
def viewF (i : Nat) (ρ : Fr) : Option (List Ch × Fr) := match ρ[i]? with
  | some (.val d) => (decN d).map fun cs => (cs, ρ.set i (.val (outN cs)))
  | _ => none
theorem viewF_at {i : Nat} {ρ : Fr} {cs : List Ch} (h : ρ[i]? = some (.val (encN cs))) : viewF i ρ = some (cs, ρ.set i (.val (outN cs))) := by
  unfold viewF
  rw [h]
  show (decN (encN cs)).map _ = _
  rw [decN_enc]
  rfl
/-- data that hold nothing -/
def sca : D → Bool
  | .int _ => true
  | .bool _ => true
  | .str _ => true
  | .none => true
  | _ => false
theorem sca_rep {K : PySem.W.Frag} {F : Hp} {v : V} {d : D} (h : sca d = true) (r : Rep K F v d) (F2 : Hp) : Rep K F2 v d := by
  cases r with
  | non => exact .non
  | bl b => exact .bl b
  | int i => exact .int i
  | str x => exact .str x
  | _ => cases h
theorem sca_repB {K : PySem.W.Frag} {F H : Hp} {v : V} {d : D} (h : sca d = true) (r : RepB K F H v d) (F2 : Hp) : Rep K F2 v d := by
  cases r with
  | frz r => exact sca_rep h r F2
  | thg e r => cases r <;> cases h
theorem sca_repBL {K : PySem.W.Frag} {F H : Hp} (F2 : Hp) : ∀ {vs : List V} {ds : List D}, ds.all sca = true → RepBL K F H vs ds → RepL K F2 vs ds
  | _, _, _, .nil => .nil
  | _, _, h, .cons r t => by
    rw [List.all_cons, Bool.and_eq_true] at h
    exact .cons (sca_repB h.1 r F2) (sca_repBL F2 h.2 t)
def mutC (fm : List D → List D → Option (List D × D)) (cs : List Ch) : D → List D → Option (List Ch)
  | .int j, es => (ixN cs.length j).bind fun n => match cs[n]? with
    | some (.own ds) => (fm ds es).map fun r => cs.set n (.own r.1)
    | _ => none
  | _, _ => none
def sIfV (i : Nat) (tf : MT) (g h : MS) : MS := fun ρ => Out.ofO (viewF i ρ) fun p => Out.ofO (mB (tf p.2)) fun b => if b = true then g ρ else h ρ
def loopWhileV (i : Nat) (tf : MT) (g : MS) : Nat → Fr → Out
  | 0, _ => .stuck
  | n + 1, ρ => Out.ofO (viewF i ρ) fun p => Out.ofO (mB (tf p.2)) fun b => if b = true then (match g ρ with
      | .nx ρ' => loopWhileV i tf g n ρ'
      | .cont ρ' => loopWhileV i tf g n ρ'
      | .brk ρ' => .nx ρ'
      | o => o) else .nx ρ
def sWhileV (i : Nat) (tf : MT) (g : MS) : MS := fun ρ => loopWhileV i tf g fuel ρ
open Classical in
noncomputable def sForRgV (i : Nat) (as : ML) (tg : D → Fr → Option Fr) (g : MS) : MS := fun ρ => Out.ofO (viewF i ρ) fun p => Out.ofO (mB (as p.2)) fun xs => match xs with
  | [.int j] => if In62 j then loopR (tgN i tg) g (rngL 0 j) ρ else .stuck
  | _ => .stuck
/-- l[k].m(..), an inner list changes -/
def sMutV (i : Nat) (kf : ME) (fm : List D → List D → Option (List D × D)) (as : ML) : MS := fun ρ => Out.ofO (viewF i ρ) fun p => Out.ofO (mB (kf p.2)) fun j => Out.ofO (mB (as p.2)) fun es =>
  if es.all sca = true then Out.ofO (mutC fm p.1 j es) fun cs => .nx (ρ.set i (.val (encN cs))) else .stuck
/-- l[k] = e -/
def sSetV (i : Nat) (kf e : ME) : MS := fun ρ => Out.ofO (mB (e (ρ.set i mkE))) fun d => Out.ofO (viewF i ρ) fun p => Out.ofO (mB (kf p.2)) fun j => match j with
  | .int jj => Out.ofO (ixN p.1.length jj) fun n => .nx (ρ.set i (.val (encN (p.1.set n (.dat d)))))
  | _ => .stuck
/-- l.append(e): data -/
def sAppD (i : Nat) (as : ML) : MS := fun ρ => Out.ofO (mB (as (ρ.set i mkE))) fun es => Out.ofO (viewF i ρ) fun p => match es with
  | [d] => if p.1.length < sizeLine then .nx (ρ.set i (.val (encN (p.1 ++ [.dat d])))) else .stuck
  | _ => .stuck
/-- l.append(e): a new list -/
def sAppN (i : Nat) (f : ML) : MS := fun ρ => Out.ofO (mB (f (ρ.set i mkE))) fun ds => Out.ofO (viewF i ρ) fun p => if p.1.length < sizeLine then .nx (ρ.set i (.val (encN (p.1 ++ [.own ds])))) else .stuck
/-- for x in l[k]: l[x].m(..) -/
def loopMut (i n xi : Nat) (fm : List D → List D → Option (List D × D)) (as : ML) : List D → Fr → Out
  | [], ρ => .nx ρ
  | d :: ds, ρ => Out.ofO (viewF i ρ) fun p => match d with
    | .int j => Out.ofO (mB (as ((ρ.set xi (.val d)).set i mkE))) fun es => Out.ofO (ixN p.1.length j) fun q => if q = n ∨ ρ.length ≤ xi then .stuck else match p.1[q]? with
      | some (.own fs) => Out.ofO (fm fs es) fun r => loopMut i n xi fm as ds ((ρ.set xi (.val d)).set i (.val (encN (p.1.set q (.own r.1)))))
      | _ => .stuck
    | _ => .stuck
def sForMut (i : Nat) (kf : ME) (xi : Nat) (fm : List D → List D → Option (List D × D)) (as : ML) : MS := fun ρ => if xi = i then .stuck else Out.ofO (viewF i ρ) fun p => Out.ofO (mB (kf p.2)) fun j => match j with
  | .int jj => Out.ofO (ixN p.1.length jj) fun n => match p.1[n]? with
    | some (.own ds) => loopMut i n xi fm as ds ρ
    | _ => .stuck
  | _ => .stuck
section
variable {K : PySem.W.Frag} {mg : Str → Option Value} {W : WX} {i : Nat} {L1 a b : Addr} {L : Addr × Addr} {F0 H0 H1 F H F' H' F'' H'' : Hp} {σ : St} {ρ ρ' : Fr} {D : Ends} {vs : List V} {cs : List Ch}
theorem step_back (ef : Ex F F') (s : Step F' H F'' H'') (fh : Ex F H) : Step F H F H'' := ⟨Ex.refl _, s.hh, fun _ _ h _ _ => h, fh.trans s.hh⟩
section
variable (E : Env K (L1, a) F0 H1 F H σ (ρ.set i mkE)) (li : i < ρ.length) (ne : noErr ρ = true) (N : NestV K H0 H1 F a vs cs)
include E li ne N
theorem view_T {tt : TT} {tf : MT} (ht : ∀ L, DT K L mg W tt tf) {b : Bool} (hb : tf (ρ.set i (.val (outN cs))) = .ok b) {Q : Bool → Hp → Prop} (k : ∀ H', Step F H F H' → Q b H') : tt σ H Q := by
  obtain ⟨F', ef, E'⟩ := N.out (L := (L1, a)) E li ne
  refine ht (L1, a) F0 H0 F' H σ _ Q E' ?_
  rw [hb]
  exact fun F'' H'' s => k H'' (step_back ef s E.st.fh)
theorem view_E {te : TE} {e : ME} (he : ∀ L, DE K L mg W te e) {d : Dn.D} (hd : e (ρ.set i (.val (outN cs))) = .ok d) (hs : sca d = true) {Q : VK} (k : ∀ H' v, Step F H F H' → (∀ F2, Rep K F2 v d) → Q v H') : te σ H Q := by
  obtain ⟨F', ef, E'⟩ := N.out (L := (L1, a)) E li ne
  refine he (L1, a) F0 H0 F' H σ _ Q E' ?_
  rw [hd]
  exact fun F'' H'' v s r => k H'' v (step_back ef s E.st.fh) (sca_repB hs r)
theorem view_A {tas : TA} {as : ML} (ha : ∀ L, DA K L mg W tas as) {ds : List Dn.D} (hd : as (ρ.set i (.val (outN cs))) = .ok ds) (hs : ds.all sca = true) {Q : List V → Hp → Prop} (k : ∀ H' xs, Step F H F H' → (∀ F2, RepL K F2 xs ds) → Q xs H') : tas σ H Q := by
  obtain ⟨F', ef, E'⟩ := N.out (L := (L1, a)) E li ne
  refine ha (L1, a) F0 H0 F' H σ _ Q E' ?_
  rw [hd]
  exact fun F'' H'' xs s r => k H'' xs (step_back ef s E.st.fh) fun F2 => sca_repBL F2 hs r
theorem view_I {te : TE} {e : ME} (he : ∀ L, DE K L mg W te e) {j : Int} (hd : e (ρ.set i (.val (outN cs))) = .ok (.int j)) {Q : VK} (k : ∀ H', Step F H F H' → Q (.int j) H') : te σ H Q :=
  view_E E li ne N he hd rfl fun H' v s r => by
    have := r F
    cases this
    exact k H' s
end
theorem keepR (E : Env K (L1, a) F0 H1 F H σ (ρ.set i mkE)) (hi : ρ[i]? = some (.val (encN cs))) (ne : noErr ρ = true) (N : NestV K H0 H1 F a vs cs) (s : Step F H F H') : EnvR (nestR K) K i L1 F0 H0 F H' σ ρ := ⟨a, cs, H1, E.step s, hi, ne, vs, N⟩
theorem walkR {X : Type} {R : Reg X} {F1 H2 : Hp} {J : It} {ds : List Dn.D} {gg : TG} {tg : Dn.D → Fr → Option Fr} {is : List Nat} {t : TS} {g : MS} (hg : ∀ L, DG K L gg tg is) (hb : DSR R K mg W i t g) (src : Src K J F1 ds) (EN : EnvR R K i L1 F0 H0 F1 H2 σ ρ) (w1 : WOR R K mg W i L1 F0 H0 F1 D (loopR (tgN i tg) g ds ρ)) :
    ∃ W : Nat → Nat → St → Hp → Prop, (∃ m, W 0 m σ H2) ∧ ∀ i m σ H, W i m σ H →
      (J.stop i H ∧ D.nx σ H) ∨ (J.go i H ∧ ∃ N : St → Hp → Prop, (∀ σ' H', N σ' H' → ∃ m', m' < m ∧ W (i + 1) m' σ' H') ∧ ∀ x H', J.yld i H x H' → gg x σ H' fun σ2 H2 => t { D with nx := N, ct := N, bk := D.nx } σ2 H2) := by
  obtain ⟨G, Y, wk, hG, hY⟩ := src
  refine for_it wk (fun j σ H => ∃ F ρ, Ex F1 F ∧ EnvR R K i L1 F0 H0 F H σ ρ ∧ WOR R K mg W i L1 F0 H0 F D (loopR (tgN i tg) g (ds.drop j) ρ)) ⟨F1, ρ, Ex.refl _, EN, by rw [List.drop_zero]; exact w1⟩
    (fun j σ H _ ⟨F, ρ, e, ⟨_, _, _, E, _⟩, _⟩ => hG F H e E.st.fh) ?_ ?_
  · rintro j y σ2 H2 H3 hlt ⟨F2, ρ2, e2, ⟨a2, x2, H12, E2, hi2, ne2, N2⟩, w2⟩ yy
    obtain ⟨F3, d, s3, hd, r3⟩ := hY j F2 H2 y H3 hlt e2 E2.st.fh yy
    have ed : ds.drop j = d :: ds.drop (j + 1) := by
      obtain ⟨h1, h2⟩ := List.getElem?_eq_some_iff.mp hd
      rw [List.drop_eq_getElem_cons h1, h2]
    rw [ed] at w2
    have w3 := WOR.mono s3.ff w2
    unfold loopR at w3
    obtain ⟨ρ3, q3, w4⟩ := WOR.ofO w3
    unfold tgN at q3
    rw [hi2] at q3
    have q3 : ((tg d (ρ2.set i mkE)).bind fun ρ1 => backN i (.val (R.enc x2)) ρ1) = some ρ3 := q3
    cases q4 : tg d (ρ2.set i mkE) with
    | none => rw [q4] at q3; cases q3
    | some ρ1 =>
      rw [q4] at q3
      refine hg (L1, a2) F0 H12 F3 H3 σ2 _ y d _ ρ1 (E2.step s3) r3 q4 fun σ3 E3 _ => ?_
      refine hb L1 F0 H0 F3 H3 σ3 ρ3 _ (backR_env q3 rfl N2 E2.st.ff s3.ff E3) ?_
      cases qq : g ρ3 with
      | nx ρ4 => rw [qq] at w4; exact fun F4 H4 σ4 e4 E4 => ⟨F4, ρ4, e2.trans (s3.ff.trans e4), E4, WOR.mono e4 w4⟩
      | cont ρ4 => rw [qq] at w4; exact fun F4 H4 σ4 e4 E4 => ⟨F4, ρ4, e2.trans (s3.ff.trans e4), E4, WOR.mono e4 w4⟩
      | brk ρ4 => rw [qq] at w4; exact w4
      | ret d ρ => rw [qq] at w4; exact w4
      | retL ds ρ => rw [qq] at w4; exact w4
      | exc n ρ => rw [qq] at w4; exact w4
      | stuck => rw [qq] at w4; exact w4
  · rintro σ2 H2 ⟨F2, ρ2, e2, E2, w2⟩
    rw [List.drop_length] at w2
    exact w2 F2 H2 σ2 (Ex.refl _) E2
theorem li_of (hi : ρ[i]? = some (.val (encN cs))) : i < ρ.length := (List.getElem?_eq_some_iff.mp hi).1
/-- the name of the nest -/
theorem at_of (E : Env K (L1, a) F0 H1 F H σ (ρ.set i mkE)) (li : i < ρ.length) : σ[i]? = some (some (.ref a)) := join_some (E.sl i mkE (List.getElem?_set_self li))
theorem dn_ifV {tt : TT} {tf : MT} {t u : TS} {g h : MS} (ht : ∀ L, DT K L mg W tt tf) (h1 : DSR (nestR K) K mg W i t g) (h2 : DSR (nestR K) K mg W i u h) : DSR (nestR K) K mg W i (tIfS tt t u) (sIfV i tf g h) := fun L1 F0 H0 F H σ ρ D ⟨a, cs, H1, E, hi, ne, vs, N⟩ q => by
  have hi : ρ[i]? = some (.val (encN cs)) := hi
  unfold sIfV at q
  rw [viewF_at hi, ofO_some] at q
  obtain ⟨b, qb, q⟩ := WOR.ofO q
  refine view_T E (li_of hi) ne N ht (mB_is qb) fun H' s => ?_
  have EN := keepR E hi ne N s
  cases b with
  | true => exact iteT (h1 L1 F0 H0 F H' σ ρ D EN q)
  | false => exact iteF (h2 L1 F0 H0 F H' σ ρ D EN q)
theorem dn_whileV {tt : TT} {tf : MT} {t : TS} {g : MS} (ht : ∀ L, DT K L mg W tt tf) (h1 : DSR (nestR K) K mg W i t g) : DSR (nestR K) K mg W i (tWhile tt t) (sWhileV i tf g) := fun L1 F0 H0 F H σ ρ D E w => by
  refine ⟨fun m σ H => ∃ F ρ, EnvR (nestR K) K i L1 F0 H0 F H σ ρ ∧ WOR (nestR K) K mg W i L1 F0 H0 F D (loopWhileV i tf g m ρ), ⟨fuel, F, ρ, E, w⟩, ?_⟩
  rintro m σ2 H2 ⟨F2, ρ2, ⟨a, cs, H1, E2, hi, ne, vs, N⟩, w2⟩
  have hi : ρ2[i]? = some (.val (encN cs)) := hi
  cases m with
  | zero => exact w2.elim
  | succ m =>
    unfold loopWhileV at w2
    rw [viewF_at hi, ofO_some] at w2
    obtain ⟨b, qb, w4⟩ := WOR.ofO w2
    refine view_T E2 (li_of hi) ne N ht (mB_is qb) fun H3 s => ?_
    have EN := keepR E2 hi ne N s
    cases b with
    | false => exact iteF (w4 F2 H3 σ2 (Ex.refl _) EN)
    | true =>
      refine iteT ⟨fun σ' H' => ∃ m', m' < m + 1 ∧ ∃ F ρ, EnvR (nestR K) K i L1 F0 H0 F H' σ' ρ ∧ WOR (nestR K) K mg W i L1 F0 H0 F D (loopWhileV i tf g m' ρ), fun _ _ z => z, ?_⟩
      refine h1 L1 F0 H0 F2 H3 σ2 ρ2 _ EN ?_
      rw [if_pos rfl] at w4
      cases qq : g ρ2 with
      | nx ρ4 => rw [qq] at w4; exact fun F4 H4 σ4 e4 E4 => ⟨m, Nat.lt_succ_self _, F4, ρ4, E4, WOR.mono e4 w4⟩
      | cont ρ4 => rw [qq] at w4; exact fun F4 H4 σ4 e4 E4 => ⟨m, Nat.lt_succ_self _, F4, ρ4, E4, WOR.mono e4 w4⟩
      | brk ρ4 => rw [qq] at w4; exact w4
      | ret d ρ => rw [qq] at w4; exact w4
      | retL ds ρ => rw [qq] at w4; exact w4
      | exc n ρ => rw [qq] at w4; exact w4
      | stuck => rw [qq] at w4; exact w4
theorem one_int {xs : List V} {j : Int} (r : ∀ F2, RepL K F2 xs [.int j]) : xs = [.int j] := by
  have := r (fun _ => none)
  cases this with
  | cons a b =>
    cases b
    cases a
    rfl
theorem dn_forRgV {ta : TA} {as : ML} {gg : TG} {tg : Dn.D → Fr → Option Fr} {is : List Nat} {t : TS} {g : MS} (ha : ∀ L, DA K L mg W ta as) (hg : ∀ L, DG K L gg tg is) (hb : DSR (nestR K) K mg W i t g) : DSR (nestR K) K mg W i (tFor (iRng1 ta) gg t) (sForRgV i as tg g) := fun L1 F0 H0 F H σ ρ D ⟨a, cs, H1, E, hi, ne, vs, N⟩ q => by
  have hi : ρ[i]? = some (.val (encN cs)) := hi
  unfold sForRgV at q
  rw [viewF_at hi, ofO_some] at q
  obtain ⟨xs, qx, q⟩ := WOR.ofO q
  split at q
  · rename_i j
    split at q
    · rename_i c
      refine view_A E (li_of hi) ne N ha (mB_is qx) rfl fun H' ys s r => ?_
      have sr := src_rng (K := K) (F := F) (lo := 0) (hi := j)
      rw [Int.sub_zero] at sr
      exact ⟨j, one_int r, c.1, c.2, walkR hg hb sr (keepR E hi ne N s) q⟩
    · exact q.elim
  · exact q.elim
theorem dn_mutV {r : V → List V → Hp → VK → Prop} {fm : List Dn.D → List Dn.D → Option (List Dn.D × Dn.D)} {tk : TE} {kf : ME} {tas : TA} {as : ML} (hr : RMD K r fm) (hk : ∀ L, DE K L mg W tk kf) (ha : ∀ L, DA K L mg W tas as) :
    DSR (nestR K) K mg W i (tDrop (tBM K "list" r (tOp (rIx K) (tVar i) tk) tas)) (sMutV i kf fm as) := fun L1 F0 H0 F H σ ρ D ⟨a, cs, H1, E, hi, ne, vs, N⟩ q => by
  have hi : ρ[i]? = some (.val (encN cs)) := hi
  have li := li_of hi
  unfold sMutV at q
  rw [viewF_at hi, ofO_some] at q
  obtain ⟨j, qj, q⟩ := WOR.ofO q
  obtain ⟨es, qe, q⟩ := WOR.ofO q
  split at q
  · rename_i sc
    obtain ⟨cs', qc, q⟩ := WOR.ofO q
    cases j with
    | int jj =>
      have qc : ((ixN cs.length jj).bind fun n => match cs[n]? with
        | some (.own ds) => (fm ds es).map fun r => cs.set n (.own r.1)
        | _ => none) = some cs' := qc
      cases qn : ixN cs.length jj with
      | none => rw [qn] at qc; cases qc
      | some n =>
        rw [qn] at qc
        have qc : (match cs[n]? with
          | some (.own ds) => (fm ds es).map fun r => cs.set n (.own r.1)
          | _ => none) = some cs' := qc
        cases qd : cs[n]? with
        | none => rw [qd] at qc; cases qc
        | some c =>
          rw [qd] at qc
          cases c with
          | dat d => cases qc
          | own ds =>
            have qc : ((fm ds es).map fun r => cs.set n (.own r.1)) = some cs' := qc
            cases qf : fm ds es with
            | none => rw [qf] at qc; cases qc
            | some rz =>
              obtain ⟨ds', z⟩ := rz
              rw [qf] at qc
              cases qc
              have nl := (List.getElem?_eq_some_iff.mp qd).1
              have hv : vs[n]? = some (vs[n]'(by rw [N.ln]; exact nl)) := List.getElem?_eq_getElem _
              generalize vs[n]'(by rw [N.ln]; exact nl) = v at hv
              obtain ⟨b, ws, rfl, ba, b0, bf, bh, br⟩ := N.ch n v _ hv qd
              show tBM K "list" r (tOp (rIx K) (tVar i) tk) tas σ H fun _ H' => D.nx σ H'
              refine ⟨_, at_of E li, ?_⟩
              refine view_I E li ne N hk (mB_is qj) fun H2 s2 => ?_
              have E2 := E.step s2
              have hA : H2 a = some (.lst vs) := E2.st.hh _ _ N.at0
              have hB : H2 b = some (.lst ws) := E2.st.hh _ _ bh
              refine .inl ⟨a, vs, jj, .ref b, rfl, rfl, SqL.of hA, ?_, .inl ⟨rfl, _, SqL.of hB⟩, ?_⟩
              · unfold atI
                rw [N.ln, qn]
                exact hv
              · refine view_A E2 li ne N ha (mB_is qe) sc fun H3 xs s3 r3 => ?_
                have E3 := E2.step s3
                have hB3 : H3 b = some (.lst ws) := E3.st.hh _ _ bh
                refine hr F H3 b ws ds xs es ds' z _ E3.st.fh hB3 br (r3 F) qf fun ws' v rw' rz => ?_
                refine q F _ σ (Ex.refl _) ⟨a, cs.set n (.own ds'), upd H1 b (.lst ws'), ?_, List.getElem?_set_self li, noErr_set ne _ rfl, vs, N.mut hv qd rw'⟩
                rw [List.set_set]
                exact E3.both bf bh
    | _ => cases qc
  · exact q.elim
theorem dn_setV {te tk : TE} {e kf : ME} (he : ∀ L, DF K L mg W te e) (hk : ∀ L, DE K L mg W tk kf) : DSR (nestR K) K mg W i (tAsg te (gSub (tVar i) tk rSetL)) (sSetV i kf e) := fun L1 F0 H0 F H σ ρ D ⟨a, cs, H1, E, hi, ne, vs, N⟩ q => by
  have hi : ρ[i]? = some (.val (encN cs)) := hi
  have li := li_of hi
  unfold sSetV at q
  obtain ⟨d, qd, q⟩ := WOR.ofO q
  rw [viewF_at hi, ofO_some] at q
  obtain ⟨j, qj, q⟩ := WOR.ofO q
  split at q
  · rename_i jj
    obtain ⟨n, qn, q⟩ := WOR.ofO q
    refine he (L1, a) F0 H1 F H σ _ _ E ?_
    rw [mB_is qd]
    intro F1 H2 v s1 r1
    have E1 := E.step s1
    have N1 := N.on s1.ff fun p o z1 z2 z3 => E1.st.nw p o (by
      cases qz : F0 p with
      | none => rfl
      | some u => have := E.st.ff _ _ qz; rw [z1] at this; cases this) z2 z3
    refine ⟨_, at_of E1 li, ?_⟩
    refine view_I E1 li ne N1 hk (mB_is qj) fun H3 s3 => ?_
    have E3 := E1.step s3
    have hA : H3 a = some (.lst vs) := E3.st.hh _ _ N.at0
    obtain ⟨_, nl, _⟩ := ixN_seq qn
    refine ⟨a, vs, jj, n, rfl, rfl, hA, by rw [N.ln]; exact qn, ?_⟩
    refine WOR.mono s1.ff q F1 _ σ (Ex.refl _) ⟨a, _, upd H1 a (.lst (vs.set n v)), ?_, List.getElem?_set_self li, noErr_set ne _ rfl, _, N1.setDat nl r1⟩
    rw [List.set_set]
    exact E3.both N1.fa N.at0
  · exact q.elim
theorem nw_of (E : Env K L F0 H1 F H σ ρ) (s : Step F H F' H') : ∀ p o, F p = none → H1 p = some o → NTup o → F' p = none := fun p o z1 z2 z3 => (E.step s).st.nw p o (by
  cases qz : F0 p with
  | none => rfl
  | some u => have := E.st.ff _ _ qz; rw [z1] at this; cases this) z2 z3
theorem dn_appD {tas : TA} {as : ML} (ha : ∀ L, DAF K L mg W tas as) : DSR (nestR K) K mg W i (tDrop (tBM K "list" rAppend (tVar i) tas)) (sAppD i as) := fun L1 F0 H0 F H σ ρ D ⟨a, cs, H1, E, hi, ne, vs, N⟩ q => by
  have hi : ρ[i]? = some (.val (encN cs)) := hi
  have li := li_of hi
  unfold sAppD at q
  obtain ⟨es, qe, q⟩ := WOR.ofO q
  rw [viewF_at hi, ofO_some] at q
  split at q
  · rename_i d
    split at q
    · rename_i hz
      show tBM K "list" rAppend (tVar i) tas σ H fun _ H' => D.nx σ H'
      refine ⟨_, at_of E li, .inl ⟨rfl, _, SqL.of (E.st.hh _ _ N.at0)⟩, ?_⟩
      refine ha (L1, a) F0 H1 F H σ _ _ E ?_
      rw [mB_is qe]
      intro F1 H2 xs s1 r1
      have E1 := E.step s1
      have N1 := N.on s1.ff (nw_of E s1)
      obtain ⟨x, rfl, rx⟩ := r1.one'
      refine ⟨a, vs, x, rfl, rfl, E1.st.hh _ _ N.at0, by rw [N.ln]; exact hz, ?_⟩
      refine WOR.mono s1.ff q F1 _ σ (Ex.refl _) ⟨a, _, upd H1 a (.lst (vs ++ [x])), ?_, List.getElem?_set_self li, noErr_set ne _ rfl, _, N1.appDat rx⟩
      rw [List.set_set]
      exact E1.both N1.fa N.at0
    · exact q.elim
  · exact q.elim
theorem dn_appN {te : TE} {f : ML} (he : ∀ L, DL K L mg W te f) : DSR (nestR K) K mg W i (tDrop (tBM K "list" rAppend (tVar i) (tCons te tNil))) (sAppN i f) := fun L1 F0 H0 F H σ ρ D ⟨a, cs, H1, E, hi, ne, vs, N⟩ q => by
  have hi : ρ[i]? = some (.val (encN cs)) := hi
  have li := li_of hi
  unfold sAppN at q
  obtain ⟨ds, qe, q⟩ := WOR.ofO q
  rw [viewF_at hi, ofO_some] at q
  split at q
  · rename_i hz
    show tBM K "list" rAppend (tVar i) (tCons te tNil) σ H fun _ H' => D.nx σ H'
    refine ⟨_, at_of E li, .inl ⟨rfl, _, SqL.of (E.st.hh _ _ N.at0)⟩, ?_⟩
    refine he (L1, a) F0 H1 F H σ _ _ E ?_
    rw [mB_is qe]
    intro F1 H2 p ws s1 hp rw1
    have E1 := E.step s1
    have N1 := N.on s1.ff (nw_of E s1)
    have E2 := E1.bothNew (ho := .lst ws) hp
    have pa : p ≠ a := fun z => by
      have := E1.st.hh _ _ N.at0
      rw [← z, hp] at this; cases this
    have hA : upd H2 p (.lst ws) a = some (.lst vs) := by rw [upd_ne pa.symm]; exact E1.st.hh _ _ N.at0
    refine ⟨a, vs, .ref p, rfl, rfl, hA, by rw [N.ln]; exact hz, ?_⟩
    refine WOR.mono s1.ff q F1 _ σ (Ex.refl _) ⟨a, _, upd (upd H1 p (.lst ws)) a (.lst (vs ++ [.ref p])), ?_, List.getElem?_set_self li, noErr_set ne _ rfl, _, N1.appNew (E1.st.hh.free hp) (E1.st.fh.free hp) rw1⟩
    rw [List.set_set]
    exact E2.both N1.fa (show upd H1 p (.lst ws) a = some (.lst vs) by rw [upd_ne pa.symm]; exact N.at0)
  · exact q.elim
end
end Dn

set_option Elab.async false
set_option linter.all false
set_option maxRecDepth 100000
set_option maxHeartbeats 4000000
/-! DenXO: a list of one's own lists and of data: loops over its lists; how it begins and ends -/
namespace Dn
open PySem L2
def isPin : S → Bool
  | .pin _ => true
  | _ => false
def noPn (ρ : Fr) : Bool := ρ.all fun s => !isPin s
@[simp] theorem noPn_nil : noPn [] = true := rfl
@[simp] theorem noPn_cons {s : S} {ρ : Fr} : noPn (s :: ρ) = (!isPin s && noPn ρ) := rfl
@[simp] theorem isPin_none : isPin .none = false := rfl
@[simp] theorem isPin_val {d : D} : isPin (.val d) = false := rfl
@[simp] theorem isPin_own {d : OD} : isPin (.own d) = false := rfl
@[simp] theorem isPin_pin {d : OD} : isPin (.pin d) = true := rfl
@[simp] theorem isPin_err {n : Str} : isPin (.err n) = false := rfl
theorem noPn_at {ρ : Fr} (h : noPn ρ = true) {j : Nat} {o : OD} (q : ρ[j]? = some (.pin o)) : False := by
  have := List.all_eq_true.mp h _ (List.mem_of_getElem? q)
  cases this
/-- the frame behind a turn over an inner list -/
def backA (i c j : Nat) (cs : List Ch) (ρ2 : Fr) : Option Fr := match ρ2[c]? with
  | some (.pin (.lst ds')) => if errAt i ρ2 && noErr ((ρ2.set c .none).set i (.val (encN (cs.set j (.own ds'))))) then some ((ρ2.set c .none).set i (.val (encN (cs.set j (.own ds'))))) else none
  | _ => none
/-- for c in l -/
def loopAl (i c : Nat) (g : MS) : Nat → Nat → Fr → Out
  | 0, _, ρ => .nx ρ
  | m + 1, j, ρ => Out.ofO (viewF i ρ) fun p => match p.1[j]? with
    | some (.own ds) => if (noPn ρ && decide (c < ρ.length)) = true then (match g ((ρ.set i mkE).set c (.pin (.lst ds))) with
      | .nx ρ2 => Out.ofO (backA i c j p.1 ρ2) fun ρ3 => loopAl i c g m (j + 1) ρ3
      | .cont ρ2 => Out.ofO (backA i c j p.1 ρ2) fun ρ3 => loopAl i c g m (j + 1) ρ3
      | .brk ρ2 => Out.ofO (backA i c j p.1 ρ2) .nx
      | _ => .stuck) else .stuck
    | _ => .stuck
def sForAl (i c : Nat) (g : MS) : MS := fun ρ => if c = i then .stuck else Out.ofO (viewF i ρ) fun p => loopAl i c g p.1.length 0 ρ
section
variable {K : PySem.W.Frag} {mg : Str → Option Value} {W : WX} {i c : Nat} {L1 a b : Addr} {L : Addr × Addr} {F0 H0 H1 F H F' H' F2 H2 : Hp} {σ σ2 : St} {ρ ρ2 ρ3 : Fr} {D : Ends} {vs ws : List V} {cs : List Ch} {ds ds' : List Dn.D} {j n : Nat}
theorem Env.pinIn (E : Env K L F0 H1 F H σ ρ) (np : noPn ρ = true) (hb : H1 b = some (.lst ws)) (bf : F b = none) (br : RepL K F ws ds) (lc : c < ρ.length) : Env K (b, L.2) F0 (del H1 b) F H (σ.set c (some (.ref b))) (ρ.set c (.pin (.lst ds))) where
  st := ⟨E.st.ff, fun x u q => (by
      by_cases z : x = b
      · rw [z, del_same] at q; cases q
      · rw [del_ne z] at q; exact E.st.hh x u q), fun x u q1 q2 q3 => (by
      by_cases z : x = b
      · rw [z, del_same] at q2; cases q2
      · rw [del_ne z] at q2; exact E.st.nw x u q1 q2 q3), E.st.fh⟩
  len := by rw [List.length_set, List.length_set]; exact E.len
  sl := fun k s q => by
    rcases set_get q with ⟨e, es, _⟩ | ⟨ne, q⟩
    · subst e; subst es
      rw [List.getElem?_set_self (by rw [E.len]; exact lc)]
      exact ⟨rfl, bf, del_same, .lst ws, E.st.hh _ _ hb, .lst br⟩
    · rw [List.getElem?_set_ne ne]
      have z := E.sl k s q
      cases s with
      | none => trivial
      | err n => exact z
      | val d => exact z
      | own us =>
        obtain ⟨m, ho2, e, f2, h2, hH2, rr⟩ := z
        refine ⟨m, ho2, e, f2, ?_, hH2, rr⟩
        by_cases y : m = b
        · rw [y]; exact del_same
        · rw [del_ne y]; exact h2
      | pin us => exact (noPn_at np q).elim
  sep := fun j k l h1 h2 e1 e2 => by
    have no : ∀ m, c ≠ m → isOwn ρ[m]? → σ[m]? = some (some (.ref b)) → False := fun m hm hm1 hm2 => by
      obtain ⟨o, ho⟩ := Option.isSome_iff_exists.mp hm1
      obtain ⟨l', ho', e', _, h0', _⟩ := E.ownv ho
      rw [hm2] at e'
      cases e'
      rw [hb] at h0'; cases h0'
    by_cases nj : c = j
    · by_cases nk : c = k
      · exact nj.symm.trans nk
      · subst nj
        rw [List.getElem?_set_self (by rw [E.len]; exact lc)] at e1
        cases e1
        rw [List.getElem?_set_ne nk] at h2 e2
        exact (no k nk h2 e2).elim
    · rw [List.getElem?_set_ne nj] at h1 e1
      by_cases nk : c = k
      · subst nk
        rw [List.getElem?_set_self (by rw [E.len]; exact lc)] at e2
        cases e2
        exact (no j nj h1 e1).elim
      · rw [List.getElem?_set_ne nk] at h2 e2
        exact E.sep j k l h1 h2 e1 e2
theorem Env.pinOut (E : Env K (b, L.2) F0 (del H1 b) F2 H2 σ2 ρ2) (hc : ρ2[c]? = some (.pin (.lst ds'))) : ∃ ws', F2 b = none ∧ RepL K F2 ws' ds' ∧ Env K L F0 (upd H1 b (.lst ws')) F2 H2 σ2 (ρ2.set c .none) := by
  obtain ⟨el, f2, h2, ho, hH, ro⟩ := E.sl c _ hc
  have el : σ2[c]? = some (some (.ref b)) := join_some el
  obtain ⟨ws', rfl, r⟩ := ro.isl
  have iso : isOwn ρ2[c]? := by unfold isOwn; rw [hc]; rfl
  refine ⟨ws', f2, r, ⟨E.st.ff, fun x u q => ?_, fun x u q1 q2 q3 => ?_, E.st.fh⟩, by rw [List.length_set]; exact E.len, fun k s q => ?_, fun j k l h1 h2 e1 e2 => ?_⟩
  · by_cases z : x = b
    · rw [z, upd_same] at q; rw [z, ← q]; exact hH
    · rw [upd_ne z] at q; exact E.st.hh x u (by rw [del_ne z]; exact q)
  · by_cases z : x = b
    · rw [z]; exact f2
    · rw [upd_ne z] at q2; exact E.st.nw x u q1 (by rw [del_ne z]; exact q2) q3
  · rcases set_get q with ⟨e, es, _⟩ | ⟨ne, q⟩
    · subst es; trivial
    · have z := E.sl k s q
      cases s with
      | none => trivial
      | err n => exact z
      | val d => exact z
      | own us =>
        obtain ⟨m, ho2, e, g2, g3, g4, rr⟩ := z
        have mb : m ≠ b := fun y => by
          subst y
          exact ne (E.sep c k m iso (by unfold isOwn; rw [q]; rfl) el (join_some e))
        exact ⟨m, ho2, e, g2, by rw [upd_ne mb]; rw [del_ne mb] at g3; exact g3, g4, rr⟩
      | pin us =>
        obtain ⟨e, _⟩ := z
        exact (ne (E.sep c k b iso (by unfold isOwn; rw [q]; rfl) el (join_some e))).elim
  · have nj := own_ne (s := .none) rfl h1
    have nk := own_ne (s := .none) rfl h2
    rw [List.getElem?_set_ne nj] at h1
    rw [List.getElem?_set_ne nk] at h2
    exact E.sep j k l h1 h2 e1 e2
theorem set_comm' {α : Type} {l : List α} {i j : Nat} {x y : α} (h : i ≠ j) : (l.set i x).set j y = (l.set j y).set i x := List.set_comm _ _ h
theorem noPn_set (h : noPn ρ = true) (i : Nat) {s : S} (hs : isPin s = false) : noPn (ρ.set i s) = true := by
  unfold noPn at h ⊢
  rw [List.all_eq_true] at h ⊢
  intro x hx
  rcases List.mem_or_eq_of_mem_set hx with m | e
  · exact h x m
  · rw [e, hs]; rfl
theorem backA_env (q : backA i c j cs ρ2 = some ρ3) (N : NestV K H0 H1 F a vs cs) (hv : vs[j]? = some (.ref b)) (hc : cs[j]? = some (.own ds)) (f0 : Ex F0 F) (e : Ex F F2) (E2 : Env K (b, a) F0 (del H1 b) F2 H2 σ2 ρ2) (ci : c ≠ i) :
    ∃ H1' cs', Env K (L1, a) F0 H1' F2 H2 σ2 (ρ3.set i mkE) ∧ ρ3[i]? = some (.val (encN cs')) ∧ noErr ρ3 = true ∧ NestV K H0 H1' F2 a vs cs' := by
  unfold backA at q
  split at q
  · rename_i ds' hc2
    split at q
    · rename_i co
      cases q
      rw [Bool.and_eq_true] at co
      obtain ⟨ws', f2, r, E3⟩ := Env.pinOut (L := (L1, a)) E2 hc2
      obtain ⟨n, hn⟩ := errAt_is co.1
      have hn' : (ρ2.set c .none)[i]? = some (.err n) := by rw [List.getElem?_set_ne ci]; exact hn
      have li := (List.getElem?_eq_some_iff.mp hn').1
      refine ⟨upd H1 b (.lst ws'), cs.set j (.own ds'), by rw [List.set_set]; exact E3.mark hn', List.getElem?_set_self li, co.2, ?_⟩
      have N2 : NestV K H0 H1 F2 a vs cs := N.on e fun p o z1 z2 z3 => by
        by_cases y : p = b
        · rw [y]; exact f2
        · refine E2.st.nw p o ?_ (by rw [del_ne y]; exact z2) z3
          cases qz : F0 p with
          | none => rfl
          | some u => have := f0 _ _ qz; rw [z1] at this; cases this
      exact N2.mut hv hc r
    · cases q
  · cases q
theorem dn_forAl {t : TS} {g : MS} (hb : ∀ L, DS K L mg W t g) : DSR (nestR K) K mg W i (tFor (iSq K (tVar i)) (gName c) t) (sForAl i c g) := fun L1 F0 H0 F H σ ρ D ⟨a, cs, H1, E, hi, ne, vs, N⟩ q => by
  have hi : ρ[i]? = some (.val (encN cs)) := hi
  have li := li_of hi
  unfold sForAl at q
  split at q
  · exact q.elim
  · rename_i ci
    rw [viewF_at hi, ofO_some] at q
    have q : WOR (nestR K) K mg W i L1 F0 H0 F D (loopAl i c g cs.length 0 ρ) := q
    rw [← N.ln] at q
    refine ⟨_, at_of E li, a, vs, rfl, .inl ⟨.of (E.st.hh _ _ N.at0), ?_⟩⟩
    refine for_it (walk_own (K := K) (l := a) (n := vs.length)) (fun j σ H => ∃ F1 ρ1 cs1 H11, Ex F F1 ∧ Env K (L1, a) F0 H11 F1 H σ (ρ1.set i mkE) ∧ ρ1[i]? = some (.val (encN cs1)) ∧ noErr ρ1 = true ∧ NestV K H0 H11 F1 a vs cs1 ∧ WOR (nestR K) K mg W i L1 F0 H0 F1 D (loopAl i c g (vs.length - j) j ρ1))
      ⟨F, ρ, cs, H1, Ex.refl _, E, hi, ne, N, q⟩ ?_ ?_ ?_
    · rintro j σ1 Hc _ ⟨F1, ρ1, cs1, H11, e1, E1, hi1, ne1, N1, w1⟩
      exact ⟨vs, .of (E1.st.hh _ _ N1.at0), rfl⟩
    · rintro j x σ1 Hc Hy hlt ⟨F1, ρ1, cs1, H11, e1, E1, hi1, ne1, N1, w1⟩ ⟨rfl, y⟩
      have hx := y vs (.of (E1.st.hh _ _ N1.at0))
      rw [show vs.length - j = (vs.length - (j + 1)) + 1 by omega] at w1
      unfold loopAl at w1
      rw [viewF_at hi1, ofO_some] at w1
      have w1 : WOR (nestR K) K mg W i L1 F0 H0 F1 D (match cs1[j]? with
        | some (.own ds) => if (noPn ρ1 && decide (c < ρ1.length)) = true then (match g ((ρ1.set i mkE).set c (.pin (.lst ds))) with
          | .nx ρ2 => Out.ofO (backA i c j cs1 ρ2) fun ρ3 => loopAl i c g (vs.length - (j + 1)) (j + 1) ρ3
          | .cont ρ2 => Out.ofO (backA i c j cs1 ρ2) fun ρ3 => loopAl i c g (vs.length - (j + 1)) (j + 1) ρ3
          | .brk ρ2 => Out.ofO (backA i c j cs1 ρ2) .nx
          | _ => .stuck) else .stuck
        | _ => .stuck) := w1
      cases qc : cs1[j]? with
      | none => rw [qc] at w1; exact w1.elim
      | some ch =>
        rw [qc] at w1
        cases ch with
        | dat d => exact w1.elim
        | own ds =>
          by_cases co : (noPn ρ1 && decide (c < ρ1.length)) = true
          · have w2 : WOR (nestR K) K mg W i L1 F0 H0 F1 D (if (noPn ρ1 && decide (c < ρ1.length)) = true then (match g ((ρ1.set i mkE).set c (.pin (.lst ds))) with
              | .nx ρ2 => Out.ofO (backA i c j cs1 ρ2) fun ρ3 => loopAl i c g (vs.length - (j + 1)) (j + 1) ρ3
              | .cont ρ2 => Out.ofO (backA i c j cs1 ρ2) fun ρ3 => loopAl i c g (vs.length - (j + 1)) (j + 1) ρ3
              | .brk ρ2 => Out.ofO (backA i c j cs1 ρ2) .nx
              | _ => .stuck) else .stuck) := w1
            rw [if_pos co] at w2
            rw [Bool.and_eq_true] at co
            obtain ⟨b, ws, rfl, ba, b0, bf, bh, br⟩ := N1.ch j x _ hx qc
            have lc : c < (ρ1.set i mkE).length := by rw [List.length_set]; exact of_decide_eq_true co.2
            have EP := E1.pinIn (noPn_set co.1 i (s := mkE) rfl) bh bf br lc
            refine hb (b, a) F0 (del H11 b) F1 Hy (σ1.set c (some (.ref b))) _ _ EP ?_
            cases qq : g ((ρ1.set i mkE).set c (.pin (.lst ds))) with
            | nx ρ2 =>
              rw [qq] at w2
              obtain ⟨ρ3, q3, w3⟩ := WOR.ofO w2
              intro F2 H2 σ2 e2 E2
              obtain ⟨H1', cs', z1, z2, z3, z4⟩ := backA_env (L1 := L1) q3 N1 hx qc E1.st.ff e2 E2 ci
              exact ⟨F2, ρ3, cs', H1', e1.trans e2, z1, z2, z3, z4, WOR.mono e2 w3⟩
            | cont ρ2 =>
              rw [qq] at w2
              obtain ⟨ρ3, q3, w3⟩ := WOR.ofO w2
              intro F2 H2 σ2 e2 E2
              obtain ⟨H1', cs', z1, z2, z3, z4⟩ := backA_env (L1 := L1) q3 N1 hx qc E1.st.ff e2 E2 ci
              exact ⟨F2, ρ3, cs', H1', e1.trans e2, z1, z2, z3, z4, WOR.mono e2 w3⟩
            | brk ρ2 =>
              rw [qq] at w2
              obtain ⟨ρ3, q3, w3⟩ := WOR.ofO w2
              intro F2 H2 σ2 e2 E2
              obtain ⟨H1', cs', z1, z2, z3, z4⟩ := backA_env (L1 := L1) q3 N1 hx qc E1.st.ff e2 E2 ci
              exact WOR.mono e2 w3 F2 H2 σ2 (Ex.refl _) ⟨a, cs', H1', z1, z2, z3, vs, z4⟩
            | ret d ρ => rw [qq] at w2; exact w2.elim
            | retL ds ρ => rw [qq] at w2; exact w2.elim
            | exc n ρ => rw [qq] at w2; exact w2.elim
            | stuck => rw [qq] at w2; exact w2.elim
          · have w2 : WOR (nestR K) K mg W i L1 F0 H0 F1 D (if (noPn ρ1 && decide (c < ρ1.length)) = true then _ else .stuck) := w1
            rw [if_neg co] at w2
            exact w2.elim
    · rintro σ1 Hc ⟨F1, ρ1, cs1, H11, e1, E1, hi1, ne1, N1, w1⟩
      rw [Nat.sub_self] at w1
      exact w1 F1 Hc σ1 (Ex.refl _) ⟨a, cs1, H11, E1, hi1, ne1, vs, N1⟩
/-- for x in l[k]: l[x].m(..) -/
theorem dn_forMut {r : V → List V → Hp → VK → Prop} {fm : List Dn.D → List Dn.D → Option (List Dn.D × Dn.D)} {tk : TE} {kf : ME} {xi : Nat} {tas : TA} {as : ML} (hr : RMD K r fm) (hk : ∀ L, DE K L mg W tk kf) (ha : ∀ L, DAF K L mg W tas as) :
    DSR (nestR K) K mg W i (tFor (iSq K (tOp (rIx K) (tVar i) tk)) (gName xi) (tDrop (tBM K "list" r (tOp (rIx K) (tVar i) (tVar xi)) tas))) (sForMut i kf xi fm as) := fun L1 F0 H0 F H σ ρ D ⟨a, cs, H1, E, hi, ne, vs, N⟩ q => by
  have hi : ρ[i]? = some (.val (encN cs)) := hi
  have li := li_of hi
  unfold sForMut at q
  split at q
  · exact q.elim
  · rename_i xne
    rw [viewF_at hi, ofO_some] at q
    obtain ⟨jd, qj, q⟩ := WOR.ofO q
    split at q
    · rename_i jj
      obtain ⟨n, qn, q⟩ := WOR.ofO q
      split at q
      · rename_i ds qd
        have qn : ixN cs.length jj = some n := qn
        have qd : cs[n]? = some (.own ds) := qd
        have nl := (List.getElem?_eq_some_iff.mp qd).1
        have hv : vs[n]? = some (vs[n]'(by rw [N.ln]; exact nl)) := List.getElem?_eq_getElem _
        generalize vs[n]'(by rw [N.ln]; exact nl) = v at hv
        obtain ⟨b, ws, rfl, ba, b0, bf, bh, br⟩ := N.ch n v _ hv qd
        refine ⟨_, at_of E li, ?_⟩
        refine view_I E li ne N hk (mB_is qj) fun H2 s2 => ?_
        have E2 := E.step s2
        refine .inl ⟨a, vs, jj, .ref b, rfl, rfl, SqL.of (E2.st.hh _ _ N.at0), by unfold atI; rw [N.ln, qn]; exact hv, ?_⟩
        refine ⟨b, ws, rfl, .inl ⟨.of (E2.st.hh _ _ bh), ?_⟩⟩
        have wl := br.length
        refine for_it (walk_own (K := K) (l := b) (n := ds.length)) (fun j σ H => ∃ F1 ρ1 cs1 H11, Ex F F1 ∧ Env K (L1, a) F0 H11 F1 H σ (ρ1.set i mkE) ∧ ρ1[i]? = some (.val (encN cs1)) ∧ noErr ρ1 = true ∧ NestV K H0 H11 F1 a vs cs1 ∧ cs1[n]? = some (.own ds) ∧ WOR (nestR K) K mg W i L1 F0 H0 F1 D (loopMut i n xi fm as (ds.drop j) ρ1))
          ⟨F, ρ, cs, H1, Ex.refl _, E2, hi, ne, N, qd, by rw [List.drop_zero]; exact q⟩ ?_ ?_ ?_
        · rintro j σ1 Hc _ ⟨F1, ρ1, cs1, H11, e1, E1, hi1, ne1, N1, qd1, w1⟩
          obtain ⟨b', ws', eb, _, _, _, bh', br'⟩ := N1.ch n _ _ hv qd1
          cases eb
          exact ⟨ws', .of (E1.st.hh _ _ bh'), br'.length⟩
        · rintro j x σ1 Hc Hy hlt ⟨F1, ρ1, cs1, H11, e1, E1, hi1, ne1, N1, qd1, w1⟩ ⟨rfl, y⟩
          obtain ⟨b', ws', eb, _, _, _, bh', br'⟩ := N1.ch n _ _ hv qd1
          cases eb
          have hx := y ws' (.of (E1.st.hh _ _ bh'))
          obtain ⟨d, hd, rd⟩ := br'.get hx
          have ed : ds.drop j = d :: ds.drop (j + 1) := by
            obtain ⟨h1, h2⟩ := List.getElem?_eq_some_iff.mp hd
            rw [List.drop_eq_getElem_cons h1, h2]
          rw [ed] at w1
          unfold loopMut at w1
          rw [viewF_at hi1, ofO_some] at w1
          split at w1
          · rename_i m
            obtain ⟨es, qe, w1⟩ := WOR.ofO w1
            obtain ⟨p, qp, w1⟩ := WOR.ofO w1
            have qp : ixN cs1.length m = some p := qp
            by_cases pn : p = n ∨ ρ1.length ≤ xi
            · rw [if_pos pn] at w1; exact w1.elim
            · rw [if_neg pn] at w1
              cases qc : cs1[p]? with
              | none => 
                have w1 : WOR (nestR K) K mg W i L1 F0 H0 F1 D (match cs1[p]? with | some (.own fs) => _ | _ => .stuck) := w1
                rw [qc] at w1; exact w1.elim
              | some ch =>
                have w1 : WOR (nestR K) K mg W i L1 F0 H0 F1 D (match cs1[p]? with
                  | some (.own fs) => Out.ofO (fm fs es) fun r => loopMut i n xi fm as (ds.drop (j + 1)) ((ρ1.set xi (.val (.int m))).set i (.val (encN (cs1.set p (.own r.1)))))
                  | _ => .stuck) := w1
                rw [qc] at w1
                cases ch with
                | dat d => exact w1.elim
                | own fs =>
                  obtain ⟨rz, qf, w1⟩ := WOR.ofO w1
                  obtain ⟨fs', z⟩ := rz
                  have w1 : WOR (nestR K) K mg W i L1 F0 H0 F1 D (loopMut i n xi fm as (ds.drop (j + 1)) ((ρ1.set xi (.val (.int m))).set i (.val (encN (cs1.set p (.own fs')))))) := w1
                  have li1 := li_of hi1
                  have pl := (List.getElem?_eq_some_iff.mp qc).1
                  have hvp : vs[p]? = some (vs[p]'(by rw [N1.ln]; exact pl)) := List.getElem?_eq_getElem _
                  generalize vs[p]'(by rw [N1.ln]; exact pl) = vp at hvp
                  obtain ⟨b2, us, rfl, c1, c2, c3, c4, c5⟩ := N1.ch p vp _ hvp qc
                  have EX : Env K (L1, a) F0 H11 F1 Hy (σ1.set xi (some x)) ((ρ1.set xi (.val (.int m))).set i mkE) := by
                    rw [set_comm' xne]
                    exact E1.setv rd xi
                  have xint : x = .int m := by cases rd; rfl
                  subst xint
                  have li2 : i < (ρ1.set xi (.val (.int m))).length := by rw [List.length_set]; exact li1
                  show tBM K "list" r (tOp (rIx K) (tVar i) (tVar xi)) tas (σ1.set xi (some (.int m))) Hy fun _ H' => _
                  refine ⟨_, at_of EX li2, ?_⟩
                  have xl : xi < σ1.length := by
                    have := E1.len
                    rw [List.length_set] at this
                    omega
                  refine ⟨.int m, List.getElem?_set_self xl, ?_⟩
                  refine .inl ⟨a, vs, m, .ref b2, rfl, rfl, SqL.of (E1.st.hh _ _ N1.at0), by unfold atI; rw [N1.ln, qp]; exact hvp, .inl ⟨rfl, _, SqL.of (E1.st.hh _ _ c4)⟩, ?_⟩
                  refine ha (L1, a) F0 H11 F1 Hy _ _ _ EX ?_
                  rw [mB_is qe]
                  intro F2 H3 xs s3 r3
                  have E3 := EX.step s3
                  have N2 := N1.on s3.ff (nw_of EX s3)
                  refine hr F2 H3 b2 us fs xs es fs' z _ E3.st.fh (E3.st.hh _ _ c4) (c5.mono s3.ff) r3 qf fun ws' v rw' rz => ?_
                  refine ⟨F2, _, cs1.set p (.own fs'), upd H11 b2 (.lst ws'), e1.trans s3.ff, ?_, List.getElem?_set_self li2, noErr_set (noErr_set ne1 _ rfl) _ rfl, N2.mut hvp qc rw', ?_, WOR.mono s3.ff w1⟩
                  · rw [List.set_set]
                    exact E3.both (N2.prt (.inr ⟨p, fs, hvp, qc⟩)).2.1 c4
                  · rw [List.getElem?_set_ne (fun z => pn (.inl z))]
                    exact qd1
          · exact w1.elim
        · rintro σ1 Hc ⟨F1, ρ1, cs1, H11, e1, E1, hi1, ne1, N1, qd1, w1⟩
          rw [List.drop_length] at w1
          exact w1 F1 Hc σ1 (Ex.refl _) ⟨a, cs1, H11, E1, hi1, ne1, vs, N1⟩
      · exact q.elim
    · exact q.elim
end
end Dn

set_option Elab.async false
set_option linter.all false
set_option maxRecDepth 100000
set_option maxHeartbeats 4000000
/-! DenXP: a list of one's own lists and of data: how it begins and ends -/
namespace Dn
open PySem L2
/-- the nest is frozen; what comes behind hands back -/
def sExitN (i : Nat) (h : MS) : MS := fun ρ => Out.ofO (viewF i ρ) fun p => match h p.2 with
  | .ret d ρ1 => .ret d ρ1
  | .exc n ρ1 => .exc n ρ1
  | _ => .stuck
def outR (i : Nat) : Out → Out
  | .ret d ρ1 => if noErr (clrI i ρ1) = true then .ret d (clrI i ρ1) else .stuck
  | .exc n ρ1 => if noErr (clrI i ρ1) = true then .exc n (clrI i ρ1) else .stuck
  | _ => .stuck
/-- l = [] -/
def sRegE (i : Nat) (g : MS) : MS := fun ρ => if (noErr ρ && decide (i < ρ.length)) = true then outR i (g (ρ.set i (.val (encN [])))) else .stuck
def loopLcN (tg : D → Fr → Option Fr) (e : ML) (vs : List Nat) (ρ : Fr) : List D → List (List D) → Option (List (List D))
  | [], acc => some acc
  | d :: ds, acc => (tg d (wipeF ρ vs)).bind fun ρ' => (mB (e ρ')).bind fun y => if acc.length < sizeLine then loopLcN tg e vs ρ ds (acc ++ [y]) else none
/-- l = [(a new list) for ..] -/
def sRegL (i : Nat) (f : ML) (tg : D → Fr → Option Fr) (e : ML) (vs : List Nat) (g : MS) : MS := fun ρ => if (noErr ρ && decide (i < ρ.length)) = true then Out.of (f ρ) ρ fun ds => Out.ofO (loopLcN tg e vs ρ ds []) fun dss => outR i (g (ρ.set i (.val (encN (dss.map .own))))) else .stuck
section
variable {K : PySem.W.Frag} {mg : Str → Option Value} {W : WX} {i j : Nat} {L1 a b : Addr} {L : Addr × Addr} {F0 H0 H1 F H F' H' F2 H2 : Hp} {σ σ2 : St} {ρ ρ2 ρ3 : Fr} {D : Ends} {vs ws : List V} {cs : List Ch}
theorem dn_exit {t : TS} {h : MS} (hu : ∀ L, DS K L mg W t h) : DSR (nestR K) K mg W i t (sExitN i h) := fun L1 F0 H0 F H σ ρ D ⟨a, cs, H1, E, hi, ne, vs, N⟩ q => by
  have hi : ρ[i]? = some (.val (encN cs)) := hi
  unfold sExitN at q
  rw [viewF_at hi, ofO_some] at q
  obtain ⟨F', ef, E'⟩ := N.out (L := (L1, a)) E (li_of hi) ne
  refine hu (L1, a) F0 H0 F' H σ _ D E' ?_
  have q : WOR (nestR K) K mg W i L1 F0 H0 F D (match h (ρ.set i (.val (outN cs))) with
    | .ret d ρ1 => .ret d ρ1
    | .exc n ρ1 => .exc n ρ1
    | _ => .stuck) := q
  cases qh : h (ρ.set i (.val (outN cs))) with
  | ret d ρ1 => rw [qh] at q; exact fun F2 H2 σ2 v e2 E2 r => q F2 H2 σ2 v a (ef.trans e2) E2 r
  | exc n ρ1 => rw [qh] at q; exact fun F2 H2 σ2 e2 E2 => q F2 H2 σ2 a (ef.trans e2) E2
  | nx ρ1 => rw [qh] at q; exact q.elim
  | brk ρ1 => rw [qh] at q; exact q.elim
  | cont ρ1 => rw [qh] at q; exact q.elim
  | retL d ρ1 => rw [qh] at q; exact q.elim
  | stuck => rw [qh] at q; exact q.elim
theorem dsr_frz {t : TS} {g : MS} (h : DSR (nestR K) K mg W i t g) : DSR (nestR K) K mg W i t (sFrz j g) := fun L1 F0 H0 F H σ ρ D X q => by
  obtain ⟨a, cs, H1, E, hi, ne, vs, N⟩ := X
  have X : EnvR (nestR K) K i L1 F0 H0 F H σ ρ := ⟨a, cs, H1, E, hi, ne, vs, N⟩
  unfold sFrz frz at q
  cases qj : ρ[j]? with
  | none => rw [qj] at q; exact h L1 F0 H0 F H σ ρ D X q
  | some s =>
    rw [qj] at q
    cases s with
    | none => exact h L1 F0 H0 F H σ ρ D X q
    | val d => exact h L1 F0 H0 F H σ ρ D X q
    | pin d => exact h L1 F0 H0 F H σ ρ D X q
    | err n => exact h L1 F0 H0 F H σ ρ D X q
    | own o =>
      have hi : ρ[i]? = some (.val (encN cs)) := hi
      have ij : i ≠ j := fun z => by rw [z, qj] at hi; cases hi
      have qm : (ρ.set i mkE)[j]? = some (.own o) := by rw [List.getElem?_set_ne ij]; exact qj
      obtain ⟨F', ef, E'⟩ := E.frz qm
      rw [set_comm' ij] at E'
      refine h L1 F0 H0 F' H σ _ D ⟨a, cs, H1, E', ?_, noErr_set ne _ rfl, vs, N.on ef fun p u z1 z2 z3 => E'.st.nw p u ?_ z2 z3⟩ (WOR.mono ef q)
      · rw [List.getElem?_set_ne (Ne.symm ij)]; exact hi
      · cases qz : F0 p with
        | none => rfl
        | some u => have := E.st.ff _ _ qz; rw [z1] at this; cases this
/-- the end of it -/
theorem outR_wo {t : TS} {g : MS} {ρ1 : Fr} (hg : DSR (nestR K) K mg W i t g) (X : EnvR (nestR K) K i L.1 F0 H0 F H σ ρ1) (q : WO K mg W L F0 H0 F D (outR i (g ρ1))) : t D σ H := by
  refine hg L.1 F0 H0 F H σ ρ1 D X ?_
  cases qg : g ρ1 with
  | ret d ρ2 =>
    rw [qg] at q
    have q : WO K mg W L F0 H0 F D (if noErr (clrI i ρ2) = true then .ret d (clrI i ρ2) else .stuck) := q
    split at q
    · rename_i n1
      exact fun F' H' σ' v a e E' r => q F' H' σ' v e ((E'.clr).other n1 rfl) r
    · exact q.elim
  | exc n ρ2 =>
    rw [qg] at q
    have q : WO K mg W L F0 H0 F D (if noErr (clrI i ρ2) = true then .exc n (clrI i ρ2) else .stuck) := q
    split at q
    · rename_i n1
      exact fun F' H' σ' a e E' => q F' H' σ' e ((E'.clr).other n1 rfl)
    · exact q.elim
  | nx ρ => rw [qg] at q; exact q.elim
  | brk ρ => rw [qg] at q; exact q.elim
  | cont ρ => rw [qg] at q; exact q.elim
  | retL ds ρ => rw [qg] at q; exact q.elim
  | stuck => rw [qg] at q; exact q.elim
/-- the frame with the mark of new things that stand beside -/
theorem Env.toMark {Z : Addr} {Hn : Hp} (E : Env K L F0 H0 F H σ ρ) (E2 : Env K L F0 H0 F2 H2 σ ρ) (ne : noErr ρ = true) (li : i < ρ.length) (hn : ∀ l o, H l = some o → Hn l = H0 l) (z1 : Ex Hn H') (z2 : ∀ x o, F0 x = none → Hn x = some o → NTup o → F2 x = none) (z3 : Ex F2 H') (z4 : ∀ l o, H2 l = some o → H' l = some o) :
    Env K (L.1, Z) F0 Hn F2 H' (σ.set i (some (.ref Z))) (ρ.set i mkE) where
  st := ⟨E2.st.ff, z1, z2, z3⟩
  len := by rw [List.length_set, List.length_set]; exact E.len
  sl := fun j sl q => by
    rcases set_get q with ⟨e, es, _⟩ | ⟨nj, h'⟩
    · subst e; subst es
      rw [List.getElem?_set_self (by rw [E.len]; exact li)]
      rfl
    · rw [List.getElem?_set_ne nj]
      have z := E2.sl j sl h'
      have z1 := E.sl j sl h'
      cases sl with
      | none => trivial
      | err n => exact (err_no ne h').elim
      | val d => exact z
      | own us =>
        obtain ⟨m, ho2, e, g2, g3, g4, rr⟩ := z
        obtain ⟨m1, ho1, e1, _, _, g5, _⟩ := z1
        rw [e] at e1
        cases e1
        exact ⟨m, ho2, e, g2, by rw [hn m _ g5]; exact g3, z4 _ _ g4, rr⟩
      | pin us =>
        obtain ⟨e, g2, g3, ho2, g4, rr⟩ := z
        obtain ⟨_, _, _, ho1, g5, _⟩ := z1
        exact ⟨e, g2, by rw [hn L.1 _ g5]; exact g3, ho2, z4 _ _ g4, rr⟩
  sep := fun j k' l h1 h2 e1 e2 => by
    have nj := own_ne (s := mkE) rfl h1
    have nk := own_ne (s := mkE) rfl h2
    rw [List.getElem?_set_ne nj] at h1 e1
    rw [List.getElem?_set_ne nk] at h2 e2
    exact E.sep j k' l h1 h2 e1 e2
theorem ds_regE {t : TS} {g : MS} (hg : DSR (nestR K) K mg W i t g) : DS K L mg W (tSeq (tAsg (tLst tNil) (gName i)) t) (sRegE i g) := fun F0 H0 F H σ ρ D E q => by
  unfold sRegE at q
  split at q
  · rename_i c
    rw [Bool.and_eq_true] at c
    obtain ⟨ne, li⟩ := c
    have li := of_decide_eq_true li
    refine ⟨Nat.zero_le _, fun Z hZ => ?_⟩
    show t D (σ.set i (some (.ref Z))) (upd H Z (.lst []))
    have h0 : H0 Z = none := E.st.hh.free hZ
    have f0 : F Z = none := E.st.fh.free hZ
    refine outR_wo hg ⟨Z, [], upd H0 Z (.lst []), ?_, List.getElem?_set_self li, noErr_set ne _ rfl, [], ?_⟩ q
    · rw [List.set_set]
      refine E.toMark E ne li (fun l o hl => upd_ne (ne_of_none hl hZ)) E.st.hh.upd (fun x o q1 q2 q3 => ?_) (E.st.fh.trans (Ex.new hZ)) (Ex.new hZ)
      by_cases z : x = Z
      · rw [z]; exact f0
      · rw [upd_ne z] at q2; exact E.st.nw x o q1 q2 q3
    · exact ⟨Ex.new h0, h0, f0, upd_same, rfl, fun j v c h => by simp at h, fun j k b ds es h => by simp at h⟩
  · exact q.elim
theorem ds_regL {wi : TI} {f : ML} {gg : TG} {tg : Dn.D → Fr → Option Fr} {is : List Nat} {te : TE} {e : ML} {vs : List Nat} {t : TS} {g : MS} (hi : DIB K L mg W wi f) (hgg : DG K L gg tg is) (hv : ∀ i ∈ is, i ∈ vs) (he : DL K L mg (fun _ _ _ _ => False) te e) (hg : DSR (nestR K) K mg W i t g) :
    DS K L mg W (tSeq (tAsg (tLc wi gg tYes te vs) (gName i)) t) (sRegL i f tg e vs g) := fun F0 H0 F H σ ρ D E q => by
  unfold sRegL at q
  split at q
  · rename_i c
    rw [Bool.and_eq_true] at c
    obtain ⟨ne, li⟩ := c
    have li := of_decide_eq_true li
    refine hi F0 H0 F H σ ρ _ E (post_mono (WO.of E q) (fun ds k F1 H1 J s src => ?_) fun _ z => z)
    obtain ⟨G, Y, wk, hG, hY⟩ := src
    obtain ⟨dss, qd, k⟩ := WO.ofO k
    have E1 := E.step s
    intro Z hZ
    refine lc_it wk (fun j Hc => ∃ (F2 H2 : Hp) (bs : List Addr) (acc : List (List Dn.D)), Step F1 H1 F2 H2 ∧ F2 Z = none ∧ H2 Z = none ∧ Hc = upd H2 Z (.lst (bs.map V.ref)) ∧ bs.length = acc.length ∧ bs.Nodup ∧
      (∀ (k : Nat) (b : Addr) (d : List Dn.D), bs[k]? = some b → acc[k]? = some d → ∃ ws, H2 b = some (.lst ws) ∧ RepL K F2 ws d ∧ F2 b = none ∧ H1 b = none) ∧ loopLcN tg e vs ρ (ds.drop j) acc = some dss)
      ⟨F1, H1, [], [], Step.refl s.fh, s.fh.free hZ, hZ, rfl, rfl, List.nodup_nil, fun k b d h => by simp at h, by rw [List.drop_zero]; exact qd⟩ ?_ ?_ ?_
    · rintro j Hc _ ⟨F2, H2, bs, acc, s2, f2, l2, rfl, lb, nd, hb, k2⟩
      exact hG F2 _ s2.ff (s2.hh.trans (Ex.new l2)) (s2.fh.trans (Ex.new l2))
    · rintro j x Hc Hy hlt ⟨F2, H2, bs, acc, s2, f2, l2, rfl, lb, nd, hb, k2⟩ y
      obtain ⟨F3, d, s3, hd, r3⟩ := hY j F2 _ x Hy hlt s2.ff (s2.hh.trans (Ex.new l2)) (s2.fh.trans (Ex.new l2)) y
      have ed : ds.drop j = d :: ds.drop (j + 1) := by
        obtain ⟨h1, h2⟩ := List.getElem?_eq_some_iff.mp hd
        rw [List.drop_eq_getElem_cons h1, h2]
      rw [ed] at k2
      unfold loopLcN at k2
      cases q : tg d (wipeF ρ vs) with
      | none => rw [q] at k2; cases k2
      | some ρ' =>
        rw [q] at k2
        have k2 : ((mB (e ρ')).bind fun y => if acc.length < sizeLine then loopLcN tg e vs ρ (ds.drop (j + 1)) (acc ++ [y]) else none) = some dss := k2
        cases qe : mB (e ρ') with
        | none => rw [qe] at k2; cases k2
        | some dy =>
          rw [qe] at k2
          have k2 : (if acc.length < sizeLine then loopLcN tg e vs ρ (ds.drop (j + 1)) (acc ++ [dy]) else none) = some dss := k2
          split at k2
          · rename_i hz
            have E2 : Env K L F0 H0 F2 (upd H2 Z (.lst (bs.map V.ref))) σ ρ := (E1.step s2).step (Step.new0 s2.fh l2)
            have E3 := (E2.step s3).wipe vs
            refine hgg F0 H0 F3 Hy _ _ x d _ ρ' E3 r3 q fun σ' E4 wz => ⟨(wz vs hv).trans wipe_wipe, ?_⟩
            refine yes_t ?_
            refine he F0 H0 F3 Hy σ' ρ' _ E4 ?_
            rw [mB_is qe]
            intro F5 H5 p ws s5 hp rws
            obtain ⟨sb, fz, hzz⟩ := Step.beside (o := .lst _) (fun _ z => nomatch z) l2 f2 (s3.trans s5)
            have pz : p ≠ Z := (ne_of_none hzz hp).symm
            have dp : del H5 Z p = none := by rw [del_ne pz]; exact hp
            refine ⟨bs.map V.ref, by rw [upd_ne pz.symm]; exact hzz, by rw [List.length_map, lb]; exact hz, ?_⟩
            have st := (s2.trans sb).trans (Step.new0 (o := .lst ws) sb.fh dp)
            refine ⟨F5, upd (del H5 Z) p (.lst ws), bs ++ [p], acc ++ [dy], st, fz, by rw [upd_ne pz.symm]; exact del_same, ?_, by rw [List.length_append, List.length_append, lb]; rfl, ?_, fun m b dm h1 h2 => ?_, k2⟩
            · funext x
              by_cases e1 : x = Z
              · rw [e1, upd_same, upd_same, List.map_append]; rfl
              · rw [upd_ne e1, upd_ne e1]
                by_cases e2 : x = p
                · rw [e2, upd_same, upd_same]
                · rw [upd_ne e2, upd_ne e2, del_ne e1]
            · rw [List.nodup_append]
              refine ⟨nd, by simp, fun b h c hc => ?_⟩
              rw [List.mem_singleton.mp hc]
              obtain ⟨m, hm, e⟩ := List.getElem_of_mem h
              obtain ⟨ws', hw, _⟩ := hb m b (acc[m]'(by rw [← lb]; exact hm)) (by rw [List.getElem?_eq_getElem hm, e]) (List.getElem?_eq_getElem _)
              exact ne_of_none (sb.hh b _ hw) dp
            · by_cases hm : m < bs.length
              · rw [List.getElem?_append_left hm] at h1
                rw [List.getElem?_append_left (by rw [← lb]; exact hm)] at h2
                obtain ⟨ws', hw, rw', g1, g2⟩ := hb m b dm h1 h2
                have hk := sb.hh b _ hw
                exact ⟨ws', by rw [upd_ne (ne_of_none hk dp)]; exact hk, rw'.mono sb.ff, sb.nw b _ g1 hw (fun _ z => nomatch z), g2⟩
              · have hm' : m = bs.length := by
                  have := (List.getElem?_eq_some_iff.mp h1).1
                  rw [List.length_append, List.length_singleton] at this
                  omega
                subst hm'
                rw [List.getElem?_append_right (by omega), Nat.sub_self] at h1
                rw [List.getElem?_append_right (by omega), lb, Nat.sub_self] at h2
                cases h1; cases h2
                exact ⟨ws, upd_same, rws, sb.fh.free dp, (s2.trans sb).hh.free dp⟩
          · cases k2
    · rintro Hc ⟨F2, H2, bs, acc, s2, f2, l2, rfl, lb, nd, hb, k2⟩
      rw [List.drop_length] at k2
      unfold loopLcN at k2
      cases k2
      show t D (σ.set i (some (.ref Z))) (upd H2 Z (.lst (bs.map V.ref)))
      have s12 : Step F H F2 H2 := s.trans s2
      have HZ : H Z = none := s.hh.free hZ
      have at' : ∀ b ∈ bs, ∃ ws, H2 b = some (.lst ws) ∧ F2 b = none ∧ H1 b = none := fun b h => by
        obtain ⟨m, hm, e⟩ := List.getElem_of_mem h
        obtain ⟨ws', hw, _, g1, g2⟩ := hb m b (dss[m]'(by rw [← lb]; exact hm)) (by rw [List.getElem?_eq_getElem hm, e]) (List.getElem?_eq_getElem _)
        exact ⟨ws', hw, g1, g2⟩
      have Hb : ∀ b ∈ bs, H b = none := fun b h => by obtain ⟨_, _, _, g⟩ := at' b h; exact s.hh.free g
      have zb : Z ∉ bs := fun z => by obtain ⟨_, g, _⟩ := at' Z z; rw [g] at l2; cases l2
      have E2 : Env K L F0 H0 F2 H2 σ ρ := E.step s12
      let Hn : Hp := fun p => if p = Z then some (.lst (bs.map V.ref)) else if p ∈ bs then H2 p else H0 p
      have na : Hn Z = some (.lst (bs.map V.ref)) := if_pos rfl
      have nb : ∀ b ∈ bs, Hn b = H2 b := fun b h => by
        show (if b = Z then some (HO.lst (bs.map V.ref)) else if b ∈ bs then H2 b else H0 b) = _
        rw [if_neg (fun z : b = Z => zb (by rw [← z]; exact h)), if_pos h]
      have no : ∀ p, p ≠ Z → p ∉ bs → Hn p = H0 p := fun p h1 h2 => by
        show (if p = Z then some (HO.lst (bs.map V.ref)) else if p ∈ bs then H2 p else H0 p) = _
        rw [if_neg h1, if_neg h2]
      have z0 : H0 Z = none := E.st.hh.free HZ
      have zb0 : ∀ b ∈ bs, H0 b = none := fun b h => E.st.hh.free (Hb b h)
      refine outR_wo hg ⟨Z, dss.map .own, Hn, ?_, List.getElem?_set_self li, noErr_set ne _ rfl, bs.map V.ref, ?_⟩ (WO.mono s12.ff k)
      · rw [List.set_set]
        refine E.toMark E2 ne li (fun l o hl => no l (ne_of_none hl HZ) fun z => by rw [Hb l z] at hl; cases hl) (fun p o q => ?_) (fun p o q1 q2 q3 => ?_) (E2.st.fh.trans (Ex.new l2)) (Ex.new l2)
        · by_cases c : p = Z
          · rw [c, na] at q; rw [c, upd_same]; exact q
          · rw [upd_ne c]
            by_cases c2 : p ∈ bs
            · rw [nb p c2] at q; exact q
            · rw [no p c c2] at q; exact E2.st.hh _ _ q
        · by_cases c : p = Z
          · rw [c]; exact f2
          · by_cases c2 : p ∈ bs
            · obtain ⟨_, _, g, _⟩ := at' p c2; exact g
            · rw [no p c c2] at q2; exact E2.st.nw p o q1 q2 q3
      · refine ⟨fun p o q => ?_, z0, f2, na, by rw [List.length_map, List.length_map]; exact lb, fun j v c h1 h2 => ?_, fun j k b ds es h1 h2 _ _ => ?_⟩
        · rw [no p (ne_of_none q z0) (fun z => by rw [zb0 p z] at q; cases q)]
          exact q
        · rw [List.getElem?_map] at h1 h2
          obtain ⟨b, hb1, rfl⟩ := Option.map_eq_some_iff.mp h1
          obtain ⟨d, hd1, rfl⟩ := Option.map_eq_some_iff.mp h2
          obtain ⟨ws', hw, rw', g1, g2⟩ := hb j b d hb1 hd1
          have mb := List.mem_of_getElem? hb1
          exact ⟨b, ws', rfl, fun z => zb (by rw [← z]; exact mb), zb0 b mb, g1, by rw [nb b mb]; exact hw, rw'⟩
        · rw [List.getElem?_map] at h1 h2
          obtain ⟨b1, hb1, e1⟩ := Option.map_eq_some_iff.mp h1
          obtain ⟨b2, hb2, e2⟩ := Option.map_eq_some_iff.mp h2
          cases e1; cases e2
          obtain ⟨l1, e1⟩ := List.getElem?_eq_some_iff.mp hb1
          obtain ⟨l2, e2⟩ := List.getElem?_eq_some_iff.mp hb2
          exact (List.getElem_inj nd).mp (by rw [e1, e2])
  · exact q.elim
end
end Dn

set_option Elab.async false
set_option linter.all false
set_option maxRecDepth 100000
set_option maxHeartbeats 4000000
/-! DenXQ: lists of one's own lists, made plain -/
namespace Dn
open PySem L2
section
variable {i j c k n m : Nat} {ρ ρ1 ρ2 : Fr} {cs : List Ch} {s : S} {d : D} {g h : MS} {tf : MT} {b : Bool} {ds es : List D} {kf e : ME} {as : ML} {fm : List D → List D → Option (List D × D)}
theorem backN_at (h1 : ρ1[i]? = some mkE) (ne : noErr (ρ1.set i s) = true) : backN i s ρ1 = some (ρ1.set i s) := by
  unfold backN errAt
  rw [h1, ne]
  rfl
theorem tgN_gN (ij : i ≠ j) (hi : ρ[i]? = some s) (ne : noErr ρ = true) : tgN i (gN j) d ρ = some (ρ.set j (.val d)) := by
  unfold tgN
  rw [hi]
  show backN i s ((ρ.set i mkE).set j (.val d)) = _
  have e : ((ρ.set i mkE).set j (.val d)).set i s = ρ.set j (.val d) := by
    rw [List.set_comm _ _ (Ne.symm ij), List.set_set]
    congr 1
    obtain ⟨l, q⟩ := List.getElem?_eq_some_iff.mp hi
    rw [← q]
    exact List.set_getElem_self l
  rw [backN_at, e]
  · rw [List.getElem?_set_ne (Ne.symm ij), List.getElem?_set_self (List.getElem?_eq_some_iff.mp hi).1]
  · rw [e]; exact noErr_set ne _ rfl
theorem sLiftX_nx (hi : ρ[i]? = some s) (hg : g (ρ.set i mkE) = .nx ρ1) (h1 : ρ1[i]? = some mkE) (ne : noErr (ρ1.set i s) = true) : sLiftX i g ρ = .nx (ρ1.set i s) := by
  unfold sLiftX
  rw [hi, ofO_some, hg]
  show Out.ofO (backN i s ρ1) .nx = _
  rw [backN_at h1 ne]
  rfl
theorem sIfV_at (hi : ρ[i]? = some (.val (encN cs))) (ht : tf (ρ.set i (.val (outN cs))) = .ok b) : sIfV i tf g h ρ = if b = true then g ρ else h ρ := by
  unfold sIfV
  rw [viewF_at hi, ofO_some]
  show Out.ofO (mB (tf (ρ.set i (.val (outN cs))))) _ = _
  rw [ht]; rfl
theorem sExitN_at (hi : ρ[i]? = some (.val (encN cs))) (hh : h (ρ.set i (.val (outN cs))) = .ret d ρ1) : sExitN i h ρ = .ret d ρ1 := by
  unfold sExitN
  rw [viewF_at hi, ofO_some]
  show (match h (ρ.set i (.val (outN cs))) with | .ret d ρ1 => Out.ret d ρ1 | .exc n ρ1 => .exc n ρ1 | _ => .stuck) = _
  rw [hh]
theorem whileV_step (hi : ρ[i]? = some (.val (encN cs))) (ht : tf (ρ.set i (.val (outN cs))) = .ok true) (hg : g ρ = .nx ρ1) : loopWhileV i tf g (n + 1) ρ = loopWhileV i tf g n ρ1 := by
  conv => lhs; unfold loopWhileV
  rw [viewF_at hi, ofO_some]
  show Out.ofO (mB (tf (ρ.set i (.val (outN cs))))) _ = _
  rw [ht, mB_ok, ofO_some, if_pos rfl, hg]
theorem whileV_end (hi : ρ[i]? = some (.val (encN cs))) (ht : tf (ρ.set i (.val (outN cs))) = .ok false) : loopWhileV i tf g (n + 1) ρ = .nx ρ := by
  conv => lhs; unfold loopWhileV
  rw [viewF_at hi, ofO_some]
  show Out.ofO (mB (tf (ρ.set i (.val (outN cs))))) _ = _
  rw [ht, mB_ok, ofO_some, if_neg Bool.false_ne_true]
theorem forRgV_at {a : Int} {tg : D → Fr → Option Fr} (hi : ρ[i]? = some (.val (encN cs))) (ha : as (ρ.set i (.val (outN cs))) = .ok [.int a]) (h62 : In62 a) : sForRgV i as tg g ρ = loopR (tgN i tg) g (rngL 0 a) ρ := by
  unfold sForRgV
  rw [viewF_at hi, ofO_some]
  show Out.ofO (mB (as (ρ.set i (.val (outN cs))))) _ = _
  rw [ha, mB_ok, ofO_some]
  exact if_pos h62
theorem loopR_cons {tg : D → Fr → Option Fr} (h1 : tg d ρ = some ρ1) (h2 : g ρ1 = .nx ρ2) : loopR tg g (d :: ds) ρ = loopR tg g ds ρ2 := by
  conv => lhs; unfold loopR
  rw [h1, ofO_some, h2]
theorem loopR_nil {tg : D → Fr → Option Fr} : loopR tg g [] ρ = .nx ρ := rfl
theorem sForR_at {f : ML} {tg : D → Fr → Option Fr} (hf : f (ρ.set i mkE) = .ok ds) : sForR i f tg g ρ = loopR (tgN i tg) g ds ρ := by
  unfold sForR
  rw [hf]; rfl
theorem mutC_at {z : D} {as' : List D} (hn : n < cs.length) (hc : cs[n]? = some (.own ds)) (hf : fm ds es = some (as', z)) : mutC fm cs (.int (n : Int)) es = some (cs.set n (.own as')) := by
  show ((ixN cs.length (n : Int)).bind fun n => match cs[n]? with
    | some (.own ds) => (fm ds es).map fun r : List D × D => cs.set n (.own r.1)
    | _ => none) = _
  have e : ixN cs.length (n : Int) = some n := by
    unfold ixN
    rw [if_pos (by omega), if_pos (by omega)]
    rfl
  rw [e]
  show (match cs[n]? with
    | some (.own ds) => (fm ds es).map fun r : List D × D => cs.set n (.own r.1)
    | _ => none) = _
  rw [hc]
  show (fm ds es).map (fun r : List D × D => cs.set n (.own r.1)) = _
  rw [hf]
  rfl
theorem sMutV_at {z : D} {as' : List D} (hi : ρ[i]? = some (.val (encN cs))) (hk : kf (ρ.set i (.val (outN cs))) = .ok (.int (n : Int))) (ha : as (ρ.set i (.val (outN cs))) = .ok es) (hs : es.all sca = true) (hn : n < cs.length) (hc : cs[n]? = some (.own ds)) (hf : fm ds es = some (as', z)) :
    sMutV i kf fm as ρ = .nx (ρ.set i (.val (encN (cs.set n (.own as'))))) := by
  unfold sMutV
  rw [viewF_at hi, ofO_some]
  show Out.ofO (mB (kf (ρ.set i (.val (outN cs))))) (fun j => Out.ofO (mB (as (ρ.set i (.val (outN cs))))) fun es => if es.all sca = true then Out.ofO (mutC fm cs j es) fun cs => .nx (ρ.set i (.val (encN cs))) else .stuck) = _
  rw [hk, ha, mB_ok, ofO_some, mB_ok, ofO_some, if_pos hs, mutC_at hn hc hf]
  rfl
theorem sSetV_at (he : e (ρ.set i mkE) = .ok d) (hi : ρ[i]? = some (.val (encN cs))) (hk : kf (ρ.set i (.val (outN cs))) = .ok (.int (n : Int))) (hn : n < cs.length) : sSetV i kf e ρ = .nx (ρ.set i (.val (encN (cs.set n (.dat d))))) := by
  unfold sSetV
  rw [he, mB_ok, ofO_some, viewF_at hi, ofO_some]
  show Out.ofO (mB (kf (ρ.set i (.val (outN cs))))) _ = _
  rw [hk, mB_ok, ofO_some]
  have ex : ixN cs.length (n : Int) = some n := by
    unfold ixN
    rw [if_pos (by omega), if_pos (by omega)]
    rfl
  show Out.ofO (ixN cs.length (n : Int)) _ = _
  rw [ex]
  rfl
theorem sAppD_at (ha : as (ρ.set i mkE) = .ok [d]) (hi : ρ[i]? = some (.val (encN cs))) (hl : cs.length < 16777216) : sAppD i as ρ = .nx (ρ.set i (.val (encN (cs ++ [.dat d])))) := by
  unfold sAppD
  rw [ha, mB_ok, ofO_some, viewF_at hi, ofO_some]
  exact if_pos (show cs.length < sizeLine from hl)
theorem sAppN_at {f : ML} (ha : f (ρ.set i mkE) = .ok ds) (hi : ρ[i]? = some (.val (encN cs))) (hl : cs.length < 16777216) : sAppN i f ρ = .nx (ρ.set i (.val (encN (cs ++ [.own ds])))) := by
  unfold sAppN
  rw [ha, mB_ok, ofO_some, viewF_at hi, ofO_some]
  exact if_pos (show cs.length < sizeLine from hl)
theorem loopAl_step {ds' : List D} (hi : ρ[i]? = some (.val (encN cs))) (hj : cs[j]? = some (.own ds)) (np : noPn ρ = true) (lc : c < ρ.length) (hg : g ((ρ.set i mkE).set c (.pin (.lst ds))) = .nx ρ2) (h1 : ρ2[c]? = some (.pin (.lst ds'))) (h2 : ρ2[i]? = some mkE) (ne : noErr ((ρ2.set c .none).set i (.val (encN (cs.set j (.own ds'))))) = true) :
    loopAl i c g (m + 1) j ρ = loopAl i c g m (j + 1) ((ρ2.set c .none).set i (.val (encN (cs.set j (.own ds'))))) := by
  conv => lhs; unfold loopAl
  rw [viewF_at hi, ofO_some]
  show (match cs[j]? with
    | some (.own ds) => if (noPn ρ && decide (c < ρ.length)) = true then (match g ((ρ.set i mkE).set c (.pin (.lst ds))) with
      | .nx ρ2 => Out.ofO (backA i c j cs ρ2) fun ρ3 => loopAl i c g m (j + 1) ρ3
      | .cont ρ2 => Out.ofO (backA i c j cs ρ2) fun ρ3 => loopAl i c g m (j + 1) ρ3
      | .brk ρ2 => Out.ofO (backA i c j cs ρ2) .nx
      | _ => .stuck) else .stuck
    | _ => .stuck) = _
  rw [hj]
  show (if (noPn ρ && decide (c < ρ.length)) = true then (match g ((ρ.set i mkE).set c (.pin (.lst ds))) with
      | .nx ρ2 => Out.ofO (backA i c j cs ρ2) fun ρ3 => loopAl i c g m (j + 1) ρ3
      | .cont ρ2 => Out.ofO (backA i c j cs ρ2) fun ρ3 => loopAl i c g m (j + 1) ρ3
      | .brk ρ2 => Out.ofO (backA i c j cs ρ2) .nx
      | _ => .stuck) else .stuck) = _
  rw [if_pos (by rw [np, decide_eq_true lc]; rfl), hg]
  show Out.ofO (backA i c j cs ρ2) _ = _
  have eb : backA i c j cs ρ2 = some ((ρ2.set c .none).set i (.val (encN (cs.set j (.own ds'))))) := by
    unfold backA
    rw [h1]
    refine if_pos ?_
    rw [ne]
    unfold errAt
    rw [h2]
    rfl
  rw [eb]
  rfl
theorem sForAl_at (ci : c ≠ i) (hi : ρ[i]? = some (.val (encN cs))) : sForAl i c g ρ = loopAl i c g cs.length 0 ρ := by
  unfold sForAl
  rw [if_neg ci, viewF_at hi]
  rfl
theorem sRegE_at (h1 : (noErr ρ && decide (i < ρ.length)) = true) (hg : g (ρ.set i (.val (encN []))) = .ret d ρ1) (ne : noErr (clrI i ρ1) = true) : sRegE i g ρ = .ret d (clrI i ρ1) := by
  unfold sRegE
  rw [if_pos h1, hg]
  exact if_pos ne
theorem loopLcN_map {α : Type} {enc : α → D} {f : α → List D} {tg : D → Fr → Option Fr} {e : ML} {vs : List Nat} : ∀ (xs : List α) (acc : List (List D)), acc.length + xs.length ≤ 16000000 → (∀ x ∈ xs, ∃ ρ', tg (enc x) (wipeF ρ vs) = some ρ' ∧ e ρ' = .ok (f x)) → loopLcN tg e vs ρ (xs.map enc) acc = some (acc ++ xs.map f)
  | [], acc, _, _ => by unfold loopLcN; simp
  | x :: xs, acc, hl, h => by
    obtain ⟨ρ', h1, h2⟩ := h x (List.mem_cons_self ..)
    rw [List.length_cons] at hl
    rw [List.map_cons]
    unfold loopLcN
    rw [h1]
    show (mB (e ρ')).bind _ = _
    rw [h2]
    show (if acc.length < sizeLine then _ else none) = _
    rw [if_pos (by have : sizeLine = 16777216 := rfl; omega), loopLcN_map xs (acc ++ [f x]) (by rw [List.length_append, List.length_singleton]; omega) fun y hy => h y (List.mem_cons_of_mem _ hy)]
    simp
theorem sRegL_at {f : ML} {tg : D → Fr → Option Fr} {e : ML} {vs : List Nat} {dss : List (List D)} (h1 : (noErr ρ && decide (i < ρ.length)) = true) (hf : f ρ = .ok ds) (hl : loopLcN tg e vs ρ ds [] = some dss) (hg : g (ρ.set i (.val (encN (dss.map .own)))) = .ret d ρ1) (ne : noErr (clrI i ρ1) = true) : sRegL i f tg e vs g ρ = .ret d (clrI i ρ1) := by
  unfold sRegL
  rw [if_pos h1, hf, of_ok, hl, ofO_some, hg]
  exact if_pos ne
end
end Dn

set_option Elab.async false
set_option linter.all false
set_option maxRecDepth 100000
set_option maxHeartbeats 4000000
/-! DenXR: in, not in of a tuple of ints -/
namespace Dn
open PySem L2
def inTB : D → D → Option Bool
  | .int k, .tuple ds => (ints? ds).map fun ns => decide (k ∈ ns)
  | d, e => inB d e
def inAD (d e : D) : Option D := (inTB d e).map .bool
def ninAD (d e : D) : Option D := (inTB d e).map fun b => .bool (!b)
theorem inV_ints (k : Int) : ∀ ns : List Int, inV (.int k) (ns.map V.int) = decide (k ∈ ns)
  | [] => rfl
  | n :: ns => by
    have ih := inV_ints k ns
    unfold inV at ih ⊢
    rw [List.map_cons, List.any_cons, ih]
    show ((n == k) || decide (k ∈ ns)) = _
    rw [Bool.eq_iff_iff, Bool.or_eq_true, beq_iff_eq, decide_eq_true_iff, decide_eq_true_iff, List.mem_cons]
    exact ⟨fun z => z.elim (fun e => .inl e.symm) .inr, fun z => z.elim (fun e => .inl e.symm) .inr⟩
theorem flat_intsA (ns : List Int) : (ns.map V.int).all flatV = true := by
  rw [List.all_eq_true]
  intro x hx
  obtain ⟨n, _, rfl⟩ := List.mem_map.mp hx
  rfl
section
variable {K : PySem.W.Frag}
theorem in_core {F H : Hp} {x y : V} {d e : D} {b : Bool} (ex : Ex F H) (rx : RepB K F H x d) (ry : RepB K F H y e) (h : inTB d e = some b) : (inB d e = some b) ∨ ∃ (p : Addr) (ns : List Int) (k : Int), x = .int k ∧ y = .ref p ∧ SqT K H p (ns.map V.int) ∧ b = decide (k ∈ ns) := by
  unfold inTB at h
  split at h
  · rename_i k ds
    cases q : ints? ds with
    | none => rw [q] at h; cases h
    | some ns =>
      rw [q] at h
      cases h
      obtain rfl := ints?_eq q
      obtain rfl := rx.isi
      obtain ⟨p, vs, rfl, sq, r, _⟩ := RepB.ist ex ry
      obtain rfl := r.ints
      exact .inr ⟨p, ns, k, rfl, rfl, sq, rfl⟩
  · exact .inl h
theorem rd_inA : R2D K (oIn K) inAD := by
  intro F H x y d e Q z ex rx ry h k
  unfold inAD at h
  cases q : inTB d e with
  | none => rw [q] at h; cases h
  | some b =>
    rw [q] at h
    cases h
    rcases in_core ex rx ry q with h | ⟨p, ns, i, rfl, rfl, sq, rfl⟩
    · exact rd_in F H x y d e Q _ ex rx ry (by unfold inD; rw [h]; rfl) k
    · refine .inr ⟨p, _, rfl, .inr sq, rfl, flat_intsA ns, ?_⟩
      rw [inV_ints]
      exact k.here ex (.bl _)
theorem rd_ninA : R2D K (oNin K) ninAD := by
  intro F H x y d e Q z ex rx ry h k
  unfold ninAD at h
  cases q : inTB d e with
  | none => rw [q] at h; cases h
  | some b =>
    rw [q] at h
    cases h
    rcases in_core ex rx ry q with h | ⟨p, ns, i, rfl, rfl, sq, rfl⟩
    · exact rd_nin F H x y d e Q _ ex rx ry (by unfold ninD; rw [h]; rfl) k
    · refine .inr ⟨p, _, rfl, .inr sq, rfl, flat_intsA ns, ?_⟩
      rw [inV_ints]
      exact k.here ex (.bl _)
end
theorem ninAD_t (k : Int) (ns : List Int) : ninAD (.int k) (.tuple (ns.map .int)) = some (.bool (!decide (k ∈ ns))) := by
  show ((ints? (ns.map PyData.int)).map fun ns => decide (k ∈ ns)).map (fun b => PyData.bool (!b)) = _
  rw [ints?_map]; rfl
theorem ninAD_l (k : Int) (ds : List D) : ninAD (.int k) (.list ds) = ninD (.int k) (.list ds) := rfl
end Dn

set_option Elab.async false
set_option linter.all false
set_option maxRecDepth 100000
set_option maxHeartbeats 4000000
/-! DenXS: lists of own lists: a number read of the nest is named; l[k][j] = e -/
namespace Dn
open PySem L2
/-- c = e, e read with the nest as it stands -/
def sAsgV (i : Nat) (tg : D → Fr → Option Fr) (e : ME) : MS := fun ρ => Out.ofO (viewF i ρ) fun p => Out.ofO (mB (e p.2)) fun d => if sca d = true then Out.ofO (tgN i tg d ρ) fun ρ' => .nx ρ' else .stuck
def setC (cs : List Ch) : D → D → D → Option (List Ch)
  | .int k, .int j, d => (ixN cs.length k).bind fun n => match cs[n]? with
    | some (.own ds) => (ixN ds.length j).map fun m => cs.set n (.own (ds.set m d))
    | _ => none
  | _, _, _ => none
/-- l[k][j] = e -/
def sSet2V (i : Nat) (kf jf e : ME) : MS := fun ρ => Out.ofO (viewF i ρ) fun p => Out.ofO (mB (e p.2)) fun d => if sca d = true then Out.ofO (mB (kf p.2)) fun k => Out.ofO (mB (jf p.2)) fun j => Out.ofO (setC p.1 k j d) fun cs => .nx (ρ.set i (.val (encN cs))) else .stuck
section
variable {K : PySem.W.Frag} {mg : Str → Option Value} {W : WX} {i : Nat}
theorem dn_asgV {te : TE} {e : ME} {gg : TG} {tg : Dn.D → Fr → Option Fr} {is : List Nat} (he : ∀ L, DE K L mg W te e) (hg : ∀ L, DG K L gg tg is) : DSR (nestR K) K mg W i (tAsg te gg) (sAsgV i tg e) := fun L1 F0 H0 F H σ ρ D ⟨a, cs, H1, E, hi, ne, vs, N⟩ q => by
  have hi : ρ[i]? = some (.val (encN cs)) := hi
  have li := li_of hi
  unfold sAsgV at q
  rw [viewF_at hi, ofO_some] at q
  obtain ⟨d, qd, q⟩ := WOR.ofO q
  split at q
  · rename_i sc
    obtain ⟨ρ', q3, q⟩ := WOR.ofO q
    refine view_E E li ne N he (mB_is qd) sc fun H2 v s r => ?_
    unfold tgN at q3
    rw [hi] at q3
    have q3 : ((tg d (ρ.set i mkE)).bind fun ρ1 => backN i (.val (encN cs)) ρ1) = some ρ' := q3
    cases q4 : tg d (ρ.set i mkE) with
    | none => rw [q4] at q3; cases q3
    | some ρ1 =>
      rw [q4] at q3
      refine hg (L1, a) F0 H1 F H2 σ _ v d _ ρ1 (E.step s) (r F) q4 fun σ3 E3 _ => ?_
      exact q F H2 σ3 (Ex.refl _) (backR_env (R := nestR K) (x := cs) q3 rfl ⟨vs, N⟩ E.st.ff (Ex.refl _) E3)
  · exact q.elim
theorem dn_set2V {te tk tj : TE} {e kf jf : ME} (he : ∀ L, DE K L mg W te e) (hk : ∀ L, DE K L mg W tk kf) (hj : ∀ L, DE K L mg W tj jf) : DSR (nestR K) K mg W i (tAsg te (gSub (tOp (rIx K) (tVar i) tk) tj rSetL)) (sSet2V i kf jf e) := fun L1 F0 H0 F H σ ρ D ⟨a, cs, H1, E, hi, ne, vs, N⟩ q => by
  have hi : ρ[i]? = some (.val (encN cs)) := hi
  have li := li_of hi
  unfold sSet2V at q
  rw [viewF_at hi, ofO_some] at q
  obtain ⟨d, qe, q⟩ := WOR.ofO q
  split at q
  · rename_i sc
    obtain ⟨k, qk, q⟩ := WOR.ofO q
    obtain ⟨j, qj, q⟩ := WOR.ofO q
    obtain ⟨cs', qc, q⟩ := WOR.ofO q
    unfold setC at qc
    split at qc
    · rename_i kk jj _
      have qc : ((ixN cs.length kk).bind fun n => match cs[n]? with
        | some (.own ds) => (ixN ds.length jj).map fun m => cs.set n (.own (ds.set m d))
        | _ => none) = some cs' := qc
      cases qn : ixN cs.length kk with
      | none => rw [qn] at qc; cases qc
      | some n =>
        rw [qn] at qc
        have qc : (match cs[n]? with
          | some (.own ds) => (ixN ds.length jj).map fun m => cs.set n (.own (ds.set m d))
          | _ => none) = some cs' := qc
        cases qd : cs[n]? with
        | none => rw [qd] at qc; cases qc
        | some c =>
          rw [qd] at qc
          cases c with
          | dat x => cases qc
          | own ds =>
            have qc : ((ixN ds.length jj).map fun m => cs.set n (.own (ds.set m d))) = some cs' := qc
            cases qm : ixN ds.length jj with
            | none => rw [qm] at qc; cases qc
            | some m =>
              rw [qm] at qc
              cases qc
              have nl := (List.getElem?_eq_some_iff.mp qd).1
              have hv : vs[n]? = some (vs[n]'(by rw [N.ln]; exact nl)) := List.getElem?_eq_getElem _
              generalize vs[n]'(by rw [N.ln]; exact nl) = v at hv
              obtain ⟨b, ws, rfl, ba, b0, bf, bh, br⟩ := N.ch n v _ hv qd
              show te σ H fun x H1 => tOp (rIx K) (tVar i) tk σ H1 fun o H2 => tj σ H2 fun y H3 => rSetL o y x H3 fun H4 => D.nx σ H4
              refine view_E E li ne N he (mB_is qe) sc fun H2 x s2 rx => ?_
              have E2 := E.step s2
              refine ⟨_, at_of E2 li, ?_⟩
              refine view_I E2 li ne N hk (mB_is qk) fun H3 s3 => ?_
              have E3 := E2.step s3
              have hA : H3 a = some (.lst vs) := E3.st.hh _ _ N.at0
              refine .inl ⟨a, vs, kk, .ref b, rfl, rfl, SqL.of hA, ?_, ?_⟩
              · unfold atI
                rw [N.ln, qn]
                exact hv
              · refine view_I E3 li ne N hj (mB_is qj) fun H4 s4 => ?_
                have E4 := E3.step s4
                have hB : H4 b = some (.lst ws) := E4.st.hh _ _ bh
                refine ⟨b, ws, jj, m, rfl, rfl, hB, by rw [RepL.length br]; exact qm, ?_⟩
                refine q F _ σ (Ex.refl _) ⟨a, cs.set n (.own (ds.set m d)), upd H1 b (.lst (ws.set m x)), ?_, List.getElem?_set_self li, noErr_set ne _ rfl, vs, N.mut hv qd (RepL.set br (rx F) m)⟩
                rw [List.set_set]
                exact E4.both bf bh
    · cases qc
  · exact q.elim
/-! plain -/
theorem sAsgV_at {tg : D → Fr → Option Fr} {e : ME} {ρ ρ' : Fr} {cs : List Ch} {d : D} (hi : ρ[i]? = some (.val (encN cs))) (he : e (ρ.set i (.val (outN cs))) = .ok d) (hs : sca d = true) (ht : tgN i tg d ρ = some ρ') : sAsgV i tg e ρ = .nx ρ' := by
  unfold sAsgV
  rw [viewF_at hi, ofO_some, he, mB_ok, ofO_some, if_pos hs, ht, ofO_some]
theorem sSet2V_at {kf jf e : ME} {ρ : Fr} {cs cs' : List Ch} {d k j : D} (hi : ρ[i]? = some (.val (encN cs))) (he : e (ρ.set i (.val (outN cs))) = .ok d) (hs : sca d = true) (hk : kf (ρ.set i (.val (outN cs))) = .ok k) (hj : jf (ρ.set i (.val (outN cs))) = .ok j)
    (hc : setC cs k j d = some cs') : sSet2V i kf jf e ρ = .nx (ρ.set i (.val (encN cs'))) := by
  unfold sSet2V
  rw [viewF_at hi, ofO_some, he, mB_ok, ofO_some, if_pos hs, hk, mB_ok, ofO_some, hj, mB_ok, ofO_some, hc, ofO_some]
end
end Dn

set_option Elab.async false
set_option linter.all false
set_option maxRecDepth 100000
set_option maxHeartbeats 4000000
/-! DenXT: a dict of two lists of one's own lists -/
namespace Dn
open PySem PySem.Spec PyProof.Rows L2
section
variable {K : PySem.W.Frag} {H0 H1 H1' F F' H H' F0 : Hp} {a b p q : Addr} {vs ws : List V} {v : V} {cs : List Ch} {ds ds' : List D} {d : D} {σ : L2.St} {ρ : Fr} {i : Nat} {L : Addr × Addr} {L1 : Addr}
theorem NestV.same (N : NestV K H0 H1 F a vs cs) (ex : Ex H0 H1') (h : ∀ q, PrtN a vs cs q → H1' q = H1 q) : NestV K H0 H1' F a vs cs where
  ex := ex
  za := N.za
  fa := N.fa
  at0 := by rw [h a (.inl rfl)]; exact N.at0
  ln := N.ln
  ch := fun j v c h1 h2 => by
    have z := N.ch j v c h1 h2
    cases c with
    | dat d => exact z
    | own ds =>
      obtain ⟨b, ws, rfl, e2, e3, e4, e5, e6⟩ := z
      exact ⟨b, ws, rfl, e2, e3, e4, by rw [h b (.inr ⟨j, ds, h1, h2⟩)]; exact e5, e6⟩
  un := N.un
theorem prtN_app (ln : vs.length = cs.length) (h : PrtN a (vs ++ [.ref b]) (cs ++ [.own ds]) q) : PrtN a vs cs q ∨ q = b := by
  rcases h with h | ⟨j, es, h1, h2⟩
  · exact .inl (.inl h)
  · by_cases hj : j < cs.length
    · rw [List.getElem?_append_left (by omega)] at h1
      rw [List.getElem?_append_left hj] at h2
      exact .inl (.inr ⟨j, es, h1, h2⟩)
    · have hj' : j = cs.length := by
        have := (List.getElem?_eq_some_iff.mp h2).1
        rw [List.length_append, List.length_singleton] at this
        omega
      subst hj'
      rw [List.getElem?_append_right (by omega), ln, Nat.sub_self] at h1
      cases h1
      exact .inr rfl
theorem prtN_set {n : Nat} (hc : cs[n]? = some (.own ds)) (h : PrtN a vs (cs.set n (.own ds')) q) : PrtN a vs cs q := by
  rcases h with h | ⟨j, es, h1, h2⟩
  · exact .inl h
  · rcases set_get h2 with ⟨e, _, _⟩ | ⟨_, h2⟩
    · subst e; exact .inr ⟨_, ds, h1, hc⟩
    · exact .inr ⟨j, es, h1, h2⟩
end
section
variable (K : PySem.W.Frag) (k1 k2 : Str)
/-- a dict with two keys, a list of one's own lists at each -/
structure TwoV (H0 H1 F : Hp) (p a1 a2 : Addr) (vs1 vs2 : List V) (cs1 cs2 : List Ch) : Prop where
  n1 : NestV K H0 H1 F a1 vs1 cs1
  n2 : NestV K H0 H1 F a2 vs2 cs2
  ap : ∀ q, PrtN a1 vs1 cs1 q → PrtN a2 vs2 cs2 q → False
  p1 : ¬ PrtN a1 vs1 cs1 p
  p2 : ¬ PrtN a2 vs2 cs2 p
  zp : H0 p = none
  fp : F p = none
  atp : H1 p = some (.dK [(.inr k1, .ref a1), (.inr k2, .ref a2)])
/-- the keys are told apart -/
structure KK : Prop where
  mg : ∀ v1 v2 : V, mergeK [] ([(.inr k1, v1), (.inr k2, v2)] : List (Key × V)) = [(.inr k1, v1), (.inr k2, v2)]
  g1 : ∀ v1 v2 : V, valV ([(.inr k1, v1), (.inr k2, v2)] : List (Key × V)) (.inr k1) = some v1
  g2 : ∀ v1 v2 : V, valV ([(.inr k1, v1), (.inr k2, v2)] : List (Key × V)) (.inr k2) = some v2
end
def encT2 (x : List Ch × List Ch) : D := .tuple [encN x.1, encN x.2]
def decT2 : D → Option (List Ch × List Ch)
  | .tuple [a, b] => (decN a).bind fun x => (decN b).map fun y => (x, y)
  | _ => none
theorem decT2_enc (x : List Ch × List Ch) : decT2 (encT2 x) = some x := by
  show ((decN (encN x.1)).bind fun a => (decN (encN x.2)).map fun b => (a, b)) = some x
  rw [decN_enc, decN_enc]; rfl
/-- .. as data -/
def outT (k1 k2 : Str) (x : List Ch × List Ch) : D := .dict (dkD [(.inr k1, outN x.1), (.inr k2, outN x.2)])
def viewT (k1 k2 : Str) (i : Nat) (ρ : Fr) : Option ((List Ch × List Ch) × Fr) := match ρ[i]? with
  | some (.val d) => (decT2 d).map fun x => (x, ρ.set i (.val (outT k1 k2 x)))
  | _ => none
section
variable {K : PySem.W.Frag} {k1 k2 : Str} {H0 H1 H1' F F' H H' F0 : Hp} {a b p q a1 a2 : Addr} {vs ws vs1 vs2 vs1' vs2' : List V} {v : V} {cs cs1 cs2 cs1' cs2' : List Ch} {ds ds' : List D} {d : D} {σ : L2.St} {ρ : Fr} {i : Nat} {L : Addr × Addr} {L1 : Addr}
theorem viewT_at {x : List Ch × List Ch} (h : ρ[i]? = some (.val (encT2 x))) : viewT k1 k2 i ρ = some (x, ρ.set i (.val (outT k1 k2 x))) := by
  unfold viewT
  rw [h]
  show (decT2 (encT2 x)).map _ = _
  rw [decT2_enc]; rfl
theorem TwoV.on (T : TwoV K k1 k2 H0 H1 F p a1 a2 vs1 vs2 cs1 cs2) (e : Ex F F') (nw : ∀ p o, F p = none → H1 p = some o → NTup o → F' p = none) : TwoV K k1 k2 H0 H1 F' p a1 a2 vs1 vs2 cs1 cs2 :=
  ⟨T.n1.on e nw, T.n2.on e nw, T.ap, T.p1, T.p2, T.zp, nw _ _ T.fp T.atp (fun _ z => nomatch z), T.atp⟩
theorem TwoV.up1 (T : TwoV K k1 k2 H0 H1 F p a1 a2 vs1 vs2 cs1 cs2) (N : NestV K H0 H1' F a1 vs1' cs1') (hs : ∀ q, PrtN a1 vs1' cs1' q → PrtN a1 vs1 cs1 q ∨ H1 q = none) (hk : ∀ q, PrtN a2 vs2 cs2 q ∨ q = p → H1' q = H1 q) :
    TwoV K k1 k2 H0 H1' F p a1 a2 vs1' vs2 cs1' cs2 where
  n1 := N
  n2 := T.n2.same N.ex fun q h => hk q (.inl h)
  ap := fun q h1 h2 => by
    rcases hs q h1 with h | h
    · exact T.ap q h h2
    · obtain ⟨_, _, o, ho⟩ := T.n2.prt h2
      rw [h] at ho; cases ho
  p1 := fun h => by
    rcases hs p h with h | h
    · exact T.p1 h
    · rw [T.atp] at h; cases h
  p2 := T.p2
  zp := T.zp
  fp := T.fp
  atp := by rw [hk p (.inr rfl)]; exact T.atp
theorem TwoV.up2 (T : TwoV K k1 k2 H0 H1 F p a1 a2 vs1 vs2 cs1 cs2) (N : NestV K H0 H1' F a2 vs2' cs2') (hs : ∀ q, PrtN a2 vs2' cs2' q → PrtN a2 vs2 cs2 q ∨ H1 q = none) (hk : ∀ q, PrtN a1 vs1 cs1 q ∨ q = p → H1' q = H1 q) :
    TwoV K k1 k2 H0 H1' F p a1 a2 vs1 vs2' cs1 cs2' where
  n1 := T.n1.same N.ex fun q h => hk q (.inl h)
  n2 := N
  ap := fun q h1 h2 => by
    rcases hs q h2 with h | h
    · exact T.ap q h1 h
    · obtain ⟨_, _, o, ho⟩ := T.n1.prt h1
      rw [h] at ho; cases ho
  p1 := T.p1
  p2 := fun h => by
    rcases hs p h with h | h
    · exact T.p2 h
    · rw [T.atp] at h; cases h
  zp := T.zp
  fp := T.fp
  atp := by rw [hk p (.inr rfl)]; exact T.atp
/-- all its parts -/
def PrtT (p a1 a2 : Addr) (vs1 vs2 : List V) (cs1 cs2 : List Ch) (q : Addr) : Prop := q = p ∨ PrtN a1 vs1 cs1 q ∨ PrtN a2 vs2 cs2 q
theorem TwoV.prt (T : TwoV K k1 k2 H0 H1 F p a1 a2 vs1 vs2 cs1 cs2) (h : PrtT p a1 a2 vs1 vs2 cs1 cs2 q) : H0 q = none ∧ F q = none ∧ ∃ o, H1 q = some o := by
  rcases h with rfl | h | h
  · exact ⟨T.zp, T.fp, _, T.atp⟩
  · exact T.n1.prt h
  · exact T.n2.prt h
open Classical in
noncomputable def frzP (H1 F : Hp) (P : Addr → Prop) : Hp := fun q => if P q then H1 q else F q
theorem nest_rep {G : Hp} (N : NestV K H0 H1 F a vs cs) (ef : Ex F G) (h : ∀ q, PrtN a vs cs q → G q = H1 q) : Rep K G (.ref a) (outN cs) := by
  have rl : RepL K G vs (cs.map Ch.d) := repL_of (by rw [List.length_map]; exact N.ln) fun j v d h1 h2 => by
    rw [List.getElem?_map] at h2
    obtain ⟨c, hc, rfl⟩ := Option.map_eq_some_iff.mp h2
    have z := N.ch j v c h1 hc
    cases c with
    | dat d => exact Rep.mono ef z
    | own ds =>
      obtain ⟨b, ws, rfl, _, _, _, e5, e6⟩ := z
      exact .lst (by rw [h b (.inr ⟨j, ds, h1, hc⟩)]; exact e5) (e6.mono ef)
  exact .lst (by rw [h a (.inl rfl)]; exact N.at0) rl
theorem TwoV.out (T : TwoV K k1 k2 H0 H1 F p a1 a2 vs1 vs2 cs1 cs2) (E : Env K (L.1, p) F0 H1 F H σ (ρ.set i mkE)) (li : i < ρ.length) (ne : noErr ρ = true) : ∃ F', Ex F F' ∧ Env K L F0 H0 F' H σ (ρ.set i (.val (outT k1 k2 (cs1, cs2)))) := by
  have el : σ[i]?.join = some (.ref p) := E.sl i mkE (List.getElem?_set_self li)
  have hG : ∃ G, G = frzP H1 F (PrtT p a1 a2 vs1 vs2 cs1 cs2) := ⟨_, rfl⟩
  obtain ⟨G, hG⟩ := hG
  have Fp : ∀ q, PrtT p a1 a2 vs1 vs2 cs1 cs2 q → G q = H1 q := fun q h => by rw [hG]; unfold frzP; exact if_pos h
  have Fo : ∀ q, ¬ PrtT p a1 a2 vs1 vs2 cs1 cs2 q → G q = F q := fun q h => by rw [hG]; unfold frzP; exact if_neg h
  have ef : Ex F G := fun q o h => by
    rw [Fo q fun z => by rw [(T.prt z).2.1] at h; cases h]
    exact h
  have own : ∀ l, H1 l = none → ¬ PrtT p a1 a2 vs1 vs2 cs1 cs2 l := fun l hl z => by
    obtain ⟨_, _, o, ho⟩ := T.prt z
    rw [ho] at hl; cases hl
  have z0 : ∀ l, H1 l = none → H0 l = none := fun l hl => by
    cases q : H0 l with
    | none => rfl
    | some o => rw [T.n1.ex l o q] at hl; cases hl
  refine ⟨G, ef, ⟨E.st.ff.trans ef, T.n1.ex.trans E.st.hh, fun x o h1 h2 h3 => ?_, fun x o q => ?_⟩, by have := E.len; rw [List.length_set] at this ⊢; exact this, fun j s q => ?_, fun j k l h1 h2 e1 e2 => ?_⟩
  · rw [Fo x fun z => by rw [(T.prt z).1] at h2; cases h2]
    exact E.st.nw x o h1 (T.n1.ex x o h2) h3
  · by_cases c : PrtT p a1 a2 vs1 vs2 cs1 cs2 x
    · rw [Fp x c] at q
      exact E.st.hh _ _ q
    · rw [Fo x c] at q; exact E.st.fh _ _ q
  · rcases set_get q with ⟨c, es, _⟩ | ⟨c, q⟩
    · subst c; subst es
      refine ⟨.ref p, el, ?_⟩
      have r1 := nest_rep T.n1 ef fun q h => Fp q (.inr (.inl h))
      have r2 := nest_rep T.n2 ef fun q h => Fp q (.inr (.inr h))
      exact .dK (by rw [Fp p (.inl rfl)]; exact T.atp) (.cons r1 (.cons r2 .nil)) rfl
    · have z := E.sl j s (by rw [List.getElem?_set_ne c]; exact q)
      cases s with
      | none => trivial
      | err n => exact (err_no ne q).elim
      | val d => obtain ⟨v, e, r⟩ := z; exact ⟨v, e, r.mono ef⟩
      | own us =>
        obtain ⟨m, ho2, e, f2, h2, hH2, rr⟩ := z
        exact ⟨m, ho2, e, by rw [Fo m (own m h2)]; exact f2, z0 m h2, hH2, rr.mono ef⟩
      | pin us =>
        obtain ⟨e, f2, h2, ho2, hH2, rr⟩ := z
        exact ⟨e, by rw [Fo _ (own _ h2)]; exact f2, z0 _ h2, ho2, hH2, rr.mono ef⟩
  · have n1 := own_ne (s := .val (outT k1 k2 (cs1, cs2))) rfl h1
    have n2 := own_ne (s := .val (outT k1 k2 (cs1, cs2))) rfl h2
    rw [List.getElem?_set_ne n1] at h1
    rw [List.getElem?_set_ne n2] at h2
    exact E.sep j k l (by rw [List.getElem?_set_ne n1]; exact h1) (by rw [List.getElem?_set_ne n2]; exact h2) e1 e2
end
/-- .. as things of one's own of another kind -/
def twoR (K : PySem.W.Frag) (k1 k2 : Str) : Reg (List Ch × List Ch) where
  inv := fun H0 H1 F p x => ∃ a1 a2 vs1 vs2, TwoV K k1 k2 H0 H1 F p a1 a2 vs1 vs2 x.1 x.2
  enc := encT2
  dec := decT2
  de := decT2_enc
  ex := fun ⟨_, _, _, _, T⟩ => T.n1.ex
  on := fun ⟨a1, a2, v1, v2, T⟩ e nw => ⟨a1, a2, v1, v2, T.on e nw⟩
end Dn

set_option Elab.async false
set_option linter.all false
set_option maxRecDepth 100000
set_option maxHeartbeats 4000000
/-! DenXU: a dict of two lists of one's own lists: statements; a display of texts -/
namespace Dn
open PySem PySem.Spec PyProof.Rows L2
/-- the list at a key -/
def selT (k1 k2 : Str) (x : List Ch × List Ch) : D → Option (Bool × List Ch)
  | .str k => if k = k1 then some (false, x.1) else if k = k2 then some (true, x.2) else none
  | _ => none
def putT (x : List Ch × List Ch) (side : Bool) (cs : List Ch) : List Ch × List Ch := if side = true then (x.1, cs) else (cs, x.2)
def ownC (cs : List Ch) : D → Option (Nat × List D)
  | .int j => (ixN cs.length j).bind fun n => match cs[n]? with
    | some (.own ds) => some (n, ds)
    | _ => none
  | _ => none
/-- d[k].append([..]) -/
def sTwoNew (k1 k2 : Str) (i : Nat) (kf : ME) (f : ML) : MS := fun ρ => Out.ofO (viewT k1 k2 i ρ) fun w => Out.ofO (mB (kf (ρ.set i mkE))) fun k => Out.ofO (selT k1 k2 w.1 k) fun s => Out.ofO (mB (f (ρ.set i mkE))) fun ds =>
  if s.2.length < sizeLine then .nx (ρ.set i (.val (encT2 (putT w.1 s.1 (s.2 ++ [.own ds]))))) else .stuck
/-- d[k][j].m(..) -/
def sTwoMut (k1 k2 : Str) (i : Nat) (kf jf : ME) (fm : List D → List D → Option (List D × D)) (as : ML) : MS := fun ρ => Out.ofO (viewT k1 k2 i ρ) fun w => Out.ofO (mB (kf (ρ.set i mkE))) fun k => Out.ofO (selT k1 k2 w.1 k) fun s => Out.ofO (mB (jf (ρ.set i mkE))) fun j =>
  Out.ofO (ownC s.2 j) fun u => Out.of (as (ρ.set i mkE)) (ρ.set i mkE) fun es => Out.ofO (fm u.2 es) fun r => .nx (ρ.set i (.val (encT2 (putT w.1 s.1 (s.2.set u.1 (.own r.1))))))
/-- all of it frozen; what comes behind hands back -/
def sTwoExit (k1 k2 : Str) (i : Nat) (h : MS) : MS := fun ρ => Out.ofO (viewT k1 k2 i ρ) fun p => match h p.2 with
  | .ret d ρ1 => .ret d ρ1
  | .exc n ρ1 => .exc n ρ1
  | _ => .stuck
/-- d = {k1: [], k2: []} -/
def sRegT (i : Nat) (g : MS) : MS := fun ρ => if (noErr ρ && decide (i < ρ.length)) = true then outR i (g (ρ.set i (.val (encT2 ([], []))))) else .stuck
section
variable {K : PySem.W.Frag} {mg : Str → Option Value} {W : WX} {k1 k2 : Str} {i j : Nat} {L1 a b : Addr} {L : Addr × Addr} {F0 H0 H1 F H F' H' F2 H2 : Hp} {σ σ2 : L2.St} {ρ ρ2 ρ3 : Fr} {D : Ends} {vs ws : List V}
theorem rep_str {v : V} {k : Str} (r : RepB K F H v (.str k)) : v = .str k := by
  have := sca_repB (d := .str k) rfl r (fun _ => none)
  cases this; rfl
theorem rep_intB {v : V} {k : Int} (r : RepB K F H v (.int k)) : v = .int k := by
  have := sca_repB (d := .int k) rfl r (fun _ => none)
  cases this; rfl
theorem li_ofT {x : List Ch × List Ch} (hi : ρ[i]? = some (.val (encT2 x))) : i < ρ.length := (List.getElem?_eq_some_iff.mp hi).1
theorem dt_new {tk te : TE} {kf : ME} {f : ML} (kk : KK k1 k2) (hk : ∀ L, DE K L mg W tk kf) (he : ∀ L, DL K L mg W te f) : DSR (twoR K k1 k2) K mg W i (tDrop (tBM K "list" rAppend (tOp rDGet (tVar i) tk) (tCons te tNil))) (sTwoNew k1 k2 i kf f) := fun L1 F0 H0 F H σ ρ D ⟨p, x, H1, E, hi, ne, a1, a2, vs1, vs2, T⟩ q => by
  have hi : ρ[i]? = some (.val (encT2 x)) := hi
  have li := li_ofT hi
  unfold sTwoNew at q
  rw [viewT_at hi, ofO_some] at q
  obtain ⟨k, qk, q⟩ := WOR.ofO q
  obtain ⟨sl, qs, q⟩ := WOR.ofO q
  obtain ⟨ds, qe, q⟩ := WOR.ofO q
  split at q
  · rename_i hz
    unfold selT at qs
    split at qs
    · rename_i k
      show tBM K "list" rAppend (tOp rDGet (tVar i) tk) (tCons te tNil) σ H fun _ H' => D.nx σ H'
      refine ⟨_, at_of E li, ?_⟩
      refine hk (L1, p) F0 H1 F H σ _ _ E ?_
      rw [mB_is qk]
      intro F1 H2 v s1 r1
      obtain rfl := rep_str r1
      have E1 := E.step s1
      have T1 := T.on s1.ff (nw_of E s1)
      have hP := E1.st.hh _ _ T1.atp
      split at qs
      · rename_i e
        subst e
        cases qs
        refine ⟨p, .ref a1, rfl, ?_, ?_⟩
        · have := DGet.k (k := .inr k) hP
          rw [kk.g1] at this
          exact this
        · refine ⟨.inl ⟨rfl, _, SqL.of (E1.st.hh _ _ T1.n1.at0)⟩, ?_⟩
          refine he (L1, p) F0 H1 F1 H2 σ _ _ E1 ?_
          rw [mB_is qe]
          intro F2 H3 b ws s2 hb rw1
          have E2 := E1.step s2
          have T2 := T1.on s2.ff (nw_of E1 s2)
          have E3 := E2.bothNew (ho := .lst ws) hb
          have ba : b ≠ a1 := fun z => by
            have := E2.st.hh _ _ T2.n1.at0
            rw [← z, hb] at this; cases this
          have hb1 := E2.st.hh.free hb
          have hA : upd H3 b (.lst ws) a1 = some (.lst vs1) := by rw [upd_ne ba.symm]; exact E2.st.hh _ _ T2.n1.at0
          refine ⟨a1, vs1, .ref b, rfl, rfl, hA, by rw [T.n1.ln]; exact hz, ?_⟩
          refine WOR.mono (s1.ff.trans s2.ff) q F2 _ σ (Ex.refl _) ⟨p, _, upd (upd H1 b (.lst ws)) a1 (.lst (vs1 ++ [.ref b])), ?_, List.getElem?_set_self li, noErr_set ne _ rfl, a1, a2, _, _, T2.up1 (T2.n1.appNew hb1 (E2.st.fh.free hb) rw1) (fun y h => ?_) (fun y h => ?_)⟩
          · rw [List.set_set]
            exact E3.both T2.n1.fa (show upd H1 b (.lst ws) a1 = some (.lst vs1) by rw [upd_ne ba.symm]; exact T2.n1.at0)
          · rcases prtN_app T.n1.ln h with h | h
            · exact .inl h
            · exact .inr (by rw [h]; exact hb1)
          · have y1 : y ≠ a1 := fun z => by
              rcases h with h | h
              · exact T.ap a1 (.inl rfl) (by rw [← z]; exact h)
              · exact T.p1 (.inl (by rw [← h]; exact z))
            have y2 : y ≠ b := fun z => by
              obtain ⟨_, _, o, ho⟩ := T.prt (q := y) (by rcases h with h | h; exact .inr (.inr h); exact .inl h)
              rw [z, hb1] at ho; cases ho
            rw [upd_ne y1, upd_ne y2]
      · split at qs
        · rename_i _ e
          subst e
          cases qs
          refine ⟨p, .ref a2, rfl, ?_, ?_⟩
          · have := DGet.k (k := .inr k) hP
            rw [kk.g2] at this
            exact this
          · refine ⟨.inl ⟨rfl, _, SqL.of (E1.st.hh _ _ T1.n2.at0)⟩, ?_⟩
            refine he (L1, p) F0 H1 F1 H2 σ _ _ E1 ?_
            rw [mB_is qe]
            intro F2 H3 b ws s2 hb rw1
            have E2 := E1.step s2
            have T2 := T1.on s2.ff (nw_of E1 s2)
            have E3 := E2.bothNew (ho := .lst ws) hb
            have ba : b ≠ a2 := fun z => by
              have := E2.st.hh _ _ T2.n2.at0
              rw [← z, hb] at this; cases this
            have hb1 := E2.st.hh.free hb
            have hA : upd H3 b (.lst ws) a2 = some (.lst vs2) := by rw [upd_ne ba.symm]; exact E2.st.hh _ _ T2.n2.at0
            refine ⟨a2, vs2, .ref b, rfl, rfl, hA, by rw [T.n2.ln]; exact hz, ?_⟩
            refine WOR.mono (s1.ff.trans s2.ff) q F2 _ σ (Ex.refl _) ⟨p, _, upd (upd H1 b (.lst ws)) a2 (.lst (vs2 ++ [.ref b])), ?_, List.getElem?_set_self li, noErr_set ne _ rfl, a1, a2, _, _, T2.up2 (T2.n2.appNew hb1 (E2.st.fh.free hb) rw1) (fun y h => ?_) (fun y h => ?_)⟩
            · rw [List.set_set]
              exact E3.both T2.n2.fa (show upd H1 b (.lst ws) a2 = some (.lst vs2) by rw [upd_ne ba.symm]; exact T2.n2.at0)
            · rcases prtN_app T.n2.ln h with h | h
              · exact .inl h
              · exact .inr (by rw [h]; exact hb1)
            · have y1 : y ≠ a2 := fun z => by
                rcases h with h | h
                · exact T.ap a2 (by rw [← z]; exact h) (.inl rfl)
                · exact T.p2 (.inl (by rw [← h]; exact z))
              have y2 : y ≠ b := fun z => by
                obtain ⟨_, _, o, ho⟩ := T.prt (q := y) (by rcases h with h | h; exact .inr (.inl h); exact .inl h)
                rw [z, hb1] at ho; cases ho
              rw [upd_ne y1, upd_ne y2]
        · cases qs
    · cases qs
  · exact q.elim
theorem dt_mut {r : V → List V → Hp → VK → Prop} {fm : List Dn.D → List Dn.D → Option (List Dn.D × Dn.D)} {tk tj : TE} {kf jf : ME} {tas : TA} {as : ML} (kk : KK k1 k2) (hr : RMD K r fm) (hk : ∀ L, DE K L mg W tk kf) (hj : ∀ L, DE K L mg W tj jf) (ha : ∀ L, DAF K L mg W tas as) :
    DSR (twoR K k1 k2) K mg W i (tDrop (tBM K "list" r (tOp (rIx K) (tOp rDGet (tVar i) tk) tj) tas)) (sTwoMut k1 k2 i kf jf fm as) := fun L1 F0 H0 F H σ ρ D ⟨p, x, H1, E, hi, ne, a1, a2, vs1, vs2, T⟩ q => by
  have hi : ρ[i]? = some (.val (encT2 x)) := hi
  have li := li_ofT hi
  unfold sTwoMut at q
  rw [viewT_at hi, ofO_some] at q
  obtain ⟨k, qk, q⟩ := WOR.ofO q
  obtain ⟨sl, qs, q⟩ := WOR.ofO q
  obtain ⟨j, qj, q⟩ := WOR.ofO q
  obtain ⟨u, qu, q⟩ := WOR.ofO q
  unfold selT at qs
  split at qs
  · rename_i k
    show tBM K "list" r (tOp (rIx K) (tOp rDGet (tVar i) tk) tj) tas σ H fun _ H' => D.nx σ H'
    refine ⟨_, at_of E li, ?_⟩
    refine hk (L1, p) F0 H1 F H σ _ _ E ?_
    rw [mB_is qk]
    intro F1 H2 v s1 r1
    obtain rfl := rep_str r1
    have E1 := E.step s1
    have T1 := T.on s1.ff (nw_of E s1)
    have hP := E1.st.hh _ _ T1.atp
    unfold ownC at qu
    split at qu
    · rename_i jj
      cases qn : ixN sl.2.length jj with
      | none => rw [qn] at qu; cases qu
      | some n =>
        rw [qn] at qu
        have qu : (match sl.2[n]? with
          | some (.own ds) => some (n, ds)
          | _ => none) = some u := qu
        cases qd : sl.2[n]? with
        | none => rw [qd] at qu; cases qu
        | some c =>
          rw [qd] at qu
          cases c with
          | dat d => cases qu
          | own ds =>
            cases qu
            split at qs
            · rename_i e
              subst e
              cases qs
              refine ⟨p, .ref a1, rfl, ?_, ?_⟩
              · have := DGet.k (k := .inr k) hP
                rw [kk.g1] at this
                exact this
              · refine hj (L1, p) F0 H1 F1 H2 σ _ _ E1 ?_
                rw [mB_is qj]
                intro F2 H3 v s2 r2
                obtain rfl := rep_intB r2
                have E2 := E1.step s2
                have T2 := T1.on s2.ff (nw_of E1 s2)
                have nl := (List.getElem?_eq_some_iff.mp qd).1
                have hv : vs1[n]? = some (vs1[n]'(by rw [T.n1.ln]; exact nl)) := List.getElem?_eq_getElem _
                generalize vs1[n]'(by rw [T.n1.ln]; exact nl) = v at hv
                obtain ⟨b, ws, rfl, _, _, _, bh, _⟩ := T2.n1.ch n v _ hv qd
                refine .inl ⟨a1, vs1, jj, .ref b, rfl, rfl, SqL.of (E2.st.hh _ _ T2.n1.at0), ?_, .inl ⟨rfl, _, SqL.of (E2.st.hh _ _ bh)⟩, ?_⟩
                · unfold atI
                  rw [T.n1.ln, qn]
                  exact hv
                · refine ha (L1, p) F0 H1 F2 H3 σ _ _ E2 (post_mono (WOR.of E2 T.n1.ex (WOR.mono (s1.ff.trans s2.ff) q)) (fun es q2 F3 H4 xs s3 r3 => ?_) fun _ z => z)
                  obtain ⟨rz, qf, q2⟩ := WOR.ofO q2
                  obtain ⟨ds', z⟩ := rz
                  have E3 := E2.step s3
                  have T3 := T2.on s3.ff (nw_of E2 s3)
                  obtain ⟨b', ws', e', _, _, bf', bh', br'⟩ := T3.n1.ch n _ _ hv qd
                  cases e'
                  refine hr F3 H4 b ws' ds xs es ds' z _ E3.st.fh (E3.st.hh _ _ bh') br' r3 qf fun ws2 v rw' _ => ?_
                  refine WOR.mono s3.ff q2 F3 _ σ (Ex.refl _) ⟨p, _, upd H1 b (.lst ws2), ?_, List.getElem?_set_self li, noErr_set ne _ rfl, a1, a2, vs1, vs2, T3.up1 (T3.n1.mut hv qd rw') (fun y h => .inl (prtN_set qd h)) (fun y h => upd_ne fun z => ?_)⟩
                  · rw [List.set_set]
                    exact E3.both bf' bh'
                  · have pb : PrtN a1 vs1 x.1 b := .inr ⟨n, ds, hv, qd⟩
                    rcases h with h | h
                    · exact T.ap b pb (by rw [← z]; exact h)
                    · exact T.p1 (by rw [← h, z]; exact pb)
            · split at qs
              · rename_i _ e
                subst e
                cases qs
                refine ⟨p, .ref a2, rfl, ?_, ?_⟩
                · have := DGet.k (k := .inr k) hP
                  rw [kk.g2] at this
                  exact this
                · refine hj (L1, p) F0 H1 F1 H2 σ _ _ E1 ?_
                  rw [mB_is qj]
                  intro F2 H3 v s2 r2
                  obtain rfl := rep_intB r2
                  have E2 := E1.step s2
                  have T2 := T1.on s2.ff (nw_of E1 s2)
                  have nl := (List.getElem?_eq_some_iff.mp qd).1
                  have hv : vs2[n]? = some (vs2[n]'(by rw [T.n2.ln]; exact nl)) := List.getElem?_eq_getElem _
                  generalize vs2[n]'(by rw [T.n2.ln]; exact nl) = v at hv
                  obtain ⟨b, ws, rfl, _, _, _, bh, _⟩ := T2.n2.ch n v _ hv qd
                  refine .inl ⟨a2, vs2, jj, .ref b, rfl, rfl, SqL.of (E2.st.hh _ _ T2.n2.at0), ?_, .inl ⟨rfl, _, SqL.of (E2.st.hh _ _ bh)⟩, ?_⟩
                  · unfold atI
                    rw [T.n2.ln, qn]
                    exact hv
                  · refine ha (L1, p) F0 H1 F2 H3 σ _ _ E2 (post_mono (WOR.of E2 T.n1.ex (WOR.mono (s1.ff.trans s2.ff) q)) (fun es q2 F3 H4 xs s3 r3 => ?_) fun _ z => z)
                    obtain ⟨rz, qf, q2⟩ := WOR.ofO q2
                    obtain ⟨ds', z⟩ := rz
                    have E3 := E2.step s3
                    have T3 := T2.on s3.ff (nw_of E2 s3)
                    obtain ⟨b', ws', e', _, _, bf', bh', br'⟩ := T3.n2.ch n _ _ hv qd
                    cases e'
                    refine hr F3 H4 b ws' ds xs es ds' z _ E3.st.fh (E3.st.hh _ _ bh') br' r3 qf fun ws2 v rw' _ => ?_
                    refine WOR.mono s3.ff q2 F3 _ σ (Ex.refl _) ⟨p, _, upd H1 b (.lst ws2), ?_, List.getElem?_set_self li, noErr_set ne _ rfl, a1, a2, vs1, vs2, T3.up2 (T3.n2.mut hv qd rw') (fun y h => .inl (prtN_set qd h)) (fun y h => upd_ne fun z => ?_)⟩
                    · rw [List.set_set]
                      exact E3.both bf' bh'
                    · have pb : PrtN a2 vs2 x.2 b := .inr ⟨n, ds, hv, qd⟩
                      rcases h with h | h
                      · exact T.ap b (by rw [← z]; exact h) pb
                      · exact T.p2 (by rw [← h, z]; exact pb)
              · cases qs
    · cases qu
  · cases qs
theorem dt_exit {t : TS} {h : MS} (hu : ∀ L, DS K L mg W t h) : DSR (twoR K k1 k2) K mg W i t (sTwoExit k1 k2 i h) := fun L1 F0 H0 F H σ ρ D ⟨a, x, H1, E, hi, ne, a1, a2, vs1, vs2, T⟩ q => by
  have hi : ρ[i]? = some (.val (encT2 x)) := hi
  unfold sTwoExit at q
  rw [viewT_at hi, ofO_some] at q
  obtain ⟨F', ef, E'⟩ := T.out (L := (L1, a)) E (li_ofT hi) ne
  refine hu (L1, a) F0 H0 F' H σ _ D E' ?_
  have q : WOR (twoR K k1 k2) K mg W i L1 F0 H0 F D (match h (ρ.set i (.val (outT k1 k2 x))) with
    | .ret d ρ1 => .ret d ρ1
    | .exc n ρ1 => .exc n ρ1
    | _ => .stuck) := q
  cases qh : h (ρ.set i (.val (outT k1 k2 x))) with
  | ret d ρ1 => rw [qh] at q; exact fun F2 H2 σ2 v e2 E2 r => q F2 H2 σ2 v a (ef.trans e2) E2 r
  | exc n ρ1 => rw [qh] at q; exact fun F2 H2 σ2 e2 E2 => q F2 H2 σ2 a (ef.trans e2) E2
  | nx ρ1 => rw [qh] at q; exact q.elim
  | brk ρ1 => rw [qh] at q; exact q.elim
  | cont ρ1 => rw [qh] at q; exact q.elim
  | retL d ρ1 => rw [qh] at q; exact q.elim
  | stuck => rw [qh] at q; exact q.elim
theorem outRR_wo {X : Type} {R : Reg X} {t : TS} {g : MS} {ρ1 : Fr} (hg : DSR R K mg W i t g) (Y : EnvR R K i L.1 F0 H0 F H σ ρ1) (q : WO K mg W L F0 H0 F D (outR i (g ρ1))) : t D σ H := by
  refine hg L.1 F0 H0 F H σ ρ1 D Y ?_
  cases qg : g ρ1 with
  | ret d ρ2 =>
    rw [qg] at q
    have q : WO K mg W L F0 H0 F D (if noErr (clrI i ρ2) = true then .ret d (clrI i ρ2) else .stuck) := q
    split at q
    · rename_i n1
      exact fun F' H' σ' v a e E' r => q F' H' σ' v e ((E'.clr).other n1 rfl) r
    · exact q.elim
  | exc n ρ2 =>
    rw [qg] at q
    have q : WO K mg W L F0 H0 F D (if noErr (clrI i ρ2) = true then .exc n (clrI i ρ2) else .stuck) := q
    split at q
    · rename_i n1
      exact fun F' H' σ' a e E' => q F' H' σ' e ((E'.clr).other n1 rfl)
    · exact q.elim
  | nx ρ => rw [qg] at q; exact q.elim
  | brk ρ => rw [qg] at q; exact q.elim
  | cont ρ => rw [qg] at q; exact q.elim
  | retL ds ρ => rw [qg] at q; exact q.elim
  | stuck => rw [qg] at q; exact q.elim
theorem ds_regT {t : TS} {g : MS} (kk : KK k1 k2) (hg : DSR (twoR K k1 k2) K mg W i t g) : DS K L mg W (tSeq (tAsg (tDisp [(tC (.str k1), tLst tNil), (tC (.str k2), tLst tNil)]) (gName i)) t) (sRegT i g) := fun F0 H0 F H σ ρ D E q => by
  unfold sRegT at q
  split at q
  · rename_i c
    rw [Bool.and_eq_true] at c
    obtain ⟨ne, li⟩ := c
    have li := of_decide_eq_true li
    intro P hP
    refine ⟨Nat.zero_le _, fun A hA => ?_⟩
    refine ⟨Nat.zero_le _, fun B hB => ?_⟩
    have pa : P ≠ A := fun z => by rw [← z, upd_same] at hA; cases hA
    have ab : A ≠ B := fun z => by rw [← z, upd_same] at hB; cases hB
    have hB1 : upd H P (.dK []) B = none := by rw [upd_ne ab.symm] at hB; exact hB
    have pb : P ≠ B := fun z => by rw [← z, upd_same] at hB1; cases hB1
    have hA0 : H A = none := by rw [upd_ne pa.symm] at hA; exact hA
    have hB0 : H B = none := by rw [upd_ne pb.symm] at hB1; exact hB1
    refine ⟨by rw [upd_ne pb, upd_ne pa, upd_same], [(.inr k1, .ref A), (.inr k2, .ref B)], rfl, Nat.le_of_ble_eq_true rfl, ?_⟩
    rw [kk.mg]
    show t D (σ.set i (some (.ref P))) _
    have h0P : H0 P = none := E.st.hh.free hP
    have h0A : H0 A = none := E.st.hh.free hA0
    have h0B : H0 B = none := E.st.hh.free hB0
    have fP : F P = none := E.st.fh.free hP
    have fA : F A = none := E.st.fh.free hA0
    have fB : F B = none := E.st.fh.free hB0
    have hdk : ∃ dk : HO, dk = HO.dK [(.inr k1, .ref A), (.inr k2, .ref B)] := ⟨_, rfl⟩
    obtain ⟨dk, hdk⟩ := hdk
    rw [← hdk]
    have hHn : ∃ Hn : Hp, Hn = upd (upd (upd H0 A (.lst [])) B (.lst [])) P dk := ⟨_, rfl⟩
    obtain ⟨Hn, hHn⟩ := hHn
    have hH' : ∃ H' : Hp, H' = upd (upd (upd (upd H P (.dK [])) A (.lst [])) B (.lst [])) P dk := ⟨_, rfl⟩
    obtain ⟨H', hH'⟩ := hH'
    rw [← hH']
    have nP : Hn P = some dk := by rw [hHn, upd_same]
    have nA : Hn A = some (.lst []) := by rw [hHn, upd_ne pa.symm, upd_ne ab, upd_same]
    have nB : Hn B = some (.lst []) := by rw [hHn, upd_ne pb.symm, upd_same]
    have nO : ∀ l, l ≠ P → l ≠ A → l ≠ B → Hn l = H0 l := fun l x y z => by rw [hHn, upd_ne x, upd_ne z, upd_ne y]
    have oP : H' P = some dk := by rw [hH', upd_same]
    have oA : H' A = some (.lst []) := by rw [hH', upd_ne pa.symm, upd_ne ab, upd_same]
    have oB : H' B = some (.lst []) := by rw [hH', upd_ne pb.symm, upd_same]
    have oO : ∀ l, l ≠ P → l ≠ A → l ≠ B → H' l = H l := fun l x y z => by rw [hH', upd_ne x, upd_ne z, upd_ne y, upd_ne x]
    have old : ∀ l o, H l = some o → l ≠ P ∧ l ≠ A ∧ l ≠ B := fun l o hl => ⟨ne_of_none hl hP, ne_of_none hl hA0, ne_of_none hl hB0⟩
    have e0 : Ex H0 Hn := fun l o hl => by
      obtain ⟨x, y, z⟩ := old l o (E.st.hh _ _ hl)
      rw [nO l x y z]; exact hl
    refine outRR_wo hg ⟨P, ([], []), Hn, ?_, List.getElem?_set_self li, noErr_set ne _ rfl, A, B, [], [], ?_⟩ q
    · rw [List.set_set]
      refine E.toMark E ne li (fun l o hl => ?_) (fun x o hx => ?_) (fun x o q1 q2 q3 => ?_) (fun x o hx => ?_) (fun x o hx => ?_)
      · obtain ⟨x, y, z⟩ := old l o hl
        exact nO l x y z
      · by_cases c1 : x = P
        · subst c1; rw [oP, ← nP]; exact hx
        by_cases c2 : x = A
        · subst c2; rw [oA, ← nA]; exact hx
        by_cases c3 : x = B
        · subst c3; rw [oB, ← nB]; exact hx
        rw [nO x c1 c2 c3] at hx
        rw [oO x c1 c2 c3]
        exact E.st.hh _ _ hx
      · by_cases c1 : x = P
        · rw [c1]; exact fP
        by_cases c2 : x = A
        · rw [c2]; exact fA
        by_cases c3 : x = B
        · rw [c3]; exact fB
        rw [nO x c1 c2 c3] at q2
        exact E.st.nw x o q1 q2 q3
      · obtain ⟨a, b, c⟩ := old x o (E.st.fh _ _ hx)
        rw [oO x a b c]
        exact E.st.fh _ _ hx
      · obtain ⟨a, b, c⟩ := old x o hx
        rw [oO x a b c]
        exact hx
    · have no : ∀ (a q : Addr), PrtN a [] [] q → q = a := fun a q h => by
        rcases h with h | ⟨j, ds, h, _⟩
        · exact h
        · simp at h
      refine ⟨⟨e0, h0A, fA, nA, rfl, fun j v c h => by simp at h, fun j k b ds es h => by simp at h⟩, ⟨e0, h0B, fB, nB, rfl, fun j v c h => by simp at h, fun j k b ds es h => by simp at h⟩, fun q h1 h2 => ab ((no _ _ h1).symm.trans (no _ _ h2)), fun h => pa (no _ _ h), fun h => pb (no _ _ h), h0P, fP, ?_⟩
      rw [nP, hdk]
  · exact q.elim
end
/-! a display of texts -/
def dspV (kvs : List (Str × Str)) : List (Key × V) := kvs.map fun kv => (.inr kv.1, .str kv.2)
def dspK (kvs : List (Str × Str)) : List (Key × D) := kvs.map fun kv => (.inr kv.1, .str kv.2)
def dspT (kvs : List (Str × Str)) : List (TE × TE) := kvs.map fun kv => (tC (.str kv.1), tC (.str kv.2))
theorem dsp_pairs : ∀ (kvs : List (Str × Str)) (σ : L2.St) (H : Hp) (Q : List (V × V) → Hp → Prop), Q ((dspV kvs).map fun kv => (L2.kV kv.1, kv.2)) H → tPairs (dspT kvs) σ H Q
  | [], _, _, _, h => h
  | kv :: kvs, σ, H, Q, h => dsp_pairs kvs σ H (fun ps H3 => Q ((.str kv.1, .str kv.2) :: ps) H3) h
theorem dsp_rep {K : PySem.W.Frag} {F : Hp} : ∀ kvs : List (Str × Str), RepK K F (dspV kvs) (dspK kvs)
  | [] => .nil
  | kv :: kvs => .cons (.str _) (dsp_rep kvs)
def dspD (kvs : List (Str × Str)) : D := .dict (dkD (dspK kvs))
section
variable {K : PySem.W.Frag} {L : Addr × Addr} {mg : Str → Option Value} {W : WX}
theorem df_dsp {kvs : List (Str × Str)} (hm : mergeK [] (dspV kvs) = dspV kvs) (h15 : kvs.length ≤ 15) : DF K L mg W (tDisp (dspT kvs)) (eC (dspD kvs)) := fun F0 H0 F H σ ρ Q E k => by
  intro p hp
  refine dsp_pairs kvs σ _ _ ⟨upd_same, dspV kvs, rfl, by unfold dspV; rw [List.length_map]; exact h15, ?_⟩
  rw [upd_upd, hm]
  exact k _ _ _ (Step.new E.st.fh hp) (.dK upd_same (dsp_rep kvs) rfl)
end
end Dn

set_option Elab.async false
set_option linter.all false
set_option maxRecDepth 100000
set_option maxHeartbeats 4000000
/-! DenXV: in, not in of a tuple of texts -/
namespace Dn
open PySem L2
def inSB : D → D → Option Bool
  | .str k, .tuple ds => (strs? ds).map fun ns => decide (k ∈ ns)
  | d, e => inB d e
def inAS (d e : D) : Option D := (inSB d e).map .bool
def ninAS (d e : D) : Option D := (inSB d e).map fun b => .bool (!b)
theorem inV_strs (k : Str) : ∀ ns : List Str, inV (.str k) (ns.map V.str) = decide (k ∈ ns)
  | [] => rfl
  | n :: ns => by
    have ih := inV_strs k ns
    unfold inV at ih ⊢
    rw [List.map_cons, List.any_cons, ih]
    show ((n == k) || decide (k ∈ ns)) = _
    rw [Bool.eq_iff_iff, Bool.or_eq_true, beq_iff_eq, decide_eq_true_iff, decide_eq_true_iff, List.mem_cons]
    exact ⟨fun z => z.elim (fun e => .inl e.symm) .inr, fun z => z.elim (fun e => .inl e.symm) .inr⟩
theorem flat_strsA (ns : List Str) : (ns.map V.str).all flatV = true := by
  rw [List.all_eq_true]
  intro x hx
  obtain ⟨n, _, rfl⟩ := List.mem_map.mp hx
  rfl
section
variable {K : PySem.W.Frag}
theorem in_coreS {F H : Hp} {x y : V} {d e : D} {b : Bool} (ex : Ex F H) (rx : RepB K F H x d) (ry : RepB K F H y e) (h : inSB d e = some b) : (inB d e = some b) ∨ ∃ (p : Addr) (ns : List Str) (k : Str), x = .str k ∧ y = .ref p ∧ SqT K H p (ns.map V.str) ∧ b = decide (k ∈ ns) := by
  unfold inSB at h
  split at h
  · rename_i k ds
    cases q : strs? ds with
    | none => rw [q] at h; cases h
    | some ns =>
      rw [q] at h
      cases h
      obtain rfl := strs?_eq q
      obtain rfl := rep_str rx
      obtain ⟨p, vs, rfl, sq, r, _⟩ := RepB.ist ex ry
      obtain rfl := r.strs
      exact .inr ⟨p, ns, k, rfl, rfl, sq, rfl⟩
  · exact .inl h
theorem rd_inAS : R2D K (oIn K) inAS := by
  intro F H x y d e Q z ex rx ry h k
  unfold inAS at h
  cases q : inSB d e with
  | none => rw [q] at h; cases h
  | some b =>
    rw [q] at h
    cases h
    rcases in_coreS ex rx ry q with h | ⟨p, ns, i, rfl, rfl, sq, rfl⟩
    · exact rd_in F H x y d e Q _ ex rx ry (by unfold inD; rw [h]; rfl) k
    · refine .inr ⟨p, _, rfl, .inr sq, rfl, flat_strsA ns, ?_⟩
      rw [inV_strs]
      exact k.here ex (.bl _)
theorem rd_ninAS : R2D K (oNin K) ninAS := by
  intro F H x y d e Q z ex rx ry h k
  unfold ninAS at h
  cases q : inSB d e with
  | none => rw [q] at h; cases h
  | some b =>
    rw [q] at h
    cases h
    rcases in_coreS ex rx ry q with h | ⟨p, ns, i, rfl, rfl, sq, rfl⟩
    · exact rd_nin F H x y d e Q _ ex rx ry (by unfold ninD; rw [h]; rfl) k
    · refine .inr ⟨p, _, rfl, .inr sq, rfl, flat_strsA ns, ?_⟩
      rw [inV_strs]
      exact k.here ex (.bl _)
end
theorem ninAS_t (k : Str) (ns : List Str) : ninAS (.str k) (.tuple (ns.map .str)) = some (.bool (!decide (k ∈ ns))) := by
  show ((strs? (ns.map PyData.str)).map fun ns => decide (k ∈ ns)).map (fun b => PyData.bool (!b)) = _
  rw [strs?_map]; rfl
end Dn

set_option Elab.async false
set_option linter.all false
set_option maxRecDepth 100000
set_option maxHeartbeats 4000000
/-! DenXW: a display of one pair, its key a tuple -/
namespace Dn
open PySem PySem.Spec PyProof.Rows L2
def tDisp1T (tk tv : TE) : TE := fun σ H Q => ∀ p, H p = none → tk σ (upd H p (.dT [])) fun x H1 => tv σ H1 fun y H2 => H2 p = some (.dT []) ∧ ∃ (b : Addr) (ks : List Key), x = .ref b ∧ H2 b = some (.tup (ks.map L2.kV)) ∧ Q (.ref p) (upd H2 p (.dT [(ks, y)]))
section
variable {X : Cx} {pos : Pos} {k v : Expr} {tk tv : TE}
theorem pe_disp1T (hu : X.A.units + 65 < cLine) (hk : PE X k tk) (hv : PE X v tv) : PE X (.Dict [some k] [v] pos) (tDisp1T tk tv) := by
  refine ⟨fun pins s σ H Q I q => ?_⟩
  have hn := I.hok.fresh (Nat.le_refl s.heap.objs.size)
  have I1 := I.laid (a := s.heap.objs.size) (o := .dT []) (h' := s.heap.push { cls := .type "dict", data := .dict #[] }) (t' := s.toks) (fun _ _ q => Heap.get?_push_of_some _ q) (Nat.le_refl _) (dt_empty s.heap I.big)
  have q := q _ hn
  have run := (pps_cons (pos := pos) hk hv pps_nil).run pins { s with heap := s.heap.push { cls := .type "dict", data := .dict #[] } } σ _ (fun ps H2 => match ps with
    | [(x, y)] => H2 s.heap.objs.size = some (.dT []) ∧ ∃ (b : Addr) (ks : List Key), x = .ref b ∧ H2 b = some (.tup (ks.map L2.kV)) ∧ Q (.ref s.heap.objs.size) (upd H2 s.heap.objs.size (.dT [(ks, y)]))
    | _ => False) I1 q
  rw [arm_eval_Dict, zip_pairTrees [some k] [v] X.env pos rfl rfl, dictDisplay_pairs (pairTrees [some k] [v] X.env pos) (by simp [pairTrees]) (by simp [pairTrees])]
  refine wpAny_bind (wpAny_standAt (wpAny_bind (wpAny_subDictH (knd := tupleKind (mixKind X.prog X.w)) (show X.A.units < cLine by omega) (by simp [pairTrees]) (thn run fun ws s2 ⟨ps, H2, I2, rel, q2⟩ => ?_))))
  cases rel with
  | nil => exact q2.elim
  | @cons pp uu _ _ r1 r2 =>
    cases r2 with
    | cons _ _ => exact q2.elim
    | nil =>
      obtain ⟨x, y⟩ := pp
      obtain ⟨u, r⟩ := uu
      obtain ⟨e, b, ks, ex, eb, q2⟩ := q2
      subst ex
      obtain rfl : u = Value.ref b := r1.1
      obtain ⟨z, hd, xs, rel0, dd⟩ := dt_of I2.hok e
      cases rel0
      refine ⟨[(ks, b, r)], ⟨rfl, rfl, key_of I2.hok eb, trivial⟩, dd, fun h' tk' dd' hs => wpAny_pure ⟨.ref s.heap.objs.size, _, ?_, rfl, q2⟩⟩
      have dd'' : h'.DictOfH (tupleKind (mixKind X.prog X.w)) s.heap.objs.size [(ks, b, r)] := dd'
      obtain ⟨o, es, ep, hq, h2, h3, h4, _, h5⟩ := dd''
      have nb : b ≠ s.heap.objs.size := fun zz => by rw [zz, e] at eb; cases eb
      refine d_write I2 (by rw [e]; exact True.intro) hs ⟨o, hq⟩ ⟨by show 1 ≤ _; rw [sizeLine_eq]; omega, hd, _, Paired.cons ⟨rfl, by rw [upd_ne nb]; exact eb, r1.2⟩ .nil, o, es, ep, hq, h2, h3, h4, h5⟩
end
/-- d = {k: v}, k a tuple -/
def sDisp1T (i : Nat) (kf vf : ME) : MS := fun ρ => if i < ρ.length then Out.of (kf ρ) ρ fun k => Out.of (vf ρ) ρ fun d => Out.ofO (keyT? k) fun ks => .nx (ρ.set i (.own (.dT [(ks, d)]))) else .stuck
section
variable {K : PySem.W.Frag} {L : Addr × Addr} {mg : Str → Option Value} {W : WX} {tk tv : TE} {kf vf : ME}
theorem ds_disp1T {i : Nat} (hk : DE K L mg W tk kf) (hv : DF K L mg W tv vf) : DS K L mg W (tAsg (tDisp1T tk tv) (gName i)) (sDisp1T i kf vf) := fun F0 H0 F H σ ρ D E w => by
  unfold sDisp1T at w
  split at w
  · rename_i li
    intro p hp
    have E0 := E.step (Step.new0 E.st.fh hp (o := .dT []))
    have E' := E.seto hp (RepO.dT .nil : RepO K F (.dT []) (.dT [])) i
    refine hk F0 H0 F (upd H p (.dT [])) σ ρ _ E0 (post_mono (WO.of E0 w) (fun k w1 F1 H1 x s r => ?_) fun _ z => z)
    have E1 := E0.step s
    refine hv F0 H0 F1 H1 σ ρ _ E1 (post_mono (WO.of E1 (WO.mono s.ff w1)) (fun d w2 F2 H2 y s2 r2 => ?_) fun _ z => z)
    obtain ⟨ks, qk, w3⟩ := WO.ofO w2
    obtain ⟨b, ex, hb⟩ := keyT_rep E1.st.fh r qk
    have E2 := (E'.step s).step s2
    have hp2 : H2 p = some (.dT []) := s2.hh _ _ (s.hh _ _ upd_same)
    refine ⟨hp2, b, ks, ex, s2.hh _ _ hb, ?_⟩
    have li2 : i < σ.length := by rw [E.len]; exact li
    have q : ownO (ρ.set i (.own (.dT [])))[i]? = some (.dT []) := by rw [List.getElem?_set_self li]; rfl
    have el : (σ.set i (some (.ref p)))[i]? = some (some (.ref p)) := List.getElem?_set_self li2
    have M := E2.mut q el (RepO.dT (.cons r2 .nil) : RepO K F2 (.dT [(ks, y)]) (.dT [(ks, d)]))
    have pe : putO i (.dT [(ks, d)]) (ρ.set i (.own (.dT []))) = ρ.set i (.own (.dT [(ks, d)])) := by
      unfold putO
      rw [List.getElem?_set_self li]
      show (ρ.set i _).set i _ = _
      rw [List.set_set]
    rw [pe] at M
    exact w3 F2 _ _ s2.ff M
  · exact w.elim
end
end Dn

set_option Elab.async false
set_option linter.all false
set_option maxRecDepth 100000
set_option maxHeartbeats 4000000
/-! DenXX: calls that read what may change and give a new list of plain things; defs that give a pair of new lists -/
namespace Dn
open PySem PySem.Spec PyProof.Rows L2
def eCallLS (f : List D → M (List D)) (as : ML) : ML := fun ρ => (as ρ).bind fun ds => (f ds).bind fun es => if scalDs es = true then .ok es else .stuck
@[simp] theorem eCallLS_ap {f : List D → M (List D)} {as : ML} {ρ : Fr} : eCallLS f as ρ = (as ρ).bind fun ds => (f ds).bind fun es => if scalDs es = true then .ok es else .stuck := rfl
section
variable {K : PySem.W.Frag} {L : Addr × Addr} {mg : Str → Option Value} {W : WX} {tas : TA} {as : ML}
theorem keep_step {F1 H1 F' H' : Hp} (fh : Ex F1 H1) (s' : Step (boxes F1 H1) H1 F' H') : Step F1 H1 (keepN F1 H1 F') H' ∧
    ∀ a o, F' a = some o → (∀ ys, o ≠ .lst ys) → (∀ ys, o ≠ .dK ys) → (∀ ys, o ≠ .dT ys) → keepN F1 H1 F' a = some o := by
  have ex2 : Ex F1 (keepN F1 H1 F') := fun a o h => by unfold keepN; rw [h]
  refine ⟨⟨ex2, s'.hh, fun a u h1 h2 h3 => ?_, fun a o h => ?_⟩, fun a o h n1 n2 n3 => ?_⟩
  · unfold keepN
    rw [h1, h2]
    cases u with
    | tup xs => exact absurd rfl (h3 xs)
    | _ => rfl
  · unfold keepN at h
    split at h
    · rename_i q
      cases h
      exact s'.hh _ _ (fh _ _ q)
    · split at h
      · exact s'.fh _ _ h
      · cases h
      · exact s'.fh _ _ h
  · unfold keepN
    cases q : F1 a with
    | some u =>
      have := s'.ff _ _ (boxes_ff (H := H1) _ _ q)
      rw [h] at this
      exact this.symm
    | none =>
      cases q1 : H1 a with
      | none => exact h
      | some u =>
        by_cases ht : ∃ ys, u = .tup ys
        · obtain ⟨ys, rfl⟩ := ht
          exact h
        exfalso
        by_cases hk : (∃ ys, u = .lst ys) ∨ (∃ ys, u = .dK ys) ∨ ∃ ys, u = .dT ys
        · have z := s'.ff _ _ (boxes_at fh q1 hk)
          rw [h] at z
          cases z
          rcases hk with ⟨ys, e⟩ | ⟨ys, e⟩ | ⟨ys, e⟩
          · exact n1 ys e
          · exact n2 ys e
          · exact n3 ys e
        · have bn : boxes F1 H1 a = none := by
            unfold boxes
            rw [q, q1]
            cases u with
            | lst ys => exact (hk (.inl ⟨_, rfl⟩)).elim
            | dK ys => exact (hk (.inr (.inl ⟨_, rfl⟩))).elim
            | dT ys => exact (hk (.inr (.inr ⟨_, rfl⟩))).elim
            | _ => rfl
          have z := s'.nw a u bn q1 (fun xs e => ht ⟨xs, e⟩)
          rw [h] at z
          cases z
theorem dl_callLS {f : List Dn.D → M (List Dn.D)} (ha : DA K L mg W tas as) : DL K L mg W (tCallS (spL K mg f) (WE W) tas) (eCallLS f as) := fun F0 H0 F H σ ρ Q E p => by
  refine ha F0 H0 F H σ ρ _ E (post_mono (post_bind p) (fun ds k F1 H1 xs s1 r1 => ?_) fun _ z => z)
  have st : ∀ F' H', Step (boxes F1 H1) H1 F' H' → Step F H F1 H' := fun F' H' s' => s1.trans ⟨Ex.refl _, s'.hh, fun _ _ h _ _ => h, s1.fh.trans s'.hh⟩
  refine ⟨boxes F1 H1, ds, boxes_fh s1.fh, r1.box s1.fh, post_mono (post_bind k) (fun es k2 F' H' p vs s' hp rl => ?_) fun n z F' H' s' C hC => z F1 H' (st F' H' s') C hC⟩
  split at k2
  · rename_i hd
    obtain ⟨s2, kp⟩ := keep_step s1.fh s'
    exact k2 _ H' p vs (s1.trans s2) hp (rl.scal kp hd)
  · exact k2.elim
end
/-! ### defs that give a pair of new lists -/
abbrev WP2 (K : PySem.W.Frag) (F H : Hp) (r : List D × List D) (Q : VK) : Prop := ∀ F' H1 p1 p2 q vs ws, Step F H F' H1 → H1 p1 = none → H1 p2 = none → H1 q = none → p1 ≠ p2 → p1 ≠ q → p2 ≠ q → RepL K F' vs r.1 → RepL K F' ws r.2 →
  Q (.ref q) (upd (upd (upd H1 p1 (.lst vs)) p2 (.lst ws)) q (.tup [.ref p1, .ref p2]))
def spP (K : PySem.W.Frag) (mg : Str → Option Value) (f : List Dn.D → M (List Dn.D × List Dn.D)) : Sp := fun vs H Q E => ∃ F ds, Ex F H ∧ RepL K F vs ds ∧
  post (f ds) (fun r => WP2 K F H r Q) (fun n => ∀ F' H', Step F H F' H' → ∀ C, mg n = some (.ref C) → E (.ref C) none H')
def sAsgP (i j : Nat) (f : List D → M (List D × List D)) (as : ML) : MS := fun ρ => Out.of (as ρ) ρ fun ds => Out.of (f ds) ρ fun r => .nx ((ρ.set i (.own (.lst r.1))).set j (.own (.lst r.2)))
@[simp] theorem sAsgP_ap {i j : Nat} {f : List D → M (List D × List D)} {as : ML} {ρ : Fr} : sAsgP i j f as ρ = Out.of (as ρ) ρ fun ds => Out.of (f ds) ρ fun r => .nx ((ρ.set i (.own (.lst r.1))).set j (.own (.lst r.2))) := rfl
def sSeqP (a b : MS) : MS := fun ρ => match a ρ with
  | .nx ρ => b ρ
  | .exc n ρ => .exc n ρ
  | _ => .stuck
def sRetP (a b : ML) : MS := fun ρ => Out.of (a ρ) ρ fun ds => Out.of (b ρ) ρ fun es => .ret (.tuple [.list ds, .list es]) ρ
def Out.p : Out → M (List D × List D)
  | .ret (.tuple [.list as, .list bs]) _ => .ok (as, bs)
  | .exc n _ => .exc n
  | _ => .stuck
def mFnP (np N : Nat) (g : MS) (ds : List D) : M (List D × List D) := if ds.length = np then (g (start' N ds)).p else .stuck
section
variable (K : PySem.W.Frag) (L : Addr × Addr) (mg : Str → Option Value) (W : WX)
def WOP (F0 H0 F : Hp) (D : Ends) (o : Out) : Prop := post o.p (fun r => ∀ ρ, o = .ret (.tuple [.list r.1, .list r.2]) ρ → ∀ F' H1 σ' p1 p2 q vs ws, Ex F F' → Env K L F0 H0 F' H1 σ' ρ → H1 p1 = none → H1 p2 = none → H1 q = none → p1 ≠ p2 → p1 ≠ q → p2 ≠ q → RepL K F' vs r.1 → RepL K F' ws r.2 →
    D.rt (.ref q) (upd (upd (upd H1 p1 (.lst vs)) p2 (.lst ws)) q (.tup [.ref p1, .ref p2])))
  (fun n => ∀ ρ, o = .exc n ρ → ∀ F' H' σ', Ex F F' → Env K L F0 H0 F' H' σ' ρ → Wm mg W n σ' H')
def DSP (t : TS) (g : MS) : Prop := ∀ F0 H0 F H σ ρ D, Env K L F0 H0 F H σ ρ → WOP K L mg W F0 H0 F D (g ρ) → t D σ H
end
section
variable {K : PySem.W.Frag} {L : Addr × Addr} {mg : Str → Option Value} {W : WX} {tas : TA} {as : ML} {t u : TS} {g h : MS} {ta tb : TE} {a b : ML}
theorem WOP.mono {F0 H0 F F' : Hp} {D : Ends} {o : Out} (s : Ex F F') (w : WOP K L mg W F0 H0 F D o) : WOP K L mg W F0 H0 F' D o :=
  post_mono w (fun r k ρ e F2 H1 σ' p1 p2 q vs ws x => k ρ e F2 H1 σ' p1 p2 q vs ws (s.trans x)) fun n k ρ e F2 H2 σ' x => k ρ e F2 H2 σ' (s.trans x)
theorem dsp_seq (h1 : DS K L mg W t g) (h2 : DSP K L mg W u h) : DSP K L mg W (tSeq t u) (sSeqP g h) := fun F0 H0 F H σ ρ D E w => by
  refine h1 F0 H0 F H σ ρ _ E ?_
  unfold sSeqP at w
  cases q : g ρ with
  | nx ρ' => rw [q] at w; exact fun F1 H1 σ1 e E1 => h2 F0 H0 F1 H1 σ1 ρ' D E1 (w.mono e)
  | brk ρ => rw [q] at w; exact w.elim
  | cont ρ => rw [q] at w; exact w.elim
  | ret d ρ => rw [q] at w; exact w.elim
  | retL ds ρ => rw [q] at w; exact w.elim
  | exc n ρ' => rw [q] at w; exact fun F1 H1 σ1 e E1 => w ρ' rfl F1 H1 σ1 e E1
  | stuck => rw [q] at w; exact w.elim
theorem dsp_ret (ha : DL K L mg W ta a) (hb : DL K L mg W tb b) : DSP K L mg W (tRet (tTup (tCons ta (tCons tb tNil)))) (sRetP a b) := fun F0 H0 F H σ ρ D E w => by
  unfold sRetP at w
  cases qa : a ρ with
  | stuck => rw [qa] at w; exact w.elim
  | exc n =>
    rw [qa] at w
    refine ha F0 H0 F H σ ρ _ E ?_
    rw [qa]
    exact fun F' H' s => w ρ rfl F' H' σ s.ff (E.step s)
  | ok ds =>
    rw [qa] at w
    refine ha F0 H0 F H σ ρ _ E ?_
    rw [qa]
    intro F1 H1 p1 vs s1 n1 r1
    have st1 := s1.trans (Step.new0 (o := .lst vs) s1.fh n1)
    have w : WOP K L mg W F0 H0 F D (Out.of (b ρ) ρ fun es => .ret (.tuple [.list ds, .list es]) ρ) := w
    refine hb F0 H0 F1 _ σ ρ _ (E.step st1) ?_
    cases qb : b ρ with
    | stuck => rw [qb] at w; exact w.elim
    | exc n =>
      rw [qb] at w
      exact fun F' H' s => w ρ rfl F' H' σ (s1.ff.trans s.ff) ((E.step st1).step s)
    | ok es =>
      rw [qb] at w
      intro F2 H2 p2 ws s2 n2 r2
      obtain ⟨b1, b2, b3⟩ := Step.beside (o := .lst vs) (fun _ z => nomatch z) n1 (s1.fh.free n1) s2
      refine ⟨by show 2 ≤ _; rw [sizeLine_eq]; omega, fun q nq => ?_⟩
      have p12 : p1 ≠ p2 := fun z => by rw [z, n2] at b3; cases b3
      have q2 : p2 ≠ q := fun z => by rw [z, upd_same] at nq; cases nq
      have nq2 : H2 q = none := by rw [upd_ne (Ne.symm q2)] at nq; exact nq
      have q1 : p1 ≠ q := fun z => by rw [z, nq2] at b3; cases b3
      have w3 := w ρ rfl F2 (del H2 p1) σ p1 p2 q vs ws (s1.ff.trans s2.ff) (E.step (s1.trans b1)) del_same (by rw [del_ne (Ne.symm p12)]; exact n2) (by rw [del_ne (Ne.symm q1)]; exact nq2) p12 q1 q2 (r1.mono s2.ff) r2
      rw [del_upd b3] at w3
      exact w3
theorem ds_asgP {i j : Nat} {f : List Dn.D → M (List Dn.D × List Dn.D)} (ha : DAF K L mg W tas as) : DS K L mg W (tAsg (tCallS (spP K mg f) (WE W) tas) (gTup K 2 (gCons (gName i) (gCons (gName j) gNil)))) (sAsgP i j f as) := fun F0 H0 F H σ ρ D E w => by
  refine ha F0 H0 F H σ ρ _ E (post_mono (WO.of E w) (fun ds w1 F1 H1 xs s1 r1 => ?_) fun _ z => z)
  refine ⟨F1, ds, s1.fh, r1, post_mono (WO.of (E.step s1) (WO.mono s1.ff w1)) (fun r w2 F2 H2 p1 p2 q vs ws s2 n1 n2 n3 d12 d1q d2q rv rw' => ?_) fun n z F' H' s' C hC => z F' H' s' C hC⟩
  refine ⟨_, _, rfl, ex_t (Ex.refl _) (.inl (.inl upd_same)), rfl, ?_⟩
  have E1 := ((E.step s1).step s2).seto n1 (RepO.lst rv) i
  have E2 := E1.seto (show upd H2 p1 (.lst vs) p2 = none by rw [upd_ne (Ne.symm d12)]; exact n2) (RepO.lst rw') j
  have E3 := E2.step (Step.new0 (o := .tup [.ref p1, .ref p2]) E2.st.fh (show upd (upd H2 p1 (.lst vs)) p2 (.lst ws) q = none by rw [upd_ne (Ne.symm d2q), upd_ne (Ne.symm d1q)]; exact n3))
  exact ⟨_, _, rfl, _, _, rfl, rfl, w2 F2 _ _ s2.ff E3⟩
theorem body_okP {N : List Str} {np : Nat} {vs : List V} {H : Hp} {Q : VK} {E : XK} (h : ∀ L, DSP K L mg (fun cls d _ H => E cls d H) t g) (hs : spP K mg (mFnP np N.length g) vs H Q E) :
    t { nx := fun _ H' => Q .non H', rt := Q } (L2.start N vs) H := by
  obtain ⟨F, ds, ex, r, p⟩ := hs
  refine h (0, 0) F H F H _ _ _ (env_start (N := N) ex r) ?_
  unfold mFnP at p
  split at p
  · refine post_mono p (fun r k ρ e F' H1 σ' p1 p2 q vs ws x E' n1 n2 n3 d1 d2 d3 r1 r2 => k F' H1 p1 p2 q vs ws E'.st n1 n2 n3 d1 d2 d3 r1 r2) fun n k ρ e F' H' σ' x E' C hC => k F' H' E'.st C hC
  · exact p.elim
end
/-! ### f([a, b][e]): f changes the one that is picked -/
def sCallPick (i j : Nat) (f : List D → M (List D × D)) (e : ME) : MS := fun ρ => Out.ofO (ownAt i ρ) fun xs => Out.ofO (ownAt j ρ) fun ys => Out.of (e ρ) ρ fun d => match d with
  | .int 0 => (match f [.list xs] with | .ok r => .nx (putL i r.1 ρ) | _ => .stuck)
  | .int 1 => (match f [.list ys] with | .ok r => .nx (putL j r.1 ρ) | _ => .stuck)
  | _ => .stuck
@[simp] theorem sCallPick_ap {i j : Nat} {f : List D → M (List D × D)} {e : ME} {ρ : Fr} : sCallPick i j f e ρ = Out.ofO (ownAt i ρ) fun xs => Out.ofO (ownAt j ρ) fun ys => Out.of (e ρ) ρ fun d => match d with
  | .int 0 => (match f [.list xs] with | .ok r => .nx (putL i r.1 ρ) | _ => .stuck)
  | .int 1 => (match f [.list ys] with | .ok r => .nx (putL j r.1 ρ) | _ => .stuck)
  | _ => .stuck := rfl
section
variable {K : PySem.W.Frag} {L : Addr × Addr} {mg : Str → Option Value} {W : WX} {te : TE} {e : ME}
theorem pick_core {i : Nat} {f : List Dn.D → M (List Dn.D × Dn.D)} {F0 H0 F F2 H2 : Hp} {σ : L2.St} {ρ : Fr} {D : Ends} {es : List Dn.D} (ff : Ex F F2) (E2 : Env K L F0 H0 F2 H2 σ ρ) (q : ownO ρ[i]? = some (.lst es)) (w : WO K mg W L F0 H0 F D (match f [.list es] with | .ok r => .nx (putL i r.1 ρ) | _ => .stuck)) :
    ∃ l, σ[i]? = some (some (.ref l)) ∧ spM K mg 0 f [.ref l] H2 (fun _ H => D.nx σ H) (WE W σ) := by
  obtain ⟨l, ho, el, fl, h0, hl, ro, _⟩ := E2.ownv q
  obtain ⟨ws, rfl, rl⟩ := ro.isl
  refine ⟨l, el, F2, [.list es], l, ws, E2.st.fh, fl, hl, .here rl .nil, ?_⟩
  cases qf : f [.list es] with
  | ok r =>
    rw [qf] at w
    intro F3 H3 ws' v sm h3 r3 rv
    exact w F3 H3 σ (ff.trans sm.ff) (E2.mutM q el hl sm h3 r3)
  | exc n => rw [qf] at w; exact w.elim
  | stuck => rw [qf] at w; exact w.elim
theorem ds_callPick {i j : Nat} {f : List Dn.D → M (List Dn.D × Dn.D)} (he : DE K L mg W te e) : DS K L mg W (tDrop (tCallS (spM K mg 0 f) (WE W) (tCons (tOp (rIx K) (tLst (tCons (tVar i) (tCons (tVar j) tNil))) te) tNil))) (sCallPick i j f e) := fun F0 H0 F H σ ρ D E w => by
  obtain ⟨xs, q1, w⟩ := WO.ofO w
  obtain ⟨ys, q2, w⟩ := WO.ofO w
  have q1 := ownAt_eq q1
  have q2 := ownAt_eq q2
  obtain ⟨li, _, ei, _⟩ := E.ownv q1
  obtain ⟨lj, _, ej, _⟩ := E.ownv q2
  refine ⟨_, ei, _, ej, by show 2 ≤ _; rw [sizeLine_eq]; omega, fun p np => ?_⟩
  have st := Step.new0 (o := .lst [.ref li, .ref lj]) E.st.fh np
  have E1 := E.step st
  refine he F0 H0 F _ σ ρ _ E1 (post_mono (WO.of E1 w) (fun d w1 F2 H2 y s2 ry => ?_) fun _ z => z)
  have hp2 := s2.hh _ _ (show upd H p (.lst [V.ref li, V.ref lj]) p = some (.lst [V.ref li, V.ref lj]) from upd_same)
  have E2 := E1.step s2
  split at w1
  · obtain rfl := ry.isi
    obtain ⟨l, el, k⟩ := pick_core s2.ff E2 q1 w1
    rw [ei] at el
    cases el
    exact .inl ⟨p, _, 0, .ref li, rfl, rfl, .inl (.inl hp2), rfl, k⟩
  · obtain rfl := ry.isi
    obtain ⟨l, el, k⟩ := pick_core s2.ff E2 q2 w1
    rw [ej] at el
    cases el
    exact .inl ⟨p, _, 1, .ref lj, rfl, rfl, .inl (.inl hp2), rfl, k⟩
  · exact w1.elim
/-- {} handed on -/
def eDNewT : ME := fun _ => .ok (.dict (dtD []))
@[simp] theorem eDNewT_ap {ρ : Fr} : eDNewT ρ = .ok (.dict (dtD [])) := rfl
theorem df_dnewT : DF K L mg W tDNewT eDNewT := fun F0 H0 F H σ ρ Q E p => by
  intro l hl
  exact p _ _ _ (Step.new E.st.fh hl) (.dT upd_same .nil rfl)
end
/-! ### range(i, j, 2) -/
def rng2 (i j : Int) : List D := (List.range ((j - i + 1) / 2).toNat).map fun k => .int (i + (k : Nat) * 2)
theorem rgC_two {i j : Int} (h1 : -2305843009213693952 ≤ i) (h2 : i ≤ 2305843009213693952) (h3 : -2305843009213693952 ≤ j) (h4 : j ≤ 2305843009213693952) : RgC i j 2 ((j - i + 1) / 2).toNat := by
  have e : Builtin.Range.rangeSize i j 2 = (((j - i + 1) / 2).toNat : Int) := by
    unfold Builtin.Range.rangeSize
    rw [if_pos (by decide)]
    split <;> omega
  have f : ∀ x : Int, -4611686018427387904 ≤ x → x ≤ 4611686018427387904 → Builtin.Range.rangeFitsLong x = true := fun x a b => by
    unfold Builtin.Range.rangeFitsLong
    simp only [Bool.and_eq_true, decide_eq_true_eq]
    constructor <;> omega
  refine ⟨by decide, by decide, ?_, e⟩
  unfold Builtin.Range.small
  rw [e, f i (by omega) (by omega), f j (by omega) (by omega), f 2 (by omega) (by omega), f _ (by omega) (by omega), if_pos (by decide), f _ (by omega) (by omega)]
  simp
open Classical in
noncomputable def rngM32 : List D → M (List D) := fun xs => match xs with
  | [.int i, .int j, .int c] => if c = 2 ∧ (-2305843009213693952 ≤ i ∧ i ≤ 2305843009213693952) ∧ -2305843009213693952 ≤ j ∧ j ≤ 2305843009213693952 then .ok (rng2 i j) else .stuck
  | _ => .stuck
noncomputable def iR32 (as : ML) : ML := fun ρ => (as ρ).bind rngM32
@[simp] theorem iR32_ap {as : ML} {ρ : Fr} : iR32 as ρ = (as ρ).bind rngM32 := Eq.trans rfl rfl
theorem rngM32_ok {m : Nat} (h : m ≤ 1000000) : rngM32 [.int 0, .int (m : Int), .int 2] = .ok (rng2 0 (m : Int)) := if_pos ⟨rfl, by omega⟩
section
variable {K : PySem.W.Frag} {L : Addr × Addr} {mg : Str → Option Value} {W : WX} {ta : TA} {as : ML}
theorem src_rng2 {i j : Int} {F : Hp} : Src K (Itc i 2 ((j - i + 1) / 2).toNat) F (rng2 i j) := by
  have hl : (rng2 i j).length = ((j - i + 1) / 2).toNat := by unfold rng2; simp
  have wk : Walk (Itc i 2 ((j - i + 1) / 2).toNat) (rng2 i j).length (fun _ => True) (YFn fun k => .int (i + (k : Nat) * 2)) := by rw [hl]; exact walk_rangeC
  refine ⟨_, _, wk, fun _ _ _ _ => trivial, fun k F1 H1 x H2 hi e1 e2 y => ?_⟩
  obtain ⟨rfl, rfl⟩ := y
  refine ⟨F1, .int (i + (k : Nat) * 2), Step.refl e2, ?_, .int _⟩
  rw [hl] at hi
  unfold rng2
  rw [List.getElem?_map, List.getElem?_range hi]
  rfl
theorem di_rng32 (ha : DA K L mg W ta as) : DI K L mg W (iRng3 ta) (iR32 as) := fun F0 H0 F H σ ρ R E p => by
  refine ha F0 H0 F H σ ρ _ E (post_mono (post_bind p) (fun xs k F1 H1 ys s1 rr => ?_) fun _ z => z)
  unfold rngM32 at k
  split at k
  · split at k
    · rename_i i j c hc
      cases rr with
      | cons r1 rr =>
        obtain ⟨y, z, rfl, r2, r3⟩ := rr.two
        obtain rfl := r1.isi
        obtain rfl := r2.isi
        obtain rfl := r3.isi
        obtain ⟨rfl, h1, h2⟩ := hc
        exact ⟨i, j, 2, _, rfl, rgC_two h1.1 h1.2 h2.1 h2.2, k F1 H1 _ s1 src_rng2⟩
    · exact k.elim
  · exact k.elim
end
def FnAtP (P : Program) (w : World) (K : PySem.W.Frag) (mg : Str → Option Value) (base : Heap) (x : Str) (ps : List Str) (k : Nat) (f : List D → M (List D × List D)) : Prop :=
  ∃ a fd, mg x = some (.ref a) ∧ PySem.W.keepIn K (.ref a) = true ∧ Binds K fd ps [] ∧ FnOk P w K mg base (L2.CX P w) k a fd ps (spP K mg f)
section
variable {P : Program} {w : World} {K : PySem.W.Frag} {mg : Str → Option Value} {base : Heap}
theorem fn_atP {x : Str} {st : Stmt} {N ps : List Str} {k : Nat} {g : MS} (Df : DefAt K mg x st) (S : FnScope N ps (defScope st))
    (hb : ∀ (kV doc pm : Value) (an : Option Addr) (cdv ct : Value) (us : List Value), us.length = ps.length → bindArgs (PySem.W.fnOf x x (defArgs st) (defBody st) (defScope st) .none kV doc pm an cdv ct) ⟨us, []⟩ = pure (ps.zip us))
    (h : ∀ (f : Addr) (cdv : Value) (A : Around) (outer : List PySem.Env) (s : Shared) (H : Hp) (E : XK), Room k (A.deeper (envOfC x (defScope st) s.heap.objs.size f cdv)) →
      ∃ t, PSs (cxOf (L2.CX P w) P w K mg base N x (defScope st) f cdv A outer s H E) (defBody st) t ∧ ∀ L, DSP K L mg (fun cls d _ H => E cls d H) t g) :
    FnAtP P w K mg base x ps (k + 1) (mFnP ps.length N.length g) := by
  obtain ⟨f, fd, hm, F⟩ := Df
  refine ⟨f, fd, hm, F.kp, F.binds hb, ?_⟩
  refine F.okX S (fun vs H Q E h => ?_) fun cdv A outer s H vs Q E hr hs => ?_
  · obtain ⟨F, ds, ex, r, p⟩ := h
    unfold mFnP at p
    split at p
    · rw [r.length]; assumption
    · exact p.elim
  · obtain ⟨t, h1, h2⟩ := h f cdv A outer s H E hr
    exact ⟨t, h1, body_okP h2 hs⟩
end
end Dn

set_option Elab.async false
set_option linter.all false
set_option maxRecDepth 100000
set_option maxHeartbeats 4000000
/-! DenXY: a display with texts as keys and any values; d.update(d2) -/
namespace Dn
open PySem PySem.Spec PyProof.Rows L2
theorem putK_new {kvs : List (Key × V)} {k : Key} (v : V) (h : ∀ p ∈ kvs, p.1 ≠ k) : putK kvs k v = kvs ++ [(k, v)] := by
  unfold putK
  rw [if_neg]
  intro z
  rw [List.any_eq_true] at z
  obtain ⟨p, hp, e⟩ := z
  exact h p hp (of_decide_eq_true e)
theorem mergeK_nd : ∀ (more kvs : List (Key × V)), (more.map (·.1)).Nodup → (∀ p ∈ more, ∀ q ∈ kvs, q.1 ≠ p.1) → mergeK kvs more = kvs ++ more
  | [], kvs, _, _ => by rw [List.append_nil]; rfl
  | m :: more, kvs, nd, h => by
    rw [List.map_cons] at nd
    have nd := List.nodup_cons.mp nd
    show mergeK (putK kvs m.1 m.2) more = _
    rw [putK_new m.2 (fun p hp => h m List.mem_cons_self p hp), mergeK_nd more _ nd.2 fun p hp q hq => ?_]
    · simp
    · rcases List.mem_append.mp hq with hq | hq
      · exact h p (List.mem_cons_of_mem _ hp) q hq
      · rw [List.mem_singleton] at hq
        subst hq
        exact fun z => nd.1 (List.mem_map.mpr ⟨p, hp, z.symm⟩)
theorem putK_len (kvs : List (Key × V)) (k : Key) (v : V) : (putK kvs k v).length ≤ kvs.length + 1 := by
  unfold putK
  split
  · rw [List.length_map]; omega
  · rw [List.length_append]; simp
theorem mergeK_len : ∀ (more kvs : List (Key × V)), (mergeK kvs more).length ≤ kvs.length + more.length
  | [], kvs => Nat.le_refl _
  | m :: more, kvs => by
    have := mergeK_len more (putK kvs m.1 m.2)
    have := putK_len kvs m.1 m.2
    show (mergeK (putK kvs m.1 m.2) more).length ≤ _
    rw [List.length_cons]
    omega
/-- d.update(d2) -/
def rDUpd : V → List V → Hp → VK → Prop := fun x vs H Q => ∃ (a b : Addr) (kvs more : List (Key × V)), x = .ref a ∧ vs = [.ref b] ∧ a ≠ b ∧ H a = some (.dK kvs) ∧ H b = some (.dK more) ∧ kvs.length + more.length ≤ sizeLine ∧ Q .non (upd H a (.dK (mergeK kvs more)))
theorem mtd_update {X : Cx} : MtR X "dict.update" rDUpd := by
  intro pins s σ H x vs v us Q I rx rv h
  obtain ⟨a, b, kvs, more, ex, ev, ne, e1, e2, z, q⟩ := h
  subst ex
  subst ev
  obtain rfl : v = Value.ref a := rx
  cases rv with
  | cons r1 r2 =>
    cases r2
    rename_i u
    obtain rfl : u = Value.ref b := r1
    obtain ⟨z1, hd1, vs1, rel1, dd1⟩ := dk_of I.hok e1
    obtain ⟨z2, hd2, vs2, rel2, dd2⟩ := dk_of I.hok e2
    refine call_meetsIn PySem.F.slot_dict_update dd1.typeIs PySem.F.entry_dict_update (PySem.F.args_dict_update_2 _ _) (meets_dict_update (mixKind X.prog X.w) a b ne hd2)
      ⟨vs1, vs2, dd1, dd2, by rw [← rel1.length, ← rel2.length]; exact z, fun h' d1 d2 hs => ?_⟩
    have ml := mergeK_len more kvs
    obtain ⟨o', es, ep, ho', _⟩ := id d1
    exact ⟨.non, _, d_write I (by rw [e1]; exact True.intro) hs ⟨o', ho'⟩ (dk_new (by omega) hd1 (KV.merge rel2 rel1) d1), rfl, q⟩
section
variable {X : Cx} {o e : Expr} {to te : TE} {apos cpos : Pos}
end
section
variable (K : PySem.W.Frag) (L : Addr × Addr) (mg : Str → Option Value) (W : WX)
def zipS (ks : List Str) (vs : List V) : List (V × V) := (ks.zip vs).map fun p => (V.str p.1, p.2)
def DPs (trs : List (TE × TE)) (ks : List Str) (f : ML) : Prop := ∀ F0 H0 F H σ ρ (Q : List (V × V) → Hp → Prop), Env K L F0 H0 F H σ ρ → post (f ρ) (fun ds => ∀ F' H' vs, Step F H F' H' → RepL K F' vs ds → vs.length = ks.length → Q (zipS ks vs) H') (WE' mg W F H σ) → tPairs trs σ H Q
end
def keyS (ks : List Str) (ds : List D) : List (Key × D) := (ks.zip ds).map fun p => (Sum.inr p.1, p.2)
/-- d = {"..": .., ..} in slot i -/
def sDispK (i : Nat) (ks : List Str) (f : ML) : MS := fun ρ => if i < ρ.length then Out.of (f ρ) ρ fun ds => .nx (ρ.set i (.own (.dK (keyS ks ds)))) else .stuck
/-- d.update({"..": .., ..}) -/
def sUpdK (i : Nat) (ks : List Str) (f : ML) : MS := fun ρ => match ρ[i]? with
  | some (.own (.dK kvs)) => Out.of (f ρ) ρ fun ds => if ks.any (fun k => kvs.any fun p => decide (p.1 = Sum.inr k)) = true then .stuck else if kvs.length + ks.length ≤ 100000 then .nx (ρ.set i (.own (.dK (kvs ++ keyS ks ds)))) else .stuck
  | _ => .stuck
section
variable {K : PySem.W.Frag} {L : Addr × Addr} {mg : Str → Option Value} {W : WX} {te : TE} {e : ME} {f : ML} {trs : List (TE × TE)} {ks : List Str}
theorem dps_nil : DPs K L mg W [] [] aNil := fun F0 H0 F H σ ρ Q E p => p F H [] (Step.refl E.st.fh) .nil rfl
theorem dps_cons {k : Str} (hv : DF K L mg W te e) (h : DPs K L mg W trs ks f) : DPs K L mg W ((tC (.str k), te) :: trs) (k :: ks) (aCons e f) := fun F0 H0 F H σ ρ Q E p => by
  refine hv F0 H0 F H σ ρ _ E (post_mono (post_bind p) (fun d k1 F1 H1 x s1 r1 => ?_) fun _ z => z)
  refine h F0 H0 F1 H1 σ ρ _ (E.step s1) (post_mono (post_bind k1) (fun ds k2 F2 H2 vs s2 r2 l2 => ?_) fun n z => WE'.on s1 z)
  exact k2 F2 H2 (x :: vs) (s1.trans s2) (.cons (r1.mono s2.ff) r2) (by simp [l2])
theorem kvs_of : ∀ (ks : List Str) (vs : List V), zipS ks vs = ((ks.zip vs).map fun p => ((Sum.inr p.1 : Key), p.2)).map fun kv => (L2.kV kv.1, kv.2)
  | [], _ => by simp [zipS]
  | _ :: _, [] => by simp [zipS]
  | k :: ks, v :: vs => by
    have := kvs_of ks vs
    unfold zipS at this ⊢
    rw [List.zip_cons_cons, List.map_cons, List.map_cons, List.map_cons, this]
    rfl
theorem repK_keys {F : Hp} : ∀ (ks : List Str) {vs : List V} {ds : List Dn.D}, RepL K F vs ds → RepK K F ((ks.zip vs).map fun p => ((Sum.inr p.1 : Key), p.2)) (keyS ks ds)
  | [], _, _, _ => .nil
  | _ :: _, _, _, .nil => .nil
  | k :: ks, _, _, .cons r t => .cons r (repK_keys ks t)
theorem keys_map : ∀ (ks : List Str) (vs : List V), vs.length = ks.length → ((ks.zip vs).map fun p => ((Sum.inr p.1 : Key), p.2)).map (·.1) = ks.map Sum.inr
  | [], _, _ => rfl
  | k :: ks, [], h => by simp at h
  | k :: ks, v :: vs, h => by
    have := keys_map ks vs (by simpa using h)
    rw [List.zip_cons_cons, List.map_cons, List.map_cons, this]
    rfl
theorem inr_nd {ks : List Str} (nd : ks.Nodup) : (ks.map (Sum.inr : Str → Key)).Nodup := List.pairwise_map.mpr (nd.imp fun h z => h (Sum.inr.inj z))
theorem ds_dispK {i : Nat} (h : DPs K L mg W trs ks f) (nd : ks.Nodup) (n15 : ks.length ≤ 15) : DS K L mg W (tAsg (tDisp trs) (gName i)) (sDispK i ks f) := fun F0 H0 F H σ ρ D E w => by
  unfold sDispK at w
  split at w
  · rename_i li
    intro p hp
    have E0 := E.step (Step.new0 E.st.fh hp (o := .dK []))
    have E' := E.seto hp (RepO.dK .nil : RepO K F (.dK []) (.dK [])) i
    refine h F0 H0 F (upd H p (.dK [])) σ ρ _ E0 (post_mono (WO.of E0 w) (fun ds w1 F1 H1 vs s r l => ?_) fun _ z => z)
    have hp1 : H1 p = some (.dK []) := s.hh _ _ upd_same
    refine ⟨hp1, (ks.zip vs).map fun p => ((Sum.inr p.1 : Key), p.2), kvs_of ks vs, by rw [List.length_map, List.length_zip, l]; omega, ?_⟩
    have E2 := E'.step s
    have li2 : i < σ.length := by rw [E.len]; exact li
    have q : ownO (ρ.set i (.own (.dK [])))[i]? = some (.dK []) := by rw [List.getElem?_set_self li]; rfl
    have el : (σ.set i (some (.ref p)))[i]? = some (some (.ref p)) := List.getElem?_set_self li2
    have mk : mergeK [] ((ks.zip vs).map fun p => ((Sum.inr p.1 : Key), p.2)) = (ks.zip vs).map fun p => ((Sum.inr p.1 : Key), p.2) := by
      rw [mergeK_nd _ _ (by rw [keys_map ks vs l]; exact inr_nd nd) (fun _ _ _ hq => by cases hq), List.nil_append]
    rw [mk]
    have M := E2.mut q el (RepO.dK (repK_keys ks r))
    have pe : putO i (.dK (keyS ks ds)) (ρ.set i (.own (.dK []))) = ρ.set i (.own (.dK (keyS ks ds))) := by
      unfold putO
      rw [List.getElem?_set_self li]
      show (ρ.set i _).set i _ = _
      rw [List.set_set]
    rw [pe] at M
    exact w1 F1 _ _ s.ff M
  · exact w.elim
theorem RepO.isK {F : Hp} {ho : HO} {kvs : List (Key × Dn.D)} (r : RepO K F ho (.dK kvs)) : ∃ xs, ho = .dK xs ∧ RepK K F xs kvs := by
  cases r with
  | dK r => exact ⟨_, rfl, r⟩
theorem repK_app2 {F : Hp} {xs ys : List (Key × V)} {ds es : List (Key × Dn.D)} (r : RepK K F xs ds) (t : RepK K F ys es) : RepK K F (xs ++ ys) (ds ++ es) := by
  induction ds generalizing xs with
  | nil => cases r; exact t
  | cons d ds ih =>
    cases r with
    | cons a q => exact .cons a (ih q)
theorem repK_keysE {F : Hp} {xs : List (Key × V)} {ds : List (Key × Dn.D)} (r : RepK K F xs ds) : xs.map (·.1) = ds.map (·.1) := by
  induction ds generalizing xs with
  | nil => cases r; rfl
  | cons d ds ih =>
    cases r with
    | cons a q => rw [List.map_cons, List.map_cons, ih q]
theorem ds_updK {i : Nat} (h : DPs K L mg W trs ks f) (nd : ks.Nodup) (n15 : ks.length ≤ 15) : DS K L mg W (tDrop (tBM K "dict" rDUpd (tVar i) (tCons (tDisp trs) tNil))) (sUpdK i ks f) := fun F0 H0 F H σ ρ D E w => by
  unfold sUpdK at w
  split at w
  · rename_i kvs qi
    have q0 : ownO ρ[i]? = some (.dK kvs) := by rw [qi]; rfl
    obtain ⟨a, ho, ea, fa, h0, ha, ro, _⟩ := E.ownv q0
    obtain ⟨xs, rfl, rk⟩ := RepO.isK ro
    refine ⟨_, ea, .inr (.inr (.inl ⟨rfl, .inl ⟨_, ha⟩⟩)), ?_⟩
    intro p hp
    have st := Step.new0 E.st.fh hp (o := .dK [])
    have E0 := E.step st
    refine h F0 H0 F (upd H p (.dK [])) σ ρ _ E0 (post_mono (WO.of E0 w) (fun ds w1 F1 H1 vs s r l => ?_) fun _ z => z)
    have hp1 : H1 p = some (.dK []) := s.hh _ _ upd_same
    refine ⟨hp1, (ks.zip vs).map fun p => ((Sum.inr p.1 : Key), p.2), kvs_of ks vs, by rw [List.length_map, List.length_zip, l]; omega, ?_⟩
    have mk : mergeK [] ((ks.zip vs).map fun p => ((Sum.inr p.1 : Key), p.2)) = (ks.zip vs).map fun p => ((Sum.inr p.1 : Key), p.2) := by
      rw [mergeK_nd _ _ (by rw [keys_map ks vs l]; exact inr_nd nd) (fun _ _ _ hq => by cases hq), List.nil_append]
    rw [mk]
    split at w1
    · exact w1.elim
    · rename_i hno
      split at w1
      · rename_i hz
        have ap : a ≠ p := fun z => by rw [z, hp] at ha; cases ha
        obtain ⟨b1, b2, b3⟩ := Step.beside (o := .dK []) (fun _ z => nomatch z) hp (E.st.fh.free hp) s
        have du : ∀ o, upd (del H1 p) p o = upd H1 p o := fun o => by
          funext b
          by_cases z : b = p
          · rw [z, upd_same, upd_same]
          · rw [upd_ne z, upd_ne z, del_ne z]
        have st2 := b1.trans (Step.new0 (o := .dK ((ks.zip vs).map fun p => ((Sum.inr p.1 : Key), p.2))) b1.fh del_same)
        rw [du] at st2
        have E2 := E.step st2
        have ha2 : upd H1 p (.dK ((ks.zip vs).map fun p => ((Sum.inr p.1 : Key), p.2))) a = some (.dK xs) := by rw [upd_ne ap]; exact s.hh _ _ (by rw [upd_ne ap]; exact ha)
        refine ⟨a, p, xs, _, rfl, rfl, ap, ha2, upd_same, by
          have e1 := congrArg List.length (repK_keysE rk)
          rw [List.length_map, List.length_map] at e1
          rw [List.length_map, List.length_zip, l, e1, sizeLine_eq]
          omega, ?_⟩
        have mk2 : mergeK xs ((ks.zip vs).map fun p => ((Sum.inr p.1 : Key), p.2)) = xs ++ (ks.zip vs).map fun p => ((Sum.inr p.1 : Key), p.2) := by
          refine mergeK_nd _ _ (by rw [keys_map ks vs l]; exact inr_nd nd) fun u hu v hv z => hno ?_
          have um : u.1 ∈ ks.map (Sum.inr : Str → Key) := by rw [← keys_map ks vs l]; exact List.mem_map_of_mem hu
          obtain ⟨k, hk, ek⟩ := List.mem_map.mp um
          have vm : v.1 ∈ kvs.map (·.1) := by rw [← repK_keysE rk]; exact List.mem_map_of_mem hv
          obtain ⟨y, hy, ey⟩ := List.mem_map.mp vm
          rw [List.any_eq_true]
          refine ⟨k, hk, ?_⟩
          rw [List.any_eq_true]
          exact ⟨y, hy, decide_eq_true (by rw [ey, z, ← ek])⟩
        rw [mk2]
        have M := E2.mut q0 ea (RepO.dK (repK_app2 (rk.mono s.ff) (repK_keys ks r)))
        have pe : putO i (.dK (kvs ++ keyS ks ds)) ρ = ρ.set i (.own (.dK (kvs ++ keyS ks ds))) := by
          unfold putO
          rw [qi]
        rw [pe] at M
        exact w1 F1 _ _ s.ff M
      · exact w1.elim
  · exact w.elim
end
end Dn

set_option Elab.async false
set_option linter.all false
set_option maxRecDepth 100000
set_option maxHeartbeats 4000000
/-! DenXZ: xs[lo:hi] = ys for a list of one's own, any bounds -/
namespace Dn
open PySem PySem.Spec PyProof.Rows L2
open PySem.W (kms_lo kms_hi kms_bounds)
/-- the items behind xs[lo:hi] = ys -/
def spliceL {α : Type} (xs ys : List α) (lo hi : Option Int) : List α := xs.take (kms_lo lo xs.length) ++ ys ++ xs.drop (max (kms_lo lo xs.length) (kms_hi hi xs.length))
theorem splice_len {α : Type} (xs ys : List α) (lo hi : Option Int) : (spliceL xs ys lo hi).length ≤ xs.length + ys.length := by
  unfold spliceL
  rw [List.length_append, List.length_append, List.length_take, List.length_drop]
  omega
section
variable {prog : Program} {w : World} {A : Around} {E : Value → Shared → Prop} {s : Shared}
/-- list.__setitem__ for a slice of which the bounds are known -/
theorem store_slice {l b sl : Addr} {xs ys : Array Value} {n n2 : Nat} {vl vu : Value} {lo hi : Option Int} {a c : Nat} {Q : Unit → Shared → Prop}
    (h1 : s.heap.get? l = some { cls := .type "list", data := .seq xs n }) (h2 : s.heap.get? b = some { cls := .type "list", data := .seq ys n2 }) (ne : l ≠ b)
    (hs : s.heap.IsSliceOf sl vl vu .none) (pl : IsPart vl lo) (pu : IsPart vu hi) (bd : sliceBounds lo hi none xs.size = ((a : Int), (c : Int), 1))
    (hz : xs.size + ys.size ≤ sizeLine) (ha : a ≤ xs.size) (h : Q () { s with heap := s.heap.update l (Obj.mapSeq fun zs => zs.extract 0 a ++ ys ++ zs.extract (max a c) zs.size) }) :
    wpAny (model prog w) A (setItem (.ref l) (.ref sl) (.ref b)) Q E s := by
  have isl : s.heap.IsList l xs := PySem.IsL.isList h1
  have isb : s.heap.IsList b ys := PySem.IsL.isList h2
  have ts : s.TypeIs (.ref sl) "slice" := by
    obtain ⟨o, q, e, _⟩ := hs
    exact ⟨o, q, e⟩
  have other : Builtin.List.listSameRef (.ref l) (.ref b) = false := beq_eq_false_iff_ne.mpr ne
  have fits : ((fun zs : Array Value => zs.extract 0 a ++ ys ++ zs.extract (max a c) zs.size) xs).size ≤ sizeLine + 1 := by
    simp only [Array.size_append, Array.size_extract]
    omega
  obtain ⟨o, ho, ec, ed⟩ := hs
  unfold setItem
  try with_reducible refine wpAny_holding ?_
  first | refine wpAny_bind (wpAny_pure ?_) | skip
  refine wpAny_bind (wpAny_sequenceKey isl.typeIs (by decide) (wpAny_bind (wpAny_callSpecial?_slot (name := Str.ofString "__setitem__") isl.typeIs slot_list_setitem
    (wpAny_call_entry slot_list_setitem isl.typeIs entry_list_setitem ?_ (args_list_setitem _ _ _)))))
  show wpAny _ _ (Builtin.List.listSubscript? (.ref sl) >>= _) _ _ s
  refine wpAny_bind ?_
  unfold Builtin.List.listSubscript?
  refine wpAny_bind (wpAny_specialOf ts slice_no_index ?_)
  simp only [Option.isNone_none, if_true]
  refine wpAny_pure ?_
  show wpAny _ _ (typeOf (.ref sl) >>= _) _ _ s
  refine wpAny_bind (wpAny_typeOf ts ?_)
  first
    | rw [if_neg (by decide)]
    | refine PySem.W.KFB.if_not (by decide) ?_
  rw [listSliceParts_eq]
  refine wpAny_bind (wpAny_bind (wpAny_field ho ed (x := .none) rfl (wpAny_bind (wpAny_listPart .none ?_))))
  rw [if_neg (show ¬ ((rawPart none == rawInt 0) = true) from Bool.false_ne_true)]
  refine wpAny_bind (wpAny_field ho ed (x := vl) rfl (wpAny_bind (wpAny_listPart pl (wpAny_bind (wpAny_field ho ed (x := vu) rfl (wpAny_bind (wpAny_listPart pu (wpAny_pure ?_))))))))
  first
    | simp only [other, Bool.false_eq_true, if_false]
    | refine PySem.W.KFB.if_not other ?_
    | (dsimp only
       rw [if_neg (by rw [other]; exact Bool.false_ne_true)])
  refine wpAny_bind (m := Builtin.List.listAllItems (.ref b) "must assign iterable to extended slice") ?_
  unfold Builtin.List.listAllItems
  refine wpAny_bind (wpAny_typeOf isb.typeIs ?_)
  first
    | refine PySem.W.KFB.if_so (by decide) ?_
    | rw [if_pos (by decide)]
  unfold Builtin.List.listItems
  refine wpAny_bind (wpAny_seqItems h2 rfl (wpAny_pure (wpAny_bind (wpAny_bind (wpAny_seqItems h1 rfl (wpAny_pure ?_))))))
  refine wpAny_bind (wpAny_of_eq ((sliceIndices_raw lo hi none xs.size (by simp)).trans (congrArg (pure : Int × Int × Int → Sem (Int × Int × Int)) bd)) ?_)
  show wpAny _ _ (if ((1 : Int) == 1) = true then _ else _) _ _ s
  rw [if_pos (by decide)]
  refine wpAny_bind (wpAny_rule ?_)
  first
    | simp only [notLongL hz, Bool.false_eq_true, if_false]
    | refine PySem.W.KFB.if_not (notLongL hz) ?_
  first | refine wpAny_bind (wpAny_pure ?_) | skip
  show wpAny _ _ (updateSeq l (fun zs => zs.extract 0 ((a : Int)).toNat ++ ys ++ zs.extract (max (a : Int) (c : Int)).toNat zs.size) >>= _) _ _ s
  have em : (max (a : Int) (c : Int)).toNat = max a c := by omega
  rw [em, Int.toNat_natCast]
  refine wpAny_bind (wpAny_updateSeq (hz := Nat.le_trans (Nat.le_add_right _ _) hz) (_hz' := fits) h1 rfl (wpAny_bind (wpAny_letGo ?_)))
  first
    | exact wpAny_bind (wpAny_pure (wpAny_pure ⟨.none, rfl, wpAny_pure h⟩))
    | exact wpAny_pure ⟨.none, rfl, wpAny_pure h⟩
end
theorem lo_le (lo : Option Int) (n : Nat) : kms_lo lo n ≤ n := by
  cases lo with
  | none => exact Nat.zero_le _
  | some x =>
    show (if x < 0 then n - (-x).toNat else min x.toNat n) ≤ n
    split <;> omega
section
variable {X : Cx} {o v : Expr} {lo hi : Option Expr} {to te : TE} {tl th : TO} {pos p2 : Pos}
/-- the target o[lo:hi] -/
def gSl (to : TE) (tl th : TO) : TG := fun x σ H Q => to σ H fun y H1 => tl σ H1 fun lo H2 => th σ H2 fun hi H3 => ∃ a b xs ys, y = .ref a ∧ x = .ref b ∧ H3 a = some (.lst xs) ∧ H3 b = some (.lst ys) ∧ a ≠ b ∧ xs.length + ys.length ≤ sizeLine ∧
  Q σ (upd H3 a (.lst (spliceL xs ys lo hi)))
theorem splice_arr (xs ys : List Value) (a c : Nat) : xs.toArray.extract 0 a ++ ys.toArray ++ xs.toArray.extract c xs.toArray.size = (xs.take a ++ ys ++ xs.drop c).toArray := by
  apply Array.toList_inj.mp
  simp
  exact List.take_of_length_le (by simp)
theorem pg_sl (ho : PE X o to) (hl : PO X lo tl) (hu : PO X hi th)
    (ha : ∀ v, assign (.Subscript o (.Slice lo hi none p2) pos) X.env v = (do
      let ov ← holding [v] (eval o X.env)
      let iv ← holding [v, ov] (eval (.Slice lo hi none p2) X.env)
      standAt pos
      holding [v, ov, iv] (setItem ov iv v)
      release [iv, v, ov] []) := by intro _; rfl) : PG X (.Subscript o (.Slice lo hi none p2) pos) (gSl to tl th) := by
  refine ⟨fun pins s σ H v u Q I r h => ?_⟩
  rw [ha]
  refine wpAny_bind (wpAny_holding (thn (ho.run pins s σ H _ I h) fun ov s1 ⟨x, H1, I1, r1, q1⟩ => ?_))
  refine wpAny_bind (wpAny_holding ?_)
  refine wpAny_Slice (thn (hl.run pins s1 σ H1 _ I1 q1) fun vl s2 ⟨l, H2, I2, pl, q2⟩ => thn (hu.run pins s2 σ H2 _ I2 q2) fun vu s3 ⟨u', H3, I3, pu, q3⟩ => ?_)
  rw [evalPart_none]
  refine wpAny_pure ?_
  have I4 : Inv X pins σ H3 { s3 with heap := s3.heap.push { cls := .type "slice", data := .fields #[vl, vu, .none] } } := I3.kept (t' := s3.toks) fun b ob q => Heap.get?_push_of_some _ q
  obtain ⟨a, b, xs, ys, rfl, rfl, hx, hy, ne, hz, q⟩ := q3
  cases r1
  cases r
  refine wpAny_bind (wpAny_standAt (wpAny_bind (wpAny_holding ?_)))
  obtain ⟨z, its, n, rr, hl1, e⟩ := I4.lstM hx
  obtain ⟨z2, its2, n2, rr2, hl2, e2⟩ := I4.lstM hy
  refine store_slice e e2 ne (Heap.IsSliceOf.new ..) pl pu (kms_bounds l u' _) (by rw [List.size_toArray, List.size_toArray]; omega) (lo_le _ _) ?_
  refine wpAny_release ⟨σ, _, I4.lset (its' := its.take (kms_lo l its.length) ++ its2 ++ its.drop (max (kms_lo l its.length) (kms_hi u' its.length))) (t' := s3.toks) hx e ?_ ?_ ?_, q⟩
  · rw [List.size_toArray]
    exact splice_arr its its2 _ _
  · unfold spliceL
    rw [hl1]
    exact Vals.append (Vals.append (rr.take _) rr2) (rr.drop _)
  · exact Nat.le_trans (splice_len _ _ _ _) hz
end
section
variable {K : PySem.W.Frag} {L : Addr × Addr} {mg : Str → Option Value} {W : WX} {te : TE} {e : ME} {tl th : TO} {fl fh : Fr → M (Option Int)}
def asL : Dn.D → Option (List Dn.D)
  | .list es => some es
  | _ => none
/-- the items behind ds[lo:hi] = es, where they are not too many -/
def splD (ds es : List Dn.D) (lo hi : Option Int) : Option (List Dn.D) := if ds.length + es.length ≤ sizeLine then some (spliceL ds es lo hi) else none
/-- l[lo:hi] = a list, l in slot i -/
def sSl (i : Nat) (lo hi : Fr → M (Option Int)) (e : ME) : MS := fun ρ => Out.of (e ρ) ρ fun d => Out.ofO (ownAt i ρ) fun _ => Out.of (lo ρ) ρ fun l => Out.of (hi ρ) ρ fun h => Out.ofO (ownAt i ρ) fun ds => Out.ofO (asL d) fun es => Out.ofO (splD ds es l h) fun ds' => .nx (putL i ds' ρ)
theorem RepL.splice {F : Hp} {vs ws : List V} {ds es : List Dn.D} (r : RepL K F vs ds) (q : RepL K F ws es) (lo hi : Option Int) : RepL K F (spliceL vs ws lo hi) (spliceL ds es lo hi) := by
  unfold spliceL
  rw [r.length]
  exact ((r.take _).append q).append (r.drop _)
theorem ds_sl {i : Nat} (he : DF K L mg W te e) (hl : DO K L mg W tl fl) (hh : DO K L mg W th fh) : DS K L mg W (tAsg te (gSl (tVar i) tl th)) (sSl i fl fh e) := fun F0 H0 F H σ ρ D E w => by
  refine he F0 H0 F H σ ρ _ E (post_mono (WO.of E w) (fun d w1 F1 H1 v s r => ?_) fun _ z => z)
  have E1 := E.step s
  obtain ⟨ds, q, w2⟩ := WO.ofO w1
  have q := ownAt_eq q
  obtain ⟨l, ho, el, _⟩ := E1.ownv q
  refine ⟨_, el, ?_⟩
  refine hl F0 H0 F1 H1 σ ρ _ E1 (post_mono (WO.of E1 (WO.mono s.ff w2)) (fun lo w3 F2 H2 s2 => ?_) fun _ z => z)
  have E2 := E1.step s2
  refine hh F0 H0 F2 H2 σ ρ _ E2 (post_mono (WO.of E2 (WO.mono s2.ff w3)) (fun hi w4 F3 H3 s3 => ?_) fun _ z => z)
  have E3 := E2.step s3
  obtain ⟨ds', q3, w5⟩ := WO.ofO w4
  have q3 := ownAt_eq q3
  obtain ⟨l', ho', el', fl', _, hl', rl, _⟩ := E3.ownv q3
  rw [el] at el'
  cases el'
  obtain ⟨vs', rfl, rl'⟩ := rl.isl
  obtain ⟨es, q4, w6⟩ := WO.ofO w5
  unfold asL at q4
  split at q4
  · cases q4

    obtain ⟨b, ws, rfl, hb, rb⟩ : ∃ b ws, v = .ref b ∧ F3 b = some (.lst ws) ∧ RepL K F3 ws es := by
      have r3 := (r.mono s2.ff).mono s3.ff
      cases r3 with
      | lst a b => exact ⟨_, _, rfl, a, b⟩
    obtain ⟨ds2, q5, w7⟩ := WO.ofO w6
    unfold splD at q5
    split at q5
    · rename_i hz
      cases q5
      refine ⟨l, b, vs', ws, rfl, rfl, hl', E3.st.fh b _ hb, fun z => ?_, by rw [rl'.length, rb.length]; exact hz, ?_⟩
      · rw [z, hb] at fl'
        cases fl'
      · exact w7 F3 _ σ s3.ff (E3.mut q3 el (.lst (rl'.splice rb _ _)))
    · cases q5
  · cases q4
end
/-! ### for over a list that the caller owns, in a def that leaves it as it is -/
open Classical in
noncomputable def chkP (i : Nat) (ds : List D) : Out → Out
  | .nx ρ => if ρ[i]? = some (.pin (.lst ds)) then .nx ρ else .stuck
  | .ret d ρ => .ret d ρ
  | .exc n ρ => .exc n ρ
  | _ => .stuck
open Classical in
theorem chkP_nx {i : Nat} {ds : List D} {ρ : Fr} : chkP i ds (.nx ρ) = if ρ[i]? = some (.pin (.lst ds)) then .nx ρ else .stuck := rfl
noncomputable def sForPn (i : Nat) (tg : D → Fr → Option Fr) (g : MS) : MS := fun ρ => match ρ[i]? with
  | some (.pin (.lst ds)) => chkP i ds (loopFor (forP i ds tg g) ds ρ)
  | _ => .stuck
section
variable {K : PySem.W.Frag} {mg : Str → Option Value} {W : WX} {L : Addr × Addr} {F0 H0 F H F' H' : Hp} {σ : L2.St} {ρ : Fr} {l : Addr} {i : Nat} {ds : List D} {gg : TG} {tg : D → Fr → Option Fr} {is : List Nat} {t : TS} {g : MS}
theorem pin_ofP {D : Ends} {es : List Dn.D} (w : WO K mg W L F0 H0 F D (chkP i ds (loopFor (forP i ds tg g) es ρ))) : ρ[i]? = some (.pin (.lst ds)) := by
  refine Classical.byContradiction fun ne => ?_
  cases es with
  | nil =>
    have e : chkP i ds (loopFor (forP i ds tg g) [] ρ) = .stuck := if_neg ne
    rw [e] at w
    exact w.elim
  | cons d es =>
    unfold loopFor at w
    have e : forP i ds tg g d ρ = .stuck := if_neg ne
    rw [e] at w
    exact w.elim
theorem ds_forPn {i : Nat} (hg : DG K L gg tg is) (hb : DS K L mg W t g) : DS K L mg W (tFor (iSq K (tVar i)) gg t) (sForPn i tg g) := fun F0 H0 F H σ ρ D E w => by
  unfold sForPn at w
  split at w
  · rename_i ds ho
    obtain ⟨l, hho, e, f, h0, hl, r, _⟩ := E.ownv (o := .lst ds) (by rw [ho]; rfl)
    have el := ‹∀ o', ρ[i]? = some (.pin o') → l = L.1› _ ho
    obtain ⟨vs, rfl, r'⟩ := r.isl
    refine ⟨_, e, _, _, rfl, .inl ⟨.of hl, ?_⟩⟩
    subst el
    have std : ∀ {F1 H1 : Hp} {σ1 : L2.St} {ρ1 : Fr}, Env K L F0 H0 F1 H1 σ1 ρ1 → ρ1[i]? = some (.pin (.lst ds)) → ∃ xs, H1 L.1 = some (.lst xs) ∧ RepL K F1 xs ds := fun {F1 H1 σ1 ρ1} E2 hp => by
      obtain ⟨_, _, _, ho, h1, h2⟩ := E2.sl i _ hp
      obtain ⟨xs, rfl, h3⟩ := h2.isl
      exact ⟨xs, h1, h3⟩
    refine for_it (walk_own (K := K) (l := L.1) (n := ds.length)) (fun j σ H => ∃ F1 ρ1, Ex F F1 ∧ Env K L F0 H0 F1 H σ ρ1 ∧ WO K mg W L F0 H0 F1 D (chkP i ds (loopFor (forP i ds tg g) (ds.drop j) ρ1)))
      ⟨F, _, Ex.refl _, E, by rw [List.drop_zero]; exact w⟩ ?_ ?_ ?_
    · rintro j σ2 H2 _ ⟨F2, ρ2, e2, E2, w2⟩
      obtain ⟨xs, h1, h2⟩ := std E2 (pin_ofP w2)
      exact ⟨xs, .of h1, h2.length⟩
    · rintro j x σ2 H2 H3 hlt ⟨F2, ρ2, e2, E2, w2⟩ ⟨rfl, y⟩
      have hp := pin_ofP w2
      obtain ⟨xs, h1, h2⟩ := std E2 hp
      obtain ⟨d, hd, r3⟩ := h2.get (y xs (.of h1))
      have ed : ds.drop j = d :: ds.drop (j + 1) := by
        obtain ⟨h1, h2⟩ := List.getElem?_eq_some_iff.mp hd
        rw [List.drop_eq_getElem_cons h1, h2]
      rw [ed] at w2
      unfold loopFor at w2
      have ef : forP i ds tg g d ρ2 = forB tg g d ρ2 := if_pos hp
      rw [ef] at w2
      unfold forB at w2
      cases q : tg d ρ2 with
      | none => rw [q] at w2; exact w2.elim
      | some ρ3 =>
        rw [q] at w2
        refine hg F0 H0 F2 H3 σ2 ρ2 x d _ ρ3 E2 r3 q fun σ3 E3 _ => ?_
        refine hb F0 H0 F2 H3 σ3 ρ3 _ E3 ?_
        have w4 : WO K mg W L F0 H0 F2 D (chkP i ds (match g ρ3 with
          | .nx ρ' => loopFor (forP i ds tg g) (ds.drop (j + 1)) ρ'
          | .cont ρ' => loopFor (forP i ds tg g) (ds.drop (j + 1)) ρ'
          | .brk ρ' => .nx ρ'
          | o => o)) := w2
        cases qq : g ρ3 with
        | nx ρ4 => rw [qq] at w4; exact fun F4 H4 σ4 e4 E4 => ⟨F4, ρ4, e2.trans e4, E4, WO.mono e4 w4⟩
        | cont ρ4 => rw [qq] at w4; exact fun F4 H4 σ4 e4 E4 => ⟨F4, ρ4, e2.trans e4, E4, WO.mono e4 w4⟩
        | brk ρ4 =>
          rw [qq] at w4
          have hp4 : ρ4[i]? = some (.pin (.lst ds)) := pin_ofP (tg := tg) (g := g) (es := []) w4
          rw [chkP_nx, if_pos hp4] at w4
          exact w4
        | ret d ρ4 => rw [qq] at w4; exact w4
        | retL ds ρ => rw [qq] at w4; exact w4.elim
        | exc n ρ4 => rw [qq] at w4; exact w4
        | stuck => rw [qq] at w4; exact w4.elim
    · rintro σ2 H2 ⟨F2, ρ2, e2, E2, w2⟩
      have hp := pin_ofP w2
      rw [List.drop_length] at w2
      rw [show loopFor (forP i ds tg g) [] ρ2 = .nx ρ2 from rfl, chkP_nx, if_pos hp] at w2
      exact w2 F2 H2 σ2 (Ex.refl _) E2
  · exact w.elim
end
theorem forPn_nx {i : Nat} {tg : D → Fr → Option Fr} {g : MS} {ρ ρ' : Fr} {ds : List D} (h : ρ[i]? = some (.pin (.lst ds))) (lp : loopFor (forP i ds tg g) ds ρ = .nx ρ') (h' : ρ'[i]? = some (.pin (.lst ds))) : sForPn i tg g ρ = .nx ρ' := by
  unfold sForPn
  rw [h]
  show chkP i ds _ = _
  rw [lp, chkP_nx, if_pos h']
end Dn

set_option Elab.async false
set_option linter.all false
set_option maxRecDepth 100000
set_option maxHeartbeats 4000000
/-! DenYA: an exception leaves a list comprehension (out of a call in its element) -/
namespace L2
open PySem PySem.Spec PyProof.Rows
/-- a block's context in which an exception goes on to the def's own -/
abbrev Cx.blkX (X : Cx) (s : Shared) (H : Hp) (scope : Scope) (cenv : Env) (fp : List Addr) : Cx := { X.blk s H scope cenv fp with xe := notedBy (model X.prog X.w) X.A cenv (CompFails (model X.prog X.w) X.A X.xe cenv) }
theorem Inv.toX {X : Cx} {pins : List (Addr × Obj)} {σ : St} {H : Hp} {s : Shared} (I : Inv X pins σ H s) (E : Value → Shared → Prop) : Inv { X with xe := E } pins σ H s :=
  ⟨⟨I.ok.mod, I.ok.kind, I.ok.glob, I.ok.blt, I.ok.above, I.ok.inj, I.ok.has, I.ok.cab, I.ok.hd, I.ok.frames, I.ok.stk, I.ok.exf, I.ok.bs, I.ok.bsz, I.ok.noex, I.ok.exfs, I.ok.funs, I.ok.frf⟩, I.os, I.bare, I.base, I.loc, I.cell, I.free, I.freeC, I.pin, I.hok, I.len⟩
/-- the context's exceptions do not ask how the names stand -/
def Still (W : WX) : Prop := ∀ c d σ σ' H, W c d σ H → W c d σ' H
theorem ff_less {B B' : Heap} (hB : ∀ b o, B'.get? b = some o → B.get? b = some o) {h : Heap} {l : List Env} (ff : h.FunFrames B l) : h.FunFrames B' l := by
  induction l with
  | nil => trivial
  | cons env l ih =>
    obtain ⟨h1, ⟨L, o, hf, hn, ho, hd⟩, h3⟩ := ff
    refine ⟨h1, ⟨L, o, hf, ?_, ho, hd⟩, ih h3⟩
    cases q : B'.get? L with
    | none => rfl
    | some o' => rw [hB L o' q] at hn; cases hn
theorem pass_blk {X : Cx} {W : WX} {pins : List (Addr × Obj)} {σ : St} {H3 : Hp} {s3 : Shared} {scope : Scope} {ce : Env} {fp : List Addr} (tk : Takes X W) (still : Still W) (I : Inv X pins σ H3 s3) (hs : X.stack = X.env :: X.outer) (hf : X.env.frame = some X.env.locals)
    (cf : ce.frame = X.env.frame) (cl : ce.locals = s3.heap.objs.size) (hfp : ∀ b ∈ fp, FpOk X pins H3 b) (σ' : St) : PassesAt (L2.CX X.prog X.w) (X.blkX s3 H3 scope ce fp) σ' (WE W σ') := by
  intro pins' H' s4 e s5 I4 c
  obtain ⟨a, B, H'', cls, d, rfl, fl, hok, ub, na, os, ag, hE⟩ := c
  have fl : HandSPX.FlyingZ B X.stack a (Zc cls d) s5.heap := fl
  obtain ⟨st, hen, ff, oe, vs, T, oT, tv, he, hz, hd, h1, hnT, hTe, hT, hdT, h3⟩ := fl
  have below : ∀ {b : Addr} {o : Obj}, s3.heap.get? b = some o → b ≠ ce.locals := fun {b o} q => by
    rw [cl]; exact Nat.ne_of_lt (Heap.lt_size q)
  have cfr : ce.locals ∉ frs X.stack := fun z => by
    rcases List.mem_cons.mp (I.stkSub _ z) with q | q
    · have := I.lt
      rw [← q, cl] at this
      exact Nat.lt_irrefl _ this
    · exact I.nofs (Nat.le_of_eq cl.symm) q
  have C0 : H' ce.locals = none := I4.free
  obtain ⟨m, ⟨oC, es, ep, hC, dC, rC⟩, _⟩ := I4.loc
  have hC : s4.heap.get? ce.locals = some oC := hC
  have BC : B.get? ce.locals = some oC := ub.keep _ _ hC C0 cfr
  have nC : H'' ce.locals = none := ub.free _ _ hC C0
  obtain ⟨B', b1, b2⟩ := restrict B fun b => !(b == ce.locals)
  have bsub : ∀ b o, B'.get? b = some o → B.get? b = some o := fun b o q => by
    by_cases z : b = ce.locals
    · rw [b2 b (by simp [z])] at q; cases q
    · rw [← b1 b (by simp [z])]; exact q
  have bin : ∀ b o, b ≠ ce.locals → B.get? b = some o → B'.get? b = some o := fun b o z q => by rw [b1 b (by simp [z])]; exact q
  have bno : ∀ {b}, B.get? b = none → B'.get? b = none := fun {b} q => by
    cases z : B'.get? b with
    | none => rfl
    | some o => rw [bsub b o z] at q; cases q
  have fB : HandSPX.FlyingZ B' (X.env :: X.outer) a (Zc cls d) s5.heap :=
    ⟨fun b o q => st b o (bsub b o q), bno hen, ff_less bsub (hs ▸ ff), oe, vs, T, oT, tv, he, hz, hd, h1, bno hnT, hTe, hT, hdT, h3⟩
  show wpAny _ _ (noteFrame (.ref a) ce) _ _ s5
  rw [noteFrame_env _ cf]
  refine HandSPX.looks_onZ Zc.steady (by rw [I.ok.frames, hs]) hf fB fun h1' hH1 up1 => ?_
  obtain ⟨slC, C1⟩ := up1 _ _ (st _ _ BC) fun us e => by rw [dC] at e; cases e
  refine ⟨m, ⟨_, es, ep, C1, dC, rC⟩, fun h2 m2 hn2 sb => ?_⟩
  obtain ⟨st1, hen1, ff1, oe1, vs1, T1, oT1, tv1, he1, hz1, hd1, h11, hnT1, hTe1, hT1, hdT1, h31⟩ := hH1
  have neC : ∀ {b : Addr} {o : Obj} {us : Array Value}, h1'.get? b = some o → o.data = .fields us → b ≠ ce.locals := fun {b o us} q e z => by
    rw [z, C1] at q
    cases q
    rw [dC] at e
    cases e
  have he2 : h2.get? a = some oe1 := (sb.2 a (neC he1 hd1)).trans he1
  have hH2 : HandSPX.HeldZ B' (X.env :: X.outer) a (Zc cls d) X.env.locals h2 :=
    ⟨fun b o q => (sb.2 b fun z => by rw [z, b2 _ (by simp)] at q; cases q).trans (st1 b o q), hen1, Heap.FunFrames.sameBut sb hn2 ff1, oe1, vs1, T1, oT1, tv1, he2, hz1, hd1, h11, hnT1, hTe1, (sb.2 T1 (neC hT1 hdT1)).trans hT1, hdT1, h31⟩
  unfold PySem.passOn
  refine wpAny_bind (wpAny_field he2 hd1 h11 ?_)
  rw [if_neg (show ¬ ((Value.ref T1 == Value.none) = true) from by simp), cf, hf]
  refine wpAny_bind (HandSPX.setFlight_onZ hH2 fun h' hH up2 => ?_)
  refine wpAny_throw ?_
  have hk : ∀ b o, s5.heap.get? b = some o → b ≠ ce.locals → (∀ vs, o.data ≠ .fields vs) → ∃ sl, h'.get? b = some { o with slots := sl } := fun b o q z nf => by
    obtain ⟨sl, e1⟩ := up1 b o q nf
    exact up2 b { o with slots := sl } ((sb.2 b z).trans e1) nf
  obtain ⟨st', hen', ff', oe', vs', T', oT', tv', he', hz', hd', h1', hnT', hTe', hT', hdT', h3'⟩ := hH
  obtain ⟨G, g1, g2⟩ := restrict h' fun b => (B'.get? b).isSome || decide (b ∈ frs X.stack)
  have gB : ∀ b o, B'.get? b = some o → G.get? b = some o := fun b o q => by rw [g1 b (by simp [q])]; exact st' b o q
  have gF : ∀ b, b ∈ frs X.stack → G.get? b = h'.get? b := fun b hb => g1 b (by simp [hb])
  have og : ∀ b o, G.get? b = some o → h'.get? b = some o ∧ ((B'.get? b).isSome = true ∨ b ∈ frs X.stack) := fun b o q => by
    cases z : ((B'.get? b).isSome || decide (b ∈ frs X.stack)) with
    | false => rw [g2 b z] at q; cases q
    | true =>
      rw [g1 b z] at q
      exact ⟨q, by simpa [Bool.or_eq_true] using z⟩
  have bs := I4.base
  have bs : Un (frs X.stack) fp H3 H' s3.heap s4.heap := bs
  have slotG : ∀ {b : Addr} {o : Obj}, s3.heap.get? b = some o → b ∈ frs X.stack → ∃ sl, G.get? b = some { o with slots := sl } := fun {b o} q hb => by
    have hx : b ∉ fp := fun z => by
      rcases List.mem_cons.mp (I.stkSub b hb) with y | y
      · exact (hfp b z).2.1 y
      · exact (hfp b z).2.2.1 y
    obtain ⟨sl, e1⟩ := bs.slot b o q (I.stkFree b hb) hb hx
    obtain ⟨sl2, e2⟩ := ub.slot b _ e1 hb
    obtain ⟨_, o3, e3, nf⟩ := I.stack.mem hb
    rw [q] at e3
    cases e3
    obtain ⟨sl3, e4⟩ := hk b _ e2 (below q) nf
    exact ⟨sl3, by rw [gF b hb]; exact e4⟩
  refine tk (.ref a) _ ⟨a, B', { s3 with heap := G, gens := s5.gens, drawn := s5.drawn, toks := s5.toks }, pins, σ, H'', cls, d, rfl, ?_, fun b o q hb => ?_, Heap.UpToSlots.of_keeps fun b o q => (og b o q).1, .inr (.inr ?_), na, ?_, ag, still _ _ _ _ _ hE⟩
  · refine I.call (ch := fp) ⟨fun b o q n hb hx => ?_, fun b o q n hb hx => slotG q hb, fun b o q n hx => ?_, fun b o q hx => ?_, fun b xs q => ub.tups b xs (bs.tups b xs q), fun b o u q => ub.frzs b o u (bs.frzs b o u q), fun b ps q => ?_⟩
      (fun b o q => (hok b o q).stay (fun c u hc z => ?_) (fun _ z => z) fun _ _ z => z) ag (fun b hb => ⟨(hfp b hb).2.2.2.1, (hfp b hb).2.1, (hfp b hb).2.2.2.2.1, (hfp b hb).2.2.2.2.2⟩)
    · exact gB b o (bin b o (below q) (ub.keep b o (bs.keep b o q n hb hx) (bs.free b o q n hx) hb))
    · obtain ⟨o', e1⟩ := bs.there b o q hx
      exact ub.free b o' e1 (bs.free b o q n hx)
    · by_cases hb : b ∈ frs X.stack
      · obtain ⟨sl, e1⟩ := slotG q hb
        exact ⟨_, e1⟩
      · obtain ⟨o', e1⟩ := bs.there b o q hx
        obtain ⟨o2, e2⟩ := ub.there b o' e1 hb
        exact ⟨o2, gB b o2 (bin b o2 (below q) e2)⟩
    · obtain ⟨m1, e1⟩ := bs.tbls b ps q
      obtain ⟨m2, e2⟩ := ub.tbls b _ e1
      exact ⟨m1 ++ m2, by rw [e2, Array.append_assoc]⟩
    · refine gB c u (bin c u (fun y => ?_) z)
      rcases hc with hc | hc
      · rw [← hc, y, nC] at q; cases q
      · rw [y, nC] at hc; cases hc
  · obtain ⟨q1, q2⟩ := og b o q
    rcases q2 with q2 | q2
    · obtain ⟨o', z⟩ := Option.isSome_iff_exists.mp q2
      have y := st' b o' z
      rw [q1] at y
      cases y
      exact z
    · exact absurd q2 hb
  · exact ⟨st', hen', hs ▸ ff', oe', vs', T', oT', tv', he', hz', hd', h1', hnT', hTe', hT', hdT', h3'⟩
  · show s5.os = s3.os
    rw [os, I4.os]
section
variable {X : Cx} {W : WX}
/-- a list comprehension of which the element may let an exception out -/
theorem lcX_run {pins : List (Addr × Obj)} {s : Shared} {σ : St} {H : Hp} {Q : VK} {elt tg iter : Expr} {ifs : List Expr} {scope : Scope} {own : List (Str × Nat)} {pos pos' : Pos} {wi : TI} {g : TG} {tt : TT} {te : TE} {use : Option (Value → Sem Unit)} {Qf : Value → Shared → Prop}
    (calm : X.calm = true) (nd : X.N.Nodup) (I : Inv X pins σ H s) (hi : PI X tg iter wi) (ok : BlkOk X.N X.env.scope scope own) (tk : Takes X W) (still : Still W) (hst : X.stack = X.env :: X.outer) (hfr : X.env.frame = some X.env.locals)
    (hg : ∀ (s : Shared) (H : Hp) (C : Addr) (cl : List (Str × Addr)) (fp : List Addr), PG (X.blkX s H scope (compEnvC scope cl C X.env) fp) tg g) (ht : ∀ (s : Shared) (H : Hp) (C : Addr) (cl : List (Str × Addr)) (fp : List Addr), PTs (X.blkX s H scope (compEnvC scope cl C X.env) fp) ifs tt)
    (he : ∀ (s : Shared) (H : Hp) (C : Addr) (cl : List (Str × Addr)) (fp : List Addr), (∀ σ', PassesAt (L2.CX X.prog X.w) (X.blkX s H scope (compEnvC scope cl C X.env) fp) σ' (WE W σ')) → PE (X.blkX s H scope (compEnvC scope cl C X.env) fp) elt te)
    (fold : ∀ x, foldedSetIterable iter X.env x = pure x) (h : tLc wi g tt te (own.map (·.2)) σ H Q)
    (fin : ∀ D (ce : Env) s' m H', Inv X pins σ H' s' → Q (.ref D) H' → s'.heap.Ns ce.locals m → FpOk X pins H' ce.locals → compEnds (model X.prog X.w) X.A X.xe use Qf (.ref D) ce (.ok .next) s') :
    wpAny (model X.prog X.w) X.A (comprehension (.ListComp elt [⟨tg, iter, ifs, 0⟩] scope pos) scope X.env pos' (newList []) false (eval iter X.env) use) Qf X.xe s := by
  have free : ∀ y ∈ scope.names, y.2 = .free → ∃ c, X.env.cells.lookup y.1 = some c := fun y hy e => (ok.free y hy e).elim (fun k => I.ok.has _ (.inl k)) fun k => I.ok.has _ (.inr k)
  refine comprehension_at (use := use) rfl fold (closure_ok free) ok.kind (fun y hy e => by rw [ok.uniq y hy, e]) (thn (hi.run pins s σ H _ I h) fun xv s1 hx => thn hx fun itv s2 ⟨it, fp, tn, J, H2, e, I2, T, at0, f2, q⟩ => ?_)
  subst e
  refine wpAny_newObj_type (newEnv_comp ?_) (by show 0 ≤ sizeLine; decide)
  -- the new list stands at L
  obtain ⟨L, hL⟩ : ∃ L, L = s2.heap.objs.size := ⟨_, rfl⟩
  rw [← hL]
  obtain ⟨Wm, ⟨m0, w0⟩, turn⟩ := q L (I2.hok.fresh (Nat.le_of_eq hL.symm))
  obtain ⟨s3, hs3⟩ : ∃ s3 : Shared, s3 = { s2 with heap := s2.heap.push { cls := .type "list", data := .seq ([] : List Value).toArray } } := ⟨_, rfl⟩
  rw [← hs3]
  have h3 : s3.heap = s2.heap.push { cls := .type "list", data := .seq ([] : List Value).toArray } := by rw [hs3]
  have kept3 : ∀ b o, s2.heap.get? b = some o → s3.heap.get? b = some o := fun b o e => by rw [h3]; exact Heap.get?_push_of_some _ e
  have I3 : Inv X pins σ (upd H2 L (.lst [])) s3 := by
    rw [hs3]
    exact I2.laid (t' := s2.toks) (fun b o e => Heap.get?_push_of_some _ e) (Nat.le_of_eq hL.symm) ⟨Nat.zero_le _, [], 0, .nil, by rw [hL]; exact Heap.get?_push_size _ rfl⟩
  have f3 : ∀ b ∈ fp, FpOk X pins (upd H2 L (.lst [])) b ∧ b < s3.heap.objs.size := fun b hb => by
    obtain ⟨o, e, _⟩ := T.obj _ _ at0 b hb
    have lt := Heap.lt_size e
    exact ⟨⟨by rw [upd_ne (by rw [hL]; exact Nat.ne_of_lt lt)]; exact (f2 b hb).1, (f2 b hb).2⟩, by rw [h3, Heap.size_push]; exact Nat.lt_succ_of_lt lt⟩
  have at3 : tn 0 s3.heap := T.keep _ _ _ at0 fun b _ o e => kept3 b o e
  have I4 := (block_start I3 ok nd f3).toX (notedBy (model X.prog X.w) X.A (compEnvC scope (cellsFrom (s3.heap.objs.size + 1) scope.names (cloFrom X.env.cells scope.names [])) s3.heap.objs.size X.env)
    (CompFails (model X.prog X.w) X.A X.xe (compEnvC scope (cellsFrom (s3.heap.objs.size + 1) scope.names (cloFrom X.env.cells scope.names [])) s3.heap.objs.size X.env)))
  have G := hg s3 (upd H2 L (.lst [])) s3.heap.objs.size (cellsFrom (s3.heap.objs.size + 1) scope.names (cloFrom X.env.cells scope.names [])) fp
  have Ts := ht s3 (upd H2 L (.lst [])) s3.heap.objs.size (cellsFrom (s3.heap.objs.size + 1) scope.names (cloFrom X.env.cells scope.names [])) fp
  have El := he s3 (upd H2 L (.lst [])) s3.heap.objs.size (cellsFrom (s3.heap.objs.size + 1) scope.names (cloFrom X.env.cells scope.names [])) fp fun σ' => pass_blk (ce := compEnvC scope (cellsFrom (s3.heap.objs.size + 1) scope.names (cloFrom X.env.cells scope.names [])) s3.heap.objs.size X.env) tk still I3 hst hfr rfl rfl (fun b hb => (f3 b hb).1) σ'
  show codeAny _ _ (.compStart (.ListComp elt [⟨tg, iter, ifs, 0⟩] scope pos) 0 (.ref it) (.ref L) (compEnvC scope (cellsFrom (s3.heap.objs.size + 1) scope.names (cloFrom X.env.cells scope.names [])) s3.heap.objs.size X.env))
    (compEnds (model X.prog X.w) X.A X.xe use Qf (.ref L) (compEnvC scope (cellsFrom (s3.heap.objs.size + 1) scope.names (cloFrom X.env.cells scope.names [])) s3.heap.objs.size X.env)) { s3 with heap := pushCells (s3.heap.push { cls := .type "dict", data := .dict #[] }) scope.names }
  generalize hce : compEnvC scope (cellsFrom (s3.heap.objs.size + 1) scope.names (cloFrom X.env.cells scope.names [])) s3.heap.objs.size X.env = ce at I4 G Ts El ⊢
  have cL : ce.locals = s3.heap.objs.size := by rw [← hce]; rfl
  generalize hB : upd H2 L (.lst []) = HB at I3 I4 G Ts El w0 f3
  generalize hs4 : ({ s3 with heap := pushCells (s3.heap.push { cls := .type "dict", data := .dict #[] }) scope.names } : Shared) = s4 at I4 ⊢
  have at4 : tn 0 s4.heap := T.keep _ _ _ at3 fun b _ o e => by rw [← hs4]; exact pushCells_keeps _ _ _ _ (Heap.get?_push_of_some _ e)
  have rcd : ∀ {σ' : St} {H' : Hp} {s' : Shared}, Inv (X.blkX s3 HB scope ce fp) [] σ' H' s' → (∀ b ∈ fp, H' b = none) → ∀ b ∈ fp, FpOk (X.blkX s3 HB scope ce fp) [] H' b := fun {σ' H' s'} I' no b hb =>
    ⟨no b hb, (I'.ok.exf b hb).1, I'.ok.exfs b hb, .inl hb, fun x c e => (I'.ok.exf b hb).2 x c e, fun p hp => absurd (show p ∈ ([] : List (Addr × Obj)) ++ [] from hp) (by simp)⟩
  have loop : codeAny (model X.prog X.w) X.A (.compLoop (.ListComp elt [⟨tg, iter, ifs, 0⟩] scope pos) 0 (.ref it) (.ref L) ce) (compEnds (model X.prog X.w) X.A X.xe use Qf (.ref L) ce) s4 := by
    refine compLoop_any (fun n s' => ∃ i H', Inv (X.blkX s3 HB scope ce fp) [] (wipe σ (own.map (·.2))) H' s' ∧ tn i s'.heap ∧ (∀ b ∈ fp, H' b = none) ∧ Wm i n H') ?_ m0 ⟨0, HB, I4, at4, fun b hb => (f3 b hb).1.1, w0⟩
    rintro n s5 ⟨i, H5, I5, at5, n5, w5⟩
    have errE : ∀ {α : Type} {t : Sem α} {R R' : α → Shared → Prop} {s' : Shared}, wpAny (model X.prog X.w) X.A t R (X.blkX s3 HB scope ce fp).xe s' → (∀ a s'', R a s'' → R' a s'') → wpAny (model X.prog X.w) X.A t R' (notedBy (model X.prog X.w) X.A ce fun e s' => compEnds (model X.prog X.w) X.A X.xe use Qf (.ref L) ce (.error e) s') s' := fun hw hR =>
      wpAny_mono hw hR fun x s'' z => wpAny_mono z (fun _ s3' y => by cases use <;> exact y) fun _ _ y => by cases use <;> exact y
    rcases turn i n H5 w5 with ⟨stop, qq⟩ | ⟨go, Nx, less, step⟩
    · refine thnF (T.done (X.blkX s3 HB scope ce fp) rfl rfl rfl calm i [] s5 _ H5 (fun _ _ => False) I5 (rcd I5 n5) at5 stop) fun r s6 ⟨hr, I6⟩ => ?_
      subst hr
      have back : Inv X pins σ H5 s6 := I3.call' (ch := fp) I6.os I6.base I6.hok I6.bare fun b hb => ⟨(f3 b hb).1.2.2.2.1, (f3 b hb).1.2.1, (f3 b hb).1.2.2.2.2.1, (f3 b hb).1.2.2.2.2.2⟩
      have gone : H5 ce.locals = none := I6.free
      obtain ⟨m, hn, _⟩ := I6.loc
      exact fin L ce s6 m H5 back qq hn (by rw [cL] at gone ⊢; exact I3.fpOk (Nat.le_refl _) gone)
    · refine thnF (T.item (X.blkX s3 HB scope ce fp) rfl rfl rfl calm i [] s5 _ H5 (fun _ _ => False) I5 (rcd I5 n5) at5 go) fun r s6 ⟨u, hr, h6⟩ => ?_
      subst hr
      refine thnF h6 fun _ s7 ⟨x, H7, I7, r7, y7, at7, n7⟩ => ?_
      have I7' := I7.pinned (rcd I7 n7) (T.obj _ _ at7)
      refine errE (G.run _ s7 _ H7 x u _ I7' r7 (step x H7 y7)) fun _ s8 ⟨σ8, H8, I8, hw8, q8⟩ => ?_
      refine errE (Ts.run _ s8 σ8 H8 _ I8 q8) fun b s9 ⟨H9, I9, q9⟩ => ?_
      have again : ∀ {s' : Shared} {H' : Hp}, Inv (X.blkX s3 HB scope ce fp) ([] ++ pinsAt fp s7.heap) σ8 H' s' → Nx H' → ∃ m, m < n ∧ ∃ i H', Inv (X.blkX s3 HB scope ce fp) [] (wipe σ (own.map (·.2))) H' s' ∧ tn i s'.heap ∧ (∀ b ∈ fp, H' b = none) ∧ Wm i m H' := fun {s' H'} I' nx => by
        obtain ⟨m', hm, w'⟩ := less H' nx
        have pin : ∀ b ∈ fp, ∀ o, s7.heap.get? b = some o → s'.heap.get? b = some o ∧ H' b = none := fun b hb o e =>
          let z := I'.pin (b, o) (List.mem_append_right _ (List.mem_append_right _ (mem_pinsAt hb e)))
          ⟨z.1, z.2.1⟩
        refine ⟨m', hm, i + 1, H', I'.unpinned.weak (by rw [← hw8, wipe_length]) (fun j v e => by rw [← hw8] at e; exact (wipe_some e).1), T.keep _ _ _ at7 fun b hb o e => (pin b hb o e).1, fun b hb => ?_, w'⟩
        obtain ⟨o, e, _⟩ := T.obj _ _ at7 b hb
        exact (pin b hb o e).2
      cases b with
      | false =>
        simp only [Bool.false_eq_true, if_false] at q9 ⊢
        exact again I9 q9
      | true =>
        simp only [if_true] at q9 ⊢
        refine errE (El.run _ s9 σ8 H9 _ I9 q9) fun z s10 ⟨yv, H10, I10, r10, acc, hL10, hz10, nx⟩ => ?_
        exact app_ok (X := X.blkX s3 HB scope ce fp) I10 hL10 hz10 r10 fun s11 I11 => again I11 nx
  exact codeAny_compStart_list loop (T.self X.A 0 _ _ _ at4 loop)
end
section
variable {X : Cx} {W : WX}
/-- .. as a value -/
theorem pe_lcX {elt tg iter : Expr} {ifs : List Expr} {scope : Scope} {own : List (Str × Nat)} {pos : Pos} {wi : TI} {g : TG} {tt : TT} {te : TE} (calm : X.calm = true) (nd : X.N.Nodup) (tk : Takes X W) (still : Still W) (hst : X.stack = X.env :: X.outer) (hfr : X.env.frame = some X.env.locals)
    (hi : PI X tg iter wi) (ok : BlkOk X.N X.env.scope scope own)
    (hg : ∀ (s : Shared) (H : Hp) (C : Addr) (cl : List (Str × Addr)) (fp : List Addr), PG (X.blkX s H scope (compEnvC scope cl C X.env) fp) tg g) (ht : ∀ (s : Shared) (H : Hp) (C : Addr) (cl : List (Str × Addr)) (fp : List Addr), PTs (X.blkX s H scope (compEnvC scope cl C X.env) fp) ifs tt)
    (he : ∀ (s : Shared) (H : Hp) (C : Addr) (cl : List (Str × Addr)) (fp : List Addr), (∀ σ', PassesAt (L2.CX X.prog X.w) (X.blkX s H scope (compEnvC scope cl C X.env) fp) σ' (WE W σ')) → PE (X.blkX s H scope (compEnvC scope cl C X.env) fp) elt te)
    (fold : ∀ x, foldedSetIterable iter X.env x = pure x := by intro _; rfl) : PE X (.ListComp elt [⟨tg, iter, ifs, 0⟩] scope pos) (tLc wi g tt te (own.map (·.2))) := by
  refine ⟨fun pins s σ H Q I h => ?_⟩
  rw [eval_ListComp]
  refine lcX_run calm nd I hi ok tk still hst hfr hg ht he fold h fun D ce s' m H' I' q hn f => ⟨m, hn, fun h'' sb => ?_⟩
  obtain ⟨f0, f1, f2, f3, f4, f5⟩ := f
  exact ⟨.ref D, H', I'.turned (t' := s'.toks) (fun b o hb e => (sb.2 b hb).trans e) f0 f1 f3 f4 f5, rfl, q⟩
/-- .. a local takes it -/
theorem ps_setLcX {i : Nat} {y : Str} {py : Pos} {elt tg iter : Expr} {ifs : List Expr} {scope : Scope} {own : List (Str × Nat)} {pos spos : Pos} {wi : TI} {g : TG} {tt : TT} {te : TE} (calm : X.calm = true) (nd : X.N.Nodup) (tk : Takes X W) (still : Still W) (hst : X.stack = X.env :: X.outer) (hfr : X.env.frame = some X.env.locals)
    (hy : X.N[i]? = some y) (hyl : X.env.scope.names.lookup y = some .local) (hsw : swapsWith (.ListComp elt [⟨tg, iter, ifs, 0⟩] scope pos) (some (.Name y py)) spos.line X.env = pure true) (hi : PI X tg iter wi) (ok : BlkOk X.N X.env.scope scope own)
    (hg : ∀ (s : Shared) (H : Hp) (C : Addr) (cl : List (Str × Addr)) (fp : List Addr), PG (X.blkX s H scope (compEnvC scope cl C X.env) fp) tg g) (ht : ∀ (s : Shared) (H : Hp) (C : Addr) (cl : List (Str × Addr)) (fp : List Addr), PTs (X.blkX s H scope (compEnvC scope cl C X.env) fp) ifs tt)
    (he : ∀ (s : Shared) (H : Hp) (C : Addr) (cl : List (Str × Addr)) (fp : List Addr), (∀ σ', PassesAt (L2.CX X.prog X.w) (X.blkX s H scope (compEnvC scope cl C X.env) fp) σ' (WE W σ')) → PE (X.blkX s H scope (compEnvC scope cl C X.env) fp) elt te)
    (fold : ∀ x, foldedSetIterable iter X.env x = pure x := by intro _; rfl) : PS X (.Assign [.Name y py] (.ListComp elt [⟨tg, iter, ifs, 0⟩] scope pos) spos) (tAsg (tLc wi g tt te (own.map (·.2))) (gName i)) := by
  refine ⟨fun pins s σ H D I h => ?_⟩
  rw [exec_Assign_Name_used _ _ _ _ hsw]
  refine wpAny_bind (wpAny_standAt (wpAny_bind ?_))
  have h : tLc wi g tt te (own.map (·.2)) σ H (fun x H1 => gName i x σ H1 D.nx) := h
  refine wpAny_bind (thn (lcX_run (Qf := fun _ s' => SP X pins D .next s') (use := some (assign (.Name y py) X.env)) calm nd I hi ok tk still hst hfr hg ht he fold h fun L ce s' m H' I' q hn f => ?_) fun _ s' hq => wpAny_pure (wpAny_pure hq))
  show wpAny _ _ (assign (.Name y py) X.env (.ref L)) _ _ _
  obtain ⟨f0, f1, f2, f3, f4, f5⟩ := f
  refine wpAny_assign_Name (store_ok2 (v := V.ref L) I' nd hy (.inl hyl) rfl (fun s2 I2 ⟨a, sb, ha⟩ => ?_) (.inr hyl))
  have ne : ce.locals ≠ a := ha.elim (fun z => by rw [z]; exact f1) fun z e => f4 y a z e.symm
  exact ⟨m, hn.sameBut sb ne, fun h3 sb3 => ⟨_, H', I2.turned (t' := s2.toks) (fun b o hb e => (sb3.2 b hb).trans e) f0 f1 f3 f4 f5, q⟩⟩
end
end L2
namespace Dn
open PySem PySem.Spec PyProof.Rows L2
def loopLcX (tg : D → Fr → Option Fr) (e : ME) (vs : List Nat) (ρ : Fr) : List D → List D → M (List D)
  | [], acc => .ok acc
  | d :: ds, acc => match tg d (wipeF ρ vs) with
    | none => .stuck
    | some ρ' => (e ρ').bind fun y => if acc.length < sizeLine then loopLcX tg e vs ρ ds (acc ++ [y]) else .stuck
/-- a comprehension of which the element may let an exception out -/
def eLcX (f : ML) (tg : D → Fr → Option Fr) (e : ME) (vs : List Nat) : ML := fun ρ => (f ρ).bind fun ds => loopLcX tg e vs ρ ds []
@[simp] theorem eLcX_ap {f : ML} {tg : D → Fr → Option Fr} {e : ME} {vs : List Nat} {ρ : Fr} : eLcX f tg e vs ρ = (f ρ).bind fun ds => loopLcX tg e vs ρ ds [] := rfl
section
variable {K : PySem.W.Frag} {mg : Str → Option Value} {W : WX} {te : TE} {e : ME} {L : Addr × Addr} {gg : TG} {tg : Dn.D → Fr → Option Fr} {is : List Nat}
theorem yesE {A B : Hp → Prop} {σ : L2.St} {H : Hp} (h : A H) : tYes σ H (fun b H3 => if b = true then A H3 else B H3) := by
  have e : (if true = true then A H else B H) = A H := if_pos rfl
  exact e.mpr h
theorem dl_lcX {wi : TI} {f : ML} {vs : List Nat} (hi : DIB K L mg W wi f) (hg : DG K L gg tg is) (hv : ∀ i ∈ is, i ∈ vs) (still : Still W) (he : DF K L mg W te e) :
    DL K L mg W (tLc wi gg tYes te vs) (eLcX f tg e vs) := fun F0 H0 F H σ ρ Q E p => by
  refine hi F0 H0 F H σ ρ _ E (post_mono (post_bind p) (fun ds k F1 H1 J s src => ?_) fun _ z => z)
  obtain ⟨G, Y, wk, hG, hY⟩ := src
  intro Z hZ
  have E1 := E.step s
  refine lc_it wk (fun i Hc => ∃ F2 H2 acc accd, Step F1 H1 F2 H2 ∧ F2 Z = none ∧ H2 Z = none ∧ Hc = upd H2 Z (.lst acc) ∧ RepL K F2 acc accd ∧ post (loopLcX tg e vs ρ (ds.drop i) accd) (fun ds => WN K F H ds Q) (WE' mg W F H σ))
    ⟨F1, H1, [], [], Step.refl s.fh, s.fh.free hZ, hZ, rfl, .nil, by rw [List.drop_zero]; exact k⟩ ?_ ?_ ?_
  · rintro i Hc _ ⟨F2, H2, acc, accd, s2, f2, l2, rfl, r2, k2⟩
    exact hG F2 _ s2.ff (s2.hh.trans (Ex.new l2)) (s2.fh.trans (Ex.new l2))
  · rintro i x Hc Hy hlt ⟨F2, H2, acc, accd, s2, f2, l2, rfl, r2, k2⟩ y
    obtain ⟨F3, d, s3, hd, r3⟩ := hY i F2 _ x Hy hlt s2.ff (s2.hh.trans (Ex.new l2)) (s2.fh.trans (Ex.new l2)) y
    have ed : ds.drop i = d :: ds.drop (i + 1) := by
      obtain ⟨h1, h2⟩ := List.getElem?_eq_some_iff.mp hd
      rw [List.drop_eq_getElem_cons h1, h2]
    rw [ed] at k2
    unfold loopLcX at k2
    have s02 : Step F H F2 (upd H2 Z (.lst acc)) := (s.trans s2).trans (Step.new0 s2.fh l2)
    cases q : tg d (wipeF ρ vs) with
    | none => rw [q] at k2; exact k2.elim
    | some ρ' =>
      rw [q] at k2
      have E3 := ((E.step s02).step s3).wipe vs
      refine hg F0 H0 F3 Hy _ _ x d _ ρ' E3 r3 q fun σ' E4 wz => ⟨(wz vs hv).trans wipe_wipe, ?_⟩
      refine yesE ?_
      refine he F0 H0 F3 Hy σ' ρ' _ E4 (post_mono (post_bind k2) (fun yd k3 F5 H5 v s5 r5 => ?_) fun n z F' H' s' C hC => still _ _ _ _ _ (z F' H' ((s02.trans s3).trans s') C hC))
      have s25 := s3.trans s5
      obtain ⟨sb, fb, hb⟩ := Step.beside (o := .lst _) (fun _ z => nomatch z) l2 f2 s25
      have ra := r2.mono s25.ff
      split at k3
      · rename_i hz
        refine ⟨acc, hb, by rw [ra.length]; exact hz, F5, del H5 Z, acc ++ [v], accd ++ [yd], s2.trans sb, fb, del_same, ?_, ra.append (.cons r5 .nil), k3⟩
        funext b
        by_cases qb : b = Z
        · subst qb; rw [upd_same, upd_same]
        · rw [upd_ne qb, upd_ne qb, del_ne qb]
      · exact k3.elim
  · rintro Hc ⟨F2, H2, acc, accd, s2, f2, l2, rfl, r2, k2⟩
    rw [List.drop_length] at k2
    exact k2 F2 H2 Z acc (s.trans s2) l2 r2
end
end Dn

-- printed by wip/gen/gen.py
set_option Elab.async false
set_option linter.all false
set_option maxRecDepth 100000
set_option maxHeartbeats 4000000
namespace Lw
open PySem PySem.Spec PyProof.Rows L2 Dn
def topS (i : Nat) : Stmt := PySem.Challenge.pw_claspwork_k15_deeds_written.main.body.getD i (.Pass ⟨0, 0, 0, 0⟩)
def tab_BadDeed : List (Str × Bool) := [("NoText", false)]
def tab_ClaspError : List (Str × Bool) := [("NoText", true)]
def tab_NoText : List (Str × Bool) := [("NoText", true)]
def tab_ValueError : List (Str × Bool) := [("NoText", true)]
structure Txt (K : PySem.W.Frag) (mg : Str → Option Value) : Prop where
  b_ValueError : mg "ValueError" = none
  b_bool : mg "bool" = none
  b_int : mg "int" = none
  b_isinstance : mg "isinstance" = none
  b_len : mg "len" = none
  b_list : mg "list" = none
  b_range : mg "range" = none
  b_str : mg "str" = none
  b_tuple : mg "tuple" = none
  e_NoText : ∃ C, ExcAt K mg "NoText" C [.type "ValueError", .type "Exception", .type "BaseException", .type "object"]
  c_END_FIGURES : ∃ t, mg "END_FIGURES" = some (.str "0123456789" t)
  c_LAST_END : ∃ t, mg "LAST_END" = some (.int 79 t)
  k_BadDeed : ClsAt K mg "BadDeed"
  k_ClaspError : ClsAt K mg "ClaspError"
  k_NoText : ClsAt K mg "NoText"
  t_BadDeed : Tab K mg "BadDeed" tab_BadDeed
  t_ClaspError : Tab K mg "ClaspError" tab_ClaspError
  t_NoText : Tab K mg "NoText" tab_NoText
  t_ValueError : TabT K mg "ValueError" tab_ValueError
  l_ClaspError : Cls K mg tab_ClaspError
  ns : NsMg K mg
  m_ClaspError : NmT K mg tab_ClaspError
  z_BadDeed : NoneB K mg "BadDeed"
  z_NoText : NoneB K mg "NoText"
/-! ### deed_text -/
abbrev s_deed_text : Stmt := topS 7
abbrev N_deed_text : List Str := ["deed", "one", "other"]
abbrev P_deed_text : List Str := ["deed"]
theorem sc_deed_text : FnScope N_deed_text P_deed_text (defScope s_deed_text) := ⟨rfl, rfl, rfl, by decide +kernel, rfl, by decide +kernel, by decide +kernel⟩
noncomputable def g_deed_text : MS :=
 (sSeq (sAsg (gT (gC (gN 1) (gC (gN 2) gNil'))) (eVarF 0))
 (sSeq (sIf (tE (e2 eqD (eVarF 1) (eVarF 2))) (sRet (eB strD (aCons (eVarF 1) aNil))) sNext)
 (sRet (e2 addD (e2 addD (eB strD (aCons (eVarF 1) aNil)) (eC (.str ("-" : Str)))) (eB strD (aCons (eVarF 2) aNil))))))
noncomputable def f_deed_text : List D → M D := mFn 1 3 g_deed_text
section
variable {P : Program} {w : World} {K : PySem.W.Frag} {mg : Str → Option Value} {base : Heap}
theorem ok_deed_text (T : Txt K mg) (dd : DefAt K mg "deed_text" s_deed_text)  : FnAt P w K mg base "deed_text" P_deed_text 1 f_deed_text := by
  refine fn_at (N := N_deed_text) (g := g_deed_text) dd sc_deed_text (fun _ _ _ _ _ _ us hl => match us, hl with | [_], _ => rfl) ?_
  intro f cdv A outer s H E hr
  refine ⟨_, (pss_cons (ps_asg (pv 0) (pg_tupK (K := K) (n := 2) rfl (pgs_cons (pg_name (i := 1) sc_deed_text.nd rfl (Or.inl rfl)) (pgs_cons (pg_name (i := 2) sc_deed_text.nd rfl (Or.inl rfl)) pgs_nil))))
     (pss_cons (ps_if (pt_cmpR (kEq (K := K) (hu64 hr)) (pv 1) (pv 2) (nomark _)) (pss_one (ps_ret (pe_callTy call_strU (by rfl) T.b_str boot_str (pa_cons (pv 1) pa_nil)))) pss_nil)
     (pss_one (ps_ret (pe_op (kAdd (K := K)) (pe_op (kAdd (K := K)) (pe_callTy call_strU (by rfl) T.b_str boot_str (pa_cons (pv 1) pa_nil)) pe_str) (pe_callTy call_strU (by rfl) T.b_str boot_str (pa_cons (pv 2) pa_nil))))))), ?_⟩
  exact fun L => (ds_seq (ds_asg (df_var (i := 0)) (dg_tup (dgs_cons (dg_name (i := 1)) (dgs_cons (dg_name (i := 2)) dgs_nil)) (gC_len (gC_len (fun _ _ _ h => gnil_len h)))))
     (ds_seq (ds_if (dt_test (DF.e (df_op rd_eq (DF.e (df_var (i := 1))) (DF.e (df_var (i := 2)))))) (ds_ret (df_B rc_str (da_cons (DF.e (df_var (i := 1))) da_nil))) ds_next)
     (ds_ret (df_op rd_add (DF.e (df_op rd_add (DF.e (df_B rc_str (da_cons (DF.e (df_var (i := 1))) da_nil))) (DF.e (df_str (x := ("-" : Str)))))) (DF.e (df_B rc_str (da_cons (DF.e (df_var (i := 2))) da_nil)))))))
end
/-! ### deeds_text -/
abbrev s_deeds_text : Stmt := topS 8
abbrev N_deeds_text : List Str := ["deeds", "deed"]
abbrev P_deeds_text : List Str := ["deeds"]
theorem sc_deeds_text : FnScope N_deeds_text P_deeds_text (defScope s_deeds_text) := ⟨rfl, rfl, rfl, by decide +kernel, rfl, by decide +kernel, by decide +kernel⟩
noncomputable def g_deeds_text : MS :=
 (sSeq (sIf (tE (e2 eqD (eB lenD (aCons (eVarF 0) aNil)) (eC (.int 0)))) (sRet (eC (.str ("." : Str)))) sNext)
 (sRet (eM1 joinD (eC (.str (" " : Str))) (eL (eLc (iE (eVarF 0)) (gN 1) tYesF (eCall f_deed_text (aCons (eVarF 1) aNil)) [1])))))
noncomputable def f_deeds_text : List D → M D := mFn 1 2 g_deeds_text
section
variable {P : Program} {w : World} {K : PySem.W.Frag} {mg : Str → Option Value} {base : Heap}
theorem ok_deeds_text (T : Txt K mg) (dd : DefAt K mg "deeds_text" s_deeds_text) (c_deed_text : FnAt P w K mg base "deed_text" P_deed_text 1 f_deed_text) : FnAt P w K mg base "deeds_text" P_deeds_text 2 f_deeds_text := by
  obtain ⟨a_deed_text, fd_deed_text, m_deed_text, kp_deed_text, b_deed_text, G_deed_text⟩ := c_deed_text
  refine fn_at (N := N_deeds_text) (g := g_deeds_text) dd sc_deeds_text (fun _ _ _ _ _ _ us hl => match us, hl with | [_], _ => rfl) ?_
  intro f cdv A outer s H E hr
  refine ⟨_, (pss_cons (ps_if (pt_cmpR (kEq (K := K) (hu64 hr)) (pe_callB (kLen (K := K)) (by rfl) T.b_len boot_len (pa_cons (pv 0) pa_nil)) pe_int (nomark _)) (pss_one (ps_ret pe_str)) pss_nil)
     (pss_one (ps_ret (pe_joinK (K := K) pe_str (pe_lc (own := [("deed", 1)]) (by rfl) sc_deeds_text.nd (pi_sqK (K := K) (pv 0)) (blkOk_by (own := [("deed", 1)]) (N := N_deeds_text) (sc := defScope s_deeds_text) (by decide +kernel)) (fun _ _ _ _ _ => (pg_name (i := 1) sc_deeds_text.nd rfl (Or.inl rfl))) (fun _ _ _ _ _ => pts_nil) (fun _ _ _ _ _ => (pe_callS G_deed_text (hr.mono (by decide)) (by rfl) m_deed_text kp_deed_text b_deed_text (fun σ => passAt takes0 σ) (pa_cons (pv 1) pa_nil)))))))), ?_⟩
  exact fun L => (ds_seq (ds_if (dt_test (DF.e (df_op rd_eq (DF.e (df_B rc_len (da_cons (DF.e (df_var (i := 0))) da_nil))) (DF.e (df_int (i := 0)))))) (ds_ret (df_str (x := ("." : Str)))) ds_next)
     (ds_ret (df_m1 rs_join (DF.e (df_str (x := (" " : Str)))) (DF.e (DL.fz (dl_lc (vs := [1]) (dib_sq (DF.e (df_var (i := 0)))) (dg_name (i := 1)) (by decide) dt_yes (df_call (daf_cons (df_var (i := 1)) daf_nil))))))))
end
/-! ### read_end -/
abbrev s_read_end : Stmt := topS 9
abbrev N_read_end : List Str := ["figures", "sign", "end"]
abbrev P_read_end : List Str := ["figures"]
theorem sc_read_end : FnScope N_read_end P_read_end (defScope s_read_end) := ⟨rfl, rfl, rfl, by decide +kernel, rfl, by decide +kernel, by decide +kernel⟩
noncomputable def b1_read_end : MS :=
 (sIf (tE (e2 ninSD (eVarF 1) (eC (.str ("0123456789" : Str))))) (sRaise "NoText") sNext)
noncomputable def g_read_end : MS :=
 (sSeq (sIf (tO (tE (e2 ltD (eB lenD (aCons (eVarF 0) aNil)) (eC (.int 1)))) (tO (tE (e2 gtD (eB lenD (aCons (eVarF 0) aNil)) (eC (.int 2)))) (tA (tE (e2 eqD (e2 ixD (eVarF 0) (eC (.int 0))) (eC (.str ("0" : Str))))) (tE (e2 gtD (eB lenD (aCons (eVarF 0) aNil)) (eC (.int 1))))))) (sRaise "NoText") sNext)
 (sSeq (sFor (iS (eVarF 0)) (gN 1) b1_read_end)
 (sSeq (sAsg (gN 2) (eB intWD (aCons (eVarF 0) aNil)))
 (sSeq (sIf (tE (e2 gtD (eVarF 2) (eC (.int 79)))) (sRaise "NoText") sNext)
 (sRet (eVarF 2))))))
noncomputable def f_read_end : List D → M D := mFn 1 3 g_read_end
section
variable {P : Program} {w : World} {K : PySem.W.Frag} {mg : Str → Option Value} {base : Heap}
theorem ok_read_end (T : Txt K mg) (dd : DefAt K mg "read_end" s_read_end)  : FnAt P w K mg base "read_end" P_read_end 1 f_read_end := by
  obtain ⟨tc_END_FIGURES, gc_END_FIGURES⟩ := T.c_END_FIGURES
  obtain ⟨tc_LAST_END, gc_LAST_END⟩ := T.c_LAST_END
  obtain ⟨C_NoText, X_NoText⟩ := T.e_NoText
  refine fn_at (N := N_read_end) (g := g_read_end) dd sc_read_end (fun _ _ _ _ _ _ us hl => match us, hl with | [_], _ => rfl) ?_
  intro f cdv A outer s H E hr
  refine ⟨_, (pss_cons (ps_if (PW.pt (pw_or (pt_cmpR op_lt (pe_callB (kLen (K := K)) (by rfl) T.b_len boot_len (pa_cons (pv 0) pa_nil)) pe_int (nomark _)) (pw_or (pt_cmpR op_gt (pe_callB (kLen (K := K)) (by rfl) T.b_len boot_len (pa_cons (pv 0) pa_nil)) pe_int (nomark _)) (pw_or1 (PW.pt (pw_and (pt_cmpR (kEq (K := K) (hu64 hr)) (pe_ix (kIx (K := K)) (pv 0) pe_int (fun _ _ => rfl)) pe_str (nomark _)) (pw_and1 (pt_cmpR op_gt (pe_callB (kLen (K := K)) (by rfl) T.b_len boot_len (pa_cons (pv 0) pa_nil)) pe_int (nomark _))))))))) (pss_one (ps_raise rfl (takes_of rfl rfl rfl rfl) (pmk_own PySem.F.excBase_ValueError X_NoText.e X_NoText.g X_NoText.k (raises_own X_NoText.b X_NoText.t) (by exact rfl)))) pss_nil)
     (pss_cons (ps_for (passes_of rfl) rfl (pi_str (pv 0)) (pg_name (i := 1) sc_read_end.nd rfl (Or.inl rfl)) (pss_one (ps_if (pt_cmpR op_nsgn (pv 1) (pe_glob (v := .str ("0123456789" : Str)) (by rfl) gc_END_FIGURES ⟨_, rfl⟩) (by rfl)) (pss_one (ps_raise rfl (takes_of rfl rfl rfl rfl) (pmk_own PySem.F.excBase_ValueError X_NoText.e X_NoText.g X_NoText.k (raises_own X_NoText.b X_NoText.t) (by exact rfl)))) pss_nil)))
     (pss_cons (ps_set (i := 2) sc_read_end.nd rfl (Or.inl rfl) (pe_callTy call_intW (by rfl) T.b_int boot_int (pa_cons (pv 0) pa_nil)))
     (pss_cons (ps_if (pt_cmpR op_gt (pv 2) (pe_glob (v := .int 79) (by rfl) gc_LAST_END ⟨_, rfl⟩) (nomark _)) (pss_one (ps_raise rfl (takes_of rfl rfl rfl rfl) (pmk_own PySem.F.excBase_ValueError X_NoText.e X_NoText.g X_NoText.k (raises_own X_NoText.b X_NoText.t) (by exact rfl)))) pss_nil)
     (pss_one (ps_ret (pv 2))))))), ?_⟩
  exact fun L => (ds_seq (ds_if (dt_or (dt_test (DF.e (df_op rd_cmp (DF.e (df_B rc_len (da_cons (DF.e (df_var (i := 0))) da_nil))) (DF.e (df_int (i := 1)))))) (dt_or (dt_test (DF.e (df_op rd_cmp (DF.e (df_B rc_len (da_cons (DF.e (df_var (i := 0))) da_nil))) (DF.e (df_int (i := 2)))))) (dt_and (dt_test (DF.e (df_op rd_eq (DF.e (df_op rd_ix (DF.e (df_var (i := 0))) (DF.e (df_int (i := 0))))) (DF.e (df_str (x := ("0" : Str))))))) (dt_test (DF.e (df_op rd_cmp (DF.e (df_B rc_len (da_cons (DF.e (df_var (i := 0))) da_nil))) (DF.e (df_int (i := 1))))))))) (ds_raise X_NoText.g) ds_next)
     (ds_seq (ds_for (di_str (DF.e (df_var (i := 0)))) (dg_name (i := 1)) (ds_if (dt_test (DF.e (df_op rd_ninS (DF.e (df_var (i := 1))) (DF.e (df_str (x := ("0123456789" : Str))))))) (ds_raise X_NoText.g) ds_next))
     (ds_seq (ds_asg (df_B rc_intW (da_cons (DF.e (df_var (i := 0))) da_nil)) (dg_name (i := 2)))
     (ds_seq (ds_if (dt_test (DF.e (df_op rd_cmp (DF.e (df_var (i := 2))) (DF.e (df_int (i := 79)))))) (ds_raise X_NoText.g) ds_next)
     (ds_ret (df_var (i := 2)))))))
end
/-! ### read_deed -/
abbrev s_read_deed : Stmt := topS 10
abbrev N_read_deed : List Str := ["text", "ends", "figures"]
abbrev P_read_deed : List Str := ["text"]
theorem sc_read_deed : FnScope N_read_deed P_read_deed (defScope s_read_deed) := ⟨rfl, rfl, rfl, by decide +kernel, rfl, by decide +kernel, by decide +kernel⟩
noncomputable def g_read_deed : MS :=
 (sSeq (sAsg (gN 1) (eL (eLcX (iE (eL (eM1L splitD (eVarF 0) (eC (.str ("-" : Str)))))) (gN 2) (eCall f_read_end (aCons (eVarF 2) aNil)) [2])))
 (sSeq (sIf (tO (tE (e2 gtD (eB lenD (aCons (eVarF 1) aNil)) (eC (.int 2)))) (tA (tE (e2 eqD (eB lenD (aCons (eVarF 1) aNil)) (eC (.int 2)))) (tE (e2 geD (e2 ixD (eVarF 1) (eC (.int 0))) (e2 ixD (eVarF 1) (eC (.int 1))))))) (sRaise "NoText") sNext)
 (sRet (eTup (aCons (e2 ixD (eVarF 1) (eC (.int 0))) (aCons (e2 ixD (eVarF 1) (e1 negD (eC (.int 1)))) aNil))))))
noncomputable def f_read_deed : List D → M D := mFn 1 3 g_read_deed
section
variable {P : Program} {w : World} {K : PySem.W.Frag} {mg : Str → Option Value} {base : Heap}
theorem ok_read_deed (T : Txt K mg) (dd : DefAt K mg "read_deed" s_read_deed) (c_read_end : FnAt P w K mg base "read_end" P_read_end 1 f_read_end) : FnAt P w K mg base "read_deed" P_read_deed 2 f_read_deed := by
  obtain ⟨a_read_end, fd_read_end, m_read_end, kp_read_end, b_read_end, G_read_end⟩ := c_read_end
  obtain ⟨C_NoText, X_NoText⟩ := T.e_NoText
  refine fn_at (N := N_read_deed) (g := g_read_deed) dd sc_read_deed (fun _ _ _ _ _ _ us hl => match us, hl with | [_], _ => rfl) ?_
  intro f cdv A outer s H E hr
  refine ⟨_, (pss_cons (ps_setLcX (i := 1) (own := [("figures", 2)]) (by rfl) sc_read_deed.nd (takes_of rfl rfl rfl rfl) (fun _ _ _ _ _ h => h) rfl rfl rfl rfl (sw_true rfl rfl rfl (by decide +kernel)) (pi_sqK (K := K) (pe_splitK (pv 0) pe_str)) (blkOk_by (own := [("figures", 2)]) (N := N_read_deed) (sc := defScope s_read_deed) (by decide +kernel)) (fun _ _ _ _ _ => (pg_name (i := 2) sc_read_deed.nd rfl (Or.inl rfl))) (fun _ _ _ _ _ => pts_nil) (fun _ _ _ _ _ pb => (pe_callS G_read_end (hr.mono (by decide)) (by rfl) m_read_end kp_read_end b_read_end (fun σ => pb σ) (pa_cons (pv 2) pa_nil))))
     (pss_cons (ps_if (PW.pt (pw_or (pt_cmpR op_gt (pe_callB (kLen (K := K)) (by rfl) T.b_len boot_len (pa_cons (pv 1) pa_nil)) pe_int (nomark _)) (pw_or1 (PW.pt (pw_and (pt_cmpR (kEq (K := K) (hu64 hr)) (pe_callB (kLen (K := K)) (by rfl) T.b_len boot_len (pa_cons (pv 1) pa_nil)) pe_int (nomark _)) (pw_and1 (pt_cmpR op_ge (pe_ix (kIx (K := K)) (pv 1) pe_int (fun _ _ => rfl)) (pe_ix (kIx (K := K)) (pv 1) pe_int (fun _ _ => rfl)) (nomark _)))))))) (pss_one (ps_raise rfl (takes_of rfl rfl rfl rfl) (pmk_own PySem.F.excBase_ValueError X_NoText.e X_NoText.g X_NoText.k (raises_own X_NoText.b X_NoText.t) (by exact rfl)))) pss_nil)
     (pss_one (ps_ret (pe_tup (pa_cons (pe_ix (kIx (K := K)) (pv 1) pe_int (fun _ _ => rfl)) (pa_cons (pe_ix (kIx (K := K)) (pv 1) (pe_un un_neg pe_int) (fun _ _ => rfl)) pa_nil))))))), ?_⟩
  exact fun L => (ds_seq (ds_asg (DL.fz (dl_lcX (vs := [2]) (dib_sq (DF.e (DL.fz (dl_m1 rs_split (DF.e (df_var (i := 0))) (DF.e (df_str (x := ("-" : Str)))))))) (dg_name (i := 2)) (by decide) (fun _ _ _ _ _ h => h) (df_call (daf_cons (df_var (i := 2)) daf_nil)))) (dg_name (i := 1)))
     (ds_seq (ds_if (dt_or (dt_test (DF.e (df_op rd_cmp (DF.e (df_B rc_len (da_cons (DF.e (df_var (i := 1))) da_nil))) (DF.e (df_int (i := 2)))))) (dt_and (dt_test (DF.e (df_op rd_eq (DF.e (df_B rc_len (da_cons (DF.e (df_var (i := 1))) da_nil))) (DF.e (df_int (i := 2)))))) (dt_test (DF.e (df_op rd_cmp (DF.e (df_op rd_ix (DF.e (df_var (i := 1))) (DF.e (df_int (i := 0))))) (DF.e (df_op rd_ix (DF.e (df_var (i := 1))) (DF.e (df_int (i := 1)))))))))) (ds_raise X_NoText.g) ds_next)
     (ds_ret (df_tup (daf_cons (df_op rd_ix (DF.e (df_var (i := 1))) (DF.e (df_int (i := 0)))) (daf_cons (df_op rd_ix (DF.e (df_var (i := 1))) (DF.e (df_un rd_neg (DF.e (df_int (i := 1)))))) daf_nil)) (few_cons (few_cons few_nil))))))
end
/-! ### read_deeds -/
abbrev s_read_deeds : Stmt := topS 11
abbrev N_read_deeds : List Str := ["text", "part"]
abbrev P_read_deeds : List Str := ["text"]
theorem sc_read_deeds : FnScope N_read_deeds P_read_deeds (defScope s_read_deeds) := ⟨rfl, rfl, rfl, by decide +kernel, rfl, by decide +kernel, by decide +kernel⟩
noncomputable def g_read_deeds : MS :=
 (sSeq (sIf (tE (e2 eqD (eVarF 0) (eC (.str ("." : Str))))) (sRet (eL aNil)) sNext)
 (sRet (eL (eLcX (iE (eL (eM1L splitD (eVarF 0) (eC (.str (" " : Str)))))) (gN 1) (eCall f_read_deed (aCons (eVarF 1) aNil)) [1]))))
noncomputable def f_read_deeds : List D → M D := mFn 1 2 g_read_deeds
section
variable {P : Program} {w : World} {K : PySem.W.Frag} {mg : Str → Option Value} {base : Heap}
theorem ok_read_deeds (T : Txt K mg) (dd : DefAt K mg "read_deeds" s_read_deeds) (c_read_deed : FnAt P w K mg base "read_deed" P_read_deed 2 f_read_deed) : FnAt P w K mg base "read_deeds" P_read_deeds 3 f_read_deeds := by
  obtain ⟨a_read_deed, fd_read_deed, m_read_deed, kp_read_deed, b_read_deed, G_read_deed⟩ := c_read_deed
  refine fn_at (N := N_read_deeds) (g := g_read_deeds) dd sc_read_deeds (fun _ _ _ _ _ _ us hl => match us, hl with | [_], _ => rfl) ?_
  intro f cdv A outer s H E hr
  refine ⟨_, (pss_cons (ps_if (pt_cmpR (kEq (K := K) (hu64 hr)) (pv 0) pe_str (nomark _)) (pss_one (ps_ret (pe_lst pa_nil))) pss_nil)
     (pss_one (ps_ret (pe_lcX (own := [("part", 1)]) (by rfl) sc_read_deeds.nd (takes_of rfl rfl rfl rfl) (fun _ _ _ _ _ h => h) rfl rfl (pi_sqK (K := K) (pe_splitK (pv 0) pe_str)) (blkOk_by (own := [("part", 1)]) (N := N_read_deeds) (sc := defScope s_read_deeds) (by decide +kernel)) (fun _ _ _ _ _ => (pg_name (i := 1) sc_read_deeds.nd rfl (Or.inl rfl))) (fun _ _ _ _ _ => pts_nil) (fun _ _ _ _ _ pb => (pe_callS G_read_deed (hr.mono (by decide)) (by rfl) m_read_deed kp_read_deed b_read_deed (fun σ => pb σ) (pa_cons (pv 1) pa_nil))))))), ?_⟩
  exact fun L => (ds_seq (ds_if (dt_test (DF.e (df_op rd_eq (DF.e (df_var (i := 0))) (DF.e (df_str (x := ("." : Str))))))) (ds_ret (DL.fz (dl_lst daf_nil few_nil))) ds_next)
     (ds_ret (DL.fz (dl_lcX (vs := [1]) (dib_sq (DF.e (DL.fz (dl_m1 rs_split (DF.e (df_var (i := 0))) (DF.e (df_str (x := (" " : Str)))))))) (dg_name (i := 1)) (by decide) (fun _ _ _ _ _ h => h) (df_call (daf_cons (df_var (i := 1)) daf_nil))))))
end
/-! ### _law_refused -/
abbrev s__law_refused : Stmt := topS 18
abbrev N__law_refused : List Str := ["text", "e", "caught"]
abbrev P__law_refused : List Str := ["text"]
theorem sc__law_refused : FnScope N__law_refused P__law_refused (defScope s__law_refused) := ⟨rfl, rfl, rfl, by decide +kernel, rfl, by decide +kernel, by decide +kernel⟩
noncomputable def g__law_refused : MS :=
 (sSeq (sAsg (gN 2) (eC .none))
 (sSeq (sTryK 1 tab_ClaspError (sExpr (eCall f_read_deeds (aCons (eVarF 0) aNil))) (fun n => (sErr 2 1)))
 (sSeq (sIf (tO (tE (e2 isD (eVarF 2) (eC .none))) (tN (tE (e1 (isvD tab_NoText) (eVarF 2))))) (sRet (eC (.bool false))) sNext)
 (sRet (eBool (eAnd (e1 (isvD tab_ValueError) (eVarF 2)) (eNot (e1 (isvD tab_BadDeed) (eVarF 2)))))))))
noncomputable def f__law_refused : List D → M D := mFn 1 3 g__law_refused
section
variable {P : Program} {w : World} {K : PySem.W.Frag} {mg : Str → Option Value} {base : Heap}
theorem ok__law_refused (T : Txt K mg) (dd : DefAt K mg "_law_refused" s__law_refused) (c_read_deeds : FnAt P w K mg base "read_deeds" P_read_deeds 3 f_read_deeds) : FnAt P w K mg base "_law_refused" P__law_refused 4 f__law_refused := by
  obtain ⟨a_read_deeds, fd_read_deeds, m_read_deeds, kp_read_deeds, b_read_deeds, G_read_deeds⟩ := c_read_deeds
  obtain ⟨D_BadDeed, g_BadDeed, F_BadDeed⟩ := T.k_BadDeed
  obtain ⟨D_ClaspError, g_ClaspError, F_ClaspError⟩ := T.k_ClaspError
  obtain ⟨D_NoText, g_NoText, F_NoText⟩ := T.k_NoText
  refine fn_at (N := N__law_refused) (g := g__law_refused) dd sc__law_refused (fun _ _ _ _ _ _ us hl => match us, hl with | [_], _ => rfl) ?_
  intro f cdv A outer s H E hr
  refine ⟨_, (pss_cons (ps_set (i := 2) sc__law_refused.nd rfl (Or.inl rfl) pe_non)
     (pss_cons (ps_try_asK (i := 1) rfl rfl sc__law_refused.nd rfl rfl ⟨by rfl, by decide, Or.inl g_ClaspError⟩ (takes_of rfl rfl rfl rfl) rfl (fun W pn1 xe tk1 hpo1 => pssId _ (pss_one (ps_expr (pe_callS G_read_deeds (hr.mono (by decide)) (by rfl) m_read_deeds kp_read_deeds b_read_deeds (fun σ => passAt tk1 σ) (pa_cons (pv 0) pa_nil)))) rfl) (fun a oe cls d pn hz hf => pssId _ (pss_one (ps_set (i := 2) sc__law_refused.nd rfl (Or.inl rfl) (pv 1))) rfl))
     (pss_cons (ps_if (PW.pt (pw_or (pt_cmpR op_isU (pv 2) pe_non (nomark _)) (pw_or1 (pt_not (pt_val (pe_callB (kIsiE (K := K)) (by rfl) T.b_isinstance boot_isinstance (pa_cons (pv 2) (pa_cons (pe_glob (v := .ref D_NoText) (by rfl) g_NoText rfl) pa_nil)))))))) (pss_one (ps_ret pe_bl)) pss_nil)
     (pss_one (ps_ret (pe_and (pe_callB (kIsiE (K := K)) (by rfl) T.b_isinstance boot_isinstance (pa_cons (pv 2) (pa_cons (pe_bltn (v := .ty "ValueError") (by rfl) T.b_ValueError boot_ValueError rfl) pa_nil))) (pe_one (pe_not (pe_callB (kIsiE (K := K)) (by rfl) T.b_isinstance boot_isinstance (pa_cons (pv 2) (pa_cons (pe_glob (v := .ref D_BadDeed) (by rfl) g_BadDeed rfl) pa_nil))))))))))), ?_⟩
  exact fun L => (ds_seq (ds_asg df_non (dg_name (i := 2)))
     (ds_seq (ds_tryK (i := 1) (fun n b C e h => exm_at F_ClaspError g_ClaspError T.t_ClaspError e h) T.m_ClaspError (fun W1 => (ds_expr (DF.e (df_call (daf_cons (df_var (i := 0)) daf_nil))))) (fun a n C l hn0 hn => by
     have HC := T.l_ClaspError n _ C hn0 hn
     exact (ds_err (i := 1) (j := 2))))
     (ds_seq (ds_if (dt_or (dt_test (DF.e (df_op rd_is (DF.e (df_var (i := 2))) (DF.e df_non)))) (dt_not (dt_B (DF.e (df_isv (.own D_NoText) (isT_own F_NoText g_NoText T.t_NoText T.ns T.z_NoText) (DF.e (df_var (i := 2)))))))) (ds_ret (df_bl (b := false))) ds_next)
     (ds_ret (df_ofE_bool (de_and (DF.e (df_isv (.ty "ValueError") (isT_ty (by decide +kernel) T.t_ValueError T.ns (by decide +kernel)) (DF.e (df_var (i := 2))))) (DF.e (df_not (DF.e (df_isv (.own D_BadDeed) (isT_own F_BadDeed g_BadDeed T.t_BadDeed T.ns T.z_BadDeed) (DF.e (df_var (i := 2)))))))))))))
end
/-! ### _law_deed -/
abbrev s__law_deed : Stmt := topS 15
abbrev N__law_deed : List Str := ["cell", "one", "two"]
abbrev P__law_deed : List Str := ["cell"]
theorem sc__law_deed : FnScope N__law_deed P__law_deed (defScope s__law_deed) := ⟨rfl, rfl, rfl, by decide +kernel, rfl, by decide +kernel, by decide +kernel⟩
noncomputable def g__law_deed : MS :=
 (sSeq (sAsg (gN 1) (e2 modD (eVarF 0) (eC (.int 80))))
 (sSeq (sAsg (gN 2) (e2 addD (eVarF 1) (e2 modD (e2 divD (eVarF 0) (eC (.int 80))) (e2 subD (eC (.int 80)) (eVarF 1)))))
 (sSeq (sIf (tE (e2 eqD (e2 modD (e2 divD (eVarF 0) (eC (.int 7))) (eC (.int 4))) (eC (.int 1)))) (sAsg (gN 2) (eVarF 1)) sNext)
 (sRet (eTup (aCons (eVarF 1) (aCons (eVarF 2) aNil)))))))
noncomputable def f__law_deed : List D → M D := mFn 1 3 g__law_deed
section
variable {P : Program} {w : World} {K : PySem.W.Frag} {mg : Str → Option Value} {base : Heap}
theorem ok__law_deed (T : Txt K mg) (dd : DefAt K mg "_law_deed" s__law_deed)  : FnAt P w K mg base "_law_deed" P__law_deed 1 f__law_deed := by
  refine fn_at (N := N__law_deed) (g := g__law_deed) dd sc__law_deed (fun _ _ _ _ _ _ us hl => match us, hl with | [_], _ => rfl) ?_
  intro f cdv A outer s H E hr
  refine ⟨_, (pss_cons (ps_set (i := 1) sc__law_deed.nd rfl (Or.inl rfl) (pe_op op_mod (pv 0) pe_int))
     (pss_cons (ps_set (i := 2) sc__law_deed.nd rfl (Or.inl rfl) (pe_op (kAdd (K := K)) (pv 1) (pe_op op_mod (pe_op op_fdivW (pv 0) pe_int) (pe_op op_sub pe_int (pv 1)))))
     (pss_cons (ps_if (pt_cmpR (kEq (K := K) (hu64 hr)) (pe_op op_mod (pe_op op_fdivW (pv 0) pe_int) pe_int) pe_int (nomark _)) (pss_one (ps_set (i := 2) sc__law_deed.nd rfl (Or.inl rfl) (pv 1))) pss_nil)
     (pss_one (ps_ret (pe_tup (pa_cons (pv 1) (pa_cons (pv 2) pa_nil)))))))), ?_⟩
  exact fun L => (ds_seq (ds_asg (df_op rd_mod (DF.e (df_var (i := 0))) (DF.e (df_int (i := 80)))) (dg_name (i := 1)))
     (ds_seq (ds_asg (df_op rd_add (DF.e (df_var (i := 1))) (DF.e (df_op rd_mod (DF.e (df_op rd_div (DF.e (df_var (i := 0))) (DF.e (df_int (i := 80))))) (DF.e (df_op rd_sub (DF.e (df_int (i := 80))) (DF.e (df_var (i := 1)))))))) (dg_name (i := 2)))
     (ds_seq (ds_if (dt_test (DF.e (df_op rd_eq (DF.e (df_op rd_mod (DF.e (df_op rd_div (DF.e (df_var (i := 0))) (DF.e (df_int (i := 7))))) (DF.e (df_int (i := 4))))) (DF.e (df_int (i := 1)))))) (ds_asg (df_var (i := 1)) (dg_name (i := 2))) ds_next)
     (ds_ret (df_tup (daf_cons (df_var (i := 1)) (daf_cons (df_var (i := 2)) daf_nil)) (few_cons (few_cons few_nil)))))))
end
/-! ### _law_whole -/
abbrev s__law_whole : Stmt := topS 14
abbrev N__law_whole : List Str := ["found"]
abbrev P__law_whole : List Str := ["found"]
theorem sc__law_whole : FnScope N__law_whole P__law_whole (defScope s__law_whole) := ⟨rfl, rfl, rfl, by decide +kernel, rfl, by decide +kernel, by decide +kernel⟩
noncomputable def g__law_whole : MS :=
 (sRet (eBool (eAnd (e1 (isiD "int") (eVarF 0)) (eNot (e1 (isiD "bool") (eVarF 0))))))
noncomputable def f__law_whole : List D → M D := mFn 1 1 g__law_whole
section
variable {P : Program} {w : World} {K : PySem.W.Frag} {mg : Str → Option Value} {base : Heap}
theorem ok__law_whole (T : Txt K mg) (dd : DefAt K mg "_law_whole" s__law_whole)  : FnAt P w K mg base "_law_whole" P__law_whole 1 f__law_whole := by
  refine fn_at (N := N__law_whole) (g := g__law_whole) dd sc__law_whole (fun _ _ _ _ _ _ us hl => match us, hl with | [_], _ => rfl) ?_
  intro f cdv A outer s H E hr
  refine ⟨_, (pss_one (ps_ret (pe_and (pe_callB (kIsi (K := K)) (by rfl) T.b_isinstance boot_isinstance (pa_cons (pv 0) (pa_cons (pe_bltn (v := .ty "int") (by rfl) T.b_int boot_int rfl) pa_nil))) (pe_one (pe_not (pe_callB (kIsi (K := K)) (by rfl) T.b_isinstance boot_isinstance (pa_cons (pv 0) (pa_cons (pe_bltn (v := .ty "bool") (by rfl) T.b_bool boot_bool rfl) pa_nil)))))))), ?_⟩
  exact fun L => (ds_ret (df_ofE_bool (de_and (DF.e (df_isi (T := "int") (DF.e (df_var (i := 0))))) (DF.e (df_not (DF.e (df_isi (T := "bool") (DF.e (df_var (i := 0))))))))))
end
/-! ### _law_row_is -/
abbrev s__law_row_is : Stmt := topS 17
abbrev N__law_row_is : List Str := ["found", "due", "k"]
abbrev P__law_row_is : List Str := ["found", "due"]
theorem sc__law_row_is : FnScope N__law_row_is P__law_row_is (defScope s__law_row_is) := ⟨rfl, rfl, rfl, by decide +kernel, rfl, by decide +kernel, by decide +kernel⟩
noncomputable def b1__law_row_is : MS :=
 (sSeq (sIf (tO (tN (tE (e1 (isiD "tuple") (e2 ixD (eVarF 0) (eVarF 2))))) (tE (e2 neD (e2 ixD (eVarF 0) (eVarF 2)) (e2 ixD (eVarF 1) (eVarF 2))))) (sRet (eC (.bool false))) sNext)
 (sIf (tO (tN (tE (eCall f__law_whole (aCons (e2 ixD (e2 ixD (eVarF 0) (eVarF 2)) (eC (.int 0))) aNil)))) (tN (tE (eCall f__law_whole (aCons (e2 ixD (e2 ixD (eVarF 0) (eVarF 2)) (eC (.int 1))) aNil))))) (sRet (eC (.bool false))) sNext))
noncomputable def g__law_row_is : MS :=
 (sSeq (sIf (tO (tN (tE (e1 (isiD "list") (eVarF 0)))) (tE (e2 neD (eB lenD (aCons (eVarF 0) aNil)) (eB lenD (aCons (eVarF 1) aNil))))) (sRet (eC (.bool false))) sNext)
 (sSeq (sFor (iR1 (aCons (eB lenD (aCons (eVarF 1) aNil)) aNil)) (gN 2) b1__law_row_is)
 (sRet (eC (.bool true)))))
noncomputable def f__law_row_is : List D → M D := mFn 2 3 g__law_row_is
section
variable {P : Program} {w : World} {K : PySem.W.Frag} {mg : Str → Option Value} {base : Heap}
theorem ok__law_row_is (T : Txt K mg) (dd : DefAt K mg "_law_row_is" s__law_row_is) (c__law_whole : FnAt P w K mg base "_law_whole" P__law_whole 1 f__law_whole) : FnAt P w K mg base "_law_row_is" P__law_row_is 2 f__law_row_is := by
  obtain ⟨a__law_whole, fd__law_whole, m__law_whole, kp__law_whole, b__law_whole, G__law_whole⟩ := c__law_whole
  refine fn_at (N := N__law_row_is) (g := g__law_row_is) dd sc__law_row_is (fun _ _ _ _ _ _ us hl => match us, hl with | [_, _], _ => rfl) ?_
  intro f cdv A outer s H E hr
  refine ⟨_, (pss_cons (ps_if (PW.pt (pw_or (pt_not (pt_val (pe_callB (kIsi (K := K)) (by rfl) T.b_isinstance boot_isinstance (pa_cons (pv 0) (pa_cons (pe_bltn (v := .ty "list") (by rfl) T.b_list boot_list rfl) pa_nil))))) (pw_or1 (pt_cmpR (kNe (K := K) (hu64 hr)) (pe_callB (kLen (K := K)) (by rfl) T.b_len boot_len (pa_cons (pv 0) pa_nil)) (pe_callB (kLen (K := K)) (by rfl) T.b_len boot_len (pa_cons (pv 1) pa_nil)) (nomark _))))) (pss_one (ps_ret pe_bl)) pss_nil)
     (pss_cons (ps_for (passes_of rfl) rfl (pi_range1 (by rfl) T.b_range (pa_cons (pe_callB (kLen (K := K)) (by rfl) T.b_len boot_len (pa_cons (pv 1) pa_nil)) pa_nil)) (pg_name (i := 2) sc__law_row_is.nd rfl (Or.inl rfl)) (pss_cons (ps_if (PW.pt (pw_or (pt_not (pt_val (pe_callB (kIsi (K := K)) (by rfl) T.b_isinstance boot_isinstance (pa_cons (pe_ix (kIx (K := K)) (pv 0) (pv 2) (fun _ _ => rfl)) (pa_cons (pe_bltn (v := .ty "tuple") (by rfl) T.b_tuple boot_tuple rfl) pa_nil))))) (pw_or1 (pt_cmpR (kNe (K := K) (hu64 hr)) (pe_ix (kIx (K := K)) (pv 0) (pv 2) (fun _ _ => rfl)) (pe_ix (kIx (K := K)) (pv 1) (pv 2) (fun _ _ => rfl)) (nomark _))))) (pss_one (ps_ret pe_bl)) pss_nil)
     (pss_one (ps_if (PW.pt (pw_or (pt_not (pt_val (pe_callS G__law_whole (hr.mono (by decide)) (by rfl) m__law_whole kp__law_whole b__law_whole (fun σ => passAt (takes_of rfl rfl rfl rfl) σ) (pa_cons (pe_ix (kIx (K := K)) (pe_ix (kIx (K := K)) (pv 0) (pv 2) (fun _ _ => rfl)) pe_int (fun _ _ => rfl)) pa_nil)))) (pw_or1 (pt_not (pt_val (pe_callS G__law_whole (hr.mono (by decide)) (by rfl) m__law_whole kp__law_whole b__law_whole (fun σ => passAt (takes_of rfl rfl rfl rfl) σ) (pa_cons (pe_ix (kIx (K := K)) (pe_ix (kIx (K := K)) (pv 0) (pv 2) (fun _ _ => rfl)) pe_int (fun _ _ => rfl)) pa_nil))))))) (pss_one (ps_ret pe_bl)) pss_nil))))
     (pss_one (ps_ret pe_bl)))), ?_⟩
  exact fun L => (ds_seq (ds_if (dt_or (dt_not (dt_B (DF.e (df_isi (T := "list") (DF.e (df_var (i := 0))))))) (dt_test (DF.e (df_op rd_ne (DF.e (df_B rc_len (da_cons (DF.e (df_var (i := 0))) da_nil))) (DF.e (df_B rc_len (da_cons (DF.e (df_var (i := 1))) da_nil))))))) (ds_ret (df_bl (b := false))) ds_next)
     (ds_seq (ds_for (di_rng1 (da_cons (DF.e (df_B rc_len (da_cons (DF.e (df_var (i := 1))) da_nil))) da_nil)) (dg_name (i := 2)) (ds_seq (ds_if (dt_or (dt_not (dt_B (DF.e (df_isi (T := "tuple") (DF.e (df_op rd_ix (DF.e (df_var (i := 0))) (DF.e (df_var (i := 2))))))))) (dt_test (DF.e (df_op rd_ne (DF.e (df_op rd_ix (DF.e (df_var (i := 0))) (DF.e (df_var (i := 2))))) (DF.e (df_op rd_ix (DF.e (df_var (i := 1))) (DF.e (df_var (i := 2))))))))) (ds_ret (df_bl (b := false))) ds_next)
     (ds_if (dt_or (dt_not (dt_B (DF.e (df_call (daf_cons (df_op rd_ix (DF.e (df_op rd_ix (DF.e (df_var (i := 0))) (DF.e (df_var (i := 2))))) (DF.e (df_int (i := 0)))) daf_nil))))) (dt_not (dt_B (DF.e (df_call (daf_cons (df_op rd_ix (DF.e (df_op rd_ix (DF.e (df_var (i := 0))) (DF.e (df_var (i := 2))))) (DF.e (df_int (i := 1)))) daf_nil)))))) (ds_ret (df_bl (b := false))) ds_next)))
     (ds_ret (df_bl (b := true)))))
end
/-! ### _law_thing -/
abbrev s__law_thing : Stmt := topS 16
abbrev N__law_thing : List Str := ["deed"]
abbrev P__law_thing : List Str := ["deed"]
theorem sc__law_thing : FnScope N__law_thing P__law_thing (defScope s__law_thing) := ⟨rfl, rfl, rfl, by decide +kernel, rfl, by decide +kernel, by decide +kernel⟩
noncomputable def g__law_thing : MS :=
 (sSeq (sIf (tE (e2 eqD (e2 ixD (eVarF 0) (eC (.int 0))) (e2 ixD (eVarF 0) (eC (.int 1))))) (sRet (eB strD (aCons (e2 ixD (eVarF 0) (eC (.int 0))) aNil))) sNext)
 (sRet (e2 addD (e2 addD (eB strD (aCons (e2 ixD (eVarF 0) (eC (.int 0))) aNil)) (eC (.str ("-" : Str)))) (eB strD (aCons (e2 ixD (eVarF 0) (eC (.int 1))) aNil)))))
noncomputable def f__law_thing : List D → M D := mFn 1 1 g__law_thing
section
variable {P : Program} {w : World} {K : PySem.W.Frag} {mg : Str → Option Value} {base : Heap}
theorem ok__law_thing (T : Txt K mg) (dd : DefAt K mg "_law_thing" s__law_thing)  : FnAt P w K mg base "_law_thing" P__law_thing 1 f__law_thing := by
  refine fn_at (N := N__law_thing) (g := g__law_thing) dd sc__law_thing (fun _ _ _ _ _ _ us hl => match us, hl with | [_], _ => rfl) ?_
  intro f cdv A outer s H E hr
  refine ⟨_, (pss_cons (ps_if (pt_cmpR (kEq (K := K) (hu64 hr)) (pe_ix (kIx (K := K)) (pv 0) pe_int (fun _ _ => rfl)) (pe_ix (kIx (K := K)) (pv 0) pe_int (fun _ _ => rfl)) (nomark _)) (pss_one (ps_ret (pe_callTy call_strU (by rfl) T.b_str boot_str (pa_cons (pe_ix (kIx (K := K)) (pv 0) pe_int (fun _ _ => rfl)) pa_nil)))) pss_nil)
     (pss_one (ps_ret (pe_op (kAdd (K := K)) (pe_op (kAdd (K := K)) (pe_callTy call_strU (by rfl) T.b_str boot_str (pa_cons (pe_ix (kIx (K := K)) (pv 0) pe_int (fun _ _ => rfl)) pa_nil)) pe_str) (pe_callTy call_strU (by rfl) T.b_str boot_str (pa_cons (pe_ix (kIx (K := K)) (pv 0) pe_int (fun _ _ => rfl)) pa_nil)))))), ?_⟩
  exact fun L => (ds_seq (ds_if (dt_test (DF.e (df_op rd_eq (DF.e (df_op rd_ix (DF.e (df_var (i := 0))) (DF.e (df_int (i := 0))))) (DF.e (df_op rd_ix (DF.e (df_var (i := 0))) (DF.e (df_int (i := 1)))))))) (ds_ret (df_B rc_str (da_cons (DF.e (df_op rd_ix (DF.e (df_var (i := 0))) (DF.e (df_int (i := 0))))) da_nil))) ds_next)
     (ds_ret (df_op rd_add (DF.e (df_op rd_add (DF.e (df_B rc_str (da_cons (DF.e (df_op rd_ix (DF.e (df_var (i := 0))) (DF.e (df_int (i := 0))))) da_nil))) (DF.e (df_str (x := ("-" : Str)))))) (DF.e (df_B rc_str (da_cons (DF.e (df_op rd_ix (DF.e (df_var (i := 0))) (DF.e (df_int (i := 1))))) da_nil))))))
end
/-! ### _law_cell -/
abbrev s__law_cell : Stmt := topS 13
abbrev N__law_cell : List Str := ["script", "k"]
abbrev P__law_cell : List Str := ["script", "k"]
theorem sc__law_cell : FnScope N__law_cell P__law_cell (defScope s__law_cell) := ⟨rfl, rfl, rfl, by decide +kernel, rfl, by decide +kernel, by decide +kernel⟩
noncomputable def g__law_cell : MS :=
 (sSeq (sIf (tE (e2 ltD (eVarF 1) (eB lenD (aCons (eVarF 0) aNil)))) (sRet (e2 ixD (eVarF 0) (eVarF 1))) sNext)
 (sRet (eC (.int 0))))
noncomputable def f__law_cell : List D → M D := mFn 2 2 g__law_cell
section
variable {P : Program} {w : World} {K : PySem.W.Frag} {mg : Str → Option Value} {base : Heap}
theorem ok__law_cell (T : Txt K mg) (dd : DefAt K mg "_law_cell" s__law_cell)  : FnAt P w K mg base "_law_cell" P__law_cell 1 f__law_cell := by
  refine fn_at (N := N__law_cell) (g := g__law_cell) dd sc__law_cell (fun _ _ _ _ _ _ us hl => match us, hl with | [_, _], _ => rfl) ?_
  intro f cdv A outer s H E hr
  refine ⟨_, (pss_cons (ps_if (pt_cmpR op_lt (pv 1) (pe_callB (kLen (K := K)) (by rfl) T.b_len boot_len (pa_cons (pv 0) pa_nil)) (nomark _)) (pss_one (ps_ret (pe_ix (kIx (K := K)) (pv 0) (pv 1) (fun _ _ => rfl)))) pss_nil)
     (pss_one (ps_ret pe_int))), ?_⟩
  exact fun L => (ds_seq (ds_if (dt_test (DF.e (df_op rd_cmp (DF.e (df_var (i := 1))) (DF.e (df_B rc_len (da_cons (DF.e (df_var (i := 0))) da_nil)))))) (ds_ret (df_op rd_ix (DF.e (df_var (i := 0))) (DF.e (df_var (i := 1))))) ds_next)
     (ds_ret (df_int (i := 0))))
end
/-! ### law -/
abbrev s_law : Stmt := topS 19
abbrev N_law : List Str := ["script", "deeds", "due", "handed", "found", "things", "place", "odd", "thing", "stead", "cell", "deed"]
abbrev P_law : List Str := ["script"]
theorem sc_law : FnScope N_law P_law (defScope s_law) := ⟨rfl, rfl, rfl, by decide +kernel, rfl, by decide +kernel, by decide +kernel⟩
noncomputable def g_law : MS :=
 (sSeq (sAsg (gN 1) (eL (eLc (iE (eSl slD (eVarF 0) oNone (oSome (eC (.int 300))))) (gN 10) tYesF (eCall f__law_deed (aCons (eVarF 10) aNil)) [10])))
 (sSeq (sAsg (gN 2) (eM1 joinD (eC (.str (" " : Str))) (eL (eLc (iE (eVarF 1)) (gN 11) tYesF (eCall f__law_thing (aCons (eVarF 11) aNil)) [11]))))
 (sSeq (sIf (tE (e2 eqD (eB lenD (aCons (eVarF 1) aNil)) (eC (.int 0)))) (sAsg (gN 2) (eC (.str ("." : Str)))) sNext)
 (sSeq (sAsg (gN 3) (eL (eBL listD (aCons (eVarF 1) aNil))))
 (sSeq (sAsg (gN 4) (eCall f_deeds_text (aCons (eVarF 3) aNil)))
 (sSeq (sIf (tO (tN (tE (e1 (isiD "str") (eVarF 4)))) (tO (tE (e2 neD (eVarF 4) (eVarF 2))) (tE (e2 neD (eVarF 3) (eVarF 1))))) (sRet (eC (.bool false))) sNext)
 (sSeq (sIf (tN (tE (eCall f__law_row_is (aCons (eCall f_read_deeds (aCons (eVarF 2) aNil)) (aCons (eVarF 1) aNil))))) (sRet (eC (.bool false))) sNext)
 (sSeq (sAsg (gN 5) (eL (eLc (iE (eVarF 1)) (gN 11) tYesF (eCall f__law_thing (aCons (eVarF 11) aNil)) [11])))
 (sSeq (sAsg (gN 6) (e2 modD (eCall f__law_cell (aCons (eVarF 0) (aCons (eC (.int 0)) aNil))) (e2 addD (eB lenD (aCons (eVarF 5) aNil)) (eC (.int 1)))))
 (sSeq (sAsg (gN 7) (eL (aCons (eC (.str ("" : Str))) (aCons (eC (.str ("80" : Str))) (aCons (eC (.str ("007" : Str))) (aCons (eC (.str ("01" : Str))) (aCons (eC (.str ("5-5" : Str))) (aCons (eC (.str ("7-3" : Str))) (aCons (eC (.str ("3-" : Str))) (aCons (eC (.str ("-3" : Str))) (aCons (eC (.str ("3-4-5" : Str))) (aCons (eC (.str ("a" : Str))) (aCons (eC (.str ("+3" : Str))) (aCons (eC (.str ("1_0" : Str))) (aCons (eC (.str ("100" : Str))) (aCons (eC (.str ("2-80" : Str))) (aCons (eC (.str ("--" : Str))) (aCons (eC (.str ("3:" : Str))) aNil))))))))))))))))))
 (sSeq (sAsg (gN 7) (e2 addD (eVarF 7) (eL (aCons (eC (.str ("2-03" : Str))) (aCons (eC (.str ("4 - 5" : Str))) (aCons (eC (.str ("1 ." : Str))) (aCons (eC (.str (". 1" : Str))) aNil)))))))
 (sSeq (sAsg (gN 8) (e2 ixD (eVarF 7) (e2 modD (eCall f__law_cell (aCons (eVarF 0) (aCons (eC (.int 1)) aNil))) (eB lenD (aCons (eVarF 7) aNil)))))
 (sSeq (sAsg (gN 9) (e2 modD (e2 divD (eCall f__law_cell (aCons (eVarF 0) (aCons (eC (.int 1)) aNil))) (eB lenD (aCons (eVarF 7) aNil))) (eC (.int 2))))
 (sSeq (sAsg (gN 5) (e2 addD (e2 addD (eSl slD (eVarF 5) oNone (oSome (eVarF 6))) (eL (aCons (eVarF 8) aNil))) (eSl slD (eVarF 5) (oSome (e2 addD (eVarF 6) (eVarF 9))) oNone)))
 (sRet (eCall f__law_refused (aCons (eM1 joinD (eC (.str (" " : Str))) (eVarF 5)) aNil)))))))))))))))))
noncomputable def f_law : List D → M D := mFn 1 12 g_law
section
variable {P : Program} {w : World} {K : PySem.W.Frag} {mg : Str → Option Value} {base : Heap}
theorem ok_law {f : Addr} {fd : FuncData} (T : Txt K mg) (F : Fun K "law" "law" s_law f fd) (c__law_cell : FnAt P w K mg base "_law_cell" P__law_cell 1 f__law_cell) (c__law_deed : FnAt P w K mg base "_law_deed" P__law_deed 1 f__law_deed) (c__law_refused : FnAt P w K mg base "_law_refused" P__law_refused 4 f__law_refused) (c__law_row_is : FnAt P w K mg base "_law_row_is" P__law_row_is 2 f__law_row_is) (c__law_thing : FnAt P w K mg base "_law_thing" P__law_thing 1 f__law_thing) (c_deeds_text : FnAt P w K mg base "deeds_text" P_deeds_text 2 f_deeds_text) (c_read_deeds : FnAt P w K mg base "read_deeds" P_read_deeds 3 f_read_deeds) (hlaw : ∀ ns, Scr ns → f_law [scrD ns] = .ok (.bool true)) : FnOk P w K mg base CX0 5 f fd ["script"] (spLaw K) := by
  obtain ⟨a__law_cell, fd__law_cell, m__law_cell, kp__law_cell, b__law_cell, G__law_cell⟩ := c__law_cell
  obtain ⟨a__law_deed, fd__law_deed, m__law_deed, kp__law_deed, b__law_deed, G__law_deed⟩ := c__law_deed
  obtain ⟨a__law_refused, fd__law_refused, m__law_refused, kp__law_refused, b__law_refused, G__law_refused⟩ := c__law_refused
  obtain ⟨a__law_row_is, fd__law_row_is, m__law_row_is, kp__law_row_is, b__law_row_is, G__law_row_is⟩ := c__law_row_is
  obtain ⟨a__law_thing, fd__law_thing, m__law_thing, kp__law_thing, b__law_thing, G__law_thing⟩ := c__law_thing
  obtain ⟨a_deeds_text, fd_deeds_text, m_deeds_text, kp_deeds_text, b_deeds_text, G_deeds_text⟩ := c_deeds_text
  obtain ⟨a_read_deeds, fd_read_deeds, m_read_deeds, kp_read_deeds, b_read_deeds, G_read_deeds⟩ := c_read_deeds
  refine law_at (N := N_law) (g := g_law) sc_law F ?_ hlaw
  intro f cdv A outer s H E hr
  refine ⟨_, (pss_cons (ps_setLc (i := 1) (own := [("cell", 10)]) (by rfl) sc_law.nd rfl rfl (sw_true rfl rfl rfl (by decide +kernel)) (pi_sqK (K := K) (pe_slice (kSl (K := K)) (pv 0) po_none (po_some pe_int))) (blkOk_by (own := [("cell", 10)]) (N := N_law) (sc := defScope s_law) (by decide +kernel)) (fun _ _ _ _ _ => (pg_name (i := 10) sc_law.nd rfl (Or.inl rfl))) (fun _ _ _ _ _ => pts_nil) (fun _ _ _ _ _ => (pe_callS G__law_deed (hr.mono (by decide)) (by rfl) m__law_deed kp__law_deed b__law_deed (fun σ => passAt takes0 σ) (pa_cons (pv 10) pa_nil))))
     (pss_cons (ps_set (i := 2) sc_law.nd rfl (Or.inl rfl) (pe_joinK (K := K) pe_str (pe_lc (own := [("deed", 11)]) (by rfl) sc_law.nd (pi_sqK (K := K) (pv 1)) (blkOk_by (own := [("deed", 11)]) (N := N_law) (sc := defScope s_law) (by decide +kernel)) (fun _ _ _ _ _ => (pg_name (i := 11) sc_law.nd rfl (Or.inl rfl))) (fun _ _ _ _ _ => pts_nil) (fun _ _ _ _ _ => (pe_callS G__law_thing (hr.mono (by decide)) (by rfl) m__law_thing kp__law_thing b__law_thing (fun σ => passAt takes0 σ) (pa_cons (pv 11) pa_nil))))))
     (pss_cons (ps_if (pt_cmpR (kEq (K := K) (hu64 hr)) (pe_callB (kLen (K := K)) (by rfl) T.b_len boot_len (pa_cons (pv 1) pa_nil)) pe_int (nomark _)) (pss_one (ps_set (i := 2) sc_law.nd rfl (Or.inl rfl) pe_str)) pss_nil)
     (pss_cons (ps_set (i := 3) sc_law.nd rfl (Or.inl rfl) (pe_callTy (kList (K := K)) (by rfl) T.b_list boot_list (pa_cons (pv 1) pa_nil)))
     (pss_cons (ps_set (i := 4) sc_law.nd rfl (Or.inl rfl) (pe_callS G_deeds_text (hr.mono (by decide)) (by rfl) m_deeds_text kp_deeds_text b_deeds_text (fun σ => passAt takes0 σ) (pa_cons (pv 3) pa_nil)))
     (pss_cons (ps_if (PW.pt (pw_or (pt_not (pt_val (pe_callB (kIsi (K := K)) (by rfl) T.b_isinstance boot_isinstance (pa_cons (pv 4) (pa_cons (pe_bltn (v := .ty "str") (by rfl) T.b_str boot_str rfl) pa_nil))))) (pw_or (pt_cmpR (kNe (K := K) (hu64 hr)) (pv 4) (pv 2) (nomark _)) (pw_or1 (pt_cmpR (kNe (K := K) (hu64 hr)) (pv 3) (pv 1) (nomark _)))))) (pss_one (ps_ret pe_bl)) pss_nil)
     (pss_cons (ps_if (pt_not (pt_val (pe_callS G__law_row_is (hr.mono (by decide)) (by rfl) m__law_row_is kp__law_row_is b__law_row_is (fun σ => passAt takes0 σ) (pa_cons (pe_callS G_read_deeds (hr.mono (by decide)) (by rfl) m_read_deeds kp_read_deeds b_read_deeds (fun σ => passAt takes0 σ) (pa_cons (pv 2) pa_nil)) (pa_cons (pv 1) pa_nil))))) (pss_one (ps_ret pe_bl)) pss_nil)
     (pss_cons (ps_setLc (i := 5) (own := [("deed", 11)]) (by rfl) sc_law.nd rfl rfl (sw_true rfl rfl rfl (by decide +kernel)) (pi_sqK (K := K) (pv 1)) (blkOk_by (own := [("deed", 11)]) (N := N_law) (sc := defScope s_law) (by decide +kernel)) (fun _ _ _ _ _ => (pg_name (i := 11) sc_law.nd rfl (Or.inl rfl))) (fun _ _ _ _ _ => pts_nil) (fun _ _ _ _ _ => (pe_callS G__law_thing (hr.mono (by decide)) (by rfl) m__law_thing kp__law_thing b__law_thing (fun σ => passAt takes0 σ) (pa_cons (pv 11) pa_nil))))
     (pss_cons (ps_set (i := 6) sc_law.nd rfl (Or.inl rfl) (pe_op op_mod (pe_callS G__law_cell (hr.mono (by decide)) (by rfl) m__law_cell kp__law_cell b__law_cell (fun σ => passAt takes0 σ) (pa_cons (pv 0) (pa_cons pe_int pa_nil))) (pe_op (kAdd (K := K)) (pe_callB (kLen (K := K)) (by rfl) T.b_len boot_len (pa_cons (pv 5) pa_nil)) pe_int)))
     (pss_cons (ps_set (i := 7) sc_law.nd rfl (Or.inl rfl) (pe_lst (pa_cons pe_str (pa_cons pe_str (pa_cons pe_str (pa_cons pe_str (pa_cons pe_str (pa_cons pe_str (pa_cons pe_str (pa_cons pe_str (pa_cons pe_str (pa_cons pe_str (pa_cons pe_str (pa_cons pe_str (pa_cons pe_str (pa_cons pe_str (pa_cons pe_str (pa_cons pe_str pa_nil))))))))))))))))))
     (pss_cons (ps_set (i := 7) sc_law.nd rfl (Or.inl rfl) (pe_op (kAdd (K := K)) (pv 7) (pe_lst (pa_cons pe_str (pa_cons pe_str (pa_cons pe_str (pa_cons pe_str pa_nil)))))))
     (pss_cons (ps_set (i := 8) sc_law.nd rfl (Or.inl rfl) (pe_ix (kIx (K := K)) (pv 7) (pe_op op_mod (pe_callS G__law_cell (hr.mono (by decide)) (by rfl) m__law_cell kp__law_cell b__law_cell (fun σ => passAt takes0 σ) (pa_cons (pv 0) (pa_cons pe_int pa_nil))) (pe_callB (kLen (K := K)) (by rfl) T.b_len boot_len (pa_cons (pv 7) pa_nil))) (fun _ _ => rfl)))
     (pss_cons (ps_set (i := 9) sc_law.nd rfl (Or.inl rfl) (pe_op op_mod (pe_op op_fdivW (pe_callS G__law_cell (hr.mono (by decide)) (by rfl) m__law_cell kp__law_cell b__law_cell (fun σ => passAt takes0 σ) (pa_cons (pv 0) (pa_cons pe_int pa_nil))) (pe_callB (kLen (K := K)) (by rfl) T.b_len boot_len (pa_cons (pv 7) pa_nil))) pe_int))
     (pss_cons (ps_set (i := 5) sc_law.nd rfl (Or.inl rfl) (pe_op (kAdd (K := K)) (pe_op (kAdd (K := K)) (pe_slice (kSl (K := K)) (pv 5) po_none (po_some (pv 6))) (pe_lst (pa_cons (pv 8) pa_nil))) (pe_slice (kSl (K := K)) (pv 5) (po_some (pe_op (kAdd (K := K)) (pv 6) (pv 9))) po_none)))
     (pss_one (ps_ret (pe_callS G__law_refused (hr.mono (by decide)) (by rfl) m__law_refused kp__law_refused b__law_refused (fun σ => passAt takes0 σ) (pa_cons (pe_joinK (K := K) pe_str (pv 5)) pa_nil)))))))))))))))))), ?_⟩
  exact fun L => (ds_seq (ds_asg (DL.fz (dl_lc (vs := [10]) (dib_sq (DF.e (df_sl rs_sl (DF.e (df_var (i := 0))) do_none (do_some (DF.e (df_int (i := 300))))))) (dg_name (i := 10)) (by decide) dt_yes (df_call (daf_cons (df_var (i := 10)) daf_nil)))) (dg_name (i := 1)))
     (ds_seq (ds_asg (df_m1 rs_join (DF.e (df_str (x := (" " : Str)))) (DF.e (DL.fz (dl_lc (vs := [11]) (dib_sq (DF.e (df_var (i := 1)))) (dg_name (i := 11)) (by decide) dt_yes (df_call (daf_cons (df_var (i := 11)) daf_nil)))))) (dg_name (i := 2)))
     (ds_seq (ds_if (dt_test (DF.e (df_op rd_eq (DF.e (df_B rc_len (da_cons (DF.e (df_var (i := 1))) da_nil))) (DF.e (df_int (i := 0)))))) (ds_asg (df_str (x := ("." : Str))) (dg_name (i := 2))) ds_next)
     (ds_seq (ds_asg (DL.fz (dl_B rc_list (da_cons (DF.e (df_var (i := 1))) da_nil))) (dg_name (i := 3)))
     (ds_seq (ds_asg (df_call (daf_cons (df_var (i := 3)) daf_nil)) (dg_name (i := 4)))
     (ds_seq (ds_if (dt_or (dt_not (dt_B (DF.e (df_isi (T := "str") (DF.e (df_var (i := 4))))))) (dt_or (dt_test (DF.e (df_op rd_ne (DF.e (df_var (i := 4))) (DF.e (df_var (i := 2)))))) (dt_test (DF.e (df_op rd_ne (DF.e (df_var (i := 3))) (DF.e (df_var (i := 1)))))))) (ds_ret (df_bl (b := false))) ds_next)
     (ds_seq (ds_if (dt_not (dt_B (DF.e (df_call (daf_cons (df_call (daf_cons (df_var (i := 2)) daf_nil)) (daf_cons (df_var (i := 1)) daf_nil)))))) (ds_ret (df_bl (b := false))) ds_next)
     (ds_seq (ds_asg (DL.fz (dl_lc (vs := [11]) (dib_sq (DF.e (df_var (i := 1)))) (dg_name (i := 11)) (by decide) dt_yes (df_call (daf_cons (df_var (i := 11)) daf_nil)))) (dg_name (i := 5)))
     (ds_seq (ds_asg (df_op rd_mod (DF.e (df_call (daf_cons (df_var (i := 0)) (daf_cons (df_int (i := 0)) daf_nil)))) (DF.e (df_op rd_add (DF.e (df_B rc_len (da_cons (DF.e (df_var (i := 5))) da_nil))) (DF.e (df_int (i := 1)))))) (dg_name (i := 6)))
     (ds_seq (ds_asg (DL.fz (dl_lst (daf_cons (df_str (x := ("" : Str))) (daf_cons (df_str (x := ("80" : Str))) (daf_cons (df_str (x := ("007" : Str))) (daf_cons (df_str (x := ("01" : Str))) (daf_cons (df_str (x := ("5-5" : Str))) (daf_cons (df_str (x := ("7-3" : Str))) (daf_cons (df_str (x := ("3-" : Str))) (daf_cons (df_str (x := ("-3" : Str))) (daf_cons (df_str (x := ("3-4-5" : Str))) (daf_cons (df_str (x := ("a" : Str))) (daf_cons (df_str (x := ("+3" : Str))) (daf_cons (df_str (x := ("1_0" : Str))) (daf_cons (df_str (x := ("100" : Str))) (daf_cons (df_str (x := ("2-80" : Str))) (daf_cons (df_str (x := ("--" : Str))) (daf_cons (df_str (x := ("3:" : Str))) daf_nil)))))))))))))))) (few_cons (few_cons (few_cons (few_cons (few_cons (few_cons (few_cons (few_cons (few_cons (few_cons (few_cons (few_cons (few_cons (few_cons (few_cons (few_cons few_nil)))))))))))))))))) (dg_name (i := 7)))
     (ds_seq (ds_asg (df_op rd_add (DF.e (df_var (i := 7))) (DF.e (DL.fz (dl_lst (daf_cons (df_str (x := ("2-03" : Str))) (daf_cons (df_str (x := ("4 - 5" : Str))) (daf_cons (df_str (x := ("1 ." : Str))) (daf_cons (df_str (x := (". 1" : Str))) daf_nil)))) (few_cons (few_cons (few_cons (few_cons few_nil)))))))) (dg_name (i := 7)))
     (ds_seq (ds_asg (df_op rd_ix (DF.e (df_var (i := 7))) (DF.e (df_op rd_mod (DF.e (df_call (daf_cons (df_var (i := 0)) (daf_cons (df_int (i := 1)) daf_nil)))) (DF.e (df_B rc_len (da_cons (DF.e (df_var (i := 7))) da_nil)))))) (dg_name (i := 8)))
     (ds_seq (ds_asg (df_op rd_mod (DF.e (df_op rd_div (DF.e (df_call (daf_cons (df_var (i := 0)) (daf_cons (df_int (i := 1)) daf_nil)))) (DF.e (df_B rc_len (da_cons (DF.e (df_var (i := 7))) da_nil))))) (DF.e (df_int (i := 2)))) (dg_name (i := 9)))
     (ds_seq (ds_asg (df_op rd_add (DF.e (df_op rd_add (DF.e (df_sl rs_sl (DF.e (df_var (i := 5))) do_none (do_some (DF.e (df_var (i := 6)))))) (DF.e (DL.fz (dl_lst (daf_cons (df_var (i := 8)) daf_nil) (few_cons few_nil)))))) (DF.e (df_sl rs_sl (DF.e (df_var (i := 5))) (do_some (DF.e (df_op rd_add (DF.e (df_var (i := 6))) (DF.e (df_var (i := 9)))))) do_none))) (dg_name (i := 5)))
     (ds_ret (df_call (daf_cons (df_m1 rs_join (DF.e (df_str (x := (" " : Str)))) (DF.e (df_var (i := 5)))) daf_nil)))))))))))))))))
end
section
variable {P : Program} {w : World} {K : PySem.W.Frag} {mg : Str → Option Value} {base : Heap}
theorem all_ok {f : Addr} {fd : FuncData} (T : Txt K mg) (d_deed_text : DefAt K mg "deed_text" s_deed_text) (d_deeds_text : DefAt K mg "deeds_text" s_deeds_text) (d_read_end : DefAt K mg "read_end" s_read_end) (d_read_deed : DefAt K mg "read_deed" s_read_deed) (d_read_deeds : DefAt K mg "read_deeds" s_read_deeds) (d__law_refused : DefAt K mg "_law_refused" s__law_refused) (d__law_deed : DefAt K mg "_law_deed" s__law_deed) (d__law_whole : DefAt K mg "_law_whole" s__law_whole) (d__law_row_is : DefAt K mg "_law_row_is" s__law_row_is) (d__law_thing : DefAt K mg "_law_thing" s__law_thing) (d__law_cell : DefAt K mg "_law_cell" s__law_cell) (F : Fun K "law" "law" s_law f fd) (hlaw : ∀ ns, Scr ns → f_law [scrD ns] = .ok (.bool true)) : FnOk P w K mg base CX0 5 f fd ["script"] (spLaw K) := by
  have c_deed_text : FnAt P w K mg base "deed_text" P_deed_text 1 f_deed_text := ok_deed_text T d_deed_text 
  have c_deeds_text : FnAt P w K mg base "deeds_text" P_deeds_text 2 f_deeds_text := ok_deeds_text T d_deeds_text c_deed_text
  have c_read_end : FnAt P w K mg base "read_end" P_read_end 1 f_read_end := ok_read_end T d_read_end 
  have c_read_deed : FnAt P w K mg base "read_deed" P_read_deed 2 f_read_deed := ok_read_deed T d_read_deed c_read_end
  have c_read_deeds : FnAt P w K mg base "read_deeds" P_read_deeds 3 f_read_deeds := ok_read_deeds T d_read_deeds c_read_deed
  have c__law_refused : FnAt P w K mg base "_law_refused" P__law_refused 4 f__law_refused := ok__law_refused T d__law_refused c_read_deeds
  have c__law_deed : FnAt P w K mg base "_law_deed" P__law_deed 1 f__law_deed := ok__law_deed T d__law_deed 
  have c__law_whole : FnAt P w K mg base "_law_whole" P__law_whole 1 f__law_whole := ok__law_whole T d__law_whole 
  have c__law_row_is : FnAt P w K mg base "_law_row_is" P__law_row_is 2 f__law_row_is := ok__law_row_is T d__law_row_is c__law_whole
  have c__law_thing : FnAt P w K mg base "_law_thing" P__law_thing 1 f__law_thing := ok__law_thing T d__law_thing 
  have c__law_cell : FnAt P w K mg base "_law_cell" P__law_cell 1 f__law_cell := ok__law_cell T d__law_cell 
  exact ok_law T F c__law_cell c__law_deed c__law_refused c__law_row_is c__law_thing c_deeds_text c_read_deeds hlaw
end
end Lw

set_option Elab.async false
set_option linter.all false
set_option maxRecDepth 100000
set_option maxHeartbeats 4000000
/-! Ja: ends as texts -/
namespace Lw
open PySem L2 Dn TL
def tN (n : Nat) : Str := Str.ofString (toString ((n : Nat) : Int))
theorem tN_tl (n : Nat) : (tN n).cps.toList = numL n := tl_num n
theorem tN_len (n : Nat) : (tN n).length = (numL n).length := by
  have := len_tl (tN n)
  rw [this]
  show (tN n).cps.toList.length = _
  rw [tN_tl]
theorem digit_in {c : Nat} (h : 48 ≤ c) (h2 : c ≤ 57) : c ∈ ("0123456789" : Str).cps.toList := by
  have e : ("0123456789" : Str).cps.toList = [48, 49, 50, 51, 52, 53, 54, 55, 56, 57] := by decide +kernel
  rw [e]
  simp
  omega
theorem end_loop (s0 : S) (cs : List Nat) (h : ∀ c ∈ cs, 48 ≤ c ∧ c ≤ 57) : ∃ t, loopFor (forB (gN 1) b1_read_end) (cs.map fun c => .str ⟨#[c]⟩) [s0, .none, .none] = .nx [s0, t, .none] := by
  refine for_inv (Post := fun o => ∃ t, o = .nx [s0, t, .none]) (fun _ ρ => ∃ t, ρ = [s0, t, .none]) ⟨_, rfl⟩ ?_ ?_
  · rintro j d ρ hd ⟨t, rfl⟩
    rw [List.getElem?_map] at hd
    obtain ⟨c, hc, rfl⟩ := Option.map_eq_some_iff.mp hd
    obtain ⟨h1, h2⟩ := h c (List.mem_of_getElem? hc)
    have e : ninSD (.str ⟨#[c]⟩) (.str ("0123456789" : Str)) = some (.bool false) := by
      have : ninSD (.str ⟨#[c]⟩) (.str ("0123456789" : Str)) = some (.bool (!decide (c ∈ ("0123456789" : Str).cps.toList))) := rfl
      rw [this, decide_eq_true (digit_in h1 h2)]
      rfl
    simp only [forB_ap, gN_ap, ofO_some]
    simp [b1_read_end, e]
    exact ⟨_, rfl⟩
  · rintro ρ ⟨t, rfl⟩
    exact ⟨t, rfl⟩
theorem intW_num {n : Nat} (h : n < 80) : intWD [.str (tN n)] = some (.int n) := by
  have l := numL_len (n := n) (k := 2) (by decide) (by omega)
  have i := int_num (n := n) (by omega)
  have e : intWD [.str (tN n)] = if (tN n).length ≤ 640 then (PySem.intText? (tN n)).map .int else none := rfl
  rw [e, if_pos (by rw [tN_len]; omega), show PySem.intText? (tN n) = some (n : Int) from i]
  rfl
theorem num_shape {n : Nat} (h : n < 80) : ∃ c r, numL n = c :: r ∧ (r = [] ∨ (c ≠ 48 ∧ ∃ d, r = [d])) := by
  by_cases g : n < 10
  · exact ⟨_, _, numL_lt g, .inl rfl⟩
  · rw [numL_step (by omega), numL_lt (by omega)]
    exact ⟨48 + n / 10, [48 + n % 10], rfl, .inr ⟨by omega, _, rfl⟩⟩
theorem read_end_ok {n : Nat} (h : n < 80) : f_read_end [.str (tN n)] = .ok (.int n) := by
  obtain ⟨c, r, e, sh⟩ := num_shape h
  have tl := tN_tl n
  have ln := tN_len n
  rw [e] at tl ln
  obtain ⟨t, lp⟩ := end_loop (.val (.str (tN n))) (numL n) (fun d hd => by
    have := numL_digits n d hd
    omega)
  have it : (numL n).map (fun c => PyData.str ⟨#[c]⟩) = (tN n).cps.toList.map fun c => PyData.str ⟨#[c]⟩ := by rw [tN_tl]
  rw [it] at lp
  have iw := intW_num h
  have l1 : 1 ≤ (tN n).length ∧ (tN n).length ≤ 2 := by
    rw [ln]
    rcases sh with rfl | ⟨_, d, rfl⟩ <;> simp
  have ld : lenD [.str (tN n)] = some (.int (tN n).length) := by
    have : (tN n).length ≤ sizeLine := by have : sizeLine = 16777216 := rfl; omega
    simp [lenD, this]
  have ix : ixD (.str (tN n)) (.int 0) = some (.str ⟨#[c]⟩) := by
    have q : ixD (.str (tN n)) (.int 0) = if (tN n).length ≤ sizeLine then (atI (tN n).cps.toList 0).map fun c => .str ⟨#[c]⟩ else none := rfl
    rw [q, if_pos (by have : sizeLine = 16777216 := rfl; omega), tl]
    simp [atI, ixN]
  have n1 : ¬ ((tN n).length : Int) < 1 := by omega
  have n2 : ¬ (2 : Int) < ((tN n).length : Int) := by omega
  have n80 : ¬ (79 : Int) < n := by omega
  rcases sh with rfl | ⟨c0, d, rfl⟩
  · have n3 : ¬ (1 : Int) < ((tN n).length : Int) := by rw [ln]; simp
    simp [f_read_end, mFn, g_read_end, start', iS, ld, ix, n1, n2, n3, lp, iw, n80, -forB_ap]
  · have q : ¬ (⟨#[c]⟩ : Str) = ("0" : Str) := fun w => by
      have e0 : ("0" : Str).cps = #[48] := by decide +kernel
      have := congrArg Str.cps w
      rw [e0] at this
      simp at this
      exact c0 this
    simp [f_read_end, mFn, g_read_end, start', iS, ld, ix, n1, n2, q, lp, iw, n80, -forB_ap]
end Lw

set_option Elab.async false
set_option linter.all false
set_option maxRecDepth 100000
set_option maxHeartbeats 4000000
/-! Jb: deeds as texts -/
namespace Lw
open PySem L2 Dn TL
theorem split_ok {y : Str} {s : Nat} (ey : y.cps = #[s]) (s1 : s < 256) {parts : List Str} (hne : parts ≠ []) (hp : ∀ p ∈ parts, s ∉ TL.tl p) (hl : (Txt.join y parts).length + 2 ≤ 16777216) :
    splitD (.str (Txt.join y parts)) (.str y) = some (parts.map .str) := by
  have e : splitD (.str (Txt.join y parts)) (.str y) = if (y.length == 0) = false ∧ (Txt.join y parts).length + 2 ≤ 16777216 then some ((Txt.split (Txt.join y parts) y).map .str) else none := rfl
  have yl : y.length = 1 := by unfold Str.length; rw [ey]; rfl
  rw [e, if_pos ⟨by rw [yl]; rfl, hl⟩, split_join (s := s) (S := []) (by unfold TL.tl; rw [ey]) (by rw [ey]; simp [s1]) hne hp]
/-- the parts of a deed's text -/
def tp (a b : Nat) : List Str := if a = b then [tN a] else [tN a, tN b]
theorem tp_free {a b s : Nat} (h : s < 48 ∨ 57 < s) : ∀ p ∈ tp a b, s ∉ TL.tl p := by
  intro p hp
  unfold tp at hp
  have g : ∀ n, s ∉ TL.tl (tN n) := fun n => by
    rw [show TL.tl (tN n) = numL n from tl_num n]
    exact numL_free h
  split at hp
  · rw [List.mem_singleton.mp hp]; exact g a
  · rcases List.mem_cons.mp hp with rfl | hp
    · exact g a
    · rw [List.mem_singleton.mp hp]; exact g b
theorem read_parts (t : Str) {a b : Nat} (ha : a < 80) (hb : b < 80) (ab : a ≤ b) (sp : splitD (.str t) (.str ("-" : Str)) = some ((tp a b).map .str)) : f_read_deed [.str t] = .ok (.tuple [.int a, .int b]) := by
  have ra := read_end_ok ha
  have rb := read_end_ok hb
  have z0 : 0 < sizeLine := by decide
  have z1 : 1 < sizeLine := by decide
  by_cases e : a = b
  · subst e
    have q : tp a a = [tN a] := if_pos rfl
    rw [q] at sp
    have i0 : ixD (.list [.int (a : Int)]) (.int 0) = some (.int a) := rfl
    have i1 : ixD (.list [.int (a : Int)]) (.int (-1)) = some (.int a) := rfl
    simp [f_read_deed, mFn, g_read_deed, start', sp, loopLcX, ra, i0, i1, wipeF, z0]
  · have q : tp a b = [tN a, tN b] := if_neg e
    rw [q] at sp
    have n : ¬ (b : Int) ≤ (a : Int) := by omega
    have i0 : ixD (.list [.int (a : Int), .int (b : Int)]) (.int 0) = some (.int a) := rfl
    have i1 : ixD (.list [.int (a : Int), .int (b : Int)]) (.int 1) = some (.int b) := rfl
    have i2 : ixD (.list [.int (a : Int), .int (b : Int)]) (.int (-1)) = some (.int b) := rfl
    simp [f_read_deed, mFn, g_read_deed, start', sp, loopLcX, ra, rb, i0, i1, i2, n, wipeF, z0, z1]
/-- a deed's text -/
def tx (a b : Nat) : Str := Txt.join ("-" : Str) (tp a b)
theorem tx_one (a : Nat) : tx a a = tN a := by
  unfold tx tp
  rw [if_pos rfl]
  rfl
theorem tx_two {a b : Nat} (h : ¬ a = b) : tx a b = tN a ++ ("-" : Str) ++ tN b := by
  unfold tx tp
  rw [if_neg h, join_eq]
  exact TL.ext_tl (by rw [tl_join, tl_append, tl_append]; simp [joinL])
end Lw

set_option Elab.async false
set_option linter.all false
set_option maxRecDepth 100000
set_option maxHeartbeats 4000000
/-! Jc: deeds as texts, the functions -/
namespace Lw
open PySem L2 Dn TL
theorem str_end {a : Nat} (ha : a < 80) : strD [.int (a : Int)] = some (.str (tN a)) := strD_int (in62 (i := (a : Int)) (by omega))
theorem tN_len2 {a : Nat} (ha : a < 80) : (tN a).length ≤ 2 := by
  rw [tN_len]
  exact numL_len (by decide) (by omega)
theorem app_len (x y : Str) : (x ++ y).length = x.length + y.length := by
  rw [TL.len_tl, TL.len_tl x, TL.len_tl y, TL.tl_append, List.length_append]
theorem tx_len {a b : Nat} (ha : a < 80) (hb : b < 80) : (tx a b).length ≤ 5 := by
  have l1 := tN_len2 ha
  have l2 := tN_len2 hb
  by_cases e : a = b
  · subst e; rw [tx_one]; omega
  · have : ("-" : Str).length = 1 := by decide +kernel
    rw [tx_two e, app_len, app_len]; omega
theorem read_deed_ok {a b : Nat} (ha : a < 80) (hb : b < 80) (ab : a ≤ b) : f_read_deed [.str (tx a b)] = .ok (.tuple [.int a, .int b]) := by
  refine read_parts _ ha hb ab (split_ok (s := 45) (by decide +kernel) (by decide) (by unfold tp; split <;> simp) (tp_free (by decide)) ?_)
  have := tx_len ha hb
  show (tx a b).length + 2 ≤ _
  omega
theorem add_str {x y : Str} (h : x.length + y.length ≤ 100) : addD (.str x) (.str y) = some (.str (x ++ y)) := by
  have : x.length + y.length ≤ sizeLine := by have : sizeLine = 16777216 := rfl; omega
  simp [addD, this]
theorem text_eq {a b : Nat} (ha : a < 80) (hb : b < 80) : f_deed_text [.tuple [.int a, .int b]] = .ok (.str (tx a b)) := by
  have sa := str_end ha
  have sb := str_end hb
  have l1 := tN_len2 ha
  have l2 := tN_len2 hb
  have l3 : ("-" : Str).length = 1 := by decide +kernel
  by_cases e : a = b
  · subst e
    rw [tx_one]
    simp [f_deed_text, mFn, g_deed_text, start', sa]
  · have e' : ¬ (a : Int) = (b : Int) := by omega
    rw [tx_two e]
    have a1 := add_str (x := tN a) (y := ("-" : Str)) (by omega)
    have a2 := add_str (x := tN a ++ ("-" : Str)) (y := tN b) (by rw [app_len]; omega)
    simp [f_deed_text, mFn, g_deed_text, start', sa, sb, e', a1, a2]
theorem thing_eq {a b : Nat} (ha : a < 80) (hb : b < 80) : f__law_thing [.tuple [.int a, .int b]] = .ok (.str (tx a b)) := by
  have sa := str_end ha
  have sb := str_end hb
  have l1 := tN_len2 ha
  have l2 := tN_len2 hb
  have l3 : ("-" : Str).length = 1 := by decide +kernel
  have i0 : ixD (.tuple [.int (a : Int), .int (b : Int)]) (.int 0) = some (.int a) := rfl
  have i1 : ixD (.tuple [.int (a : Int), .int (b : Int)]) (.int 1) = some (.int b) := rfl
  by_cases e : a = b
  · subst e
    rw [tx_one]
    simp [f__law_thing, mFn, g__law_thing, start', sa, i0, i1]
  · have e' : ¬ (a : Int) = (b : Int) := by omega
    rw [tx_two e]
    have a1 := add_str (x := tN a) (y := ("-" : Str)) (by omega)
    have a2 := add_str (x := tN a ++ ("-" : Str)) (y := tN b) (by rw [app_len]; omega)
    simp [f__law_thing, mFn, g__law_thing, start', sa, sb, i0, i1, e', a1, a2]
end Lw

set_option Elab.async false
set_option linter.all false
set_option maxRecDepth 100000
set_option maxHeartbeats 4000000
/-! Jd: rows of deeds as texts -/
namespace Lw
open PySem L2 Dn TL
def OkD (d : Nat × Nat) : Prop := d.1 ≤ d.2 ∧ d.2 < 80
def pD (d : Nat × Nat) : D := .tuple [.int d.1, .int d.2]
def tX (d : Nat × Nat) : Str := tx d.1 d.2
/-- the law's deed -/
theorem law_deed_eq (c : Int) : ∃ d, OkD d ∧ f__law_deed [.int c] = .ok (pD d) := by
  obtain ⟨a, ha, ha2⟩ := nat_mod (c := c) (m := 80) (by decide)
  obtain ⟨b, hb, hb2⟩ := nat_mod (c := c / 80) (m := 80 - (a : Int)) (by omega)
  have m1 : modD (.int c) (.int 80) = some (.int (a : Int)) := by rw [modD_pos (by decide), ha]
  have m2 : modD (.int (c / 80)) (.int (80 - (a : Int))) = some (.int (b : Int)) := by rw [modD_pos (by omega), hb]
  have m3 : modD (.int (c / 7)) (.int 4) = some (.int (c / 7 % 4)) := modD_pos (by decide)
  by_cases h : c / 7 % 4 = 1
  · refine ⟨(a, a), ⟨Nat.le_refl _, by show a < 80; omega⟩, ?_⟩
    simp [f__law_deed, mFn, g__law_deed, start', m1, m2, m3, h, pD, -modD_pos]
  · refine ⟨(a, a + b), ⟨by show a ≤ a + b; omega, by show a + b < 80; omega⟩, ?_⟩
    simp [f__law_deed, mFn, g__law_deed, start', m1, m2, m3, h, pD, -modD_pos]
theorem tX_free {s : Nat} (h : s < 45) (d : Nat × Nat) : s ∉ TL.tl (tX d) := by
  unfold tX
  have g : ∀ n, s ∉ TL.tl (tN n) := fun n => by
    rw [show TL.tl (tN n) = numL n from tl_num n]
    exact numL_free (by omega)
  by_cases e : d.1 = d.2
  · rw [← e, tx_one]; exact g _
  · rw [tx_two e, TL.tl_append, TL.tl_append]
    have l : TL.tl ("-" : Str) = [45] := by decide +kernel
    rw [l]
    simp only [List.mem_append, List.mem_singleton]
    rintro ((w | w) | w)
    · exact g _ w
    · omega
    · exact g _ w
theorem join_len (y : Str) (k : Nat) (hy : y.length ≤ 1) : ∀ ys : List Str, (∀ x ∈ ys, x.length ≤ k) → (Txt.join y ys).length ≤ ys.length * (k + 1)
  | [], _ => by rw [join_eq]; show Str.empty.length ≤ _; exact Nat.zero_le _
  | [x], h => by
    rw [join_eq]
    have := h x (List.mem_singleton.mpr rfl)
    show x.length ≤ _
    simp
    omega
  | x :: z :: r, h => by
    have ih := join_len y k hy (z :: r) (fun w hw => h w (List.mem_cons_of_mem _ hw))
    have hx := h x (List.mem_cons_self ..)
    rw [join_eq] at ih ⊢
    show (x ++ y ++ Str.join y (z :: r)).length ≤ _
    rw [app_len, app_len, List.length_cons, Nat.add_mul]
    omega
theorem sum_len (k : Nat) : ∀ ys : List Str, (∀ x ∈ ys, x.length ≤ k) → (ys.map (·.length)).sum ≤ ys.length * k
  | [], _ => Nat.zero_le _
  | x :: r, h => by
    have ih := sum_len k r (fun w hw => h w (List.mem_cons_of_mem _ hw))
    have hx := h x (List.mem_cons_self ..)
    rw [List.map_cons, List.sum_cons, List.length_cons, Nat.add_mul]
    omega
theorem join_ok {y : Str} (hy : y.length ≤ 1) {ys : List Str} {k : Nat} (h : ∀ x ∈ ys, x.length ≤ k) (hk : ys.length * (k + 1) ≤ 16777216) : joinD (.str y) (.list (ys.map .str)) = some (.str (Txt.join y ys)) := by
  have s := sum_len k ys h
  have e : joinD (.str y) (.list (ys.map .str)) = (strs? (ys.map .str)).bind fun ys => if (ys.map (·.length)).sum + ys.length * y.length ≤ 16777216 then some (.str (Txt.join y ys)) else none := rfl
  rw [e, strs?_map]
  refine if_pos ?_
  have : ys.length * y.length ≤ ys.length * 1 := Nat.mul_le_mul_left _ hy
  rw [Nat.mul_add] at hk
  omega
theorem lcX_good {α : Type} (enc dec : α → D) {tg : D → Fr → Option Fr} {e : ME} {vs : List Nat} {ρ : Fr} : ∀ (xs : List α) (ys acc : List D), acc.length + xs.length < sizeLine →
    (∀ x ∈ xs, ∃ ρ', tg (enc x) (wipeF ρ vs) = some ρ' ∧ e ρ' = .ok (dec x)) → loopLcX tg e vs ρ (xs.map enc ++ ys) acc = loopLcX tg e vs ρ ys (acc ++ xs.map dec)
  | [], ys, acc, _, _ => by simp
  | x :: xs, ys, acc, hz, h => by
    obtain ⟨ρ', h1, h2⟩ := h x (List.mem_cons_self ..)
    rw [List.length_cons] at hz
    rw [List.map_cons, List.cons_append]
    conv => lhs; unfold loopLcX
    rw [h1]
    show (e ρ').bind _ = _
    rw [h2, M.bind_ok, if_pos (by omega)]
    rw [lcX_good enc dec xs ys (acc ++ [dec x]) (by rw [List.length_append, List.length_singleton]; omega) fun d hd => h d (List.mem_cons_of_mem _ hd)]
    simp
/-- the first bad one lets its exception out -/
theorem lcX_bad {tg : D → Fr → Option Fr} {e : ME} {vs : List Nat} {ρ ρ' : Fr} {y : D} {n : Str} (ys acc : List D) (h1 : tg y (wipeF ρ vs) = some ρ') (h2 : e ρ' = .exc n) : loopLcX tg e vs ρ (y :: ys) acc = .exc n := by
  unfold loopLcX
  rw [h1]
  show (e ρ').bind _ = _
  rw [h2]
  rfl
theorem read_turn (s0 : S) {d : Nat × Nat} (ok : OkD d) : ∃ ρ', gN 1 (.str (tX d)) (wipeF [s0, .none] [1]) = some ρ' ∧ eCall f_read_deed (aCons (eVarF 1) aNil) ρ' = .ok (pD d) := by
  obtain ⟨h1, h2⟩ := ok
  have r := read_deed_ok (a := d.1) (b := d.2) (by omega) h2 h1
  have r : f_read_deed [.str (tX d)] = .ok (pD d) := r
  refine ⟨_, rfl, ?_⟩
  simp [wipeF, r]
theorem read_lc (s0 : S) (ds : List (Nat × Nat)) (ok : ∀ d ∈ ds, OkD d) (n : ds.length ≤ 1000) : loopLcX (gN 1) (eCall f_read_deed (aCons (eVarF 1) aNil)) [1] [s0, .none] (ds.map fun d => .str (tX d)) [] = .ok (ds.map pD) := by
  have := lcX_good (fun d => .str (tX d)) pD (tg := gN 1) (e := eCall f_read_deed (aCons (eVarF 1) aNil)) (vs := [1]) (ρ := [s0, .none]) ds [] [] (by have : sizeLine = 16777216 := rfl; show 0 + _ < _; omega) (fun d hd => read_turn s0 (ok d hd))
  rw [List.append_nil] at this
  rw [this]
  rfl
/-- good deeds, then a text that is none -/
theorem read_lc_bad (s0 : S) (ds : List (Nat × Nat)) (ok : ∀ d ∈ ds, OkD d) (n : ds.length ≤ 1000) {t : Str} (h : f_read_deed [.str t] = .exc "NoText") (ys : List D) : loopLcX (gN 1) (eCall f_read_deed (aCons (eVarF 1) aNil)) [1] [s0, .none] ((ds.map fun d => .str (tX d)) ++ .str t :: ys) [] = .exc "NoText" := by
  rw [lcX_good (fun d => .str (tX d)) pD ds _ [] (by have : sizeLine = 16777216 := rfl; show 0 + _ < _; omega) (fun d hd => read_turn s0 (ok d hd))]
  refine lcX_bad (ρ' := [s0, .val (.str t)]) _ _ rfl ?_
  simp [h]
end Lw

set_option Elab.async false
set_option linter.all false
set_option maxRecDepth 100000
set_option maxHeartbeats 4000000
/-! Je: read_deeds of a row's text -/
namespace Lw
open PySem L2 Dn TL
def rowT (ds : List (Nat × Nat)) : Str := Txt.join (" " : Str) (ds.map tX)
theorem rowT_len {ds : List (Nat × Nat)} (ok : ∀ d ∈ ds, OkD d) : (rowT ds).length ≤ ds.length * 6 := by
  have := join_len (" " : Str) 5 (by decide +kernel) (ds.map tX) (fun x hx => by
    obtain ⟨d, hd, rfl⟩ := List.mem_map.mp hx
    obtain ⟨h1, h2⟩ := ok d hd
    exact tx_len (by omega) h2)
  rw [List.length_map] at this
  exact this
theorem read_row {ds : List (Nat × Nat)} (ok : ∀ d ∈ ds, OkD d) (n : ds.length ≤ 1000) (ne : ds ≠ []) (nd : ¬ rowT ds = ("." : Str)) : f_read_deeds [.str (rowT ds)] = .ok (.list (ds.map pD)) := by
  have l := rowT_len ok
  have sp := split_ok (y := (" " : Str)) (s := 32) (by decide +kernel) (by decide) (parts := ds.map tX) (by simpa using ne) (fun p hp => by
    obtain ⟨d, _, rfl⟩ := List.mem_map.mp hp
    exact tX_free (by decide) d) (by show (rowT ds).length + 2 ≤ _; omega)
  have sp : splitD (.str (rowT ds)) (.str (" " : Str)) = _ := sp
  rw [List.map_map] at sp
  have lc := read_lc (.val (.str (rowT ds))) ds ok n
  have sp : splitD (.str (rowT ds)) (.str (" " : Str)) = some (ds.map fun d => .str (tX d)) := sp
  generalize (ds.map fun d => PyData.str (tX d)) = L at *
  simp [f_read_deeds, mFn, g_read_deeds, start', nd, sp, lc]
theorem tX_dot (d : Nat × Nat) : 46 ∉ TL.tl (tX d) := by
  unfold tX
  have g : ∀ n, 46 ∉ TL.tl (tN n) := fun n => by
    rw [show TL.tl (tN n) = numL n from tl_num n]
    exact numL_free (by decide)
  by_cases e : d.1 = d.2
  · rw [← e, tx_one]; exact g _
  · rw [tx_two e, TL.tl_append, TL.tl_append]
    have l : TL.tl ("-" : Str) = [45] := by decide +kernel
    rw [l]
    simp only [List.mem_append, List.mem_singleton]
    rintro ((w | w) | w)
    · exact g _ w
    · exact absurd w (by decide)
    · exact g _ w
theorem join_dot : ∀ ls : List (List Nat), (∀ l ∈ ls, 46 ∉ l) → 46 ∉ joinL [32] ls
  | [], _ => by simp [joinL]
  | [p], h => h p (List.mem_singleton.mpr rfl)
  | p :: q :: r, h => by
    have ih := join_dot (q :: r) (fun l hl => h l (List.mem_cons_of_mem _ hl))
    have hp := h p (List.mem_cons_self ..)
    show 46 ∉ p ++ ([32] ++ joinL [32] (q :: r))
    simp only [List.mem_append, List.mem_singleton]
    rintro (w | w | w)
    · exact hp w
    · exact absurd w (by decide)
    · exact ih w
theorem rowT_dot (ds : List (Nat × Nat)) : ¬ rowT ds = ("." : Str) := fun e => by
  have l : TL.tl ("." : Str) = [46] := by decide +kernel
  have k : TL.tl (" " : Str) = [32] := by decide +kernel
  have : TL.tl (rowT ds) = joinL [32] ((ds.map tX).map TL.tl) := by
    unfold rowT
    rw [join_eq, tl_join, k]
  rw [e, l] at this
  have f := join_dot ((ds.map tX).map TL.tl) (fun l hl => by
    obtain ⟨x, hx, rfl⟩ := List.mem_map.mp hl
    obtain ⟨d, _, rfl⟩ := List.mem_map.mp hx
    exact tX_dot d)
  rw [← this] at f
  exact f (List.mem_singleton.mpr rfl)
end Lw

set_option Elab.async false
set_option linter.all false
set_option maxRecDepth 100000
set_option maxHeartbeats 4000000
/-! Jf: deeds_text of a row -/
namespace Lw
open PySem L2 Dn TL
theorem text_lc (s0 : S) (ds : List (Nat × Nat)) (ok : ∀ d ∈ ds, OkD d) (n : ds.length ≤ 1000) : loopLc (gN 1) tYesF (eCall f_deed_text (aCons (eVarF 1) aNil)) [1] [s0, .none] (ds.map pD) [] = .ok (ds.map fun d => .str (tX d)) := by
  rw [loopLc_enc pD (fun d => .str (tX d)) ds [] (by have : sizeLine = 16777216 := rfl; show 0 + _ < _; omega) (fun d hd => ?_)]
  · rfl
  · obtain ⟨h1, h2⟩ := ok d hd
    have r := text_eq (a := d.1) (b := d.2) (by omega) h2
    have r : f_deed_text [pD d] = .ok (.str (tX d)) := r
    refine ⟨_, rfl, ?_⟩
    simp [wipeF, r]
theorem row_join {ds : List (Nat × Nat)} (ok : ∀ d ∈ ds, OkD d) (n : ds.length ≤ 1000) : joinD (.str (" " : Str)) (.list (ds.map fun d => .str (tX d))) = some (.str (rowT ds)) := by
  have j := join_ok (y := (" " : Str)) (by decide +kernel) (ys := ds.map tX) (k := 5) (fun x hx => by
    obtain ⟨d, hd, rfl⟩ := List.mem_map.mp hx
    obtain ⟨h1, h2⟩ := ok d hd
    exact tx_len (by omega) h2) (by rw [List.length_map]; omega)
  rw [List.map_map] at j
  exact j
theorem deeds_text_eq {ds : List (Nat × Nat)} (ok : ∀ d ∈ ds, OkD d) (n : ds.length ≤ 1000) (ne : ds ≠ []) : f_deeds_text [.list (ds.map pD)] = .ok (.str (rowT ds)) := by
  have lc := text_lc (.val (.list (ds.map pD))) ds ok n
  have j := row_join ok n
  have l0 : ¬ ds.length = 0 := fun z => ne (List.length_eq_zero_iff.mp z)
  have ld : lenD [.list (ds.map pD)] = some (.int (ds.length : Int)) := by
    have : lenD [.list (ds.map pD)] = some (.int ((ds.map pD).length : Int)) := rfl
    rw [this, List.length_map]
  have z : ¬ (ds.length : Int) = 0 := by omega
  generalize (ds.map fun d => PyData.str (tX d)) = L at *
  generalize ds.map pD = M at *
  simp [f_deeds_text, mFn, g_deeds_text, start', ld, z, ne, lc, j]
theorem deeds_text_nil : f_deeds_text [.list []] = .ok (.str ("." : Str)) := by
  simp [f_deeds_text, mFn, g_deeds_text, start']
theorem read_nil : f_read_deeds [.str ("." : Str)] = .ok (.list []) := by
  simp [f_read_deeds, mFn, g_read_deeds, start']
end Lw

set_option Elab.async false
set_option linter.all false
set_option maxRecDepth 100000
set_option maxHeartbeats 4000000
/-! Jg: _law_row_is -/
namespace Lw
open PySem L2 Dn TL
theorem whole_eq (x : Int) : f__law_whole [.int x] = .ok (.bool true) := by
  simp [f__law_whole, mFn, g__law_whole, start']
theorem row_is_eq (ds : List (Nat × Nat)) (n : ds.length ≤ 1000) : f__law_row_is [.list (ds.map pD), .list (ds.map pD)] = .ok (.bool true) := by
  have ld : lenD [.list (ds.map pD)] = some (.int ((ds.length : Nat) : Int)) := by rw [lenD_l, List.length_map]
  have r1 := rngM1_ok (in62 (i := ((ds.length : Nat) : Int)) (by omega))
  have lp : ∃ s, loopFor (forB (gN 2) b1__law_row_is) (rngL 0 ((ds.length : Nat) : Int)) [.val (.list (ds.map pD)), .val (.list (ds.map pD)), .none] = .nx [.val (.list (ds.map pD)), .val (.list (ds.map pD)), s] := by
    refine for_inv (Post := fun o => ∃ s, o = .nx [.val (.list (ds.map pD)), .val (.list (ds.map pD)), s]) (fun _ ρ => ∃ s, ρ = [.val (.list (ds.map pD)), .val (.list (ds.map pD)), s]) ⟨_, rfl⟩ ?_ ?_
    · rintro j d ρ hd ⟨s, rfl⟩
      obtain ⟨hj, rfl⟩ := rng_get (n := ds.length) hd
      have ix : ixD (.list (ds.map pD)) (.int (j : Int)) = some (pD ds[j]) := ixD_ln (by rw [List.getElem?_map, List.getElem?_eq_getElem hj]; rfl)
      have i0 : ixD (pD ds[j]) (.int 0) = some (.int (ds[j].1 : Int)) := rfl
      have i1 : ixD (pD ds[j]) (.int 1) = some (.int (ds[j].2 : Int)) := rfl
      have w0 := whole_eq (ds[j].1 : Int)
      have w1 := whole_eq (ds[j].2 : Int)
      have ty : isiD "tuple" (pD ds[j]) = some (.bool true) := by unfold pD; simp
      have ne : neD (pD ds[j]) (pD ds[j]) = some (.bool false) := (neD_t gr_int (by decide) [(ds[j].1 : Int), (ds[j].2 : Int)] [(ds[j].1 : Int), (ds[j].2 : Int)]).trans (by simp)
      have tn : forB (gN 2) b1__law_row_is (.int (j : Int)) [.val (.list (ds.map pD)), .val (.list (ds.map pD)), s] = .nx [.val (.list (ds.map pD)), .val (.list (ds.map pD)), .val (.int (j : Int))] := by
        generalize (ds[j].1 : Int) = x at *
        generalize (ds[j].2 : Int) = y at *
        generalize pD ds[j] = P at *
        generalize ds.map pD = L at *
        generalize (j : Int) = j' at *
        simp [b1__law_row_is, ix, i0, i1, w0, w1, ty, ne]
      rw [tn]
      exact ⟨_, rfl⟩
    · rintro ρ ⟨s, rfl⟩
      exact ⟨s, rfl⟩
  obtain ⟨s, lp⟩ := lp
  have ty : isiD "list" (.list (ds.map pD)) = some (.bool true) := by simp
  generalize ds.map pD = L at *
  generalize ((ds.length : Nat) : Int) = x at *
  generalize rngL 0 x = RR at *
  simp [f__law_row_is, mFn, g__law_row_is, start', ld, r1, lp, -forB_ap, -lenD_l]
end Lw

set_option Elab.async false
set_option linter.all false
set_option maxRecDepth 100000
set_option maxHeartbeats 4000000
/-! Jh: texts that are no ends, no deeds -/
namespace Lw
open PySem L2 Dn TL
theorem digit_out {c : Nat} (h : ¬ (48 ≤ c ∧ c ≤ 57)) : c ∉ ("0123456789" : Str).cps.toList := by
  have e : ("0123456789" : Str).cps.toList = [48, 49, 50, 51, 52, 53, 54, 55, 56, 57] := by decide +kernel
  rw [e]
  simp
  omega
theorem sign_turn (s0 t : S) (c : Nat) : forB (gN 1) b1_read_end (.str ⟨#[c]⟩) [s0, t, .none] = if 48 ≤ c ∧ c ≤ 57 then .nx [s0, .val (.str ⟨#[c]⟩), .none] else .exc "NoText" [s0, .val (.str ⟨#[c]⟩), .none] := by
  have q : ninSD (.str ⟨#[c]⟩) (.str ("0123456789" : Str)) = some (.bool (!decide (c ∈ ("0123456789" : Str).cps.toList))) := rfl
  by_cases h : 48 ≤ c ∧ c ≤ 57
  · rw [decide_eq_true (digit_in h.1 h.2)] at q
    rw [if_pos h]
    simp only [forB_ap, gN_ap, ofO_some]
    simp [b1_read_end, q]
  · rw [decide_eq_false (digit_out h)] at q
    rw [if_neg h]
    simp only [forB_ap, gN_ap, ofO_some]
    simp [b1_read_end, q]
theorem signs_bad (s0 : S) : ∀ (cs : List Nat) (t : S), (∃ c ∈ cs, ¬ (48 ≤ c ∧ c ≤ 57)) → ∃ ρ, loopFor (forB (gN 1) b1_read_end) (cs.map fun c => .str ⟨#[c]⟩) [s0, t, .none] = .exc "NoText" ρ
  | [], t, ⟨c, hc, _⟩ => (List.not_mem_nil hc).elim
  | c :: cs, t, h => by
    have tn := sign_turn s0 t c
    rw [List.map_cons]
    by_cases g : 48 ≤ c ∧ c ≤ 57
    · rw [if_pos g] at tn
      rw [loop_nx tn]
      obtain ⟨d, hd, nd⟩ := h
      rcases List.mem_cons.mp hd with rfl | hd
      · exact absurd g nd
      · exact signs_bad s0 cs _ ⟨d, hd, nd⟩
    · rw [if_neg g] at tn
      rw [loop_exc tn]
      exact ⟨_, rfl⟩
/-- codes of a text that is no end -/
def badE (cs : List Nat) : Bool := decide (cs.length < 1) || decide (2 < cs.length) || (decide (cs[0]? = some 48) && decide (1 < cs.length)) || cs.any fun c => !(decide (48 ≤ c) && decide (c ≤ 57))
theorem read_end_bad {t : Str} {cs : List Nat} (tl : t.cps.toList = cs) (hl : cs.length ≤ 100) (h : badE cs = true) : f_read_end [.str t] = .exc "NoText" := by
  have ln : t.length = cs.length := by rw [len_tl t]; show t.cps.toList.length = _; rw [tl]
  have ld : lenD [.str t] = some (.int ((t.length : Nat) : Int)) := by
    have : t.length ≤ sizeLine := by have : sizeLine = 16777216 := rfl; omega
    simp [lenD, this]
  rw [ln] at ld
  by_cases c1 : cs.length < 1
  · have n1 : ((cs.length : Nat) : Int) < 1 := by omega
    generalize ((cs.length : Nat) : Int) = x at *
    simp [f_read_end, mFn, g_read_end, start', ld, n1]
  by_cases c2 : 2 < cs.length
  · have n1 : ¬ ((cs.length : Nat) : Int) < 1 := by omega
    have n2 : (2 : Int) < ((cs.length : Nat) : Int) := by omega
    generalize ((cs.length : Nat) : Int) = x at *
    simp [f_read_end, mFn, g_read_end, start', ld, n1, n2]
  have n1 : ¬ ((cs.length : Nat) : Int) < 1 := by omega
  have n2 : ¬ (2 : Int) < ((cs.length : Nat) : Int) := by omega
  obtain ⟨c, r, e⟩ : ∃ c r, cs = c :: r := by
    cases cs with
    | nil => simp at c1
    | cons c r => exact ⟨c, r, rfl⟩
  have ix : ixD (.str t) (.int 0) = some (.str ⟨#[c]⟩) := by
    have q : ixD (.str t) (.int 0) = if t.length ≤ sizeLine then (atI t.cps.toList 0).map fun c => .str ⟨#[c]⟩ else none := rfl
    rw [q, if_pos (by have : sizeLine = 16777216 := rfl; omega), tl, e]
    simp [atI, ixN]
  have e0 : ("0" : Str) = ⟨#[48]⟩ := by decide +kernel
  have q0 : eqD (.str ⟨#[c]⟩) (.str ("0" : Str)) = some (.bool (decide (c = 48))) := by
    rw [e0, eqD_str]
    congr 2
    exact decide_eq_decide.mpr ⟨fun z => by have := congrArg Str.cps z; simpa using this, fun z => by rw [z]⟩
  by_cases c3 : c = 48 ∧ 1 < cs.length
  · have n3 : (1 : Int) < ((cs.length : Nat) : Int) := by omega
    rw [decide_eq_true c3.1] at q0
    generalize ((cs.length : Nat) : Int) = x at *
    simp [f_read_end, mFn, g_read_end, start', ld, n1, n2, n3, ix, q0, -eqD_str]
  · have bad : ∃ c ∈ cs, ¬ (48 ≤ c ∧ c ≤ 57) := by
      unfold badE at h
      rw [decide_eq_false c1, decide_eq_false c2, Bool.false_or, Bool.false_or, Bool.or_eq_true] at h
      rcases h with h | h
      · rw [Bool.and_eq_true] at h
        have h1 := of_decide_eq_true h.1
        have h2 := of_decide_eq_true h.2
        rw [e] at h1
        exact absurd ⟨Option.some.inj h1, h2⟩ c3
      · obtain ⟨d, hd, z⟩ := List.any_eq_true.mp h
        refine ⟨d, hd, fun w => ?_⟩
        rw [decide_eq_true w.1, decide_eq_true w.2] at z
        simp at z
    obtain ⟨ρ, lp⟩ := signs_bad (.val (.str t)) cs .none bad
    rw [← tl] at lp
    have n3 : ((decide (c = 48)) = true ∧ decide ((1 : Int) < ((cs.length : Nat) : Int)) = true) → False := fun z => c3 ⟨of_decide_eq_true z.1, by have := of_decide_eq_true z.2; omega⟩
    have g3 : gtD (.int ((cs.length : Nat) : Int)) (.int 1) = some (.bool (decide ((1 : Int) < ((cs.length : Nat) : Int)))) := by simp
    generalize decide (c = 48) = b1 at *
    generalize decide ((1 : Int) < ((cs.length : Nat) : Int)) = b2 at *
    generalize ((cs.length : Nat) : Int) = x at *
    cases b1 <;> cases b2 <;> first
      | exact absurd (n3 ⟨rfl, rfl⟩) id
      | simp [f_read_end, mFn, g_read_end, start', iS, ld, n1, n2, ix, q0, g3, lp, -eqD_str, -forB_ap]
end Lw

set_option Elab.async false
set_option linter.all false
set_option maxRecDepth 100000
set_option maxHeartbeats 4000000
/-! Ji: the odd things are no deeds -/
namespace Lw
open PySem L2 Dn TL
theorem read_end_big : f_read_end [.str ("80" : Str)] = .exc "NoText" := by
  have tl : ("80" : Str).cps.toList = [56, 48] := by decide +kernel
  have ln : ("80" : Str).length = 2 := by decide +kernel
  have ld : lenD [.str ("80" : Str)] = some (.int 2) := by
    have : ("80" : Str).length ≤ sizeLine := by rw [ln]; decide
    have q : lenD [.str ("80" : Str)] = if ("80" : Str).length ≤ sizeLine then some (.int ((("80" : Str).length : Nat) : Int)) else none := rfl
    rw [q, if_pos this, ln]
    rfl
  have ix : ixD (.str ("80" : Str)) (.int 0) = some (.str ⟨#[56]⟩) := by
    have q : ixD (.str ("80" : Str)) (.int 0) = if ("80" : Str).length ≤ sizeLine then (atI ("80" : Str).cps.toList 0).map fun c => .str ⟨#[c]⟩ else none := rfl
    rw [q, if_pos (by rw [ln]; decide), tl]
    simp [atI, ixN]
  have e0 : ("0" : Str) = ⟨#[48]⟩ := by decide +kernel
  have q0 : eqD (.str ⟨#[56]⟩) (.str ("0" : Str)) = some (.bool false) := by
    rw [e0, eqD_str]
    rfl
  have iw : intWD [.str ("80" : Str)] = some (.int 80) := by
    have t : ("80" : Str) = tN 80 := by decide +kernel
    have l := numL_len (n := 80) (k := 2) (by decide) (by omega)
    have i := int_num (n := 80) (by omega)
    have e : intWD [.str (tN 80)] = if (tN 80).length ≤ 640 then (PySem.intText? (tN 80)).map .int else none := rfl
    rw [t, e, if_pos (by rw [← t, ln]; decide), show PySem.intText? (tN 80) = some (80 : Int) from i]
    rfl
  obtain ⟨t, lp⟩ := end_loop (.val (.str ("80" : Str))) ("80" : Str).cps.toList (by rw [tl]; decide)
  generalize ("80" : Str) = T at *
  simp [f_read_end, mFn, g_read_end, start', iS, ld, ix, q0, lp, iw, -eqD_str, -forB_ap]
/-- good ends, then a text that is none -/
theorem deed_badA {t q : Str} {gs : List Nat} {rest : List Str} (hg : ∀ g ∈ gs, g < 80) (hl : gs.length ≤ 100) (sp : splitD (.str t) (.str ("-" : Str)) = some ((gs.map tN ++ q :: rest).map .str)) (h : f_read_end [.str q] = .exc "NoText") : f_read_deed [.str t] = .exc "NoText" := by
  have lc : loopLcX (gN 2) (eCall f_read_end (aCons (eVarF 2) aNil)) [2] [.val (.str t), .none, .none] ((gs.map tN ++ q :: rest).map PyData.str) [] = .exc "NoText" := by
    rw [List.map_append, List.map_map, List.map_cons, show (PyData.str ∘ tN) = fun g => PyData.str (tN g) from rfl]
    rw [lcX_good (fun g => .str (tN g)) (fun g : Nat => PyData.int (g : Int)) (tg := gN 2) (e := eCall f_read_end (aCons (eVarF 2) aNil)) (vs := [2]) (ρ := [.val (.str t), .none, .none]) gs _ [] (by have : sizeLine = 16777216 := rfl; show 0 + _ < _; omega) (fun g hg' => ⟨_, rfl, by simp [wipeF, read_end_ok (hg g hg')]⟩)]
    refine lcX_bad (ρ' := [.val (.str t), .none, .val (.str q)]) _ _ rfl ?_
    simp [h]
  generalize (gs.map tN ++ q :: rest).map PyData.str = L at *
  simp [f_read_deed, mFn, g_read_deed, start', sp, lc]
/-- two ends, the first one not the less; three -/
theorem deed_badB {t : Str} {a b : Nat} (ha : a < 80) (hb : b < 80) (ba : b ≤ a) (sp : splitD (.str t) (.str ("-" : Str)) = some ([tN a, tN b].map .str)) : f_read_deed [.str t] = .exc "NoText" := by
  have ra := read_end_ok ha
  have rb := read_end_ok hb
  have z0 : 0 < sizeLine := by decide
  have z1 : 1 < sizeLine := by decide
  have n : (b : Int) ≤ (a : Int) := by omega
  have i0 : ixD (.list [.int (a : Int), .int (b : Int)]) (.int 0) = some (.int a) := rfl
  have i1 : ixD (.list [.int (a : Int), .int (b : Int)]) (.int 1) = some (.int b) := rfl
  simp [f_read_deed, mFn, g_read_deed, start', sp, loopLcX, ra, rb, i0, i1, n, wipeF, z0, z1]
theorem deed_badC {t : Str} {a b c : Nat} (ha : a < 80) (hb : b < 80) (hc : c < 80) (sp : splitD (.str t) (.str ("-" : Str)) = some ([tN a, tN b, tN c].map .str)) : f_read_deed [.str t] = .exc "NoText" := by
  have ra := read_end_ok ha
  have rb := read_end_ok hb
  have rc := read_end_ok hc
  have z0 : 0 < sizeLine := by decide
  have z1 : 1 < sizeLine := by decide
  have z2 : 2 < sizeLine := by decide
  simp [f_read_deed, mFn, g_read_deed, start', sp, loopLcX, ra, rb, rc, wipeF, z0, z1, z2]
theorem split_at {t : Str} {parts : List Str} (e : Txt.join ("-" : Str) parts = t) (hne : parts ≠ []) (hp : ∀ p ∈ parts, 45 ∉ TL.tl p) (hl : t.length ≤ 100) : splitD (.str t) (.str ("-" : Str)) = some (parts.map .str) := by
  have := split_ok (y := ("-" : Str)) (s := 45) (by decide +kernel) (by decide) hne hp (by rw [e]; omega)
  rwa [e] at this
theorem tN_eq {n : Nat} {t : Str} (h : t.cps.toList = numL n) : tN n = t := TL.ext_tl (by show (tN n).cps.toList = t.cps.toList; rw [tN_tl, h])
theorem odd_deed {t q : Str} {gs : List Nat} {rest : List Str} (hg : ∀ g ∈ gs, g < 80) (hl : gs.length ≤ 100) (e : Txt.join ("-" : Str) (gs.map tN ++ q :: rest) = t) (hp : ∀ p ∈ gs.map tN ++ q :: rest, 45 ∉ TL.tl p) (tl : t.length ≤ 100) (h : f_read_end [.str q] = .exc "NoText") : f_read_deed [.str t] = .exc "NoText" :=
  deed_badA hg hl (split_at e (by simp) hp tl) h
theorem bad_end {q : Str} (h : badE q.cps.toList = true) (hl : q.cps.toList.length ≤ 100) : f_read_end [.str q] = .exc "NoText" := read_end_bad rfl hl h
/-- the odd things without blanks -/
theorem odd_one : ∀ t ∈ ([("" : Str), ("80" : Str), ("007" : Str), ("01" : Str), ("3-" : Str), ("-3" : Str), ("a" : Str), ("+3" : Str), ("1_0" : Str), ("100" : Str), ("2-80" : Str), ("--" : Str), ("3:" : Str), ("2-03" : Str), ("-" : Str), ("." : Str)] : List Str), f_read_deed [.str t] = .exc "NoText" := by
  intro t ht
  have e2 : tN 2 = ("2" : Str) := tN_eq (by decide +kernel)
  have e3 : tN 3 = ("3" : Str) := tN_eq (by decide +kernel)
  simp only [List.mem_cons, List.not_mem_nil, or_false] at ht
  rcases ht with rfl | rfl | rfl | rfl | rfl | rfl | rfl | rfl | rfl | rfl | rfl | rfl | rfl | rfl | rfl | rfl
  · exact odd_deed (gs := []) (q := ("" : Str)) (rest := []) (by simp) (by simp) (by decide +kernel) (by decide +kernel) (by decide +kernel) (bad_end (by decide +kernel) (by decide +kernel))
  · exact odd_deed (gs := []) (q := ("80" : Str)) (rest := []) (by simp) (by simp) (by decide +kernel) (by decide +kernel) (by decide +kernel) read_end_big
  · exact odd_deed (gs := []) (q := ("007" : Str)) (rest := []) (by simp) (by simp) (by decide +kernel) (by decide +kernel) (by decide +kernel) (bad_end (by decide +kernel) (by decide +kernel))
  · exact odd_deed (gs := []) (q := ("01" : Str)) (rest := []) (by simp) (by simp) (by decide +kernel) (by decide +kernel) (by decide +kernel) (bad_end (by decide +kernel) (by decide +kernel))
  · exact odd_deed (gs := [3]) (q := ("" : Str)) (rest := []) (by simp) (by simp) (by rw [List.map_cons, e3]; decide +kernel) (by rw [List.map_cons, e3]; decide +kernel) (by decide +kernel) (bad_end (by decide +kernel) (by decide +kernel))
  · exact odd_deed (gs := []) (q := ("" : Str)) (rest := [("3" : Str)]) (by simp) (by simp) (by decide +kernel) (by decide +kernel) (by decide +kernel) (bad_end (by decide +kernel) (by decide +kernel))
  · exact odd_deed (gs := []) (q := ("a" : Str)) (rest := []) (by simp) (by simp) (by decide +kernel) (by decide +kernel) (by decide +kernel) (bad_end (by decide +kernel) (by decide +kernel))
  · exact odd_deed (gs := []) (q := ("+3" : Str)) (rest := []) (by simp) (by simp) (by decide +kernel) (by decide +kernel) (by decide +kernel) (bad_end (by decide +kernel) (by decide +kernel))
  · exact odd_deed (gs := []) (q := ("1_0" : Str)) (rest := []) (by simp) (by simp) (by decide +kernel) (by decide +kernel) (by decide +kernel) (bad_end (by decide +kernel) (by decide +kernel))
  · exact odd_deed (gs := []) (q := ("100" : Str)) (rest := []) (by simp) (by simp) (by decide +kernel) (by decide +kernel) (by decide +kernel) (bad_end (by decide +kernel) (by decide +kernel))
  · exact odd_deed (gs := [2]) (q := ("80" : Str)) (rest := []) (by simp) (by simp) (by rw [List.map_cons, e2]; decide +kernel) (by rw [List.map_cons, e2]; decide +kernel) (by decide +kernel) read_end_big
  · exact odd_deed (gs := []) (q := ("" : Str)) (rest := [("" : Str), ("" : Str)]) (by simp) (by simp) (by decide +kernel) (by decide +kernel) (by decide +kernel) (bad_end (by decide +kernel) (by decide +kernel))
  · exact odd_deed (gs := []) (q := ("3:" : Str)) (rest := []) (by simp) (by simp) (by decide +kernel) (by decide +kernel) (by decide +kernel) (bad_end (by decide +kernel) (by decide +kernel))
  · exact odd_deed (gs := [2]) (q := ("03" : Str)) (rest := []) (by simp) (by simp) (by rw [List.map_cons, e2]; decide +kernel) (by rw [List.map_cons, e2]; decide +kernel) (by decide +kernel) (bad_end (by decide +kernel) (by decide +kernel))
  · exact odd_deed (gs := []) (q := ("" : Str)) (rest := [("" : Str)]) (by simp) (by simp) (by decide +kernel) (by decide +kernel) (by decide +kernel) (bad_end (by decide +kernel) (by decide +kernel))
  · exact odd_deed (gs := []) (q := ("." : Str)) (rest := []) (by simp) (by simp) (by decide +kernel) (by decide +kernel) (by decide +kernel) (bad_end (by decide +kernel) (by decide +kernel))
theorem odd_two : f_read_deed [.str ("5-5" : Str)] = .exc "NoText" ∧ f_read_deed [.str ("7-3" : Str)] = .exc "NoText" ∧ f_read_deed [.str ("3-4-5" : Str)] = .exc "NoText" := by
  have e3 : tN 3 = ("3" : Str) := tN_eq (by decide +kernel)
  have e4 : tN 4 = ("4" : Str) := tN_eq (by decide +kernel)
  have e5 : tN 5 = ("5" : Str) := tN_eq (by decide +kernel)
  have e7 : tN 7 = ("7" : Str) := tN_eq (by decide +kernel)
  refine ⟨deed_badB (a := 5) (b := 5) (by decide) (by decide) (by decide) (split_at ?_ (by simp) ?_ (by decide +kernel)), deed_badB (a := 7) (b := 3) (by decide) (by decide) (by decide) (split_at ?_ (by simp) ?_ (by decide +kernel)), deed_badC (a := 3) (b := 4) (c := 5) (by decide) (by decide) (by decide) (split_at ?_ (by simp) ?_ (by decide +kernel))⟩
  · rw [e5]; decide +kernel
  · rw [e5]; decide +kernel
  · rw [e7, e3]; decide +kernel
  · rw [e7, e3]; decide +kernel
  · rw [e3, e4, e5]; decide +kernel
  · rw [e3, e4, e5]; decide +kernel
end Lw

set_option Elab.async false
set_option linter.all false
set_option maxRecDepth 100000
set_option maxHeartbeats 4000000
/-! Jj: a row of things with an odd one in it -/
namespace Lw
open PySem L2 Dn TL
theorem joinL_cons2 (S p : List Nat) {r : List (List Nat)} (h : r ≠ []) : joinL S (p :: r) = p ++ (S ++ joinL S r) := by
  cases r with
  | nil => exact absurd rfl h
  | cons q r => rfl
theorem joinL_app (S : List Nat) : ∀ {Y Z : List (List Nat)}, Y ≠ [] → Z ≠ [] → joinL S (Y ++ Z) = joinL S Y ++ (S ++ joinL S Z)
  | [], Z, h, _ => absurd rfl h
  | [p], Z, _, hz => joinL_cons2 S p hz
  | p :: q :: r, Z, _, hz => by
    have ih := joinL_app S (Y := q :: r) (Z := Z) (by simp) hz
    rw [List.cons_append, joinL_cons2 S p (by simp), ih, joinL_cons2 S p (r := q :: r) (by simp)]
    simp
/-- parts joined, joined -/
theorem joinL_flat (S : List Nat) {X Y Z : List (List Nat)} (h : Y ≠ []) : joinL S (X ++ [joinL S Y] ++ Z) = joinL S (X ++ Y ++ Z) := by
  have mid : ∀ Z, joinL S ([joinL S Y] ++ Z) = joinL S (Y ++ Z) := fun Z => by
    by_cases z : Z = []
    · subst z
      rw [List.append_nil, List.append_nil]
      rfl
    · rw [joinL_app S (by simp) z, joinL_app S h z]
      rfl
  by_cases x : X = []
  · subst x
    rw [List.nil_append, List.nil_append]
    exact mid Z
  · rw [List.append_assoc, List.append_assoc, joinL_app S x (by simp), joinL_app S x (by simp [h]), mid]
theorem join_flat {X Y Z : List Str} {t : Str} (h : Y ≠ []) (e : Txt.join (" " : Str) Y = t) : Txt.join (" " : Str) (X ++ [t] ++ Z) = Txt.join (" " : Str) (X ++ Y ++ Z) := by
  subst e
  refine TL.ext_tl ?_
  rw [join_eq, join_eq, join_eq, tl_join, tl_join]
  simp only [List.map_append, List.map_cons, List.map_nil, tl_join]
  exact joinL_flat _ (by simpa using h)
/-- a thing that is no row of deeds: good deeds, then a text that is none -/
structure OddT (t : Str) (pre : List (Nat × Nat)) (bad : Str) (post : List Str) : Prop where
  ok : ∀ d ∈ pre, OkD d
  eq : Txt.join (" " : Str) (pre.map tX ++ bad :: post) = t
  fr : ∀ p ∈ bad :: post, 32 ∉ TL.tl p
  ln : ∀ p ∈ bad :: post, p.length ≤ 5
  no : f_read_deed [.str bad] = .exc "NoText"
  dt : pre = [] → post = [] → TL.tl bad ≠ [46]
  sz : pre.length + post.length ≤ 5
theorem tX_len {d : Nat × Nat} (ok : OkD d) : (tX d).length ≤ 5 := tx_len (by have := ok.1; have := ok.2; omega) ok.2
theorem refused_row {t bad : Str} {pre A B : List (Nat × Nat)} {post : List Str} (O : OddT t pre bad post) (hA : ∀ d ∈ A, OkD d) (hB : ∀ d ∈ B, OkD d) (lA : A.length + B.length ≤ 800) :
    f_read_deeds [.str (Txt.join (" " : Str) (A.map tX ++ [t] ++ B.map tX))] = .exc "NoText" := by
  have fl : Txt.join (" " : Str) (A.map tX ++ [t] ++ B.map tX) = Txt.join (" " : Str) ((A ++ pre).map tX ++ bad :: (post ++ B.map tX)) := by
    rw [join_flat (Y := pre.map tX ++ bad :: post) (by simp) O.eq]
    congr 1
    simp
  rw [fl]
  have okP : ∀ d ∈ A ++ pre, OkD d := fun d hd => (List.mem_append.mp hd).elim (hA d) (O.ok d)
  have sz := O.sz
  have fr : ∀ p ∈ (A ++ pre).map tX ++ bad :: (post ++ B.map tX), 32 ∉ TL.tl p := fun p hp => by
    rcases List.mem_append.mp hp with hp | hp
    · obtain ⟨d, _, rfl⟩ := List.mem_map.mp hp
      exact tX_free (by decide) d
    · rcases List.mem_cons.mp hp with rfl | hp
      · exact O.fr _ List.mem_cons_self
      · rcases List.mem_append.mp hp with hp | hp
        · exact O.fr _ (List.mem_cons_of_mem _ hp)
        · obtain ⟨d, _, rfl⟩ := List.mem_map.mp hp
          exact tX_free (by decide) d
  have le : ∀ p ∈ (A ++ pre).map tX ++ bad :: (post ++ B.map tX), p.length ≤ 5 := fun p hp => by
    rcases List.mem_append.mp hp with hp | hp
    · obtain ⟨d, hd, rfl⟩ := List.mem_map.mp hp
      exact tX_len (okP d hd)
    · rcases List.mem_cons.mp hp with rfl | hp
      · exact O.ln _ List.mem_cons_self
      · rcases List.mem_append.mp hp with hp | hp
        · exact O.ln _ (List.mem_cons_of_mem _ hp)
        · obtain ⟨d, hd, rfl⟩ := List.mem_map.mp hp
          exact tX_len (hB d hd)
  have tl := join_len (" " : Str) 5 (by decide +kernel) _ le
  have pl : ((A ++ pre).map tX ++ bad :: (post ++ B.map tX)).length ≤ 1000 := by simp; omega
  have sp := split_ok (y := (" " : Str)) (s := 32) (by decide +kernel) (by decide) (parts := (A ++ pre).map tX ++ bad :: (post ++ B.map tX)) (by simp) fr (by omega)
  have nd : ¬ Txt.join (" " : Str) ((A ++ pre).map tX ++ bad :: (post ++ B.map tX)) = ("." : Str) := fun e => by
    have z := congrArg TL.tl e
    rw [join_eq, tl_join, show TL.tl ("." : Str) = [46] by decide +kernel, show TL.tl (" " : Str) = [32] by decide +kernel, List.map_append, List.map_cons] at z
    have has : ∀ {Y Z : List (List Nat)}, Y ≠ [] → Z ≠ [] → joinL [32] (Y ++ Z) = [46] → False := fun {Y Z} hy hz q => by
      have : 32 ∈ joinL [32] (Y ++ Z) := by rw [joinL_app [32] hy hz]; simp
      rw [q] at this
      simp at this
    by_cases c1 : A ++ pre = []
    · by_cases c2 : post ++ B.map tX = []
      · rw [c1, c2] at z
        have z : TL.tl bad = [46] := z
        exact O.dt (List.append_eq_nil_iff.mp c1).2 (List.append_eq_nil_iff.mp c2).1 z
      · rw [c1] at z
        exact has (Y := [TL.tl bad]) (Z := (post ++ B.map tX).map TL.tl) (by simp) (by simpa using c2) z
    · exact has (by simpa using c1) (by simp) z
  have lc := read_lc_bad (.val (.str (Txt.join (" " : Str) ((A ++ pre).map tX ++ bad :: (post ++ B.map tX))))) (A ++ pre) okP (by rw [List.length_append]; omega) O.no ((post ++ B.map tX).map .str)
  have e : ((A ++ pre).map tX ++ bad :: (post ++ B.map tX)).map PyData.str = ((A ++ pre).map fun d => PyData.str (tX d)) ++ .str bad :: (post ++ B.map tX).map .str := by
    rw [List.map_append, List.map_map, List.map_cons]
    rfl
  rw [e] at sp
  generalize Txt.join (" " : Str) ((A ++ pre).map tX ++ bad :: (post ++ B.map tX)) = T at *
  generalize ((A ++ pre).map fun d => PyData.str (tX d)) ++ .str bad :: (post ++ B.map tX).map .str = L at *
  simp [f_read_deeds, mFn, g_read_deeds, start', nd, sp, lc]
def odds : List Str := [("" : Str), ("80" : Str), ("007" : Str), ("01" : Str), ("5-5" : Str), ("7-3" : Str), ("3-" : Str), ("-3" : Str), ("3-4-5" : Str), ("a" : Str), ("+3" : Str), ("1_0" : Str), ("100" : Str), ("2-80" : Str), ("--" : Str), ("3:" : Str), ("2-03" : Str), ("4 - 5" : Str), ("1 ." : Str), (". 1" : Str)]
theorem odd_plain {t : Str} (h : f_read_deed [.str t] = .exc "NoText") (h1 : 32 ∉ TL.tl t) (h2 : t.length ≤ 5) (h3 : TL.tl t ≠ [46]) : ∃ pre bad post, OddT t pre bad post :=
  ⟨[], t, [], fun d hd => (List.not_mem_nil hd).elim, by rw [join_eq]; rfl, fun p hp => by rw [List.mem_singleton.mp hp]; exact h1, fun p hp => by rw [List.mem_singleton.mp hp]; exact h2, h, fun _ _ => h3, by simp⟩
theorem odd_all : ∀ t ∈ odds, ∃ pre bad post, OddT t pre bad post := by
  intro t ht
  have e1 : tX (1, 1) = ("1" : Str) := by unfold tX; rw [tx_one]; exact tN_eq (by decide +kernel)
  have e4 : tX (4, 4) = ("4" : Str) := by unfold tX; rw [tx_one]; exact tN_eq (by decide +kernel)
  have one := odd_one
  obtain ⟨o1, o2, o3⟩ := odd_two
  unfold odds at ht
  simp only [List.mem_cons, List.not_mem_nil, or_false] at ht
  rcases ht with rfl | rfl | rfl | rfl | rfl | rfl | rfl | rfl | rfl | rfl | rfl | rfl | rfl | rfl | rfl | rfl | rfl | rfl | rfl | rfl
  · exact odd_plain (one _ (by simp)) (by decide +kernel) (by decide +kernel) (by decide +kernel)
  · exact odd_plain (one _ (by simp)) (by decide +kernel) (by decide +kernel) (by decide +kernel)
  · exact odd_plain (one _ (by simp)) (by decide +kernel) (by decide +kernel) (by decide +kernel)
  · exact odd_plain (one _ (by simp)) (by decide +kernel) (by decide +kernel) (by decide +kernel)
  · exact odd_plain o1 (by decide +kernel) (by decide +kernel) (by decide +kernel)
  · exact odd_plain o2 (by decide +kernel) (by decide +kernel) (by decide +kernel)
  · exact odd_plain (one _ (by simp)) (by decide +kernel) (by decide +kernel) (by decide +kernel)
  · exact odd_plain (one _ (by simp)) (by decide +kernel) (by decide +kernel) (by decide +kernel)
  · exact odd_plain o3 (by decide +kernel) (by decide +kernel) (by decide +kernel)
  · exact odd_plain (one _ (by simp)) (by decide +kernel) (by decide +kernel) (by decide +kernel)
  · exact odd_plain (one _ (by simp)) (by decide +kernel) (by decide +kernel) (by decide +kernel)
  · exact odd_plain (one _ (by simp)) (by decide +kernel) (by decide +kernel) (by decide +kernel)
  · exact odd_plain (one _ (by simp)) (by decide +kernel) (by decide +kernel) (by decide +kernel)
  · exact odd_plain (one _ (by simp)) (by decide +kernel) (by decide +kernel) (by decide +kernel)
  · exact odd_plain (one _ (by simp)) (by decide +kernel) (by decide +kernel) (by decide +kernel)
  · exact odd_plain (one _ (by simp)) (by decide +kernel) (by decide +kernel) (by decide +kernel)
  · exact odd_plain (one _ (by simp)) (by decide +kernel) (by decide +kernel) (by decide +kernel)
  · refine ⟨[(4, 4)], ("-" : Str), [("5" : Str)], by simp [OkD], ?_, by decide +kernel, by decide +kernel, one _ (by simp), fun h => by simp at h, by simp⟩
    rw [List.map_cons, e4]
    decide +kernel
  · refine ⟨[(1, 1)], ("." : Str), [], by simp [OkD], ?_, by decide +kernel, by decide +kernel, one _ (by simp), fun h => by simp at h, by simp⟩
    rw [List.map_cons, e1]
    decide +kernel
  · exact ⟨[], ("." : Str), [("1" : Str)], by simp, by decide +kernel, by decide +kernel, by decide +kernel, one _ (by simp), fun _ h => by simp at h, by simp⟩
end Lw

set_option Elab.async false
set_option linter.all false
set_option maxRecDepth 100000
set_option maxHeartbeats 4000000
/-! Jk: law_k15 -/
namespace Lw
open PySem L2 Dn TL
theorem cell_eq (ns : List Int) (i : Int) (h : 0 ≤ i) : f__law_cell [scrD ns, .int i] = .ok (.int (ns[i.toNat]?.getD 0)) := by
  by_cases hl : i < ns.length
  · obtain ⟨v, hv⟩ : ∃ v, ns[i.toNat]? = some v := ⟨_, List.getElem?_eq_getElem (by omega)⟩
    have ix := ixD_is (ms := ns) h hv
    simp [f__law_cell, mFn, g__law_cell, start', hl, ix, hv]
  · have hv : ns[i.toNat]? = none := List.getElem?_eq_none (by omega)
    simp [f__law_cell, mFn, g__law_cell, start', hl, hv]
theorem refused_eq {t : Str} (h : f_read_deeds [.str t] = .exc "NoText") : f__law_refused [.str t] = .ok (.bool true) := by
  have r1 : lk tab_ClaspError ("NoText" : Str) = some true := by decide +kernel
  have r2 : lk tab_NoText ("NoText" : Str) = some true := by decide +kernel
  have r3 : lk tab_ValueError ("NoText" : Str) = some true := by decide +kernel
  have r4 : lk tab_BadDeed ("NoText" : Str) = some false := by decide +kernel
  simp [f__law_refused, mFn, g__law_refused, start', h, r1, r2, r3, r4]
theorem odds_bad {A B : List (Nat × Nat)} (hA : ∀ d ∈ A, OkD d) (hB : ∀ d ∈ B, OkD d) (l : A.length + B.length ≤ 800) {t : Str} (ht : t ∈ odds) : f__law_refused [.str (Txt.join (" " : Str) (A.map tX ++ [t] ++ B.map tX))] = .ok (.bool true) := by
  obtain ⟨pre, bad, post, O⟩ := odd_all t ht
  exact refused_eq (refused_row O hA hB l)
theorem odds_len : ∀ t ∈ odds, t.length ≤ 5 := by decide +kernel
theorem law_true : ∀ ns, Scr ns → f_law [scrD ns] = .ok (.bool true) := by
  intro ns hs
  have c0 : f__law_cell [scrD ns, .int 0] = _ := cell_eq ns 0 (by decide)
  have c1 : f__law_cell [scrD ns, .int 1] = _ := cell_eq ns 1 (by decide)
  generalize ns[(0 : Int).toNat]?.getD 0 = x at c0
  generalize ns[(1 : Int).toNat]?.getD 0 = y at c1
  have choice : ∀ c : Int, ∃ d, OkD d ∧ f__law_deed [.int c] = .ok (pD d) := law_deed_eq
  obtain ⟨dz, hdz⟩ := Classical.axiomOfChoice choice
  have sl : slD (scrD ns) none (some 300) = some (.list ((ns.take 300).map .int)) := by
    have := cutL_to (ns.map PyData.int) 300
    rw [slD_s, List.map_take]
    exact congrArg (fun x => some (PyData.list x)) this
  have cl : (ns.take 300).length ≤ 300 := by rw [List.length_take]; omega
  obtain ⟨cs, hcs⟩ : ∃ cs, cs = ns.take 300 := ⟨_, rfl⟩
  rw [← hcs] at sl cl
  obtain ⟨ds, hds⟩ : ∃ ds, ds = cs.map dz := ⟨_, rfl⟩
  have dl : ds.length ≤ 300 := by rw [hds, List.length_map]; exact cl
  have ok : ∀ d ∈ ds, OkD d := fun d hd => by
    rw [hds] at hd
    obtain ⟨c, _, rfl⟩ := List.mem_map.mp hd
    exact (hdz c).1
  have lc1 : loopLc (gN 10) tYesF (eCall f__law_deed (aCons (eVarF 10) aNil)) [10] [.val (scrD ns), .none, .none, .none, .none, .none, .none, .none, .none, .none, .none, .none] (cs.map .int) [] = .ok (ds.map pD) := by
    rw [loopLc_enc PyData.int (fun c => pD (dz c)) cs [] (by have : sizeLine = 16777216 := rfl; show 0 + _ < _; omega) (fun c hc => ⟨_, rfl, by simp [wipeF, (hdz c).2]⟩), hds, List.map_map]
    rfl
  have things : ∀ s2 s3 s4 s5 s6 s7 s8 s9 : S, loopLc (gN 11) tYesF (eCall f__law_thing (aCons (eVarF 11) aNil)) [11] [.val (scrD ns), .val (.list (ds.map pD)), s2, s3, s4, s5, s6, s7, s8, s9, .none, .none] (ds.map pD) [] = .ok (ds.map fun d => .str (tX d)) := fun s2 s3 s4 s5 s6 s7 s8 s9 => by
    rw [loopLc_enc pD (fun d => .str (tX d)) ds [] (by have : sizeLine = 16777216 := rfl; show 0 + _ < _; omega) (fun d hd => ?_)]
    · rfl
    · obtain ⟨h1, h2⟩ := ok d hd
      have r := thing_eq (a := d.1) (b := d.2) (by omega) h2
      have r : f__law_thing [pD d] = .ok (.str (tX d)) := r
      exact ⟨_, rfl, by simp [wipeF, r]⟩
  have j := row_join ok (by omega)
  have ld : lenD [.list (ds.map pD)] = some (.int ((ds.length : Nat) : Int)) := by rw [lenD_l, List.length_map]
  have rowis := row_is_eq ds (by omega)
  -- the odd thing
  obtain ⟨p, hp, hp2⟩ := nat_mod (c := x) (m := ((ds.length : Nat) : Int) + 1) (by omega)
  have m1 := modD_pos (x := x) (y := ((ds.length : Nat) : Int) + 1) (by omega)
  rw [← hp] at m1
  obtain ⟨k, hk, hk2⟩ := nat_mod (c := y) (m := 20) (by decide)
  have m2 := modD_pos (x := y) (y := 20) (by decide)
  rw [← hk] at m2
  have d20 : divD (.int y) (.int 20) = some (.int (y / 20)) := divD_pos (by decide) (by decide)
  obtain ⟨e, he, he2⟩ := nat_mod (c := y / 20) (m := 2) (by decide)
  have m3 := modD_pos (x := y / 20) (y := 2) (by decide)
  rw [← he] at m3
  have kl : k < odds.length := by show k < 20; omega
  have oin : odds[k] ∈ odds := List.getElem_mem kl
  have lT : lenD [.list (ds.map fun d => PyData.str (tX d))] = some (.int ((ds.length : Nat) : Int)) := by rw [lenD_l, List.length_map]
  have ad1 : addD (.list [.str ("" : Str), .str ("80" : Str), .str ("007" : Str), .str ("01" : Str), .str ("5-5" : Str), .str ("7-3" : Str), .str ("3-" : Str), .str ("-3" : Str), .str ("3-4-5" : Str), .str ("a" : Str), .str ("+3" : Str), .str ("1_0" : Str), .str ("100" : Str), .str ("2-80" : Str), .str ("--" : Str), .str ("3:" : Str)]) (.list [.str ("2-03" : Str), .str ("4 - 5" : Str), .str ("1 ." : Str), .str (". 1" : Str)]) = some (.list (odds.map .str)) := by
    rw [addD_l (by decide)]
    rfl
  have lO : lenD [.list (odds.map .str)] = some (.int 20) := rfl
  have ix : ixD (.list (odds.map .str)) (.int (k : Int)) = some (.str odds[k]) := ixD_ln (by rw [List.getElem?_map, List.getElem?_eq_getElem kl]; rfl)
  have s1 : slD (.list (ds.map fun d => PyData.str (tX d))) none (some (p : Int)) = some (.list ((ds.take p).map fun d => PyData.str (tX d))) := by
    rw [slD_l, cutL_to, List.map_take]
  have s2 : slD (.list (ds.map fun d => PyData.str (tX d))) (some ((p : Int) + (e : Int))) none = some (.list ((ds.drop (p + e)).map fun d => PyData.str (tX d))) := by
    have := cutL_from (ds.map fun d => PyData.str (tX d)) (p + e)
    rw [slD_l, List.map_drop, ← this]
    rfl
  have tk : (ds.take p).length ≤ 300 := by rw [List.length_take]; omega
  have dk : (ds.drop (p + e)).length ≤ 300 := by rw [List.length_drop]; omega
  have ad2 : addD (.list ((ds.take p).map fun d => PyData.str (tX d))) (.list [.str odds[k]]) = some (.list (((ds.take p).map tX ++ [odds[k]]).map .str)) := by
    rw [addD_l (by rw [List.length_map]; simp; omega), List.map_append, List.map_map]
    rfl
  have ad3 : addD (.list (((ds.take p).map tX ++ [odds[k]]).map .str)) (.list ((ds.drop (p + e)).map fun d => PyData.str (tX d))) = some (.list (((ds.take p).map tX ++ [odds[k]] ++ (ds.drop (p + e)).map tX).map .str)) := by
    rw [addD_l (by simp; omega), List.map_append (l₁ := (ds.take p).map tX ++ [odds[k]]), List.map_map (l := ds.drop (p + e))]
    rfl
  have okA : ∀ d ∈ ds.take p, OkD d := fun d hd => ok d (List.mem_of_mem_take hd)
  have okB : ∀ d ∈ ds.drop (p + e), OkD d := fun d hd => ok d (List.mem_of_mem_drop hd)
  have j2 := join_ok (y := (" " : Str)) (by decide +kernel) (ys := (ds.take p).map tX ++ [odds[k]] ++ (ds.drop (p + e)).map tX) (k := 5) (fun z hz => by
    rcases List.mem_append.mp hz with hz | hz
    · rcases List.mem_append.mp hz with hz | hz
      · obtain ⟨d, hd, rfl⟩ := List.mem_map.mp hz
        exact tX_len (okA d hd)
      · rw [List.mem_singleton.mp hz]
        exact odds_len _ oin
    · obtain ⟨d, hd, rfl⟩ := List.mem_map.mp hz
      exact tX_len (okB d hd)) (by simp; omega)
  have rf := odds_bad okA okB (by omega) oin
  have ll : listD [.list (ds.map pD)] = some (ds.map pD) := rfl
  have nn : neD (.list (ds.map pD)) (.list (ds.map pD)) = some (.bool false) := (neD_l (gr_pair gr_nat gr_nat) (by decide) ds ds).trans (by simp)
  generalize Txt.join (" " : Str) ((ds.take p).map tX ++ [odds[k]] ++ (ds.drop (p + e)).map tX) = T2 at *
  generalize (((ds.take p).map tX ++ [odds[k]] ++ (ds.drop (p + e)).map tX).map PyData.str) = L3 at *
  generalize (((ds.take p).map tX ++ [odds[k]]).map PyData.str) = L2 at *
  generalize ((ds.drop (p + e)).map fun d => PyData.str (tX d)) = LB at *
  generalize ((ds.take p).map fun d => PyData.str (tX d)) = LA at *
  generalize odds[k] = od at *
  generalize odds.map PyData.str = OD at *
  by_cases nil : ds = []
  · subst nil
    have tx : f_deeds_text [.list (([] : List (Nat × Nat)).map pD)] = .ok (.str ("." : Str)) := deeds_text_nil
    have rd : f_read_deeds [.str ("." : Str)] = .ok (.list (([] : List (Nat × Nat)).map pD)) := read_nil
    have l0 : ((([] : List (Nat × Nat)).length : Nat) : Int) = 0 := rfl
    generalize rowT [] = T1 at *
    generalize (([] : List (Nat × Nat)).map fun d => PyData.str (tX d)) = LT at *
    generalize ([] : List (Nat × Nat)).map pD = LD at *
    generalize ((([] : List (Nat × Nat)).length : Nat) : Int) = len at *
    subst l0
    have m1 : modD (.int x) (.int 1) = some (.int (p : Int)) := m1
    generalize y / 20 = y20 at *
    generalize (p : Int) = p' at *
    generalize (e : Int) = e' at *
    generalize (k : Int) = k' at *
    generalize cs.map PyData.int = CL at *
    simp [f_law, mFn, g_law, start', sl, lc1, things, j, ld, ll, tx, nn, rd, rowis, c0, c1, lT, m1, ad1, lO, m2, ix, d20, m3, s1, s2, ad2, ad3, j2, rf, -modD_pos, -divD_pos, -slD_s, -slD_l, -addD_l, -lenD_l]
  · have tx := deeds_text_eq ok (by omega) nil
    have rd := read_row ok (by omega) nil (rowT_dot ds)
    have l0 : ¬ ((ds.length : Nat) : Int) = 0 := fun z => nil (List.length_eq_zero_iff.mp (by omega))
    generalize rowT ds = T1 at *
    generalize (ds.map fun d => PyData.str (tX d)) = LT at *
    generalize ds.map pD = LD at *
    generalize ((ds.length : Nat) : Int) = len at *
    generalize y / 20 = y20 at *
    generalize (p : Int) = p' at *
    generalize (e : Int) = e' at *
    generalize (k : Int) = k' at *
    generalize cs.map PyData.int = CL at *
    simp [f_law, mFn, g_law, start', sl, lc1, things, j, ld, l0, ll, tx, nn, rd, rowis, c0, c1, lT, m1, ad1, lO, m2, ix, d20, m3, s1, s2, ad2, ad3, j2, rf, -modD_pos, -divD_pos, -slD_s, -slD_l, -addD_l, -lenD_l]
end Lw

open PySem PySem.W PyProof.Rows
set_option maxRecDepth 100000 in
set_option maxHeartbeats 0 in
theorem PySem.Challenge.cw_claspwork_k15_deeds_written_holds : PySem.Challenge.rw_claspwork_k15_deeds_written.Holds := by
  w_on; o_law; k_head; (case hw => w_witness2)
  k_fill
  refine Dn.walk_law (l := PySem.Challenge.rw_claspwork_k15_deeds_written) (k := 5) rfl rfl ⟨rfl, by decide, by decide⟩ (fun w h Y => PySem.W.kIn_of Y) ?F
  case F =>
    intro w mg fa h KX G hmg
    have b_ValueError : mg "ValueError" = none := PySem.W.mg_none_of KX G (by k_is)
    have b_bool : mg "bool" = none := PySem.W.mg_none_of KX G (by k_is)
    have b_int : mg "int" = none := PySem.W.mg_none_of KX G (by k_is)
    have b_isinstance : mg "isinstance" = none := PySem.W.mg_none_of KX G (by k_is)
    have b_len : mg "len" = none := PySem.W.mg_none_of KX G (by k_is)
    have b_list : mg "list" = none := PySem.W.mg_none_of KX G (by k_is)
    have b_range : mg "range" = none := PySem.W.mg_none_of KX G (by k_is)
    have b_str : mg "str" = none := PySem.W.mg_none_of KX G (by k_is)
    have b_tuple : mg "tuple" = none := PySem.W.mg_none_of KX G (by k_is)
    have e_NoText : ∃ C, Dn.ExcAt (Dn.kOf KX) mg "NoText" C [.type "ValueError", .type "Exception", .type "BaseException", .type "object"] := by
      dsimp only [Dn.kOf]
      refine' Dn.exc_mk KX G ?a ?e ?k ?b ?t
      (case a => k_is); (case e => k_exc); (case k => k_is); (case b => k_is); (case t => k_is)
    have z_END_FIGURES : ∃ v, mg "END_FIGURES" = some v ∧ ∃ t, v = .str "0123456789" t := by
      refine' ⟨_, PySem.W.mg_of KX G ?a, ?zb_END_FIGURES⟩
      (case a => k_is)
      exact ⟨_, rfl⟩
    have c_END_FIGURES : ∃ t, mg "END_FIGURES" = some (.str "0123456789" t) := by
      obtain ⟨v, hv, t, rfl⟩ := z_END_FIGURES
      exact ⟨t, hv⟩
    have z_LAST_END : ∃ v, mg "LAST_END" = some v ∧ ∃ t, v = .int 79 t := by
      refine' ⟨_, PySem.W.mg_of KX G ?a, ?zb_LAST_END⟩
      (case a => k_is)
      exact ⟨_, rfl⟩
    have c_LAST_END : ∃ t, mg "LAST_END" = some (.int 79 t) := by
      obtain ⟨v, hv, t, rfl⟩ := z_LAST_END
      exact ⟨t, hv⟩
    have d_deed_text : Dn.DefAt (Dn.kOf KX) mg "deed_text" Lw.s_deed_text := by
      dsimp only [Dn.kOf]
      refine' Dn.def_mk KX G ?a ?l ?c ?k
      (case a => k_is); (case l => k_is); (case c => k_is); (case k => k_is)
    have d_deeds_text : Dn.DefAt (Dn.kOf KX) mg "deeds_text" Lw.s_deeds_text := by
      dsimp only [Dn.kOf]
      refine' Dn.def_mk KX G ?a ?l ?c ?k
      (case a => k_is); (case l => k_is); (case c => k_is); (case k => k_is)
    have d_read_end : Dn.DefAt (Dn.kOf KX) mg "read_end" Lw.s_read_end := by
      dsimp only [Dn.kOf]
      refine' Dn.def_mk KX G ?a ?l ?c ?k
      (case a => k_is); (case l => k_is); (case c => k_is); (case k => k_is)
    have d_read_deed : Dn.DefAt (Dn.kOf KX) mg "read_deed" Lw.s_read_deed := by
      dsimp only [Dn.kOf]
      refine' Dn.def_mk KX G ?a ?l ?c ?k
      (case a => k_is); (case l => k_is); (case c => k_is); (case k => k_is)
    have d_read_deeds : Dn.DefAt (Dn.kOf KX) mg "read_deeds" Lw.s_read_deeds := by
      dsimp only [Dn.kOf]
      refine' Dn.def_mk KX G ?a ?l ?c ?k
      (case a => k_is); (case l => k_is); (case c => k_is); (case k => k_is)
    have d__law_refused : Dn.DefAt (Dn.kOf KX) mg "_law_refused" Lw.s__law_refused := by
      dsimp only [Dn.kOf]
      refine' Dn.def_mk KX G ?a ?l ?c ?k
      (case a => k_is); (case l => k_is); (case c => k_is); (case k => k_is)
    have d__law_deed : Dn.DefAt (Dn.kOf KX) mg "_law_deed" Lw.s__law_deed := by
      dsimp only [Dn.kOf]
      refine' Dn.def_mk KX G ?a ?l ?c ?k
      (case a => k_is); (case l => k_is); (case c => k_is); (case k => k_is)
    have d__law_whole : Dn.DefAt (Dn.kOf KX) mg "_law_whole" Lw.s__law_whole := by
      dsimp only [Dn.kOf]
      refine' Dn.def_mk KX G ?a ?l ?c ?k
      (case a => k_is); (case l => k_is); (case c => k_is); (case k => k_is)
    have d__law_row_is : Dn.DefAt (Dn.kOf KX) mg "_law_row_is" Lw.s__law_row_is := by
      dsimp only [Dn.kOf]
      refine' Dn.def_mk KX G ?a ?l ?c ?k
      (case a => k_is); (case l => k_is); (case c => k_is); (case k => k_is)
    have d__law_thing : Dn.DefAt (Dn.kOf KX) mg "_law_thing" Lw.s__law_thing := by
      dsimp only [Dn.kOf]
      refine' Dn.def_mk KX G ?a ?l ?c ?k
      (case a => k_is); (case l => k_is); (case c => k_is); (case k => k_is)
    have d__law_cell : Dn.DefAt (Dn.kOf KX) mg "_law_cell" Lw.s__law_cell := by
      dsimp only [Dn.kOf]
      refine' Dn.def_mk KX G ?a ?l ?c ?k
      (case a => k_is); (case l => k_is); (case c => k_is); (case k => k_is)
    have hl : ∃ fd : FuncData, Dn.BindS fd ∧ L2.Fun (Dn.kOf KX) "law" "law" Lw.s_law fa fd := by
      dsimp only [Dn.kOf]
      refine' Dn.law_mk KX G hmg ?a ?l ?c ?k ?b
      (case a => k_is); (case l => k_is); (case c => k_is); (case k => k_is); (case b => exact fun s u => .of_eq rfl)
    obtain ⟨fd, hb, hF⟩ := hl
    have k_BadDeed : Dn.ClsAt (Dn.kOf KX) mg "BadDeed" := by
      dsimp only [Dn.kOf]
      refine' Dn.cls_mk KX G ?a ?h1 ?h2 ?h3 ?h4 ?h5 ?h6 ?h7 ?h8 ?h9 ?h10
      (case a => k_is); (case h1 => k_is); (case h2 => k_is); (case h3 => k_is); (case h4 => k_is); (case h5 => k_is); (case h6 => k_is); (case h7 => k_is); (case h8 => k_is); (case h9 => k_is); (case h10 => first | rfl | k_is)
    have k_ClaspError : Dn.ClsAt (Dn.kOf KX) mg "ClaspError" := by
      dsimp only [Dn.kOf]
      refine' Dn.cls_mk KX G ?a ?h1 ?h2 ?h3 ?h4 ?h5 ?h6 ?h7 ?h8 ?h9 ?h10
      (case a => k_is); (case h1 => k_is); (case h2 => k_is); (case h3 => k_is); (case h4 => k_is); (case h5 => k_is); (case h6 => k_is); (case h7 => k_is); (case h8 => k_is); (case h9 => k_is); (case h10 => first | rfl | k_is)
    have k_NoText : Dn.ClsAt (Dn.kOf KX) mg "NoText" := by
      dsimp only [Dn.kOf]
      refine' Dn.cls_mk KX G ?a ?h1 ?h2 ?h3 ?h4 ?h5 ?h6 ?h7 ?h8 ?h9 ?h10
      (case a => k_is); (case h1 => k_is); (case h2 => k_is); (case h3 => k_is); (case h4 => k_is); (case h5 => k_is); (case h6 => k_is); (case h7 => k_is); (case h8 => k_is); (case h9 => k_is); (case h10 => first | rfl | k_is)
    have p_NoText_BadDeed : Dn.Below (Dn.kOf KX) mg "NoText" "BadDeed" false := by
      dsimp only [Dn.kOf]
      refine' Dn.sub_mk KX G ?a ?c ?s
      (case a => k_is); (case c => k_is); (case s => first | k_is | rfl)
    have p_NoText_ClaspError : Dn.Below (Dn.kOf KX) mg "NoText" "ClaspError" true := by
      dsimp only [Dn.kOf]
      refine' Dn.sub_mk KX G ?a ?c ?s
      (case a => k_is); (case c => k_is); (case s => first | k_is | rfl)
    have p_NoText_NoText : Dn.Below (Dn.kOf KX) mg "NoText" "NoText" true := by
      dsimp only [Dn.kOf]
      refine' Dn.sub_mk KX G ?a ?c ?s
      (case a => k_is); (case c => k_is); (case s => first | k_is | rfl)
    have p_NoText_ValueError : Dn.BelowT (Dn.kOf KX) mg "NoText" "ValueError" true := by
      dsimp only [Dn.kOf]
      refine' Dn.subT_mk KX G ?a ?s
      (case a => k_is); (case s => first | k_is | rfl)
    have n_NoText : Dn.NmAt (Dn.kOf KX) mg "NoText" := by
      dsimp only [Dn.kOf]
      refine' Dn.nm_mk KX G ?a k_NoText
      (case a => k_is)
    have z_BadDeed : Dn.NoneB (Dn.kOf KX) mg "BadDeed" := by
      dsimp only [Dn.kOf]
      refine' Dn.none_mk KX G ?c ?s
      (case c => k_is); (case s => first | k_is | rfl)
    have z_NoText : Dn.NoneB (Dn.kOf KX) mg "NoText" := by
      dsimp only [Dn.kOf]
      refine' Dn.none_mk KX G ?c ?s
      (case c => k_is); (case s => first | k_is | rfl)
    have T : Lw.Txt (Dn.kOf KX) mg := ⟨b_ValueError, b_bool, b_int, b_isinstance, b_len, b_list, b_range, b_str, b_tuple, e_NoText, c_END_FIGURES, c_LAST_END, k_BadDeed, k_ClaspError, k_NoText, (Dn.tab_cons p_NoText_BadDeed Dn.tab_nil), (Dn.tab_cons p_NoText_ClaspError Dn.tab_nil), (Dn.tab_cons p_NoText_NoText Dn.tab_nil), (Dn.tabT_cons p_NoText_ValueError Dn.tabT_nil), (Dn.cls_cons k_NoText Dn.cls_nil), (Dn.ns_mk KX G), (Dn.nmT_cons n_NoText Dn.nmT_nil), z_BadDeed, z_NoText⟩
    exact ⟨fd, hb, fun base _ _ => Lw.all_ok T d_deed_text d_deeds_text d_read_end d_read_deed d_read_deeds d__law_refused d__law_deed d__law_whole d__law_row_is d__law_thing d__law_cell hF Lw.law_true⟩

