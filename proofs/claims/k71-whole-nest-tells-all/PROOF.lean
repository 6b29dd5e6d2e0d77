import PyProof.Rows.All
import Wide.All
import OpenK.AllK
import Wide.FinOn
import HandS.ForMost
import HandS.Walk
import HandS.IsInst
import HandS.Conv
import HandS.Wide
import HandS.SortInts
import HandS.TupAny
import HandS.Zip
import HandS.Rev
import HandS.Exc
import HandS.TryOnly
import HandS.ExcOwn
import HandS.ExcIs
import HandS.WordsExc
import HandS.SuiteRaise
import HandS.Deep
import KE.GoesEnum
import HandS.EndBits
import HandS.More
import HandS.SetFor
import HandS.ExcValue
import HandS.Small
import PyProof.ListStr
import HandS.Text
import HandS.RaiseMore
import KE.DataMinMax
import HandS.TupLe
import PyProof.Rows.StrMul
import HandS.Strs
import HandS.SortKw
import KE.KDictWalk
import HandS.SortRule
import KE.KSortTupAny
import KE.LtData
import KE.KDictCopyH
import PySem.Challenge.RW_claspwork_k71_whole_nest_tells_all
set_option Elab.async false
set_option linter.all false
set_option maxRecDepth 100000
set_option maxHeartbeats 4000000
/-! Den: a pure layer. A frame of plain data, each reading refined by a pure function of the frame. -/
namespace Dn
open PySem L2

/-! ### outcomes -/
inductive M (α : Type) where
  | ok (a : α) | exc (n : Str) | stuck
def M.bind {α β : Type} (x : M α) (f : α → M β) : M β := match x with
  | .ok a => f a
  | .exc n => .exc n
  | .stuck => .stuck
@[simp] theorem M.bind_ok {α β : Type} (a : α) (f : α → M β) : (M.ok a).bind f = f a := rfl
@[simp] theorem M.bind_exc {α β : Type} (n : Str) (f : α → M β) : (M.exc n : M α).bind f = .exc n := rfl
@[simp] theorem M.bind_stuck {α β : Type} (f : α → M β) : (M.stuck : M α).bind f = .stuck := rfl

abbrev D := PyData
/-- what may change: a list, a dict with keys that are ints and texts, one with keys that are tuples of such -/
inductive OD where
  | lst (ds : List D) | dK (kvs : List (Key × D)) | dT (kvs : List (List Key × D))
/-- a slot: empty, a value, a thing of one's own that may change, the thing handed in to be changed, an error -/
inductive S where
  | none | val (d : D) | own (o : OD) | pin (o : OD) | err (n : Str)
def keyD : Key → D
  | .inl i => .int i
  | .inr x => .str x
def dkD (kvs : List (Key × D)) : List (D × D) := (.bool false, .none) :: kvs.map fun p => (keyD p.1, p.2)
def dtD (kvs : List (List Key × D)) : List (D × D) := (.bool true, .none) :: kvs.map fun p => (.tuple (p.1.map keyD), p.2)
/-- a dict that is known to its object, as data -/
def kdK (kvs : List (Key × D)) : List (D × D) := (.bool false, .bool true) :: kvs.map fun p => (keyD p.1, p.2)
def kdT (kvs : List (List Key × D)) : List (D × D) := (.bool true, .bool true) :: kvs.map fun p => (.tuple (p.1.map keyD), p.2)
/-- no tuple -/
def NTup (o : HO) : Prop := ∀ xs, o ≠ .tup xs
/-- a thing as data -/
def OD.d : OD → D
  | .lst ds => .list ds
  | .dK kvs => .dict (dkD kvs)
  | .dT kvs => .dict (dtD kvs)
abbrev Fr := List S
abbrev ME := Fr → M D
abbrev ML := Fr → M (List D)
abbrev MT := Fr → M Bool
inductive Out where
  | nx (ρ : Fr) | ret (d : D) (ρ : Fr) | retL (ds : List D) (ρ : Fr) | brk (ρ : Fr) | cont (ρ : Fr) | exc (n : Str) (ρ : Fr) | stuck
abbrev MS := Fr → Out

/-! ### data that stands in a heap -/
/-- an error that is held: an object at a, of the own class at C -/
def ExH (C a : Addr) : HO := .ext fun h => ∃ (oe : Obj) (vs : Array Value), h.get? a = some oe ∧ Zc (.ref C) none oe ∧ oe.data = .fields vs
/-- the own class of errors named n -/
def Nm (K : PySem.W.Frag) (C : Addr) (n : Str) : Prop := PySem.W.nsIn K mainGlobals n = some (some (.ref C)) ∧ ExcC K C
/-- a tuple whose object is known, as data -/
abbrev ktD (ds : List D) : D := .dict [(.none, .tuple ds)]
/-- a def of one's own, as data -/
abbrev fnD (n : Str) : D := .dict [(.str n, .none)]
/-- .. as data -/
def excD (n : Str) : D := .dict [(.int 0, .str n)]
section
variable (K : PySem.W.Frag)
mutual
inductive Rep (H : Hp) : V → D → Prop
  | non : Rep H .non .none
  | bl (b : Bool) : Rep H (.bl b) (.bool b)
  | int (i : Int) : Rep H (.int i) (.int i)
  | str (x : Str) : Rep H (.str x) (.str x)
  | lst {a : Addr} {xs : List V} {ds : List D} : H a = some (.lst xs) → RepL H xs ds → Rep H (.ref a) (.list ds)
  | tup {a : Addr} {xs : List V} {ds : List D} : H a = some (.tup xs) → RepL H xs ds → Rep H (.ref a) (.tuple ds)
  | scr {a : Addr} {xs : List V} {ds : List D} {es : List (D × D)} : SqL K H a xs → RepL H xs ds → es = [(.none, .list ds)] → Rep H (.ref a) (.dict es)
  | dK {a : Addr} {xs : List (Key × V)} {ds : List (Key × D)} {es : List (D × D)} : H a = some (.dK xs) → RepK H xs ds → es = dkD ds → Rep H (.ref a) (.dict es)
  | dT {a : Addr} {xs : List (List Key × V)} {ds : List (List Key × D)} {es : List (D × D)} : H a = some (.dT xs) → RepT H xs ds → es = dtD ds → Rep H (.ref a) (.dict es)
  | dKf {a : Addr} {xs : List (Key × V)} {ds : List (Key × D)} {es : List (D × D)} {o : Obj} : H a = some (.frz o (.dK xs)) → RepK H xs ds → es = kdK ds → Rep H (.ref a) (.dict es)
  | dTf {a : Addr} {xs : List (List Key × V)} {ds : List (List Key × D)} {es : List (D × D)} {o : Obj} : H a = some (.frz o (.dT xs)) → RepT H xs ds → es = kdT ds → Rep H (.ref a) (.dict es)
  | ktp {a : Addr} {xs : List V} {ds : List D} {es : List (D × D)} {o : Obj} : H a = some (.frz o (.tup xs)) → o.cls = .type "tuple" → o.dict = none → RepL H xs ds → es = [(.none, .tuple ds)] → Rep H (.ref a) (.dict es)
  | fnc {a : Addr} {n : Str} {es : List (D × D)} : PySem.W.nsIn K mainGlobals n = some (some (.ref a)) → es = [(.str n, .none)] → Rep H (.ref a) (.dict es)
  | exc {a C : Addr} {n : Str} {es : List (D × D)} : H a = some (ExH C a) → Nm K C n → es = [(.int 0, .str n)] → Rep H (.ref a) (.dict es)
inductive RepL (H : Hp) : List V → List D → Prop
  | nil : RepL H [] []
  | cons {v : V} {vs : List V} {d : D} {ds : List D} : Rep H v d → RepL H vs ds → RepL H (v :: vs) (d :: ds)
inductive RepK (H : Hp) : List (Key × V) → List (Key × D) → Prop
  | nil : RepK H [] []
  | cons {k : Key} {v : V} {vs : List (Key × V)} {d : D} {ds : List (Key × D)} : Rep H v d → RepK H vs ds → RepK H ((k, v) :: vs) ((k, d) :: ds)
inductive RepT (H : Hp) : List (List Key × V) → List (List Key × D) → Prop
  | nil : RepT H [] []
  | cons {k : List Key} {v : V} {vs : List (List Key × V)} {d : D} {ds : List (List Key × D)} : Rep H v d → RepT H vs ds → RepT H ((k, v) :: vs) ((k, d) :: ds)
end
/-- a thing as it stands -/
inductive RepO (H : Hp) : HO → OD → Prop
  | lst {vs : List V} {ds : List D} : RepL K H vs ds → RepO H (.lst vs) (.lst ds)
  | dK {vs : List (Key × V)} {ds : List (Key × D)} : RepK K H vs ds → RepO H (.dK vs) (.dK ds)
  | dT {vs : List (List Key × V)} {ds : List (List Key × D)} : RepT K H vs ds → RepO H (.dT vs) (.dT ds)
end

def Ex (H H' : Hp) : Prop := ∀ a o, H a = some o → H' a = some o
theorem Ex.refl (H : Hp) : Ex H H := fun _ _ h => h
theorem Ex.trans {H H1 H2 : Hp} (a : Ex H H1) (b : Ex H1 H2) : Ex H H2 := fun x o h => b x o (a x o h)
theorem Ex.new {H : Hp} {p : Addr} {o : HO} (h : H p = none) : Ex H (upd H p o) := fun a u e => by
  rw [upd_ne (ne_of_none e h)]
  exact e
theorem Ex.free {H H' : Hp} {p : Addr} (e : Ex H H') (h : H' p = none) : H p = none := by
  cases h1 : H p with
  | none => rfl
  | some o =>
    rw [e p o h1] at h
    cases h
theorem ex_rd {H H' : Hp} {a : Addr} {u : HO} (e : Ex H H') (h : Rd H a u) : Rd H' a u := by
  rcases h with h | ⟨o, h⟩
  · exact Or.inl (e a _ h)
  · exact Or.inr ⟨o, e a _ h⟩
theorem ex_l {K : PySem.W.Frag} {H H' : Hp} {a : Addr} {xs : List V} (e : Ex H H') (h : SqL K H a xs) : SqL K H' a xs := by
  rcases h with h | h
  · exact Or.inl (ex_rd e h)
  · exact Or.inr h
theorem ex_t {K : PySem.W.Frag} {H H' : Hp} {a : Addr} {xs : List V} (e : Ex H H') (h : SqT K H a xs) : SqT K H' a xs := by
  rcases h with h | h
  · exact Or.inl (ex_rd e h)
  · exact Or.inr h
mutual
theorem Rep.mono {K : PySem.W.Frag} {H H' : Hp} (e : Ex H H') : ∀ {v : V} {d : D}, Rep K H v d → Rep K H' v d
  | _, _, .non => .non
  | _, _, .bl b => .bl b
  | _, _, .int i => .int i
  | _, _, .str x => .str x
  | _, _, .lst h r => .lst (e _ _ h) (RepL.mono e r)
  | _, _, .scr h r q => .scr (ex_l e h) (RepL.mono e r) q
  | _, _, .dK h r q => .dK (e _ _ h) (RepK.mono e r) q
  | _, _, .dT h r q => .dT (e _ _ h) (RepT.mono e r) q
  | _, _, .dKf h r q => .dKf (e _ _ h) (RepK.mono e r) q
  | _, _, .dTf h r q => .dTf (e _ _ h) (RepT.mono e r) q
  | _, _, .exc h r q => .exc (e _ _ h) r q
  | _, _, .ktp h c d r q => .ktp (e _ _ h) c d (RepL.mono e r) q
  | _, _, .fnc h q => .fnc h q
  | _, _, .tup h r => .tup (e _ _ h) (RepL.mono e r)
theorem RepL.mono {K : PySem.W.Frag} {H H' : Hp} (e : Ex H H') : ∀ {vs : List V} {ds : List D}, RepL K H vs ds → RepL K H' vs ds
  | _, _, .nil => .nil
  | _, _, .cons h r => .cons (Rep.mono e h) (RepL.mono e r)
theorem RepK.mono {K : PySem.W.Frag} {H H' : Hp} (e : Ex H H') : ∀ {vs : List (Key × V)} {ds : List (Key × D)}, RepK K H vs ds → RepK K H' vs ds
  | _, _, .nil => .nil
  | _, _, .cons h r => .cons (Rep.mono e h) (RepK.mono e r)
theorem RepT.mono {K : PySem.W.Frag} {H H' : Hp} (e : Ex H H') : ∀ {vs : List (List Key × V)} {ds : List (List Key × D)}, RepT K H vs ds → RepT K H' vs ds
  | _, _, .nil => .nil
  | _, _, .cons h r => .cons (Rep.mono e h) (RepT.mono e r)
end
theorem RepO.mono {K : PySem.W.Frag} {H H' : Hp} (e : Ex H H') {ho : HO} {o : OD} (h : RepO K H ho o) : RepO K H' ho o := by
  cases h with
  | lst r => exact .lst (r.mono e)
  | dK r => exact .dK (r.mono e)
  | dT r => exact .dT (r.mono e)
theorem RepO.nt {K : PySem.W.Frag} {H : Hp} {ho : HO} {o : OD} (h : RepO K H ho o) : NTup ho := by
  cases h <;> exact fun xs z => nomatch z
theorem RepO.frz {K : PySem.W.Frag} {H : Hp} {a : Addr} {ho : HO} {o : OD} (h : RepO K H ho o) (e : H a = some ho) : Rep K H (.ref a) o.d := by
  cases h with
  | lst r => exact .lst e r
  | dK r => exact .dK e r rfl
  | dT r => exact .dT e r rfl
mutual
theorem Rep.dp {K : PySem.W.Frag} {H : Hp} : ∀ {v : V} {d : D}, d.canLay0 = true → Rep K H v d → Dp K H v d
  | _, _, _, .non => .non
  | _, _, _, .bl b => .bl b
  | _, _, _, .int i => .int i
  | _, _, _, .str x => .str x
  | _, _, c, .lst h r => .lst (SqL.of h) (RepL.dp (by simpa [PyData.canLay0] using c) r)
  | _, _, c, .tup h r => .tup (.inl (.inl h)) (RepL.dp (by simpa [PyData.canLay0] using c) r)
  | _, _, c, .scr h r q => by simp [PyData.canLay0] at c
  | _, _, c, .dK h r q => by simp [PyData.canLay0] at c
  | _, _, c, .dT h r q => by simp [PyData.canLay0] at c
  | _, _, c, .dKf h r q => by simp [PyData.canLay0] at c
  | _, _, c, .dTf h r q => by simp [PyData.canLay0] at c
  | _, _, c, .ktp h _ _ r q => by simp [PyData.canLay0] at c
  | _, _, c, .fnc h q => by simp [PyData.canLay0] at c
theorem RepL.dp {K : PySem.W.Frag} {H : Hp} : ∀ {vs : List V} {ds : List D}, PyData.canLayAll0 ds = true → RepL K H vs ds → DpAll K H vs ds
  | _, _, _, .nil => .nil
  | _, _, c, .cons h r => by
    simp [PyData.canLayAll0] at c
    exact .cons (Rep.dp c.1 h) (RepL.dp c.2 r)
end
section
variable {K : PySem.W.Frag} {H : Hp} {vs ws : List V} {ds es : List D}
theorem RepL.length (h : RepL K H vs ds) : vs.length = ds.length := by
  induction ds generalizing vs with
  | nil => cases h; rfl
  | cons d ds ih =>
    cases h with
    | cons _ r => rw [List.length_cons, List.length_cons, ih r]
theorem RepL.append (h : RepL K H vs ds) (g : RepL K H ws es) : RepL K H (vs ++ ws) (ds ++ es) := by
  induction ds generalizing vs with
  | nil => cases h; exact g
  | cons d ds ih =>
    cases h with
    | cons a r => exact .cons a (ih r)
theorem RepL.get (h : RepL K H vs ds) {i : Nat} {v : V} (e : vs[i]? = some v) : ∃ d, ds[i]? = some d ∧ Rep K H v d := by
  induction ds generalizing vs i with
  | nil => cases h; simp at e
  | cons d ds ih =>
    cases h with
    | cons a r =>
      cases i with
      | zero => simp at e; subst e; exact ⟨d, rfl, a⟩
      | succ i => simp at e; simpa using ih r e
theorem RepL.get' (h : RepL K H vs ds) {i : Nat} {d : D} (e : ds[i]? = some d) : ∃ v, vs[i]? = some v ∧ Rep K H v d := by
  induction ds generalizing vs i with
  | nil => simp at e
  | cons d ds ih =>
    cases h with
    | cons a r =>
      cases i with
      | zero => simp at e; subst e; exact ⟨_, rfl, a⟩
      | succ i => simp at e; simpa using ih r e
theorem RepL.set (h : RepL K H vs ds) {v : V} {d : D} (r : Rep K H v d) (i : Nat) : RepL K H (vs.set i v) (ds.set i d) := by
  induction ds generalizing vs i with
  | nil => cases h; exact .nil
  | cons e ds ih =>
    cases h with
    | cons a q =>
      cases i with
      | zero => exact .cons r q
      | succ i => exact .cons a (ih q i)
theorem RepL.take (h : RepL K H vs ds) (n : Nat) : RepL K H (vs.take n) (ds.take n) := by
  induction ds generalizing vs n with
  | nil => cases h; simp; exact .nil
  | cons e ds ih =>
    cases h with
    | cons a q =>
      cases n with
      | zero => simp; exact .nil
      | succ n => simp only [List.take_succ_cons]; exact .cons a (ih q n)
theorem RepL.drop (h : RepL K H vs ds) (n : Nat) : RepL K H (vs.drop n) (ds.drop n) := by
  induction ds generalizing vs n with
  | nil => cases h; simp; exact .nil
  | cons e ds ih =>
    cases h with
    | cons a q =>
      cases n with
      | zero => exact .cons a q
      | succ n => simp only [List.drop_succ_cons]; exact ih q n
theorem RepL.reverse (h : RepL K H vs ds) : RepL K H vs.reverse ds.reverse := by
  induction ds generalizing vs with
  | nil => cases h; exact .nil
  | cons e ds ih =>
    cases h with
    | cons a q => simp only [List.reverse_cons]; exact (ih q).append (.cons a .nil)
theorem repL_ints (ns : List Int) : RepL K H (ns.map V.int) (ns.map PyData.int) := by
  induction ns with
  | nil => exact .nil
  | cons n ns ih => exact .cons (.int n) ih
/-- a list of ints in data is one of ints in values -/
theorem RepL.ints {ns : List Int} (h : RepL K H vs (ns.map PyData.int)) : vs = ns.map V.int := by
  induction ns generalizing vs with
  | nil => cases h; rfl
  | cons n ns ih =>
    cases h with
    | cons a r =>
      cases a
      rw [ih r]
      rfl
theorem RepL.bools {ns : List Bool} (h : RepL K H vs (ns.map PyData.bool)) : vs = ns.map V.bl := by
  induction ns generalizing vs with
  | nil => cases h; rfl
  | cons n ns ih =>
    cases h with
    | cons a r =>
      cases a
      rw [ih r]
      rfl
end

/-- one step: the frozen heap F and the heap H grow, what is newly frozen is new -/
structure Step (F H F' H' : Hp) : Prop where
  ff : Ex F F'
  hh : Ex H H'
  nw : ∀ a o, F a = none → H a = some o → NTup o → F' a = none
  fh : Ex F' H'
section
variable {F H F' H' F'' H'' : Hp}
theorem Step.refl (e : Ex F H) : Step F H F H := ⟨Ex.refl _, Ex.refl _, fun _ _ h _ _ => h, e⟩
theorem some_of {a : Addr} (e : Ex H H') (h : H a ≠ none) : H' a ≠ none := by
  cases q : H a with
  | none => exact absurd q h
  | some o => rw [e a o q]; exact fun z => nomatch z
theorem Step.trans (s : Step F H F' H') (t : Step F' H' F'' H'') : Step F H F'' H'' :=
  ⟨s.ff.trans t.ff, s.hh.trans t.hh, fun a o h1 h2 h3 => t.nw a o (s.nw a o h1 h2 h3) (s.hh a o h2) h3, t.fh⟩
theorem Ex.upd {p : Addr} {o : HO} (e : Ex F H) : Ex (upd F p o) (upd H p o) := fun a u h => by
  by_cases q : a = p
  · subst q; rw [upd_same] at h ⊢; exact h
  · rw [upd_ne q] at h ⊢; exact e a u h
/-- a new object, frozen -/
theorem Step.new {p : Addr} {o : HO} (e : Ex F H) (h : H p = none) : Step F H (L2.upd F p o) (L2.upd H p o) :=
  ⟨Ex.new (e.free h), Ex.new h, fun a o' h1 h2 _ => by
    have q : a ≠ p := ne_of_none h2 h
    rw [upd_ne q]; exact h1, e.upd⟩
/-- a new object, not frozen -/
theorem Step.new0 {p : Addr} {o : HO} (e : Ex F H) (h : H p = none) : Step F H F (L2.upd H p o) :=
  ⟨Ex.refl _, Ex.new h, fun a o' h1 h2 _ => h1, e.trans (Ex.new h)⟩
end

section
variable (K : PySem.W.Frag)
/-- a value that stands for data now: frozen, or a thing as it stands -/
inductive RepB (F H : Hp) : V → D → Prop
  | frz {v : V} {d : D} : Rep K F v d → RepB F H v d
  | thg {a : Addr} {ho : HO} {o : OD} : H a = some ho → RepO K F ho o → RepB F H (.ref a) o.d
/-- what a slot holds; L: where the thing handed in stands, where the error that is held -/
def SlotR (L : Addr × Addr) (F H0 H : Hp) : S → Option V → Prop
  | .none, _ => True
  | .val d, o => ∃ v, o = some v ∧ Rep K F v d
  | .own od, o => ∃ l ho, o = some (.ref l) ∧ F l = none ∧ H0 l = none ∧ H l = some ho ∧ RepO K F ho od
  | .pin od, o => o = some (.ref L.1) ∧ F L.1 = none ∧ H0 L.1 = none ∧ ∃ ho, H L.1 = some ho ∧ RepO K F ho od
  | .err _, o => o = some (.ref L.2)
def ownO : Option S → Option OD
  | some (.own o) => some o
  | some (.pin o) => some o
  | _ => none
def isOwn (s : Option S) : Prop := (ownO s).isSome = true
structure Env (L : Addr × Addr) (F0 H0 F H : Hp) (σ : St) (ρ : Fr) : Prop where
  st : Step F0 H0 F H
  len : σ.length = ρ.length
  sl : ∀ (i : Nat) (s : S), ρ[i]? = some s → SlotR K L F H0 H s (σ[i]?.join)
  sep : ∀ (i j : Nat) (l : Addr), isOwn ρ[i]? → isOwn ρ[j]? → σ[i]? = some (some (.ref l)) → σ[j]? = some (some (.ref l)) → i = j
end
section
variable {K : PySem.W.Frag} {L : Addr × Addr} {F0 H0 F H F' H' : Hp} {σ : St} {ρ : Fr} {v : V} {d : D}
theorem RepB.step (s : Step F H F' H') (h : RepB K F H v d) : RepB K F' H' v d := by
  cases h with
  | frz r => exact .frz (r.mono s.ff)
  | thg q r => exact .thg (s.hh _ _ q) (r.mono s.ff)
/-- for reading, all is as if frozen -/
theorem RepB.now (e : Ex F H) (h : RepB K F H v d) : Rep K H v d := by
  cases h with
  | frz r => exact r.mono e
  | thg q r => exact (r.mono e).frz q
theorem Env.step (E : Env K L F0 H0 F H σ ρ) (s : Step F H F' H') : Env K L F0 H0 F' H' σ ρ where
  st := E.st.trans s
  len := E.len
  sep := E.sep
  sl := fun i t h => by
    have q := E.sl i t h
    cases t with
    | none => trivial
    | err n => exact q
    | val d => obtain ⟨v, e, r⟩ := q; exact ⟨v, e, r.mono s.ff⟩
    | own ds =>
      obtain ⟨l, ho, e, f, h0, hl, r⟩ := q
      exact ⟨l, ho, e, s.nw l ho f hl r.nt, h0, s.hh _ _ hl, r.mono s.ff⟩
    | pin ds =>
      obtain ⟨e, f, h0, ho, hl, r⟩ := q
      exact ⟨e, s.nw L.1 ho f hl r.nt, h0, ho, s.hh _ _ hl, r.mono s.ff⟩
theorem join_some {α : Type} {o : Option (Option α)} {x : α} (h : o.join = some x) : o = some (some x) := by
  cases o with
  | none => cases h
  | some y => simp at h; rw [h]
theorem Env.var (E : Env K L F0 H0 F H σ ρ) {i : Nat} (h : ρ[i]? = some (.val d)) : ∃ v, σ[i]? = some (some v) ∧ Rep K F v d := by
  obtain ⟨v, e, r⟩ := E.sl i _ h
  exact ⟨v, join_some e, r⟩
theorem Env.ownv (E : Env K L F0 H0 F H σ ρ) {i : Nat} {o : OD} (h : ownO ρ[i]? = some o) : ∃ l ho, σ[i]? = some (some (.ref l)) ∧ F l = none ∧ H0 l = none ∧ H l = some ho ∧ RepO K F ho o ∧ (∀ o', ρ[i]? = some (.pin o') → l = L.1) := by
  cases q : ρ[i]? with
  | none => rw [q] at h; cases h
  | some s =>
    rw [q] at h
    cases s with
    | own od =>
      cases h
      obtain ⟨l, ho, e, r1, r2, r3, r4⟩ := E.sl i _ q
      exact ⟨l, ho, join_some e, r1, r2, r3, r4, fun o' z => by cases z⟩
    | pin od =>
      cases h
      obtain ⟨e, r1, r2, ho, r3, r4⟩ := E.sl i _ q
      exact ⟨L.1, ho, join_some e, r1, r2, r3, r4, fun _ _ => rfl⟩
    | none => cases h
    | val d => cases h
    | err n => cases h
theorem set_get {α : Type} {l : List α} {i j : Nat} {x y : α} (h : (l.set i x)[j]? = some y) : (i = j ∧ y = x ∧ i < l.length) ∨ (i ≠ j ∧ l[j]? = some y) := by
  rw [List.getElem?_set] at h
  by_cases q : i = j
  · rw [if_pos q] at h
    split at h
    · left; exact ⟨q, (Option.some.inj h).symm, by assumption⟩
    · cases h
  · rw [if_neg q] at h
    exact .inr ⟨q, h⟩
/-- a slot that is no thing of one's own any more -/
theorem own_ne {i j : Nat} {s : S} (hs : ownO (some s) = none) (h : isOwn (ρ.set i s)[j]?) : i ≠ j := fun z => by
  subst z
  unfold isOwn at h
  by_cases q : i < ρ.length
  · rw [List.getElem?_set_self q, hs] at h; cases h
  · rw [List.getElem?_eq_none (by rw [List.length_set]; omega)] at h; cases h
/-- a slot gets a value, or is emptied -/
theorem Env.setx (E : Env K L F0 H0 F H σ ρ) {s : S} {o : Option V} (hs : ownO (some s) = none) (r : SlotR K L F H0 H s o) (i : Nat) : Env K L F0 H0 F H (σ.set i o) (ρ.set i s) where
  st := E.st
  len := by rw [List.length_set, List.length_set]; exact E.len
  sl := fun j t h => by
    rcases set_get h with ⟨e, es, hl⟩ | ⟨ne, h'⟩
    · subst e; subst es
      rw [List.getElem?_set_self (by rw [E.len]; exact hl)]
      exact r
    · rw [List.getElem?_set_ne ne]
      exact E.sl j t h'
  sep := fun j k l h1 h2 e1 e2 => by
    have nj := own_ne hs h1
    have nk := own_ne hs h2
    rw [List.getElem?_set_ne nj] at h1 e1
    rw [List.getElem?_set_ne nk] at h2 e2
    exact E.sep j k l h1 h2 e1 e2
theorem Env.setv (E : Env K L F0 H0 F H σ ρ) (r : Rep K F v d) (i : Nat) : Env K L F0 H0 F H (σ.set i (some v)) (ρ.set i (.val d)) := E.setx (s := .val d) rfl (show SlotR K L F H0 H (.val d) (some v) from ⟨v, rfl, r⟩) i
/-- a slot gets a new thing -/
theorem Env.seto (E : Env K L F0 H0 F H σ ρ) {p : Addr} {ho : HO} {o : OD} (hp : H p = none) (r : RepO K F ho o) (i : Nat) : Env K L F0 H0 F (upd H p ho) (σ.set i (some (.ref p))) (ρ.set i (.own o)) where
  st := E.st.trans (Step.new0 E.st.fh hp)
  len := by rw [List.length_set, List.length_set]; exact E.len
  sl := fun j s h => by
    rcases set_get h with ⟨e, es, hl⟩ | ⟨ne, h'⟩
    · subst e; subst es
      rw [List.getElem?_set_self (by rw [E.len]; exact hl)]
      exact ⟨p, ho, rfl, E.st.fh.free hp, E.st.hh.free hp, upd_same, r⟩
    · rw [List.getElem?_set_ne ne]
      exact (E.step (Step.new0 E.st.fh hp)).sl j s h'
  sep := fun j k l h1 h2 e1 e2 => by
    have no : ∀ {m : Nat}, isOwn ρ[m]? → σ[m]? = some (some (.ref p)) → False := fun {m} hm em => by
      cases q : ownO ρ[m]? with
      | none => unfold isOwn at hm; rw [q] at hm; cases hm
      | some o =>
        obtain ⟨l', ho', el, _, _, hl, _⟩ := E.ownv q
        rw [el] at em
        cases em
        rw [hp] at hl
        cases hl
    by_cases nj : i = j
    · by_cases nk : i = k
      · exact nj.symm.trans nk
      · subst nj
        rw [List.getElem?_set_ne nk] at h2 e2
        rw [List.getElem?_set] at e1
        simp at e1
        obtain ⟨_, e1⟩ := e1
        subst e1
        exact (no h2 e2).elim
    · rw [List.getElem?_set_ne nj] at h1 e1
      by_cases nk : i = k
      · subst nk
        rw [List.getElem?_set] at e2
        simp at e2
        obtain ⟨_, e2⟩ := e2
        subst e2
        exact (no h1 e1).elim
      · rw [List.getElem?_set_ne nk] at h2 e2
        exact E.sep j k l h1 h2 e1 e2
/-- the thing of one's own in a slot as it is now -/
def putO (i : Nat) (o : OD) (ρ : Fr) : Fr := match ρ[i]? with
  | some (.pin _) => ρ.set i (.pin o)
  | _ => ρ.set i (.own o)
theorem putO_get {i j : Nat} {o o0 : OD} {s : S} (h0 : ownO ρ[i]? = some o0) (h : (putO i o ρ)[j]? = some s) : (i = j ∧ ((s = .own o ∧ ∃ o', ρ[i]? = some (.own o')) ∨ (s = .pin o ∧ ∃ o', ρ[i]? = some (.pin o')))) ∨ (i ≠ j ∧ ρ[j]? = some s) := by
  unfold putO at h
  cases q : ρ[i]? with
  | none => rw [q] at h0; cases h0
  | some t =>
    rw [q] at h h0
    cases t with
    | own o' =>
      rcases set_get h with ⟨e, es, _⟩ | z
      · exact .inl ⟨e, .inl ⟨es, o', rfl⟩⟩
      · exact .inr z
    | pin o' =>
      rcases set_get h with ⟨e, es, _⟩ | z
      · exact .inl ⟨e, .inr ⟨es, o', rfl⟩⟩
      · exact .inr z
    | none => cases h0
    | val _ => cases h0
    | err _ => cases h0
theorem putO_len {i : Nat} {o : OD} : (putO i o ρ).length = ρ.length := by
  unfold putO
  split <;> rw [List.length_set]
theorem putO_own {i j : Nat} {o o0 : OD} (h0 : ownO ρ[i]? = some o0) (h : isOwn (putO i o ρ)[j]?) : isOwn ρ[j]? := by
  cases q : (putO i o ρ)[j]? with
  | none => rw [q] at h; cases h
  | some s =>
    rcases putO_get h0 q with ⟨e, _⟩ | ⟨_, z⟩
    · subst e; unfold isOwn; rw [h0]; rfl
    · rw [z, ← q]; exact h
/-- another slot's thing stands elsewhere -/
theorem Env.apart (E : Env K L F0 H0 F H σ ρ) {i j : Nat} {l m : Addr} {o u : OD} (h : ownO ρ[i]? = some o) (h' : ownO ρ[j]? = some u) (hl : σ[i]? = some (some (.ref l))) (hm : σ[j]? = some (some (.ref m))) (ne : i ≠ j) : m ≠ l := fun z => by
  subst z
  exact ne (E.sep i j m (by unfold isOwn; rw [h]; rfl) (by unfold isOwn; rw [h']; rfl) hl hm)
/-- the thing of one's own in slot i changes -/
theorem Env.mut (E : Env K L F0 H0 F H σ ρ) {i : Nat} {l : Addr} {o u : OD} {ho : HO} (h : ownO ρ[i]? = some o) (hl : σ[i]? = some (some (.ref l))) (r : RepO K F ho u) : Env K L F0 H0 F (upd H l ho) σ (putO i u ρ) where
  st := by
    obtain ⟨l', ho', e, f, h0, hH, _⟩ := E.ownv h
    rw [hl] at e
    cases e
    refine ⟨E.st.ff, fun a o q => ?_, E.st.nw, fun a o q => ?_⟩
    · rw [upd_ne (ne_of_none q h0)]; exact E.st.hh a o q
    · rw [upd_ne (ne_of_none q f)]; exact E.st.fh a o q
  len := by rw [putO_len]; exact E.len
  sl := fun j s q => by
    obtain ⟨l', ho', e, f, h0, hH, _, hpin⟩ := E.ownv h
    rw [hl] at e
    cases e
    rcases putO_get h q with ⟨e, z⟩ | ⟨ne, h'⟩
    · subst e
      rw [hl]
      rcases z with ⟨rfl, o', ho'⟩ | ⟨rfl, o', ho'⟩
      · exact ⟨l, ho, rfl, f, h0, upd_same, r⟩
      · have el := hpin o' ho'
        subst el
        exact ⟨rfl, f, h0, ho, upd_same, r⟩
    · have z := E.sl j s h'
      cases s with
      | none => trivial
      | err n => exact z
      | val d => exact z
      | own us =>
        obtain ⟨m, ho2, e, f2, h2, hH2, rr⟩ := z
        refine ⟨m, ho2, e, f2, h2, ?_, rr⟩
        rw [upd_ne (E.apart h (by rw [h']; rfl) hl (join_some e) ne)]
        exact hH2
      | pin us =>
        obtain ⟨e, f2, h2, ho2, hH2, rr⟩ := z
        refine ⟨e, f2, h2, ho2, ?_, rr⟩
        rw [upd_ne (E.apart h (by rw [h']; rfl) hl (join_some e) ne)]
        exact hH2
  sep := fun j k m h1 h2 e1 e2 => E.sep j k m (putO_own h h1) (putO_own h h2) e1 e2
/-- the thing of one's own in slot i is frozen -/
theorem Env.frz (E : Env K L F0 H0 F H σ ρ) {i : Nat} {o : OD} (h : ρ[i]? = some (.own o)) : ∃ F', Ex F F' ∧ Env K L F0 H0 F' H σ (ρ.set i (.val o.d)) := by
  have h1 : ownO ρ[i]? = some o := by rw [h]; rfl
  obtain ⟨l, ho, e, f, h0, hH, r, _⟩ := E.ownv h1
  have ef : Ex F (upd F l ho) := Ex.new f
  refine ⟨upd F l ho, ef, ⟨?_, by rw [List.length_set]; exact E.len, fun j s q => ?_, fun j k m h1 h2 e1 e2 => ?_⟩⟩
  · refine ⟨E.st.ff.trans ef, E.st.hh, fun a o' h1 h2 h3 => ?_, fun a o q => ?_⟩
    · rw [upd_ne (ne_of_none h2 h0)]; exact E.st.nw a o' h1 h2 h3
    · by_cases z : a = l
      · subst z; rw [upd_same] at q; cases q; exact hH
      · rw [upd_ne z] at q; exact E.st.fh a o q
  · rcases set_get q with ⟨e', es', hl'⟩ | ⟨ne, h'⟩
    · subst e'; subst es'
      rw [e]
      exact ⟨.ref l, rfl, (r.mono ef).frz upd_same⟩
    · have z := E.sl j s h'
      cases s with
      | none => trivial
      | err n => exact z
      | val d => obtain ⟨v, e, rr⟩ := z; exact ⟨v, e, rr.mono ef⟩
      | own us =>
        obtain ⟨m, vs', e', f', h0', hH', rr⟩ := z
        refine ⟨m, vs', e', ?_, h0', hH', rr.mono ef⟩
        rw [upd_ne (E.apart h1 (by rw [h']; rfl) e (join_some e') ne)]
        exact f'
      | pin us =>
        obtain ⟨e', f', h0', ho', hH', rr⟩ := z
        refine ⟨e', ?_, h0', ho', hH', rr.mono ef⟩
        rw [upd_ne (E.apart h1 (by rw [h']; rfl) e (join_some e') ne)]
        exact f'
  · have nj := own_ne rfl h1
    have nk := own_ne rfl h2
    rw [List.getElem?_set_ne nj] at h1
    rw [List.getElem?_set_ne nk] at h2
    exact E.sep j k m h1 h2 e1 e2
/-- the heap without one object -/
def del (H : Hp) (p : Addr) : Hp := fun b => if b = p then none else H b
theorem del_same {p : Addr} : del H p p = none := if_pos rfl
theorem del_ne {p b : Addr} (h : b ≠ p) : del H p b = H b := if_neg h
theorem del_upd {p : Addr} {o : HO} (h : H p = some o) : upd (del H p) p o = H := by
  funext b
  by_cases q : b = p
  · subst q; rw [upd_same, h]
  · rw [upd_ne q, del_ne q]
/-- the thing of one's own in slot i is let go -/
theorem Env.drop (E : Env K L F0 H0 F H σ ρ) {i : Nat} {l : Addr} {o : OD} (h : ρ[i]? = some (.own o)) (hl : σ[i]? = some (some (.ref l))) : Env K L F0 H0 F (del H l) σ (ρ.set i .none) where
  st := by
    have h1 : ownO ρ[i]? = some o := by rw [h]; rfl
    obtain ⟨l', ho, e, f, h0, hH, r, _⟩ := E.ownv h1
    rw [hl] at e
    cases e
    refine ⟨E.st.ff, fun a o q => ?_, E.st.nw, fun a o q => ?_⟩
    · rw [del_ne (ne_of_none q h0)]; exact E.st.hh a o q
    · rw [del_ne (ne_of_none q f)]; exact E.st.fh a o q
  len := by rw [List.length_set]; exact E.len
  sl := fun j s q => by
    have h1 : ownO ρ[i]? = some o := by rw [h]; rfl
    rcases set_get q with ⟨e', es', hl'⟩ | ⟨ne, h'⟩
    · subst es'; trivial
    · have z := E.sl j s h'
      cases s with
      | none => trivial
      | err n => exact z
      | val d => exact z
      | own us =>
        obtain ⟨m, vs', e', f', h0', hH', rr⟩ := z
        refine ⟨m, vs', e', f', h0', ?_, rr⟩
        rw [del_ne (E.apart h1 (by rw [h']; rfl) hl (join_some e') ne)]
        exact hH'
      | pin us =>
        obtain ⟨e', f', h0', ho', hH', rr⟩ := z
        refine ⟨e', f', h0', ho', ?_, rr⟩
        rw [del_ne (E.apart h1 (by rw [h']; rfl) hl (join_some e') ne)]
        exact hH'
  sep := fun j k m h1 h2 e1 e2 => by
    have nj := own_ne rfl h1
    have nk := own_ne rfl h2
    rw [List.getElem?_set_ne nj] at h1
    rw [List.getElem?_set_ne nk] at h2
    exact E.sep j k m h1 h2 e1 e2
end
end Dn

set_option Elab.async false
set_option linter.all false
set_option maxRecDepth 100000
set_option maxHeartbeats 4000000
/-! DenB: expressions -/
namespace Dn
open PySem L2

/-! ### pure wishes -/
def post {α : Type} (m : M α) (kx : α → Prop) (ke : Str → Prop) : Prop := match m with
  | .ok a => kx a
  | .exc n => ke n
  | .stuck => False
@[simp] theorem post_ok {α : Type} {a : α} {kx : α → Prop} {ke : Str → Prop} : post (.ok a) kx ke = kx a := rfl
@[simp] theorem post_exc {α : Type} {n : Str} {kx : α → Prop} {ke : Str → Prop} : post (.exc n : M α) kx ke = ke n := rfl
@[simp] theorem post_stuck {α : Type} {kx : α → Prop} {ke : Str → Prop} : post (.stuck : M α) kx ke = False := rfl
theorem post_mono {α : Type} {m : M α} {kx kx' : α → Prop} {ke ke' : Str → Prop} (h : post m kx ke) (f : ∀ a, kx a → kx' a) (g : ∀ n, ke n → ke' n) : post m kx' ke' := by
  cases m with
  | ok a => exact f a h
  | exc n => exact g n h
  | stuck => exact h
theorem post_bind {α β : Type} {m : M α} {f : α → M β} {kx : β → Prop} {ke : Str → Prop} (h : post (m.bind f) kx ke) : post m (fun a => post (f a) kx ke) ke := by
  cases m with
  | ok a => exact h
  | exc n => exact h
  | stuck => exact h

inductive RepBL (K : PySem.W.Frag) (F H : Hp) : List V → List D → Prop
  | nil : RepBL K F H [] []
  | cons {v : V} {vs : List V} {d : D} {ds : List D} : RepB K F H v d → RepBL K F H vs ds → RepBL K F H (v :: vs) (d :: ds)
theorem RepBL.step {K : PySem.W.Frag} {F H F' H' : Hp} (s : Step F H F' H') : ∀ {vs : List V} {ds : List D}, RepBL K F H vs ds → RepBL K F' H' vs ds
  | _, _, .nil => .nil
  | _, _, .cons r t => .cons (r.step s) (RepBL.step s t)
theorem RepL.b {K : PySem.W.Frag} {F H : Hp} : ∀ {vs : List V} {ds : List D}, RepL K F vs ds → RepBL K F H vs ds
  | _, _, .nil => .nil
  | _, _, .cons r t => .cons (.frz r) (RepL.b t)

section
variable (K : PySem.W.Frag) (L : Addr × Addr) (mg : Str → Option Value) (W : WX)
def Wm (n : Str) (σ : St) (H : Hp) : Prop := ∀ C, mg n = some (.ref C) → W (.ref C) none σ H
/-- what is wanted of a value -/
abbrev WV (F H : Hp) (d : D) (Q : VK) : Prop := ∀ F' H' v, Step F H F' H' → RepB K F' H' v d → Q v H'
abbrev WF (F H : Hp) (d : D) (Q : VK) : Prop := ∀ F' H' v, Step F H F' H' → Rep K F' v d → Q v H'
abbrev WN (F H : Hp) (ds : List D) (Q : VK) : Prop := ∀ F' H1 p vs, Step F H F' H1 → H1 p = none → RepL K F' vs ds → Q (.ref p) (upd H1 p (.lst vs))
abbrev WE' (F H : Hp) (σ : St) (n : Str) : Prop := ∀ F' H', Step F H F' H' → Wm mg W n σ H'
/-- an expression, as it is -/
def DE (t : TE) (f : ME) : Prop := ∀ F0 H0 F H σ ρ Q, Env K L F0 H0 F H σ ρ → post (f ρ) (fun d => WV K F H d Q) (WE' mg W F H σ) → t σ H Q
/-- .. frozen -/
def DF (t : TE) (f : ME) : Prop := ∀ F0 H0 F H σ ρ Q, Env K L F0 H0 F H σ ρ → post (f ρ) (fun d => WF K F H d Q) (WE' mg W F H σ) → t σ H Q
/-- .. a new list -/
def DL (t : TE) (f : ML) : Prop := ∀ F0 H0 F H σ ρ Q, Env K L F0 H0 F H σ ρ → post (f ρ) (fun ds => WN K F H ds Q) (WE' mg W F H σ) → t σ H Q
/-- a test -/
def DT (t : TT) (f : MT) : Prop := ∀ F0 H0 F H σ ρ Q, Env K L F0 H0 F H σ ρ → post (f ρ) (fun b => ∀ F' H', Step F H F' H' → Q b H') (WE' mg W F H σ) → t σ H Q
/-- arguments, as they are; frozen -/
def DA (t : TA) (f : ML) : Prop := ∀ F0 H0 F H σ ρ (Q : List V → Hp → Prop), Env K L F0 H0 F H σ ρ → post (f ρ) (fun ds => ∀ F' H' vs, Step F H F' H' → RepBL K F' H' vs ds → Q vs H') (WE' mg W F H σ) → t σ H Q
def DAF (t : TA) (f : ML) : Prop := ∀ F0 H0 F H σ ρ (Q : List V → Hp → Prop), Env K L F0 H0 F H σ ρ → post (f ρ) (fun ds => ∀ F' H' vs, Step F H F' H' → RepL K F' vs ds → Q vs H') (WE' mg W F H σ) → t σ H Q
/-- a slice's part -/
def DO (t : TO) (f : Fr → M (Option Int)) : Prop := ∀ F0 H0 F H σ ρ (Q : Option Int → Hp → Prop), Env K L F0 H0 F H σ ρ → post (f ρ) (fun o => ∀ F' H', Step F H F' H' → Q o H') (WE' mg W F H σ) → t σ H Q
/-- an operation on values -/
def R2D (r : R2) (f : D → D → Option D) : Prop := ∀ F H x y d e Q z, Ex F H → RepB K F H x d → RepB K F H y e → f d e = some z → WF K F H z Q → r x y H Q
def R2L (r : R2) (f : D → D → Option (List D)) : Prop := ∀ F H x y d e Q z, Ex F H → RepB K F H x d → RepB K F H y e → f d e = some z → WN K F H z Q → r x y H Q
def R1D (r : V → Hp → VK → Prop) (f : D → Option D) : Prop := ∀ F H x d Q z, Ex F H → RepB K F H x d → f d = some z → WF K F H z Q → r x H Q
def RCD (r : List V → Hp → VK → Prop) (f : List D → Option D) : Prop := ∀ F H xs ds Q z, Ex F H → RepBL K F H xs ds → f ds = some z → WF K F H z Q → r xs H Q
def RCL (r : List V → Hp → VK → Prop) (f : List D → Option (List D)) : Prop := ∀ F H xs ds Q z, Ex F H → RepBL K F H xs ds → f ds = some z → WN K F H z Q → r xs H Q
def RSD (r : V → Option Int → Option Int → Hp → VK → Prop) (f : D → Option Int → Option Int → Option D) : Prop := ∀ F H x d lo hi Q z, Ex F H → RepB K F H x d → f d lo hi = some z → WF K F H z Q → r x lo hi H Q
def RSL (r : V → Option Int → Option Int → Hp → VK → Prop) (f : D → Option Int → Option Int → Option (List D)) : Prop := ∀ F H x d lo hi Q z, Ex F H → RepB K F H x d → f d lo hi = some z → WN K F H z Q → r x lo hi H Q
end

/-! ### pure expressions -/
def eC (d : D) : ME := fun _ => .ok d
def eVar (i : Nat) : ME := fun ρ => match ρ[i]? with
  | some (.val d) => .ok d
  | some (.own o) => .ok o.d
  | some (.pin o) => .ok o.d
  | _ => .stuck
def eVarF (i : Nat) : ME := fun ρ => match ρ[i]? with
  | some (.val d) => .ok d
  | _ => .stuck
def lift {α : Type} : Option α → M α
  | some a => .ok a
  | none => .stuck
@[simp] theorem lift_some {α : Type} {a : α} : lift (some a) = .ok a := rfl
@[simp] theorem lift_none {α : Type} : lift (none : Option α) = .stuck := rfl
def e2 (f : D → D → Option D) (a b : ME) : ME := fun ρ => (a ρ).bind fun x => (b ρ).bind fun y => lift (f x y)
def e2L (f : D → D → Option (List D)) (a b : ME) : ML := fun ρ => (a ρ).bind fun x => (b ρ).bind fun y => lift (f x y)
def e1 (f : D → Option D) (a : ME) : ME := fun ρ => (a ρ).bind fun x => lift (f x)
def eL (f : ML) : ME := fun ρ => (f ρ).bind fun ds => .ok (.list ds)
def toB : D → M Bool
  | .bool b => .ok b
  | _ => .stuck
def tE (a : ME) : MT := fun ρ => (a ρ).bind toB
def tA (a b : MT) : MT := fun ρ => (a ρ).bind fun c => if c = true then b ρ else .ok false
def tO (a b : MT) : MT := fun ρ => (a ρ).bind fun c => if c = true then .ok true else b ρ
def tN (a : MT) : MT := fun ρ => (a ρ).bind fun c => .ok (!c)
def eAnd (a b : ME) : ME := fun ρ => (a ρ).bind fun x => (toB x).bind fun c => if c = true then b ρ else .ok (.bool false)
def eOr (a b : ME) : ME := fun ρ => (a ρ).bind fun x => (toB x).bind fun c => if c = true then .ok (.bool true) else b ρ
def eNot (a : ME) : ME := fun ρ => (a ρ).bind fun x => (toB x).bind fun c => .ok (.bool (!c))
def eIf (t : MT) (a b : ME) : ME := fun ρ => (t ρ).bind fun c => if c = true then a ρ else b ρ
def aNil : ML := fun _ => .ok []
def aCons (a : ME) (as : ML) : ML := fun ρ => (a ρ).bind fun d => (as ρ).bind fun ds => .ok (d :: ds)
/-- a call of a def of one's own -/
def eCall (f : List D → M D) (as : ML) : ME := fun ρ => (as ρ).bind f
/-- of a built-in -/
def eB (f : List D → Option D) (as : ML) : ME := fun ρ => (as ρ).bind fun ds => lift (f ds)
def eBL (f : List D → Option (List D)) (as : ML) : ML := fun ρ => (as ρ).bind fun ds => lift (f ds)
def eTup (as : ML) : ME := fun ρ => (as ρ).bind fun ds => .ok (.tuple ds)
def oNone : Fr → M (Option Int) := fun _ => .ok none
def toI : D → M Int
  | .int i => .ok i
  | _ => .stuck
def oSome (a : ME) : Fr → M (Option Int) := fun ρ => (a ρ).bind fun d => (toI d).bind fun i => .ok (some i)
def eSl (f : D → Option Int → Option Int → Option D) (a : ME) (lo hi : Fr → M (Option Int)) : ME := fun ρ => (a ρ).bind fun x => (lo ρ).bind fun l => (hi ρ).bind fun h => lift (f x l h)
def eSlL (f : D → Option Int → Option Int → Option (List D)) (a : ME) (lo hi : Fr → M (Option Int)) : ML := fun ρ => (a ρ).bind fun x => (lo ρ).bind fun l => (hi ρ).bind fun h => lift (f x l h)
def eCh (f g : D → D → Option D) (a b c : ME) : ME := fun ρ => (a ρ).bind fun x => (b ρ).bind fun y => (lift (f x y)).bind fun z => (toB z).bind fun k => if k = true then (c ρ).bind fun w => lift (g y w) else .ok (.bool false)

section
variable {K : PySem.W.Frag} {L : Addr × Addr} {mg : Str → Option Value} {W : WX} {t ta tb tc : TE} {f a b c : ME} {r r' : R2} {g g' : D → D → Option D} {tt uu : TT} {tf uf : MT} {tas : TA} {as : ML}

theorem DF.e (h : DF K L mg W t f) : DE K L mg W t f := fun F0 H0 F H σ ρ Q E p => h F0 H0 F H σ ρ Q E (post_mono p (fun d k F' H' v s r => k F' H' v s (.frz r)) fun _ z => z)
theorem DL.fz {fl : ML} (h : DL K L mg W t fl) : DF K L mg W t (eL fl) := fun F0 H0 F H σ ρ Q E p => by
  refine h F0 H0 F H σ ρ Q E ?_
  refine post_mono (post_bind p) (fun ds k F' H1 q vs s n r => ?_) fun _ z => z
  exact k _ _ _ (s.trans (Step.new s.fh n)) (.lst upd_same (r.mono (Ex.new (s.fh.free n))))
theorem de_var {i : Nat} : DE K L mg W (tVar i) (eVar i) := fun F0 H0 F H σ ρ Q E p => by
  unfold eVar at p
  cases q : ρ[i]? with
  | none => rw [q] at p; exact p.elim
  | some s =>
    rw [q] at p
    cases s with
    | none => exact p.elim
    | err n => exact p.elim
    | val d =>
      obtain ⟨v, e, r⟩ := E.var q
      exact ⟨v, e, p F H v (Step.refl E.st.fh) (.frz r)⟩
    | own o =>
      obtain ⟨l, vs, e, _, _, hl, r, _⟩ := E.ownv (i := i) (o := o) (by rw [q]; rfl)
      exact ⟨_, e, p F H _ (Step.refl E.st.fh) (.thg hl r)⟩
    | pin o =>
      obtain ⟨l, vs, e, _, _, hl, r, _⟩ := E.ownv (i := i) (o := o) (by rw [q]; rfl)
      exact ⟨_, e, p F H _ (Step.refl E.st.fh) (.thg hl r)⟩
theorem df_var {i : Nat} : DF K L mg W (tVar i) (eVarF i) := fun F0 H0 F H σ ρ Q E p => by
  unfold eVarF at p
  cases q : ρ[i]? with
  | none => rw [q] at p; exact p.elim
  | some s =>
    rw [q] at p
    cases s with
    | none => exact p.elim
    | err n => exact p.elim
    | own _ => exact p.elim
    | pin _ => exact p.elim
    | val d =>
      obtain ⟨v, e, r⟩ := E.var q
      exact ⟨v, e, p F H v (Step.refl E.st.fh) r⟩
theorem df_int {i : Int} : DF K L mg W (tC (.int i)) (eC (.int i)) := fun F0 H0 F H σ ρ Q E p => p F H _ (Step.refl E.st.fh) (.int i)
theorem df_bl {b : Bool} : DF K L mg W (tC (.bl b)) (eC (.bool b)) := fun F0 H0 F H σ ρ Q E p => p F H _ (Step.refl E.st.fh) (.bl b)
theorem df_str {x : Str} : DF K L mg W (tC (.str x)) (eC (.str x)) := fun F0 H0 F H σ ρ Q E p => p F H _ (Step.refl E.st.fh) (.str x)
theorem df_non : DF K L mg W (tC .non) (eC .none) := fun F0 H0 F H σ ρ Q E p => p F H _ (Step.refl E.st.fh) .non
theorem WV.on {F H F1 H1 : Hp} {d : D} {Q : VK} (s : Step F H F1 H1) (k : WV K F H d Q) : WV K F1 H1 d Q := fun F' H' v s' r => k F' H' v (s.trans s') r
theorem WF.on {F H F1 H1 : Hp} {d : D} {Q : VK} (s : Step F H F1 H1) (k : WF K F H d Q) : WF K F1 H1 d Q := fun F' H' v s' r => k F' H' v (s.trans s') r
theorem WN.on {F H F1 H1 : Hp} {d : List D} {Q : VK} (s : Step F H F1 H1) (k : WN K F H d Q) : WN K F1 H1 d Q := fun F' H' p vs s' r => k F' H' p vs (s.trans s') r
theorem WE'.on {F H F1 H1 : Hp} {σ : St} {n : Str} (s : Step F H F1 H1) (k : WE' mg W F H σ n) : WE' mg W F1 H1 σ n := fun F' H' s' => k F' H' (s.trans s')
theorem post_lift {α : Type} {o : Option α} {kx : α → Prop} {ke : Str → Prop} (h : post (lift o) kx ke) : ∃ a, o = some a ∧ kx a := by
  cases o with
  | none => exact h.elim
  | some a => exact ⟨a, rfl, h⟩
theorem df_op (hr : R2D K r g) (ha : DE K L mg W ta a) (hb : DE K L mg W tb b) : DF K L mg W (tOp r ta tb) (e2 g a b) := fun F0 H0 F H σ ρ Q E p => by
  refine ha F0 H0 F H σ ρ _ E (post_mono (post_bind p) (fun d k F1 H1 x s1 r1 => ?_) fun _ z => z)
  refine hb F0 H0 F1 H1 σ ρ _ (E.step s1) (post_mono (post_bind k) (fun e k2 F2 H2 y s2 r2 => ?_) fun n z => WE'.on s1 z)
  obtain ⟨z, ez, k3⟩ := post_lift k2
  exact hr F2 H2 x y d e Q z s2.fh (r1.step s2) r2 ez (WF.on (s1.trans s2) k3)
theorem dl_op {g : D → D → Option (List D)} (hr : R2L K r g) (ha : DE K L mg W ta a) (hb : DE K L mg W tb b) : DL K L mg W (tOp r ta tb) (e2L g a b) := fun F0 H0 F H σ ρ Q E p => by
  refine ha F0 H0 F H σ ρ _ E (post_mono (post_bind p) (fun d k F1 H1 x s1 r1 => ?_) fun _ z => z)
  refine hb F0 H0 F1 H1 σ ρ _ (E.step s1) (post_mono (post_bind k) (fun e k2 F2 H2 y s2 r2 => ?_) fun n z => WE'.on s1 z)
  obtain ⟨z, ez, k3⟩ := post_lift k2
  exact hr F2 H2 x y d e Q z s2.fh (r1.step s2) r2 ez (WN.on (s1.trans s2) k3)
theorem df_un {r : V → Hp → VK → Prop} {g : D → Option D} (hr : R1D K r g) (ha : DE K L mg W ta a) : DF K L mg W (tUn r ta) (e1 g a) := fun F0 H0 F H σ ρ Q E p => by
  refine ha F0 H0 F H σ ρ _ E (post_mono (post_bind p) (fun d k F1 H1 x s1 r1 => ?_) fun _ z => z)
  obtain ⟨z, ez, k3⟩ := post_lift k
  exact hr F1 H1 x d Q z s1.fh r1 ez (WF.on s1 k3)
theorem toB_post {d : D} {kx : Bool → Prop} {ke : Str → Prop} (h : post (toB d) kx ke) : ∃ c, d = .bool c ∧ kx c := by
  cases d with
  | bool b => exact ⟨b, rfl, h⟩
  | none => exact h.elim
  | int _ => exact h.elim
  | str _ => exact h.elim
  | list _ => exact h.elim
  | tuple _ => exact h.elim
  | dict _ => exact h.elim
theorem RepB.isb {F H : Hp} {v : V} {c : Bool} (r : RepB K F H v (.bool c)) : v = .bl c := by
  generalize hd : ((.bool c) : D) = d at r
  cases r with
  | frz r => subst hd; cases r; rfl
  | thg h r => cases r <;> cases hd
theorem RepB.isi {F H : Hp} {v : V} {c : Int} (r : RepB K F H v (.int c)) : v = .int c := by
  generalize hd : ((.int c) : D) = d at r
  cases r with
  | frz r => subst hd; cases r; rfl
  | thg h r => cases r <;> cases hd
theorem RepB.iss {F H : Hp} {v : V} {c : Str} (r : RepB K F H v (.str c)) : v = .str c := by
  generalize hd : ((.str c) : D) = d at r
  cases r with
  | frz r => subst hd; cases r; rfl
  | thg h r => cases r <;> cases hd
theorem RepB.isn {F H : Hp} {v : V} (r : RepB K F H v .none) : v = .non := by
  generalize hd : (.none : D) = d at r
  cases r with
  | frz r => subst hd; cases r; rfl
  | thg h r => cases r <;> cases hd
theorem dt_B (ha : DE K L mg W ta a) : DT K L mg W (tB ta) (tE a) := fun F0 H0 F H σ ρ Q E p => by
  refine ha F0 H0 F H σ ρ _ E (post_mono (post_bind p) (fun d k F1 H1 x s1 r1 => ?_) fun _ z => z)
  obtain ⟨c, rfl, k⟩ := toB_post k
  exact ⟨c, r1.isb, k F1 H1 s1⟩
theorem dt_test (ha : DE K L mg W ta a) : DT K L mg W (tTest ta) (tE a) := dt_B ha
theorem dt_and (ha : DT K L mg W tt tf) (hb : DT K L mg W uu uf) : DT K L mg W (tAnd tt uu) (tA tf uf) := fun F0 H0 F H σ ρ Q E p => by
  refine ha F0 H0 F H σ ρ _ E (post_mono (post_bind p) (fun c k F1 H1 s1 => ?_) fun _ z => z)
  cases c with
  | true =>
    refine iteT ?_
    exact hb F0 H0 F1 H1 σ ρ Q (E.step s1) (post_mono k (fun b k F' H' s' => k F' H' (s1.trans s')) fun n z => WE'.on s1 z)
  | false => exact iteF (k F1 H1 s1)
theorem dt_or (ha : DT K L mg W tt tf) (hb : DT K L mg W uu uf) : DT K L mg W (tOr tt uu) (tO tf uf) := fun F0 H0 F H σ ρ Q E p => by
  refine ha F0 H0 F H σ ρ _ E (post_mono (post_bind p) (fun c k F1 H1 s1 => ?_) fun _ z => z)
  cases c with
  | true => exact iteT (k F1 H1 s1)
  | false =>
    refine iteF ?_
    exact hb F0 H0 F1 H1 σ ρ Q (E.step s1) (post_mono k (fun b k F' H' s' => k F' H' (s1.trans s')) fun n z => WE'.on s1 z)
theorem dt_not (ha : DT K L mg W tt tf) : DT K L mg W (tNot tt) (tN tf) := fun F0 H0 F H σ ρ Q E p => by
  refine ha F0 H0 F H σ ρ _ E (post_mono (post_bind p) (fun c k F1 H1 s1 => ?_) fun _ z => z)
  exact k F1 H1 s1
theorem de_and (ha : DE K L mg W ta a) (hb : DE K L mg W tb b) : DE K L mg W (tAndV ta tb) (eAnd a b) := fun F0 H0 F H σ ρ Q E p => by
  refine ha F0 H0 F H σ ρ _ E (post_mono (post_bind p) (fun d k F1 H1 x s1 r1 => ?_) fun _ z => z)
  obtain ⟨c, rfl, k⟩ := toB_post (post_bind k)
  refine ⟨c, r1.isb, ?_⟩
  cases c with
  | true =>
    refine iteT ?_
    exact hb F0 H0 F1 H1 σ ρ Q (E.step s1) (post_mono k (fun b k => WV.on s1 k) fun n z => WE'.on s1 z)
  | false => exact iteF (k F1 H1 _ s1 (.frz (.bl false)))
theorem de_or (ha : DE K L mg W ta a) (hb : DE K L mg W tb b) : DE K L mg W (tOrV ta tb) (eOr a b) := fun F0 H0 F H σ ρ Q E p => by
  refine ha F0 H0 F H σ ρ _ E (post_mono (post_bind p) (fun d k F1 H1 x s1 r1 => ?_) fun _ z => z)
  obtain ⟨c, rfl, k⟩ := toB_post (post_bind k)
  refine ⟨c, r1.isb, ?_⟩
  cases c with
  | true => exact iteT (k F1 H1 _ s1 (.frz (.bl true)))
  | false =>
    refine iteF ?_
    exact hb F0 H0 F1 H1 σ ρ Q (E.step s1) (post_mono k (fun b k => WV.on s1 k) fun n z => WE'.on s1 z)
theorem df_not (ha : DE K L mg W ta a) : DF K L mg W (tNotV ta) (eNot a) := fun F0 H0 F H σ ρ Q E p => by
  refine ha F0 H0 F H σ ρ _ E (post_mono (post_bind p) (fun d k F1 H1 x s1 r1 => ?_) fun _ z => z)
  obtain ⟨c, rfl, k⟩ := toB_post (post_bind k)
  exact ⟨c, r1.isb, k F1 H1 _ s1 (.bl _)⟩
theorem de_if (ht : DT K L mg W tt tf) (ha : DE K L mg W ta a) (hb : DE K L mg W tb b) : DE K L mg W (tIf tt ta tb) (eIf tf a b) := fun F0 H0 F H σ ρ Q E p => by
  refine ht F0 H0 F H σ ρ _ E (post_mono (post_bind p) (fun c k F1 H1 s1 => ?_) fun _ z => z)
  cases c with
  | true =>
    refine iteT ?_
    exact ha F0 H0 F1 H1 σ ρ Q (E.step s1) (post_mono k (fun b k => WV.on s1 k) fun n z => WE'.on s1 z)
  | false =>
    refine iteF ?_
    exact hb F0 H0 F1 H1 σ ρ Q (E.step s1) (post_mono k (fun b k => WV.on s1 k) fun n z => WE'.on s1 z)
theorem df_if (ht : DT K L mg W tt tf) (ha : DF K L mg W ta a) (hb : DF K L mg W tb b) : DF K L mg W (tIf tt ta tb) (eIf tf a b) := fun F0 H0 F H σ ρ Q E p => by
  refine ht F0 H0 F H σ ρ _ E (post_mono (post_bind p) (fun c k F1 H1 s1 => ?_) fun _ z => z)
  cases c with
  | true =>
    refine iteT ?_
    exact ha F0 H0 F1 H1 σ ρ Q (E.step s1) (post_mono k (fun b k => WF.on s1 k) fun n z => WE'.on s1 z)
  | false =>
    refine iteF ?_
    exact hb F0 H0 F1 H1 σ ρ Q (E.step s1) (post_mono k (fun b k => WF.on s1 k) fun n z => WE'.on s1 z)
theorem da_nil : DA K L mg W tNil aNil := fun F0 H0 F H σ ρ Q E p => p F H _ (Step.refl E.st.fh) .nil
theorem da_cons (ha : DE K L mg W ta a) (hb : DA K L mg W tas as) : DA K L mg W (tCons ta tas) (aCons a as) := fun F0 H0 F H σ ρ Q E p => by
  refine ha F0 H0 F H σ ρ _ E (post_mono (post_bind p) (fun d k F1 H1 x s1 r1 => ?_) fun _ z => z)
  refine hb F0 H0 F1 H1 σ ρ _ (E.step s1) (post_mono (post_bind k) (fun e k2 F2 H2 ys s2 r2 => ?_) fun n z => WE'.on s1 z)
  exact k2 F2 H2 _ (s1.trans s2) (.cons (r1.step s2) r2)
theorem daf_nil : DAF K L mg W tNil aNil := fun F0 H0 F H σ ρ Q E p => p F H _ (Step.refl E.st.fh) .nil
theorem daf_cons (ha : DF K L mg W ta a) (hb : DAF K L mg W tas as) : DAF K L mg W (tCons ta tas) (aCons a as) := fun F0 H0 F H σ ρ Q E p => by
  refine ha F0 H0 F H σ ρ _ E (post_mono (post_bind p) (fun d k F1 H1 x s1 r1 => ?_) fun _ z => z)
  refine hb F0 H0 F1 H1 σ ρ _ (E.step s1) (post_mono (post_bind k) (fun e k2 F2 H2 ys s2 r2 => ?_) fun n z => WE'.on s1 z)
  exact k2 F2 H2 _ (s1.trans s2) (.cons (r1.mono s2.ff) r2)
theorem df_B {r : List V → Hp → VK → Prop} {g : List D → Option D} (hr : RCD K r g) (ha : DA K L mg W tas as) : DF K L mg W (tCB r tas) (eB g as) := fun F0 H0 F H σ ρ Q E p => by
  refine ha F0 H0 F H σ ρ _ E (post_mono (post_bind p) (fun ds k F1 H1 xs s1 r1 => ?_) fun _ z => z)
  obtain ⟨z, ez, k3⟩ := post_lift k
  exact hr F1 H1 xs ds Q z s1.fh r1 ez (WF.on s1 k3)
theorem dl_B {r : List V → Hp → VK → Prop} {g : List D → Option (List D)} (hr : RCL K r g) (ha : DA K L mg W tas as) : DL K L mg W (tCB r tas) (eBL g as) := fun F0 H0 F H σ ρ Q E p => by
  refine ha F0 H0 F H σ ρ _ E (post_mono (post_bind p) (fun ds k F1 H1 xs s1 r1 => ?_) fun _ z => z)
  obtain ⟨z, ez, k3⟩ := post_lift k
  exact hr F1 H1 xs ds Q z s1.fh r1 ez (WN.on s1 k3)
/-- a tuple, a list made -/
theorem lt_line {n : Nat} (h : n ≤ 100000) : n ≤ sizeLine := Nat.le_trans h (by decide)
def fewA (f : ML) (n : Nat) : Prop := ∀ ρ ds, f ρ = .ok ds → ds.length = n
theorem few_nil : fewA aNil 0 := fun ρ ds h => by cases h; rfl
theorem few_cons {n : Nat} (h : fewA as n) : fewA (aCons a as) (n + 1) := fun ρ ds q => by
  unfold aCons at q
  cases e : a ρ with
  | ok d =>
    rw [e] at q
    cases e2 : as ρ with
    | ok es => rw [M.bind_ok, e2] at q; cases q; rw [List.length_cons, h ρ es e2]
    | exc n => rw [M.bind_ok, e2] at q; cases q
    | stuck => rw [M.bind_ok, e2] at q; cases q
  | exc n => rw [e] at q; cases q
  | stuck => rw [e] at q; cases q
theorem df_tup {n : Nat} (ha : DAF K L mg W tas as) (hf : fewA as n) (hn : n ≤ 100000 := by decide) : DF K L mg W (tTup tas) (eTup as) := fun F0 H0 F H σ ρ Q E p => by
  refine ha F0 H0 F H σ ρ _ E ?_
  cases q : as ρ with
  | ok ds =>
    unfold eTup at p
    rw [q] at p
    intro F1 H1 xs s1 r1
    refine ⟨lt_line (by rw [r1.length, hf ρ ds q]; exact hn), fun l hl => ?_⟩
    exact p _ _ _ (s1.trans (Step.new s1.fh hl)) (.tup upd_same (r1.mono (Ex.new (s1.fh.free hl))))
  | exc n => unfold eTup at p; rw [q] at p; exact p
  | stuck => unfold eTup at p; rw [q] at p; exact p
theorem dl_lst {n : Nat} (ha : DAF K L mg W tas as) (hf : fewA as n) (hn : n ≤ 100000 := by decide) : DL K L mg W (tLst tas) as := fun F0 H0 F H σ ρ Q E p => by
  refine ha F0 H0 F H σ ρ _ E ?_
  cases q : as ρ with
  | ok ds =>
    rw [q] at p
    intro F1 H1 xs s1 r1
    refine ⟨lt_line (by rw [r1.length, hf ρ ds q]; exact hn), fun l hl => ?_⟩
    exact p _ _ _ _ s1 hl r1
  | exc n => rw [q] at p; exact p
  | stuck => rw [q] at p; exact p
theorem toI_post {d : D} {kx : Int → Prop} {ke : Str → Prop} (h : post (toI d) kx ke) : ∃ c, d = .int c ∧ kx c := by
  cases d with
  | int b => exact ⟨b, rfl, h⟩
  | none => exact h.elim
  | bool _ => exact h.elim
  | str _ => exact h.elim
  | list _ => exact h.elim
  | tuple _ => exact h.elim
  | dict _ => exact h.elim
theorem do_none : DO K L mg W tNoPart oNone := fun F0 H0 F H σ ρ Q E p => p F H (Step.refl E.st.fh)
theorem do_some (ha : DE K L mg W ta a) : DO K L mg W (tPart ta) (oSome a) := fun F0 H0 F H σ ρ Q E p => by
  refine ha F0 H0 F H σ ρ _ E (post_mono (post_bind p) (fun d k F1 H1 x s1 r1 => ?_) fun _ z => z)
  obtain ⟨c, rfl, k⟩ := toI_post (post_bind k)
  exact ⟨c, r1.isi, k F1 H1 s1⟩
theorem df_sl {r : V → Option Int → Option Int → Hp → VK → Prop} {g : D → Option Int → Option Int → Option D} {tl th : TO} {fl fh : Fr → M (Option Int)} (hr : RSD K r g) (ha : DE K L mg W ta a) (hl : DO K L mg W tl fl) (hh : DO K L mg W th fh) :
    DF K L mg W (tSl r ta tl th) (eSl g a fl fh) := fun F0 H0 F H σ ρ Q E p => by
  refine ha F0 H0 F H σ ρ _ E (post_mono (post_bind p) (fun d k F1 H1 x s1 r1 => ?_) fun _ z => z)
  refine hl F0 H0 F1 H1 σ ρ _ (E.step s1) (post_mono (post_bind k) (fun lo k2 F2 H2 s2 => ?_) fun n z => WE'.on s1 z)
  refine hh F0 H0 F2 H2 σ ρ _ ((E.step s1).step s2) (post_mono (post_bind k2) (fun hi k3 F3 H3 s3 => ?_) fun n z => WE'.on (s1.trans s2) z)
  obtain ⟨z, ez, k4⟩ := post_lift k3
  exact hr F3 H3 x d lo hi Q z s3.fh (r1.step (s2.trans s3)) ez (WF.on ((s1.trans s2).trans s3) k4)
theorem dl_sl {r : V → Option Int → Option Int → Hp → VK → Prop} {g : D → Option Int → Option Int → Option (List D)} {tl th : TO} {fl fh : Fr → M (Option Int)} (hr : RSL K r g) (ha : DE K L mg W ta a) (hl : DO K L mg W tl fl) (hh : DO K L mg W th fh) :
    DL K L mg W (tSl r ta tl th) (eSlL g a fl fh) := fun F0 H0 F H σ ρ Q E p => by
  refine ha F0 H0 F H σ ρ _ E (post_mono (post_bind p) (fun d k F1 H1 x s1 r1 => ?_) fun _ z => z)
  refine hl F0 H0 F1 H1 σ ρ _ (E.step s1) (post_mono (post_bind k) (fun lo k2 F2 H2 s2 => ?_) fun n z => WE'.on s1 z)
  refine hh F0 H0 F2 H2 σ ρ _ ((E.step s1).step s2) (post_mono (post_bind k2) (fun hi k3 F3 H3 s3 => ?_) fun n z => WE'.on (s1.trans s2) z)
  obtain ⟨z, ez, k4⟩ := post_lift k3
  exact hr F3 H3 x d lo hi Q z s3.fh (r1.step (s2.trans s3)) ez (WN.on ((s1.trans s2).trans s3) k4)
theorem de_chain (hr : R2D K r g) (hr' : R2D K r' g') (ha : DE K L mg W ta a) (hb : DE K L mg W tb b) (hc : DE K L mg W tc c) : DE K L mg W (tChain r r' ta tb tc) (eCh g g' a b c) := fun F0 H0 F H σ ρ Q E p => by
  refine ha F0 H0 F H σ ρ _ E (post_mono (post_bind p) (fun d k F1 H1 x s1 r1 => ?_) fun _ z => z)
  refine hb F0 H0 F1 H1 σ ρ _ (E.step s1) (post_mono (post_bind k) (fun e k2 F2 H2 y s2 r2 => ?_) fun n z => WE'.on s1 z)
  obtain ⟨z, ez, k3⟩ := post_lift (post_bind k2)
  obtain ⟨q, rfl, k4⟩ := toB_post (post_bind k3)
  refine hr F2 H2 x y d e _ _ s2.fh (r1.step s2) r2 ez fun F3 H3 v s3 rz => ?_
  cases rz
  refine ⟨q, rfl, ?_⟩
  have s := (s1.trans s2).trans s3
  cases q with
  | false => exact iteF (k4 F3 H3 _ s (.frz (.bl false)))
  | true =>
    refine iteT ?_
    refine hc F0 H0 F3 H3 σ ρ _ (((E.step s1).step s2).step s3) (post_mono (post_bind k4) (fun u k5 F4 H4 w s4 rw => ?_) fun n z => WE'.on s z)
    obtain ⟨z', ez', k6⟩ := post_lift k5
    exact hr' F4 H4 y w e u Q z' s4.fh (r2.step (s3.trans s4)) rw ez' fun F' H' v s' r' => k6 F' H' v ((s.trans s4).trans s') (.frz r')
end
end Dn

set_option Elab.async false
set_option linter.all false
set_option maxRecDepth 100000
set_option maxHeartbeats 4000000
/-! DenC: operations on data -/
namespace Dn
open PySem L2

def rOr (r s : R2) : R2 := fun x y H Q => r x y H Q ∨ s x y H Q
theorem opOr {X : Cx} {f : Value → Value → Sem Value} {r s : R2} (h : OpR X f r) (k : OpR X f s) : OpR X f (rOr r s) := by
  intro pins s' σ H x y v u Q I rx ry q
  rcases q with q | q
  · exact h pins s' σ H x y v u Q I rx ry q
  · exact k pins s' σ H x y v u Q I rx ry q
def rcOr (r s : List V → Hp → VK → Prop) : List V → Hp → VK → Prop := fun xs H Q => r xs H Q ∨ s xs H Q
theorem callOr {X : Cx} {f : Value} {r s : List V → Hp → VK → Prop} (h : CallR X f r) (k : CallR X f s) : CallR X f (rcOr r s) := by
  intro pins s' σ H xs us Q I rv q
  rcases q with q | q
  · exact h pins s' σ H xs us Q I rv q
  · exact k pins s' σ H xs us Q I rv q

section
variable {K : PySem.W.Frag} {F H : Hp} {v : V} {ds : List D}
theorem RepB.isl (e : Ex F H) (r : RepB K F H v (.list ds)) : ∃ l vs, v = .ref l ∧ H l = some (.lst vs) ∧ RepL K F vs ds := by
  generalize hd : ((.list ds) : D) = d at r
  cases r with
  | frz r => subst hd; cases r with
    | lst h q => exact ⟨_, _, rfl, e _ _ h, q⟩
  | thg h q => cases q with
    | lst r => cases hd; exact ⟨_, _, rfl, h, r⟩
    | dK r => cases hd
    | dT r => cases hd
theorem RepB.ist (e : Ex F H) (r : RepB K F H v (.tuple ds)) : ∃ l vs, v = .ref l ∧ SqT K H l vs ∧ RepL K F vs ds ∧ Rep K F v (.tuple ds) := by
  generalize hd : ((.tuple ds) : D) = d at r
  cases r with
  | frz r => subst hd; cases r with
    | tup h q => exact ⟨_, _, rfl, .inl (.inl (e _ _ h)), q, .tup h q⟩
  | thg h q => cases q <;> cases hd
theorem dkD_scr {kvs : List (Key × D)} (h : dkD kvs = [(.none, .list ds)]) : False := by
  unfold dkD at h
  injection h with h1 _
  injection h1 with h2 _
  cases h2
theorem dtD_scr {kvs : List (List Key × D)} (h : dtD kvs = [(.none, .list ds)]) : False := by
  unfold dtD at h
  injection h with h1 _
  injection h1 with h2 _
  cases h2
theorem Rep.iscr (r : Rep K F v (.dict [(.none, .list ds)])) : ∃ l vs, v = .ref l ∧ SqL K F l vs ∧ RepL K F vs ds := by
  cases r with
  | scr h q e => injection e with e1 _; injection e1 with _ e2; injection e2 with e3; subst e3; exact ⟨_, _, rfl, h, q⟩
  | dK h q e => exact (dkD_scr e.symm).elim
  | dT h q e => exact (dtD_scr e.symm).elim
  | dKf h q e => unfold kdK at e; injection e with e1 _; injection e1 with e2 _; cases e2
  | dTf h q e => unfold kdT at e; injection e with e1 _; injection e1 with e2 _; cases e2
  | exc h q e => injection e with e1 _; injection e1 with e2 _; cases e2
  | ktp h _ _ q e => injection e with e1 _; injection e1 with _ e2; cases e2
  | fnc h e => injection e with e1 _; injection e1 with e2 _; cases e2
/-- a def of one's own -/
theorem Rep.ifn {n : Str} (r : Rep K F v (fnD n)) : ∃ a, v = .ref a ∧ PySem.W.nsIn K mainGlobals n = some (some (.ref a)) := by
  cases r with
  | fnc h e => injection e with e1 _; injection e1 with e2 _; injection e2 with e3; subst e3; exact ⟨_, rfl, h⟩
  | ktp h _ _ q e => injection e with e1 _; injection e1 with e2 _; cases e2
  | scr h q e => injection e with e1 _; injection e1 with e2 _; cases e2
  | dK h q e => unfold dkD at e; injection e with e1 _; injection e1 with e2 _; cases e2
  | dT h q e => unfold dtD at e; injection e with e1 _; injection e1 with e2 _; cases e2
  | dKf h q e => unfold kdK at e; injection e with e1 _; injection e1 with e2 _; cases e2
  | dTf h q e => unfold kdT at e; injection e with e1 _; injection e1 with e2 _; cases e2
  | exc h q e => injection e with e1 _; injection e1 with e2 _; cases e2
/-- a tuple whose object is known -/
theorem Rep.iktp (r : Rep K F v (ktD ds)) : ∃ l vs o, v = .ref l ∧ F l = some (.frz o (.tup vs)) ∧ o.cls = .type "tuple" ∧ o.dict = none ∧ RepL K F vs ds := by
  cases r with
  | ktp h c d q e => injection e with e1 _; injection e1 with _ e2; injection e2 with e3; subst e3; exact ⟨_, _, _, rfl, h, c, d, q⟩
  | scr h q e => injection e with e1 _; injection e1 with _ e2; cases e2
  | dK h q e => unfold dkD at e; injection e with e1 _; injection e1 with e2 _; cases e2
  | dT h q e => unfold dtD at e; injection e with e1 _; injection e1 with e2 _; cases e2
  | dKf h q e => unfold kdK at e; injection e with e1 _; injection e1 with e2 _; cases e2
  | dTf h q e => unfold kdT at e; injection e with e1 _; injection e1 with e2 _; cases e2
  | exc h q e => injection e with e1 _; injection e1 with e2 _; cases e2
  | fnc h e => injection e with e1 _; injection e1 with e2 _; cases e2
theorem RepB.iktp {H : Hp} (r : RepB K F H v (ktD ds)) : ∃ l vs o, v = .ref l ∧ F l = some (.frz o (.tup vs)) ∧ o.cls = .type "tuple" ∧ o.dict = none ∧ RepL K F vs ds ∧ Rep K F v (ktD ds) := by
  have z : Rep K F v (ktD ds) := by
    generalize hd : (ktD ds : D) = d at r
    cases r with
    | frz r => subst hd; exact r
    | thg h q => cases q with
      | lst r => cases hd
      | dK r => injection hd with hd; unfold dkD at hd; injection hd with e1 _; injection e1 with e2 _; cases e2
      | dT r => injection hd with hd; unfold dtD at hd; injection hd with e1 _; injection e1 with e2 _; cases e2
  obtain ⟨l, vs, o, h1, h2, h3, h4, h5⟩ := z.iktp
  exact ⟨l, vs, o, h1, h2, h3, h4, h5, z⟩
theorem RepB.iktT {H : Hp} (e : Ex F H) (r : RepB K F H v (ktD ds)) : ∃ l vs, v = .ref l ∧ SqT K H l vs ∧ RepL K F vs ds ∧ Rep K F v (ktD ds) := by
  obtain ⟨l, vs, o, rfl, h2, _, _, h5, h6⟩ := r.iktp
  exact ⟨l, vs, rfl, .inl (.inr ⟨o, e _ _ h2⟩), h5, h6⟩
theorem RepB.iscrF (r : RepB K F H v (.dict [(.none, .list ds)])) : Rep K F v (.dict [(.none, .list ds)]) := by
  generalize hd : ((.dict [(.none, .list ds)]) : D) = d at r
  cases r with
  | frz r => subst hd; exact r
  | thg h q => cases q with
    | lst r => cases hd
    | dK r => injection hd with hd; exact (dkD_scr hd.symm).elim
    | dT r => injection hd with hd; exact (dtD_scr hd.symm).elim
theorem RepB.iscr (e : Ex F H) (r : RepB K F H v (.dict [(.none, .list ds)])) : ∃ l vs, v = .ref l ∧ SqL K H l vs ∧ RepL K F vs ds := by
  obtain ⟨l, vs, h1, h2, h3⟩ := r.iscrF.iscr
  exact ⟨l, vs, h1, ex_l e h2, h3⟩
/-- frozen at a new place -/
theorem WF.newT {z : List D} {Q : VK} {vs : List V} (e : Ex F H) (k : WF K F H (.tuple z) Q) (r : RepL K F vs z) : ∀ p, H p = none → Q (.ref p) (upd H p (.tup vs)) :=
  fun p hp => k _ _ _ (Step.new e hp) (.tup upd_same (r.mono (Ex.new (e.free hp))))
theorem WF.newL {z : List D} {Q : VK} {vs : List V} (e : Ex F H) (k : WF K F H (.list z) Q) (r : RepL K F vs z) : ∀ p, H p = none → Q (.ref p) (upd H p (.lst vs)) :=
  fun p hp => k _ _ _ (Step.new e hp) (.lst upd_same (r.mono (Ex.new (e.free hp))))
theorem WF.here {d : D} {Q : VK} (e : Ex F H) (k : WF K F H d Q) (r : Rep K F v d) : Q v H := k F H v (Step.refl e) r
theorem WN.new {z : List D} {Q : VK} {vs : List V} (e : Ex F H) (k : WN K F H z Q) (r : RepL K F vs z) : ∀ p, H p = none → Q (.ref p) (upd H p (.lst vs)) :=
  fun p hp => k F H p vs (Step.refl e) hp r
end

theorem canLay_sh {d : PyData} (h : SeqAt.shaped d = true) : d.canLay0 = true := (Bool.and_eq_true_iff.mp h).1
/-- within the bounds of an index, of a range -/
def In63 (i : Int) : Prop := -(2 ^ 63) ≤ i ∧ i < 2 ^ 63
def In62 (i : Int) : Prop := -(2 ^ 62) ≤ i ∧ i < 2 ^ 62
theorem in63 {i : Int} (h : -1000000000 ≤ i ∧ i ≤ 1000000000) : In63 i := by unfold In63; omega
theorem in62 {i : Int} (h : -1000000000 ≤ i ∧ i ≤ 1000000000) : In62 i := by unfold In62; omega
/-! ### + - * // % ** -/
section
variable {K : PySem.W.Frag}
open Classical in
noncomputable def addD : D → D → Option D
  | .int i, .int j => some (.int (i + j))
  | .str x, .str y => if x.length + y.length ≤ sizeLine then some (.str (x ++ y)) else none
  | .tuple a, .tuple b => if a.length + b.length ≤ sizeLine then some (.tuple (a ++ b)) else none
  | .dict [(.none, .tuple a)], .tuple b => if a.length + b.length ≤ sizeLine then some (if b = [] ∧ a ≠ [] then ktD a else .tuple (a ++ b)) else none
  | .tuple a, .dict [(.none, .tuple b)] => if a.length + b.length ≤ sizeLine then some (if a = [] then ktD b else .tuple (a ++ b)) else none
  | .list a, .list b => if a.length + b.length ≤ sizeLine then some (.list (a ++ b)) else none
  | _, _ => none
noncomputable def catD : D → D → Option (List D)
  | .list a, .list b => if a.length + b.length ≤ sizeLine then some (a ++ b) else none
  | _, _ => none
def rStrAdd : R2 := fun x y H Q => ∃ i j, x = .str i ∧ y = .str j ∧ i.length + j.length ≤ sizeLine ∧ Q (.str (i ++ j)) H
def oAdd (K : PySem.W.Frag) : R2 := rOr (rI0 fun i j => .int (i + j)) (rOr rStrAdd (rOr (rCatA K) rCat))
theorem op_addU {X : Cx} : OpR X (binaryOp .Add) (oAdd X.K) := opOr op_add (opOr op_add_str (opOr op_catA op_cat))
theorem rd_add : R2D K (oAdd K) addD := by
  intro F H x y d e Q z ex rx ry h k
  unfold addD at h
  split at h
  · cases h; obtain rfl := rx.isi; obtain rfl := ry.isi
    exact .inl ⟨_, _, rfl, rfl, k.here ex (.int _)⟩
  · split at h
    · cases h; obtain rfl := rx.iss; obtain rfl := ry.iss
      exact .inr (.inl ⟨_, _, rfl, rfl, by assumption, k.here ex (.str _)⟩)
    · cases h
  · split at h
    · rename_i a b hz
      cases h
      obtain ⟨l, vs, rfl, h1, r1, f1⟩ := rx.ist ex
      obtain ⟨m, ws, rfl, h2, r2, f2⟩ := ry.ist ex
      refine .inr (.inr (.inl ⟨l, m, vs, ws, rfl, rfl, h1, h2, by rw [r1.length, r2.length]; exact hz, fun e => ?_, fun e e2 => ?_, fun _ _ => ?_⟩))
      · subst e; cases r1; exact k.here ex f2
      · subst e2; cases r2; refine k.here ex ?_; rw [List.append_nil]; exact f1
      · exact k.newT ex (r1.append r2)
    · cases h
  · split at h
    · rename_i a b hz
      cases h
      obtain ⟨l, vs, rfl, h1, r1, f1⟩ := rx.iktT ex
      obtain ⟨m, ws, rfl, h2, r2, f2⟩ := ry.ist ex
      refine .inr (.inr (.inl ⟨l, m, vs, ws, rfl, rfl, h1, h2, by rw [r1.length, r2.length]; exact hz, fun e => ?_, fun e e2 => ?_, fun n1 n2 => ?_⟩))
      · subst e; cases r1; rw [if_neg (fun z => z.2 rfl)] at k; exact k.here ex f2
      · subst e2; cases r2
        rw [if_pos ⟨rfl, fun z => e (by subst z; cases r1; rfl)⟩] at k
        exact k.here ex f1
      · rw [if_neg (fun z => n2 (by have := z.1; subst this; cases r2; rfl))] at k
        exact k.newT ex (r1.append r2)
    · cases h
  · split at h
    · rename_i a b hz
      cases h
      obtain ⟨l, vs, rfl, h1, r1, f1⟩ := rx.ist ex
      obtain ⟨m, ws, rfl, h2, r2, f2⟩ := ry.iktT ex
      refine .inr (.inr (.inl ⟨l, m, vs, ws, rfl, rfl, h1, h2, by rw [r1.length, r2.length]; exact hz, fun e => ?_, fun e e2 => ?_, fun n1 n2 => ?_⟩))
      · subst e; cases r1; rw [if_pos rfl] at k; exact k.here ex f2
      · subst e2; cases r2
        rw [if_neg (fun z => e (by subst z; cases r1; rfl))] at k
        refine k.here ex ?_
        rw [List.append_nil]; exact f1
      · rw [if_neg (fun z => n1 (by subst z; cases r1; rfl))] at k
        exact k.newT ex (r1.append r2)
    · cases h
  · split at h
    · rename_i a b hz
      cases h
      obtain ⟨l, vs, rfl, h1, r1⟩ := rx.isl ex
      obtain ⟨m, ws, rfl, h2, r2⟩ := ry.isl ex
      exact .inr (.inr (.inr ⟨l, m, vs, ws, rfl, rfl, h1, h2, by rw [r1.length, r2.length]; exact hz, k.newL ex (r1.append r2)⟩))
    · cases h
  · cases h
theorem rl_add : R2L K (oAdd K) catD := by
  intro F H x y d e Q z ex rx ry h k
  unfold catD at h
  split at h
  · split at h
    · rename_i a b hz
      cases h
      obtain ⟨l, vs, rfl, h1, r1⟩ := rx.isl ex
      obtain ⟨m, ws, rfl, h2, r2⟩ := ry.isl ex
      exact .inr (.inr (.inr ⟨l, m, vs, ws, rfl, rfl, h1, h2, by rw [r1.length, r2.length]; exact hz, k.new ex (r1.append r2)⟩))
    · cases h
  · cases h
def subD : D → D → Option D
  | .int i, .int j => some (.int (i - j))
  | _, _ => none
theorem rd_sub : R2D K (rI0 fun i j => .int (i - j)) subD := by
  intro F H x y d e Q z ex rx ry h k
  unfold subD at h
  split at h
  · cases h; obtain rfl := rx.isi; obtain rfl := ry.isi
    exact ⟨_, _, rfl, rfl, k.here ex (.int _)⟩
  · cases h
open Classical in
noncomputable def mulD : D → D → Option D
  | .int i, .int j => if CMul i j ∨ CMulW i j then some (.int (i * j)) else none
  | .list a, .int k => if In63 k ∧ a.length * k.toNat ≤ sizeLine then some (.list (List.replicate k.toNat a).flatten) else none
  | _, _ => none
open Classical in
noncomputable def repD : D → D → Option (List D)
  | .list a, .int k => if In63 k ∧ a.length * k.toNat ≤ sizeLine then some (List.replicate k.toNat a).flatten else none
  | _, _ => none
def oMul : R2 := rOr (rI CMul fun i j => .int (i * j)) (rOr (rI CMulW fun i j => .int (i * j)) rRep)
theorem op_mulU {X : Cx} : OpR X (binaryOp .Mult) oMul := opOr op_mul (opOr op_mulW op_rep)
theorem RepL.rep {F : Hp} {vs : List V} {ds : List D} (r : RepL K F vs ds) : ∀ n : Nat, RepL K F (List.replicate n vs).flatten (List.replicate n ds).flatten
  | 0 => .nil
  | n + 1 => by
    rw [List.replicate_succ, List.replicate_succ, List.flatten_cons, List.flatten_cons]
    exact r.append (RepL.rep r n)
theorem rd_mul : R2D K oMul mulD := by
  intro F H x y d e Q z ex rx ry h k
  unfold mulD at h
  split at h
  · split at h
    · rename_i c
      cases h; obtain rfl := rx.isi; obtain rfl := ry.isi
      rcases c with c | c
      · exact .inl ⟨_, _, rfl, rfl, c, k.here ex (.int _)⟩
      · exact .inr (.inl ⟨_, _, rfl, rfl, c, k.here ex (.int _)⟩)
    · cases h
  · split at h
    · rename_i c
      cases h
      obtain ⟨l, vs, rfl, h1, r1⟩ := rx.isl ex
      obtain rfl := ry.isi
      exact .inr (.inr ⟨l, _, vs, rfl, rfl, h1, c.1.1, c.1.2, by rw [r1.length]; exact c.2, k.newL ex (r1.rep _)⟩)
    · cases h
  · cases h
theorem rl_mul : R2L K oMul repD := by
  intro F H x y d e Q z ex rx ry h k
  unfold repD at h
  split at h
  · split at h
    · rename_i c
      cases h
      obtain ⟨l, vs, rfl, h1, r1⟩ := rx.isl ex
      obtain rfl := ry.isi
      exact .inr (.inr ⟨l, _, vs, rfl, rfl, h1, c.1.1, c.1.2, by rw [r1.length]; exact c.2, k.new ex (r1.rep _)⟩)
    · cases h
  · cases h
open Classical in
noncomputable def divD : D → D → Option D
  | .int i, .int j => if 0 < j ∧ j.natAbs.log2 < 9000 then some (.int (i / j)) else none
  | _, _ => none
theorem rd_div : R2D K (rI CDivW fun i j => .int (i / j)) divD := by
  intro F H x y d e Q z ex rx ry h k
  unfold divD at h
  split at h
  · split at h
    · rename_i c
      cases h; obtain rfl := rx.isi; obtain rfl := ry.isi
      exact ⟨_, _, rfl, rfl, c, k.here ex (.int _)⟩
    · cases h
  · cases h
open Classical in
noncomputable def modD : D → D → Option D
  | .int i, .int j => if 0 < j then some (.int (i % j)) else none
  | _, _ => none
theorem rd_mod : R2D K (rI (fun _ j => 0 < j) fun i j => .int (i % j)) modD := by
  intro F H x y d e Q z ex rx ry h k
  unfold modD at h
  split at h
  · split at h
    · rename_i c
      cases h; obtain rfl := rx.isi; obtain rfl := ry.isi
      exact ⟨_, _, rfl, rfl, c, k.here ex (.int _)⟩
    · cases h
  · cases h
open Classical in
noncomputable def powD : D → D → Option D
  | .int i, .int j => if CPow i j then some (.int (i ^ j.toNat)) else none
  | _, _ => none
theorem rd_pow : R2D K (rI CPow fun i j => .int (i ^ j.toNat)) powD := by
  intro F H x y d e Q z ex rx ry h k
  unfold powD at h
  split at h
  · split at h
    · rename_i c
      cases h; obtain rfl := rx.isi; obtain rfl := ry.isi
      exact ⟨_, _, rfl, rfl, c, k.here ex (.int _)⟩
    · cases h
  · cases h
def negD : D → Option D
  | .int i => some (.int (-i))
  | _ => none
theorem rd_neg : R1D K (rU fun i => .int (-i)) negD := by
  intro F H x d Q z ex rx h k
  unfold negD at h
  split at h
  · cases h; obtain rfl := rx.isi
    exact ⟨_, rfl, k.here ex (.int _)⟩
  · cases h

/-! ### comparisons -/
def cmpD (p : Int → Int → Bool) : D → D → Option D
  | .int i, .int j => some (.bool (p i j))
  | _, _ => none
theorem rd_cmp {p : Int → Int → Bool} : R2D K (rI0 fun i j => .bl (p i j)) (cmpD p) := by
  intro F H x y d e Q z ex rx ry h k
  unfold cmpD at h
  split at h
  · cases h; obtain rfl := rx.isi; obtain rfl := ry.isi
    exact ⟨_, _, rfl, rfl, k.here ex (.bl _)⟩
  · cases h
abbrev ltD := cmpD fun i j => decide (i < j)
abbrev leD := cmpD fun i j => decide (i ≤ j)
abbrev gtD := cmpD fun i j => decide (j < i)
abbrev geD := cmpD fun i j => decide (j ≤ i)
/-- a tuple whose object is known as any tuple -/
def unk : D → D
  | .dict [(.none, .tuple ds)] => .tuple ds
  | d => d
/-- == -/
def eqB0 : D → D → Option Bool
  | .int i, .int j => some (decide (i = j))
  | .str i, .str j => some (decide (i = j))
  | .bool i, .bool j => some (decide (i = j))
  | .none, .none => some true
  | d, e => if SeqAt.shaped d && SeqAt.shaped e then some (PyData.eqv d e) else none
def eqB (d e : D) : Option Bool := eqB0 (unk d) (unk e)
def eqD (d e : D) : Option D := (eqB d e).map .bool
def neD (d e : D) : Option D := (eqB d e).map fun b => .bool (!b)
def oEq (K : PySem.W.Frag) : R2 := rOr rEq (rEqD K)
def oNe (K : PySem.W.Frag) : R2 := rOr rNe (rNeD K)
theorem op_eqU {X : Cx} (hu : X.A.units + 64 < cLine) : OpR X (compareOp .Eq) (oEq X.K) := opOr op_eq (op_eqD hu)
theorem op_neU {X : Cx} (hu : X.A.units + 64 < cLine) : OpR X (compareOp .NotEq) (oNe X.K) := opOr op_ne (op_neD hu)
theorem scal_dp {F H : Hp} {x : V} {d : D} (ex : Ex F H) (rx : RepB K F H x d) (c : SeqAt.shaped (unk d) = true) : Dp K H x (unk d) := by
  by_cases h : ∃ ds, d = ktD ds
  · obtain ⟨ds, rfl⟩ := h
    obtain ⟨l, vs, rfl, a, b, _⟩ := rx.iktT ex
    have c2 : (PyData.tuple ds).canLay0 = true := canLay_sh c
    exact .tup (a.elim (fun z => .inl z) (fun z => .inr z)) (RepL.dp (by simpa [PyData.canLay0] using c2) (b.mono ex))
  · have e : unk d = d := by
      unfold unk
      split
      · rename_i ds; exact (h ⟨ds, rfl⟩).elim
      · rfl
    rw [e] at c ⊢
    exact (rx.now ex).dp (canLay_sh c)
theorem unk_i {d : D} {i : Int} (h : unk d = .int i) : d = .int i := by unfold unk at h; split at h <;> first | exact h | cases h
theorem unk_s {d : D} {i : Str} (h : unk d = .str i) : d = .str i := by unfold unk at h; split at h <;> first | exact h | cases h
theorem unk_b {d : D} {i : Bool} (h : unk d = .bool i) : d = .bool i := by unfold unk at h; split at h <;> first | exact h | cases h
theorem unk_n {d : D} (h : unk d = .none) : d = .none := by unfold unk at h; split at h <;> first | exact h | cases h
theorem eqB_cases {F H : Hp} {x y : V} {d e : D} {b : Bool} (ex : Ex F H) (rx : RepB K F H x d) (ry : RepB K F H y e) (h : eqB d e = some b) :
    (scal x y = true ∧ b = decide (x = y)) ∨ (∃ d e, Dp K H x d ∧ Dp K H y e ∧ SeqAt.shaped d = true ∧ SeqAt.shaped e = true ∧ b = PyData.eqv d e) := by
  unfold eqB eqB0 at h
  split at h
  · rename_i q1 q2
    rw [unk_i q1] at rx
    rw [unk_i q2] at ry
    cases h; obtain rfl := rx.isi; obtain rfl := ry.isi
    exact .inl ⟨rfl, by simp⟩
  · rename_i q1 q2
    rw [unk_s q1] at rx
    rw [unk_s q2] at ry
    cases h; obtain rfl := rx.iss; obtain rfl := ry.iss
    exact .inl ⟨rfl, by simp⟩
  · rename_i q1 q2
    rw [unk_b q1] at rx
    rw [unk_b q2] at ry
    cases h; obtain rfl := rx.isb; obtain rfl := ry.isb
    exact .inl ⟨rfl, by simp⟩
  · rename_i q1 q2
    rw [unk_n q1] at rx
    rw [unk_n q2] at ry
    cases h; obtain rfl := rx.isn; obtain rfl := ry.isn
    exact .inl ⟨rfl, by simp⟩
  · split at h
    · rename_i c
      cases h
      rw [Bool.and_eq_true] at c
      exact .inr ⟨_, _, scal_dp ex rx c.1, scal_dp ex ry c.2, c.1, c.2, rfl⟩
    · cases h
theorem rd_eq : R2D K (oEq K) eqD := by
  intro F H x y d e Q z ex rx ry h k
  unfold eqD at h
  cases q : eqB d e with
  | none => rw [q] at h; cases h
  | some b =>
    rw [q] at h
    cases h
    rcases eqB_cases ex rx ry q with ⟨s, rfl⟩ | ⟨d', e', h1, h2, s1, s2, rfl⟩
    · exact .inl ⟨s, k.here ex (.bl _)⟩
    · exact .inr ⟨d', e', h1, h2, s1, s2, k.here ex (.bl _)⟩
theorem rd_ne : R2D K (oNe K) neD := by
  intro F H x y d e Q z ex rx ry h k
  unfold neD at h
  cases q : eqB d e with
  | none => rw [q] at h; cases h
  | some b =>
    rw [q] at h
    cases h
    rcases eqB_cases ex rx ry q with ⟨s, rfl⟩ | ⟨d', e', h1, h2, s1, s2, rfl⟩
    · exact .inl ⟨s, k.here ex (.bl _)⟩
    · exact .inr ⟨d', e', h1, h2, s1, s2, k.here ex (.bl _)⟩
def isNone : D → Bool
  | .none => true
  | _ => false
def isD : D → D → Option D
  | d, .none => some (.bool (isNone d))
  | _, _ => none
def isnD : D → D → Option D
  | d, .none => some (.bool (!isNone d))
  | _, _ => none
theorem none_iff {F H : Hp} {x : V} {d : D} (rx : RepB K F H x d) : decide (x = .non) = isNone d := by
  cases rx with
  | frz r => cases r <;> rfl
  | thg _ r => cases r <;> rfl
def oIs : R2 := fun x y H Q => y = .non ∧ Q (.bl (decide (x = .non))) H
def oIsn : R2 := fun x y H Q => y = .non ∧ Q (.bl (!decide (x = .non))) H
theorem op_isU {X : Cx} : OpR X (compareOp .Is) oIs := op_isN
theorem op_isnU {X : Cx} : OpR X (compareOp .IsNot) oIsn := op_notN
theorem rd_is : R2D K oIs isD := by
  intro F H x y d e Q z ex rx ry h k
  unfold isD at h
  split at h
  · cases h; obtain rfl := ry.isn
    exact ⟨rfl, by rw [none_iff rx]; exact k.here ex (.bl _)⟩
  · cases h
theorem rd_isn : R2D K oIsn isnD := by
  intro F H x y d e Q z ex rx ry h k
  unfold isnD at h
  split at h
  · cases h; obtain rfl := ry.isn
    exact ⟨rfl, by rw [none_iff rx]; exact k.here ex (.bl _)⟩
  · cases h
end
end Dn

set_option Elab.async false
set_option linter.all false
set_option maxRecDepth 100000
set_option maxHeartbeats 4000000
/-! DenE: built-ins on data -/
namespace Dn
open PySem L2

/-! ### lists of ints, of bools -/
def ints? : List D → Option (List Int)
  | [] => some []
  | .int i :: ds => (ints? ds).map (i :: ·)
  | _ => none
@[simp] theorem ints?_map (ns : List Int) : ints? (ns.map PyData.int) = some ns := by
  induction ns with
  | nil => rfl
  | cons n ns ih => show (ints? (ns.map PyData.int)).map (n :: ·) = some (n :: ns); rw [ih]; rfl
theorem ints?_eq : ∀ {ds : List D} {ns : List Int}, ints? ds = some ns → ds = ns.map PyData.int
  | [], _, h => by cases h; rfl
  | .int i :: ds, ns, h => by
    unfold ints? at h
    cases q : ints? ds with
    | none => rw [q] at h; cases h
    | some ms => rw [q] at h; cases h; rw [ints?_eq q]; rfl
  | .none :: _, _, h => by cases h
  | .bool _ :: _, _, h => by cases h
  | .str _ :: _, _, h => by cases h
  | .list _ :: _, _, h => by cases h
  | .tuple _ :: _, _, h => by cases h
  | .dict _ :: _, _, h => by cases h
def bools? : List D → Option (List Bool)
  | [] => some []
  | .bool i :: ds => (bools? ds).map (i :: ·)
  | _ => none
@[simp] theorem bools?_map (ns : List Bool) : bools? (ns.map PyData.bool) = some ns := by
  induction ns with
  | nil => rfl
  | cons n ns ih => show (bools? (ns.map PyData.bool)).map (n :: ·) = some (n :: ns); rw [ih]; rfl
theorem bools?_eq : ∀ {ds : List D} {ns : List Bool}, bools? ds = some ns → ds = ns.map PyData.bool
  | [], _, h => by cases h; rfl
  | .bool i :: ds, ns, h => by
    unfold bools? at h
    cases q : bools? ds with
    | none => rw [q] at h; cases h
    | some ms => rw [q] at h; cases h; rw [bools?_eq q]; rfl
  | .none :: _, _, h => by cases h
  | .int _ :: _, _, h => by cases h
  | .str _ :: _, _, h => by cases h
  | .list _ :: _, _, h => by cases h
  | .tuple _ :: _, _, h => by cases h
  | .dict _ :: _, _, h => by cases h
/-- a list or a tuple, or the script: its items -/
def seq? : D → Option (List D)
  | .list ds => some ds
  | .tuple ds => some ds
  | .dict [(.none, .list ds)] => some ds
  | .dict [(.none, .tuple ds)] => some ds
  | _ => none

section
variable {K : PySem.W.Frag}
theorem RepB.seq {F H : Hp} {v : V} {d : D} {ds : List D} (ex : Ex F H) (r : RepB K F H v d) (h : seq? d = some ds) : ∃ l vs, v = .ref l ∧ (SqL K H l vs ∨ SqT K H l vs) ∧ RepL K F vs ds := by
  unfold seq? at h
  split at h
  · cases h; obtain ⟨l, vs, e, a, b⟩ := r.isl ex; exact ⟨l, vs, e, .inl (.of a), b⟩
  · cases h; obtain ⟨l, vs, e, a, b, _⟩ := r.ist ex; exact ⟨l, vs, e, .inr a, b⟩
  · cases h; obtain ⟨l, vs, e, a, b⟩ := r.iscr ex; exact ⟨l, vs, e, .inl a, b⟩
  · cases h; obtain ⟨l, vs, e, a, b, _⟩ := r.iktT ex; exact ⟨l, vs, e, .inr a, b⟩
  · cases h
theorem RepBL.one {F H : Hp} {xs : List V} {d : D} (r : RepBL K F H xs [d]) : ∃ x, xs = [x] ∧ RepB K F H x d := by
  cases r with
  | cons a b => cases b; exact ⟨_, rfl, a⟩
theorem RepBL.two {F H : Hp} {xs : List V} {d e : D} (r : RepBL K F H xs [d, e]) : ∃ x y, xs = [x, y] ∧ RepB K F H x d ∧ RepB K F H y e := by
  cases r with
  | cons a b =>
    obtain ⟨y, rfl, c⟩ := b.one
    exact ⟨_, _, rfl, a, c⟩
open Classical in
/-- len -/
noncomputable def lenD : List D → Option D
  | [.str s] => if s.length ≤ sizeLine then some (.int s.length) else none
  | [d] => (seq? d).map fun ds => .int ds.length
  | _ => none
def oLen (K : PySem.W.Frag) : List V → Hp → VK → Prop := fun xs H Q => ∃ x n, xs = [x] ∧ LenV K x H n ∧ Q (.int n) H
theorem call_lenU {X : Cx} : CallR X (.builtin "len") (oLen X.K) := call_len
theorem rc_len : RCD K (oLen K) lenD := by
  intro F H xs ds Q z ex rx h k
  unfold lenD at h
  split at h
  · obtain ⟨x, rfl, r⟩ := rx.one
    split at h
    · cases h
      obtain rfl := r.iss
      exact ⟨_, _, rfl, ⟨by assumption, rfl⟩, k.here ex (.int _)⟩
    · cases h
  · obtain ⟨x, rfl, r⟩ := rx.one
    cases q : seq? _ with
    | none => rw [q] at h; cases h
    | some es =>
      rw [q] at h
      cases h
      obtain ⟨l, vs, rfl, a, b⟩ := r.seq ex q
      refine ⟨_, es.length, rfl, ?_, k.here ex (.int _)⟩
      rcases a with a | a
      · exact .inl ⟨vs, a, b.length.symm⟩
      · exact .inr ⟨vs, a, b.length.symm⟩
  · cases h
/-- list(..) of a list, a tuple -/
def listD : List D → Option (List D)
  | [d] => seq? d
  | _ => none
def oList (K : PySem.W.Frag) : List V → Hp → VK → Prop := fun xs H Q => ∃ p ys, xs = [.ref p] ∧ (SqL K H p ys ∨ SqT K H p ys) ∧ ∀ l, H l = none → Q (.ref l) (upd H l (.lst ys))
theorem call_listU {X : Cx} : CallR X (.type "list") (oList X.K) := call_list_of
theorem rc_list : RCL K (oList K) listD := by
  intro F H xs ds Q z ex rx h k
  unfold listD at h
  split at h
  · obtain ⟨x, rfl, r⟩ := rx.one
    obtain ⟨l, vs, rfl, a, b⟩ := r.seq ex h
    exact ⟨l, vs, rfl, a, k.new ex b⟩
  · cases h
/-- tuple(..) of a list, a tuple -/
def tupOf : D → List D → D
  | .dict [(.none, .tuple _)], ds => ktD ds
  | _, ds => .tuple ds
def tupleD : List D → Option D
  | [d] => (seq? d).map (tupOf d)
  | _ => none
def oTuple (K : PySem.W.Frag) : List V → Hp → VK → Prop := fun xs H Q => ∃ p ys, xs = [.ref p] ∧ ((SqL K H p ys ∧ ∀ l, H l = none → Q (.ref l) (upd H l (.tup ys))) ∨ (SqT K H p ys ∧ Q (.ref p) H))
theorem call_tupleU {X : Cx} : CallR X (.type "tuple") (oTuple X.K) := call_tuple_of
theorem rc_tuple : RCD K (oTuple K) tupleD := by
  intro F H xs ds Q z ex rx h k
  unfold tupleD at h
  split at h
  · obtain ⟨x, rfl, r⟩ := rx.one
    rename_i d
    cases q : seq? d with
    | none => rw [q] at h; cases h
    | some es =>
      rw [q] at h
      cases h
      unfold seq? at q
      split at q
      · cases q; obtain ⟨l, vs, rfl, a, b⟩ := r.isl ex
        exact ⟨l, vs, rfl, .inl ⟨.of a, k.newT ex b⟩⟩
      · cases q; obtain ⟨l, vs, rfl, a, b, c⟩ := r.ist ex
        exact ⟨l, vs, rfl, .inr ⟨a, k.here ex c⟩⟩
      · cases q; obtain ⟨l, vs, rfl, a, b⟩ := r.iscr ex
        exact ⟨l, vs, rfl, .inl ⟨a, k.newT ex b⟩⟩
      · cases q; obtain ⟨l, vs, rfl, a, b, c⟩ := r.iktT ex
        exact ⟨l, vs, rfl, .inr ⟨a, k.here ex c⟩⟩
      · cases q
  · cases h
/-- abs, max, min, sum, any, all -/
def absD : List D → Option D
  | [.int i] => some (.int (if i < 0 then -i else i))
  | _ => none
def oAbs : List V → Hp → VK → Prop := fun xs H Q => ∃ i, xs = [.int i] ∧ Q (.int (if i < 0 then -i else i)) H
theorem call_absU {X : Cx} : CallR X (.builtin "abs") oAbs := call_abs
theorem rc_abs : RCD K oAbs absD := by
  intro F H xs ds Q z ex rx h k
  unfold absD at h
  split at h
  · cases h
    obtain ⟨x, rfl, r⟩ := rx.one
    obtain rfl := r.isi
    exact ⟨_, rfl, k.here ex (.int _)⟩
  · cases h
/-- greatest, least of a list (the first is given) -/
def maxL : Int → List Int → Int := List.foldl max
def minL : Int → List Int → Int := List.foldl min
theorem maxL_ge : ∀ (ns : List Int) (a : Int), a ≤ maxL a ns ∧ ∀ y ∈ ns, y ≤ maxL a ns
  | [], a => ⟨Int.le_refl _, fun y h => by cases h⟩
  | n :: ns, a => by
    obtain ⟨h1, h2⟩ := maxL_ge ns (max a n)
    refine ⟨Int.le_trans (Int.le_max_left a n) h1, fun y hy => ?_⟩
    rcases List.mem_cons.mp hy with rfl | hy
    · exact Int.le_trans (Int.le_max_right a _) h1
    · exact h2 y hy
theorem maxL_mem : ∀ (ns : List Int) (a : Int), maxL a ns = a ∨ maxL a ns ∈ ns
  | [], a => .inl rfl
  | n :: ns, a => by
    show maxL (max a n) ns = a ∨ maxL (max a n) ns ∈ n :: ns
    rcases maxL_mem ns (max a n) with h | h
    · rw [h]
      by_cases q : a ≤ n
      · rw [Int.max_eq_right q]; exact .inr (List.mem_cons_self ..)
      · rw [Int.max_eq_left (by omega)]; exact .inl rfl
    · exact .inr (List.mem_cons_of_mem _ h)
theorem minL_le : ∀ (ns : List Int) (a : Int), minL a ns ≤ a ∧ ∀ y ∈ ns, minL a ns ≤ y
  | [], a => ⟨Int.le_refl _, fun y h => by cases h⟩
  | n :: ns, a => by
    obtain ⟨h1, h2⟩ := minL_le ns (min a n)
    refine ⟨Int.le_trans h1 (Int.min_le_left a n), fun y hy => ?_⟩
    rcases List.mem_cons.mp hy with rfl | hy
    · exact Int.le_trans h1 (Int.min_le_right a _)
    · exact h2 y hy
theorem minL_mem : ∀ (ns : List Int) (a : Int), minL a ns = a ∨ minL a ns ∈ ns
  | [], a => .inl rfl
  | n :: ns, a => by
    show minL (min a n) ns = a ∨ minL (min a n) ns ∈ n :: ns
    rcases minL_mem ns (min a n) with h | h
    · rw [h]
      by_cases q : a ≤ n
      · rw [Int.min_eq_left q]; exact .inl rfl
      · rw [Int.min_eq_right (by omega)]; exact .inr (List.mem_cons_self ..)
    · exact .inr (List.mem_cons_of_mem _ h)
def maxD : List D → Option D
  | [.int i, .int j] => some (.int (max i j))
  | [.list ds] => (ints? ds).bind fun ns => match ns with
    | n :: ns => some (.int (maxL n ns))
    | [] => none
  | _ => none
def minD : List D → Option D
  | [.int i, .int j] => some (.int (min i j))
  | [.list ds] => (ints? ds).bind fun ns => match ns with
    | n :: ns => some (.int (minL n ns))
    | [] => none
  | _ => none
def oMax2 : List V → Hp → VK → Prop := fun xs H Q => ∃ i j, xs = [.int i, .int j] ∧ Q (.int (if j > i then j else i)) H
def oMin2 : List V → Hp → VK → Prop := fun xs H Q => ∃ i j, xs = [.int i, .int j] ∧ Q (.int (if j < i then j else i)) H
def oMax (K : PySem.W.Frag) := rcOr oMax2 (rMax K)
def oMin (K : PySem.W.Frag) := rcOr oMin2 (rMin K)
theorem call_maxU {X : Cx} (hc : X.calm = true) : CallR X (.builtin "max") (oMax X.K) := callOr (call_max2 hc) (cr_max hc)
theorem call_minU {X : Cx} (hc : X.calm = true) : CallR X (.builtin "min") (oMin X.K) := callOr (call_min2 hc) (cr_min hc)
theorem rc_max : RCD K (oMax K) maxD := by
  intro F H xs ds Q z ex rx h k
  unfold maxD at h
  split at h
  · cases h
    obtain ⟨x, y, rfl, r, r'⟩ := rx.two
    obtain rfl := r.isi
    obtain rfl := r'.isi
    refine .inl ⟨_, _, rfl, ?_⟩
    rename_i i j
    have e : (if j > i then j else i) = max i j := by split <;> omega
    rw [e]
    exact k.here ex (.int _)
  · obtain ⟨x, rfl, r⟩ := rx.one
    obtain ⟨l, vs, rfl, a, b⟩ := r.isl ex
    rename_i es
    cases q : ints? es with
    | none => rw [q] at h; cases h
    | some ns =>
      rw [q] at h
      obtain rfl := ints?_eq q
      obtain rfl := b.ints
      cases ns with
      | nil => cases h
      | cons n ns =>
        cases h
        refine .inr ⟨l, n :: ns, rfl, .of a, Nat.succ_pos _, fun m h1 h2 => ?_⟩
        have e : m = maxL n ns := by
          have g := maxL_ge ns n
          have m2 := maxL_mem ns n
          have h3 : m ≤ maxL n ns := by
            rcases List.mem_cons.mp h1 with rfl | h1
            · exact g.1
            · exact g.2 _ h1
          have h4 : maxL n ns ≤ m := by
            rcases m2 with e | e
            · rw [e]; exact h2 _ (List.mem_cons_self ..)
            · exact h2 _ (List.mem_cons_of_mem _ e)
          omega
        rw [e]
        exact k.here ex (.int _)
  · cases h
theorem rc_min : RCD K (oMin K) minD := by
  intro F H xs ds Q z ex rx h k
  unfold minD at h
  split at h
  · cases h
    obtain ⟨x, y, rfl, r, r'⟩ := rx.two
    obtain rfl := r.isi
    obtain rfl := r'.isi
    refine .inl ⟨_, _, rfl, ?_⟩
    rename_i i j
    have e : (if j < i then j else i) = min i j := by split <;> omega
    rw [e]
    exact k.here ex (.int _)
  · obtain ⟨x, rfl, r⟩ := rx.one
    obtain ⟨l, vs, rfl, a, b⟩ := r.isl ex
    rename_i es
    cases q : ints? es with
    | none => rw [q] at h; cases h
    | some ns =>
      rw [q] at h
      obtain rfl := ints?_eq q
      obtain rfl := b.ints
      cases ns with
      | nil => cases h
      | cons n ns =>
        cases h
        refine .inr ⟨l, n :: ns, rfl, .of a, Nat.succ_pos _, fun m h1 h2 => ?_⟩
        have e : m = minL n ns := by
          have g := minL_le ns n
          have m2 := minL_mem ns n
          have h3 : minL n ns ≤ m := by
            rcases List.mem_cons.mp h1 with rfl | h1
            · exact g.1
            · exact g.2 _ h1
          have h4 : m ≤ minL n ns := by
            rcases m2 with e | e
            · rw [e]; exact h2 _ (List.mem_cons_self ..)
            · exact h2 _ (List.mem_cons_of_mem _ e)
          omega
        rw [e]
        exact k.here ex (.int _)
  · cases h
def sumD : List D → Option D
  | [.list ds] => (ints? ds).map fun ns => .int ns.sum
  | _ => none
theorem rc_sum : RCD K (rSum K) sumD := by
  intro F H xs ds Q z ex rx h k
  unfold sumD at h
  split at h
  · obtain ⟨x, rfl, r⟩ := rx.one
    obtain ⟨l, vs, rfl, a, b⟩ := r.isl ex
    rename_i es
    cases q : ints? es with
    | none => rw [q] at h; cases h
    | some ns =>
      rw [q] at h
      cases h
      obtain rfl := ints?_eq q
      obtain rfl := b.ints
      exact ⟨l, ns, rfl, .of a, k.here ex (.int _)⟩
  · cases h
def anyD : List D → Option D
  | [.list ds] => (bools? ds).map fun ns => .bool (ns.any id)
  | _ => none
def allD : List D → Option D
  | [.list ds] => (bools? ds).map fun ns => .bool (ns.all id)
  | _ => none
theorem rc_any : RCD K (rAny K) anyD := by
  intro F H xs ds Q z ex rx h k
  unfold anyD at h
  split at h
  · obtain ⟨x, rfl, r⟩ := rx.one
    obtain ⟨l, vs, rfl, a, b⟩ := r.isl ex
    rename_i es
    cases q : bools? es with
    | none => rw [q] at h; cases h
    | some ns =>
      rw [q] at h
      cases h
      obtain rfl := bools?_eq q
      obtain rfl := b.bools
      exact ⟨l, ns, rfl, .of a, k.here ex (.bl _)⟩
  · cases h
theorem rc_all : RCD K (rAll K) allD := by
  intro F H xs ds Q z ex rx h k
  unfold allD at h
  split at h
  · obtain ⟨x, rfl, r⟩ := rx.one
    obtain ⟨l, vs, rfl, a, b⟩ := r.isl ex
    rename_i es
    cases q : bools? es with
    | none => rw [q] at h; cases h
    | some ns =>
      rw [q] at h
      cases h
      obtain rfl := bools?_eq q
      obtain rfl := b.bools
      exact ⟨l, ns, rfl, .of a, k.here ex (.bl _)⟩
  · cases h
/-- sorted of a list of ints -/
def sortI (ns : List Int) : List Int := ns.mergeSort (fun a b => decide (a ≤ b))
theorem sortI_perm (ns : List Int) : (sortI ns).Perm ns := List.mergeSort_perm _ _
theorem sortI_sorted (ns : List Int) : (sortI ns).Pairwise (· ≤ ·) := by
  have h := List.pairwise_mergeSort (le := fun a b : Int => decide (a ≤ b)) (fun a b c h1 h2 => by simp at *; omega) (fun a b => by simp; omega) ns
  exact h.imp fun h => by simpa using h
theorem sorted_one : ∀ {xs ys : List Int}, xs.Perm ys → xs.Pairwise (· ≤ ·) → ys.Pairwise (· ≤ ·) → xs = ys := fun {xs ys} p h1 h2 =>
  List.Perm.eq_of_pairwise (le := (· ≤ ·)) (fun a b _ _ h1 h2 => Int.le_antisymm h1 h2) h1 h2 p
def sortD : List D → Option (List D)
  | [.list ds] => (ints? ds).map fun ns => (sortI ns).map .int
  | _ => none
theorem rc_sort : RCL K (rSortedI K) sortD := by
  intro F H xs ds Q z ex rx h k
  unfold sortD at h
  split at h
  · obtain ⟨x, rfl, r⟩ := rx.one
    obtain ⟨l, vs, rfl, a, b⟩ := r.isl ex
    rename_i es
    cases q : ints? es with
    | none => rw [q] at h; cases h
    | some ns =>
      rw [q] at h
      cases h
      obtain rfl := ints?_eq q
      obtain rfl := b.ints
      refine ⟨l, ns, rfl, .of a, fun ns' p hp hs hn => ?_⟩
      have e : ns' = sortI ns := sorted_one (hp.trans (sortI_perm ns).symm) hs (sortI_sorted ns)
      rw [e]
      exact k.new ex (repL_ints _) p hn
  · cases h
/-- int(..) of an int, a bool; str(..) of an int -/
def intD : List D → Option D
  | [.int i] => some (.int i)
  | [.bool b] => some (.int (if b then 1 else 0))
  | _ => none
def oInt : List V → Hp → VK → Prop := fun xs H Q => (∃ i, xs = [.int i] ∧ Q (.int i) H) ∨ ∃ k, xs = [.bl k] ∧ Q (.int (if k then 1 else 0)) H
theorem call_intU {X : Cx} : CallR X (.type "int") oInt := call_int1
theorem rc_int : RCD K oInt intD := by
  intro F H xs ds Q z ex rx h k
  unfold intD at h
  split at h
  · cases h
    obtain ⟨x, rfl, r⟩ := rx.one
    obtain rfl := r.isi
    exact .inl ⟨_, rfl, k.here ex (.int _)⟩
  · cases h
    obtain ⟨x, rfl, r⟩ := rx.one
    obtain rfl := r.isb
    exact .inr ⟨_, rfl, k.here ex (.int _)⟩
  · cases h
/-- isinstance(x, T), T a built-in type -/
def tyN : D → String
  | .none => "NoneType" | .bool _ => "bool" | .int _ => "int" | .str _ => "str" | .list _ => "list" | .tuple _ => "tuple" | .dict [(.none, .list _)] => "list" | .dict [(.none, .tuple _)] => "tuple" | .dict _ => "dict"
/-- an error that is held -/
def isExc : D → Bool
  | .dict [(.int _, _)] => true
  | .dict [(.str _, _)] => true
  | .dict ((.bool true, .bool true) :: _) => true
  | _ => false
def isiD (T : String) (d : D) : Option D := if isExc d = true then none else (kitB (tyN d) T).map .bool
theorem ty_of {F H : Hp} {v : V} {d : D} (ex : Ex F H) (r : RepB K F H v d) (he : isExc d = false) : TyX K H v (.type (tyN d)) := by
  cases r with
  | thg h q => cases q with
    | lst r => exact .base (.lst h)
    | dK r => exact .base (.dK h)
    | dT r => exact .base (.dT h)
  | frz r =>
    cases r with
    | non => exact .base .non
    | bl b => exact .base (.bl b)
    | int i => exact .base (.int i)
    | str x => exact .base (.str x)
    | lst h q => exact .base (.lst (ex _ _ h))
    | dK h q e => subst e; exact .base (.dK (ex _ _ h))
    | dT h q e => subst e; exact .base (.dT (ex _ _ h))
    | dKf h q e => subst e; exact .fDict (ex _ _ h)
    | dTf h q e => subst e; cases he
    | exc h q e => subst e; cases he
    | fnc h e => subst e; cases he
    | ktp h _ _ q e => subst e; exact .fTuple (ex _ _ h)
    | tup h q => exact .base (.tup (ex _ _ h))
    | scr h q e =>
      subst e
      rcases h with (h | ⟨o, h⟩) | ⟨o, its, n, h, c, _⟩
      · exact .base (.lst (ex _ _ h))
      · exact .base (.frz (ex _ _ h))
      · exact .kList h c
theorem df_isi {L : Addr × Addr} {mg : Str → Option Value} {W : WX} {ta : TE} {a : ME} {T : String} (ha : DE K L mg W ta a) : DF K L mg W (tCB (rIsi K) (tCons ta (tCons (tC (.ty T)) tNil))) (e1 (isiD T) a) := fun F0 H0 F H σ ρ Q E p => by
  refine ha F0 H0 F H σ ρ _ E (post_mono (post_bind p) (fun d k F1 H1 x s1 r1 => ?_) fun _ z => z)
  obtain ⟨z, ez, k3⟩ := post_lift k
  unfold isiD at ez
  cases he : isExc d with
  | true => rw [if_pos he] at ez; cases ez
  | false =>
  rw [if_neg (by rw [he]; exact Bool.false_ne_true)] at ez
  cases q : kitB (tyN d) T with
  | none => rw [q] at ez; cases ez
  | some b =>
    rw [q] at ez
    cases ez
    exact ⟨x, .ty T, _, _, b, rfl, .ty T, ty_of s1.fh r1 he, kit_ty q, k3 F1 H1 _ s1 (.bl _)⟩
open Classical in
/-- a[i] -/
noncomputable def ixD : D → D → Option D
  | .str z, .int i => if z.length ≤ sizeLine then (atI z.cps.toList i).map fun c => .str ⟨#[c]⟩ else none
  | d, .int i => (seq? d).bind fun ds => atI ds i
  | _, _ => none
theorem RepL.at {F : Hp} {vs : List V} {ds : List D} (r : RepL K F vs ds) {i : Int} {d : D} (h : atI ds i = some d) : ∃ v, atI vs i = some v ∧ Rep K F v d := by
  unfold atI at h ⊢
  rw [r.length]
  cases q : ixN ds.length i with
  | none => rw [q] at h; cases h
  | some j => rw [q] at h; exact r.get' h
theorem rd_ix : R2D K (rIx K) ixD := by
  intro F H x y d e Q z ex rx ry h k
  unfold ixD at h
  split at h
  · obtain rfl := rx.iss
    obtain rfl := ry.isi
    split at h
    · rename_i zz i hz
      cases q : atI zz.cps.toList i with
      | none => rw [q] at h; cases h
      | some c =>
        rw [q] at h
        cases h
        exact .inr (.inr ⟨_, _, c, rfl, rfl, hz, q, k.here ex (.str _)⟩)
    · cases h
  · obtain rfl := ry.isi
    cases q : seq? d with
    | none => rw [q] at h; cases h
    | some ds =>
      rw [q] at h
      obtain ⟨l, vs, rfl, a, b⟩ := rx.seq ex q
      obtain ⟨v, hv, rv⟩ := b.at h
      rcases a with a | a
      · exact .inl ⟨l, vs, _, v, rfl, rfl, a, hv, k.here ex rv⟩
      · exact .inr (.inl ⟨l, vs, _, v, rfl, rfl, a, hv, k.here ex rv⟩)
  · cases h
/-- a[lo:hi] -/
def cutL {α : Type} (xs : List α) (lo hi : Option Int) : List α := (xs.drop (HT.sIx xs.length 0 lo)).take (HT.sIx xs.length xs.length hi - HT.sIx xs.length 0 lo)
theorem RepL.cut {F : Hp} {vs : List V} {ds : List D} (r : RepL K F vs ds) (lo hi : Option Int) : RepL K F (cutV vs lo hi) (cutL ds lo hi) := by
  unfold cutV cutL
  rw [r.length]
  exact (r.drop _).take _
open Classical in
noncomputable def slD : D → Option Int → Option Int → Option D
  | .str z, lo, hi => if z.length ≤ sizeLine then some (.str (cutS z lo hi)) else none
  | .tuple ds, lo, hi => some (.tuple (cutL ds lo hi))
  | .list ds, lo, hi => some (.list (cutL ds lo hi))
  | .dict [(.none, .list ds)], lo, hi => some (.list (cutL ds lo hi))
  | .dict [(.none, .tuple ds)], lo, hi => some (if (cutL ds lo hi).length = ds.length then ktD ds else .tuple (cutL ds lo hi))
  | _, _, _ => none
def slLD : D → Option Int → Option Int → Option (List D)
  | .list ds, lo, hi => some (cutL ds lo hi)
  | .dict [(.none, .list ds)], lo, hi => some (cutL ds lo hi)
  | _, _, _ => none
def oSl (K : PySem.W.Frag) : V → Option Int → Option Int → Hp → VK → Prop := fun x lo hi H Q => rSlL K x lo hi H Q ∨ (fun x lo hi H Q => rSlA K x lo hi H Q ∨ rSlS x lo hi H Q) x lo hi H Q
theorem sl_any {X : Cx} : SlR X (oSl X.K) := sl_list.or (sl_tupA.or sl_str)
theorem sIx_le' (n d : Nat) (hd : d ≤ n) (o : Option Int) : HT.sIx n d o ≤ n := HT.sIx_le n d hd o
theorem rs_sl : RSD K (oSl K) slD := by
  intro F H x d lo hi Q z ex rx h k
  unfold slD at h
  split at h
  · split at h
    · cases h
      obtain rfl := rx.iss
      exact .inr (.inr ⟨_, rfl, by assumption, k.here ex (.str _)⟩)
    · cases h
  · cases h
    obtain ⟨l, vs, rfl, a, b, c⟩ := rx.ist ex
    refine .inr (.inl ⟨l, vs, rfl, a, fun hw => ?_, fun _ => k.newT ex (b.cut lo hi)⟩)
    refine k.here ex ?_
    rename_i ds
    have e : cutL ds lo hi = ds := by
      unfold cutL
      rw [← b.length, hw.1, hw.2, List.drop_zero]
      rw [b.length, Nat.sub_zero, List.take_length]
    rw [e]
    exact c
  · cases h
    obtain ⟨l, vs, rfl, a, b⟩ := rx.isl ex
    exact .inl ⟨l, vs, rfl, .of a, k.newL ex (b.cut lo hi)⟩
  · cases h
    obtain ⟨l, vs, rfl, a, b⟩ := rx.iscr ex
    exact .inl ⟨l, vs, rfl, a, k.newL ex (b.cut lo hi)⟩
  · cases h
    rename_i ds
    obtain ⟨l, vs, rfl, a, b, c⟩ := rx.iktT ex
    have l1 := sIx_le' ds.length 0 (Nat.zero_le _) lo
    have l2 := sIx_le' ds.length ds.length (Nat.le_refl _) hi
    have cl : (cutL ds lo hi).length = min (HT.sIx ds.length ds.length hi - HT.sIx ds.length 0 lo) (ds.length - HT.sIx ds.length 0 lo) := by
      unfold cutL
      rw [List.length_take, List.length_drop]
    refine .inr (.inl ⟨l, vs, rfl, a, fun hw => ?_, fun hw => ?_⟩)
    · rw [b.length] at hw
      rw [if_pos (by omega)] at k
      exact k.here ex c
    · rw [b.length] at hw
      rw [if_neg (by omega)] at k
      exact k.newT ex (b.cut lo hi)
  · cases h
theorem rs_slL : RSL K (oSl K) slLD := by
  intro F H x d lo hi Q z ex rx h k
  unfold slLD at h
  split at h
  · cases h
    obtain ⟨l, vs, rfl, a, b⟩ := rx.isl ex
    exact .inl ⟨l, vs, rfl, .of a, k.new ex (b.cut lo hi)⟩
  · cases h
    obtain ⟨l, vs, rfl, a, b⟩ := rx.iscr ex
    exact .inl ⟨l, vs, rfl, a, k.new ex (b.cut lo hi)⟩
  · cases h
/-- x in y -/
def inB : D → D → Option Bool
  | d, .list ds => if SeqAt.shaped d && SeqAt.shaped (.list ds) then some (ds.any fun z => PyData.eqv z d) else none
  | _, _ => none
def inD (d e : D) : Option D := (inB d e).map .bool
def ninD (d e : D) : Option D := (inB d e).map fun b => .bool (!b)
def oIn (K : PySem.W.Frag) : R2 := rOr (rInD K) (rIn K false)
def oNin (K : PySem.W.Frag) : R2 := rOr (rNotInD K) (rIn K true)
theorem op_inU {X : Cx} (hu : X.A.units + 65 < cLine) : OpR X (compareOp .In) (oIn X.K) := opOr (op_inD hu) op_in_seq
theorem op_ninU {X : Cx} (hu : X.A.units + 65 < cLine) : OpR X (compareOp .NotIn) (oNin X.K) := opOr (op_notInD hu) op_notIn_seq
theorem rd_in : R2D K (oIn K) inD := by
  intro F H x y d e Q z ex rx ry h k
  unfold inD inB at h
  split at h
  · split at h
    · rename_i ds c
      cases h
      rw [Bool.and_eq_true] at c
      exact .inl ⟨d, ds, (rx.now ex).dp (canLay_sh c.1), (ry.now ex).dp (canLay_sh c.2), c.1, c.2, k.here ex (.bl _)⟩
    · cases h
  · cases h
theorem rd_nin : R2D K (oNin K) ninD := by
  intro F H x y d e Q z ex rx ry h k
  unfold ninD inB at h
  split at h
  · split at h
    · rename_i ds c
      cases h
      rw [Bool.and_eq_true] at c
      exact .inl ⟨d, ds, (rx.now ex).dp (canLay_sh c.1), (ry.now ex).dp (canLay_sh c.2), c.1, c.2, k.here ex (.bl _)⟩
    · cases h
  · cases h
end
end Dn

set_option Elab.async false
set_option linter.all false
set_option maxRecDepth 100000
set_option maxHeartbeats 4000000
/-! DenF: statements, loops, comprehensions, calls -/
namespace Dn
open PySem L2

section
variable (K : PySem.W.Frag)
/-- what is wanted of an outcome -/
def WO (mg : Str → Option Value) (W : WX) (L : Addr × Addr) (F0 H0 F : Hp) (D : Ends) : Out → Prop
  | .nx ρ => ∀ F' H' σ', Ex F F' → Env K L F0 H0 F' H' σ' ρ → D.nx σ' H'
  | .brk ρ => ∀ F' H' σ', Ex F F' → Env K L F0 H0 F' H' σ' ρ → D.bk σ' H'
  | .cont ρ => ∀ F' H' σ', Ex F F' → Env K L F0 H0 F' H' σ' ρ → D.ct σ' H'
  | .ret d ρ => ∀ F' H' σ' v, Ex F F' → Env K L F0 H0 F' H' σ' ρ → Rep K F' v d → D.rt v H'
  | .retL ds ρ => ∀ F' H1 σ' p vs, Ex F F' → Env K L F0 H0 F' H1 σ' ρ → H1 p = none → RepL K F' vs ds → D.rt (.ref p) (upd H1 p (.lst vs))
  | .exc n ρ => ∀ F' H' σ', Ex F F' → Env K L F0 H0 F' H' σ' ρ → Wm mg W n σ' H'
  | .stuck => False
variable (L : Addr × Addr) (mg : Str → Option Value) (W : WX)
def DS (t : TS) (g : MS) : Prop := ∀ F0 H0 F H σ ρ D, Env K L F0 H0 F H σ ρ → WO K mg W L F0 H0 F D (g ρ) → t D σ H
/-- a target: what it does, the slots that it fills -/
def DG (g : TG) (tg : D → Fr → Option Fr) (is : List Nat) : Prop := ∀ F0 H0 F H σ ρ v d (Q : St → Hp → Prop) ρ', Env K L F0 H0 F H σ ρ → Rep K F v d → tg d ρ = some ρ' →
  (∀ σ', Env K L F0 H0 F H σ' ρ' → (∀ vs : List Nat, (∀ i ∈ is, i ∈ vs) → wipe σ' vs = wipe σ vs) → Q σ' H) → g v σ H Q
def DGs (g : TGs) (tg : List D → Fr → Option Fr) (is : List Nat) : Prop := ∀ F0 H0 F H σ ρ vs ds (Q : St → Hp → Prop) ρ', Env K L F0 H0 F H σ ρ → RepL K F vs ds → tg ds ρ = some ρ' →
  (∀ σ', Env K L F0 H0 F H σ' ρ' → (∀ vs : List Nat, (∀ i ∈ is, i ∈ vs) → wipe σ' vs = wipe σ vs) → Q σ' H) → g vs σ H Q
/-- what is walked: items that stay, items that stand as long as nothing is written -/
def Src (J : It) (F1 : Hp) (ds : List D) : Prop := ∃ G Y, Walk J ds.length G Y ∧ (∀ F H, Ex F1 F → Ex F H → G H) ∧
  (∀ i F H x H', i < ds.length → Ex F1 F → Ex F H → Y i H x H' → ∃ F' d, Step F H F' H' ∧ ds[i]? = some d ∧ Rep K F' x d)
def SrcB (J : It) (F1 H1 : Hp) (ds : List D) : Prop := ∃ G Y, Walk J ds.length G Y ∧ (∀ F H, Ex F1 F → Ex H1 H → Ex F H → G H) ∧
  (∀ i F H x H', i < ds.length → Ex F1 F → Ex H1 H → Ex F H → Y i H x H' → ∃ F' d, Step F H F' H' ∧ ds[i]? = some d ∧ Rep K F' x d)
def DI (wi : TI) (f : ML) : Prop := ∀ F0 H0 F H σ ρ (R : It → Hp → Prop), Env K L F0 H0 F H σ ρ → post (f ρ) (fun ds => ∀ F' H' J, Step F H F' H' → Src K J F' ds → R J H') (WE' mg W F H σ) → wi σ H R
def DIB (wi : TI) (f : ML) : Prop := ∀ F0 H0 F H σ ρ (R : It → Hp → Prop), Env K L F0 H0 F H σ ρ → post (f ρ) (fun ds => ∀ F' H' J, Step F H F' H' → SrcB K J F' H' ds → R J H') (WE' mg W F H σ) → wi σ H R
end

def Out.of {α : Type} (m : M α) (ρ : Fr) (k : α → Out) : Out := match m with
  | .ok a => k a
  | .exc n => .exc n ρ
  | .stuck => .stuck
@[simp] theorem of_ok {α : Type} {a : α} {ρ : Fr} {k : α → Out} : Out.of (.ok a) ρ k = k a := rfl
@[simp] theorem of_exc {α : Type} {n : Str} {ρ : Fr} {k : α → Out} : Out.of (.exc n : M α) ρ k = .exc n ρ := rfl
@[simp] theorem of_stuck {α : Type} {ρ : Fr} {k : α → Out} : Out.of (.stuck : M α) ρ k = .stuck := rfl
def Out.ofO {α : Type} (m : Option α) (k : α → Out) : Out := match m with
  | some a => k a
  | none => .stuck
@[simp] theorem ofO_some {α : Type} {a : α} {k : α → Out} : Out.ofO (some a) k = k a := rfl
@[simp] theorem ofO_none {α : Type} {k : α → Out} : Out.ofO (none : Option α) k = .stuck := rfl

/-! ### pure statements -/
def sNext : MS := fun ρ => .nx ρ
def sBrk : MS := fun ρ => .brk ρ
def sCont : MS := fun ρ => .cont ρ
def sSeq (a b : MS) : MS := fun ρ => match a ρ with
  | .nx ρ' => b ρ'
  | o => o
def sAsg (tg : D → Fr → Option Fr) (e : ME) : MS := fun ρ => Out.of (e ρ) ρ fun d => Out.ofO (tg d ρ) .nx
def sAsgL (i : Nat) (e : ML) : MS := fun ρ => Out.of (e ρ) ρ fun ds => .nx (ρ.set i (.own (.lst ds)))
def sExpr (e : ME) : MS := fun ρ => Out.of (e ρ) ρ fun _ => .nx ρ
def sRet (e : ME) : MS := fun ρ => Out.of (e ρ) ρ fun d => .ret d ρ
def sRetL (e : ML) : MS := fun ρ => Out.of (e ρ) ρ fun ds => .retL ds ρ
/-- the list of one's own in slot i is handed back -/
def sRetO (i : Nat) : MS := fun ρ => match ρ[i]? with
  | some (.own (.lst ds)) => .retL ds (ρ.set i .none)
  | _ => .stuck
def sRetN : MS := fun ρ => .ret .none ρ
def sRaise (n : Str) : MS := fun ρ => .exc n ρ
def sIf (t : MT) (a b : MS) : MS := fun ρ => Out.of (t ρ) ρ fun c => if c = true then a ρ else b ρ
/-- the list in slot i is from here on nobody's -/
def frz (i : Nat) (ρ : Fr) : Fr := match ρ[i]? with
  | some (.own o) => ρ.set i (.val o.d)
  | _ => ρ
def sFrz (i : Nat) (g : MS) : MS := fun ρ => g (frz i ρ)
def loopFor (body : D → Fr → Out) : List D → Fr → Out
  | [], ρ => .nx ρ
  | d :: ds, ρ => match body d ρ with
    | .nx ρ' => loopFor body ds ρ'
    | .cont ρ' => loopFor body ds ρ'
    | .brk ρ' => .nx ρ'
    | o => o
def forB (tg : D → Fr → Option Fr) (g : MS) : D → Fr → Out := fun d ρ => Out.ofO (tg d ρ) g
def sFor (f : ML) (tg : D → Fr → Option Fr) (g : MS) : MS := fun ρ => Out.of (f ρ) ρ fun ds => loopFor (forB tg g) ds ρ
def loopWhile (c : MT) (g : MS) : Nat → Fr → Out
  | 0, _ => .stuck
  | n + 1, ρ => Out.of (c ρ) ρ fun b => if b = true then (match g ρ with
      | .nx ρ' => loopWhile c g n ρ'
      | .cont ρ' => loopWhile c g n ρ'
      | .brk ρ' => .nx ρ'
      | o => o) else .nx ρ
@[irreducible] def fuel : Nat := 1000000
def sWhile (c : MT) (g : MS) : MS := fun ρ => loopWhile c g fuel ρ
def gN (i : Nat) : D → Fr → Option Fr := fun d ρ => some (ρ.set i (.val d))
def gNil' : List D → Fr → Option Fr := fun ds ρ => match ds with
  | [] => some ρ
  | _ => none
def gC (g : D → Fr → Option Fr) (gs : List D → Fr → Option Fr) : List D → Fr → Option Fr := fun ds ρ => match ds with
  | d :: ds => (g d ρ).bind fun ρ' => gs ds ρ'
  | [] => none
def gT (gs : List D → Fr → Option Fr) : D → Fr → Option Fr := fun d ρ => match d with
  | .tuple ds => gs ds ρ
  | _ => none
def gL (gs : List D → Fr → Option Fr) : D → Fr → Option Fr := fun d ρ => match d with
  | .list ds => gs ds ρ
  | _ => none
def ownAt (i : Nat) (ρ : Fr) : Option (List D) := match ρ[i]? with
  | some (.own (.lst ds)) => some ds
  | some (.pin (.lst ds)) => some ds
  | _ => none
def setL (ds : List D) (k v : D) : Option (List D) := match k with
  | .int j => (ixN ds.length j).map fun n => ds.set n v
  | _ => none
def putL (i : Nat) (ds : List D) (ρ : Fr) : Fr := putO i (.lst ds) ρ
/-- l[k] = v in slot i -/
def sSet (i : Nat) (k e : ME) : MS := fun ρ => Out.of (e ρ) ρ fun v => Out.ofO (ownAt i ρ) fun ds => Out.of (k ρ) ρ fun j => Out.ofO (setL ds j v) fun ds' => .nx (putL i ds' ρ)
/-- a method that changes the list in slot i -/
def sMut (i : Nat) (fm : List D → List D → Option (List D × D)) (as : ML) : MS := fun ρ => Out.ofO (ownAt i ρ) fun ds => Out.of (as ρ) ρ fun es => Out.ofO (fm ds es) fun r => .nx (putL i r.1 ρ)
def sMutA (j i : Nat) (fm : List D → List D → Option (List D × D)) (as : ML) : MS := fun ρ => Out.ofO (ownAt i ρ) fun ds => Out.of (as ρ) ρ fun es => Out.ofO (fm ds es) fun r => .nx ((putL i r.1 ρ).set j (.val r.2))
/-- what a def hands back -/
def Out.m : Out → M D
  | .nx _ => .ok .none
  | .ret d _ => .ok d
  | .retL ds _ => .ok (.list ds)
  | .exc n _ => .exc n
  | _ => .stuck
def start' (N : Nat) (ds : List D) : Fr := ds.map .val ++ List.replicate (N - ds.length) .none
def mFn (np N : Nat) (g : MS) (ds : List D) : M D := if ds.length = np then (g (start' N ds)).m else .stuck
/-- comprehensions -/
def wipeF (ρ : Fr) : List Nat → Fr
  | [] => ρ
  | v :: vs => (wipeF ρ vs).set v .none
def noX {α : Type} : M α → M α
  | .exc _ => .stuck
  | m => m
def loopLc (tg : D → Fr → Option Fr) (t : MT) (e : ME) (vs : List Nat) (ρ : Fr) : List D → List D → M (List D)
  | [], acc => .ok acc
  | d :: ds, acc => match tg d (wipeF ρ vs) with
    | none => .stuck
    | some ρ' => (noX (t ρ')).bind fun b => if b = true then (noX (e ρ')).bind fun y => if acc.length < sizeLine then loopLc tg t e vs ρ ds (acc ++ [y]) else .stuck else loopLc tg t e vs ρ ds acc
def eLc (f : ML) (tg : D → Fr → Option Fr) (t : MT) (e : ME) (vs : List Nat) : ML := fun ρ => (f ρ).bind fun ds => loopLc tg t e vs ρ ds []
def tYesF : MT := fun _ => .ok true

section
variable {K : PySem.W.Frag} {mg : Str → Option Value} {W : WX} {te ta : TE} {e a : ME} {t u : TS} {g h : MS} {L : Addr × Addr} {F0 H0 F H F' H' : Hp} {D : Ends} {σ : St} {ρ : Fr} {tt : TT} {tf : MT} {gg : TG} {tg : Dn.D → Fr → Option Fr} {is : List Nat}

theorem WO.mono {o : Out} (s : Ex F F') (w : WO K mg W L F0 H0 F D o) : WO K mg W L F0 H0 F' D o := by
  cases o with
  | nx ρ => exact fun F1 H1 σ1 e => w F1 H1 σ1 (s.trans e)
  | brk ρ => exact fun F1 H1 σ1 e => w F1 H1 σ1 (s.trans e)
  | cont ρ => exact fun F1 H1 σ1 e => w F1 H1 σ1 (s.trans e)
  | ret d ρ => exact fun F1 H1 σ1 v e => w F1 H1 σ1 v (s.trans e)
  | retL ds ρ => exact fun F1 H1 σ1 p vs e => w F1 H1 σ1 p vs (s.trans e)
  | exc n ρ => exact fun F1 H1 σ1 e => w F1 H1 σ1 (s.trans e)
  | stuck => exact w
/-- an expression ahead -/
theorem WO.of {α : Type} {m : M α} {k : α → Out} (E : Env K L F0 H0 F H σ ρ) (w : WO K mg W L F0 H0 F D (Out.of m ρ k)) : post m (fun a => WO K mg W L F0 H0 F D (k a)) (WE' mg W F H σ) := by
  cases m with
  | ok a => exact w
  | exc n => exact fun F1 H1 s => w F1 H1 σ s.ff (E.step s)
  | stuck => exact w.elim
theorem WO.ofO {α : Type} {m : Option α} {k : α → Out} (w : WO K mg W L F0 H0 F D (Out.ofO m k)) : ∃ a, m = some a ∧ WO K mg W L F0 H0 F D (k a) := by
  cases m with
  | some a => exact ⟨a, rfl, w⟩
  | none => exact w.elim
theorem ds_next : DS K L mg W tNext sNext := fun F0 H0 F H σ ρ D E w => w F H σ (Ex.refl _) E
theorem ds_brk : DS K L mg W tBreak sBrk := fun F0 H0 F H σ ρ D E w => w F H σ (Ex.refl _) E
theorem ds_cont : DS K L mg W tCont sCont := fun F0 H0 F H σ ρ D E w => w F H σ (Ex.refl _) E
theorem ds_seq (h1 : DS K L mg W t g) (h2 : DS K L mg W u h) : DS K L mg W (tSeq t u) (sSeq g h) := fun F0 H0 F H σ ρ D E w => by
  refine h1 F0 H0 F H σ ρ _ E ?_
  unfold sSeq at w
  cases q : g ρ with
  | nx ρ' => rw [q] at w; exact fun F1 H1 σ1 e E1 => h2 F0 H0 F1 H1 σ1 ρ' D E1 (w.mono e)
  | brk ρ => rw [q] at w; exact w
  | cont ρ => rw [q] at w; exact w
  | ret d ρ => rw [q] at w; exact w
  | retL ds ρ => rw [q] at w; exact w
  | exc n ρ => rw [q] at w; exact w
  | stuck => rw [q] at w; exact w
theorem ds_asg (he : DF K L mg W te e) (hg : DG K L gg tg is) : DS K L mg W (tAsg te gg) (sAsg tg e) := fun F0 H0 F H σ ρ D E w => by
  refine he F0 H0 F H σ ρ _ E (post_mono (WO.of E w) (fun d k F1 H1 v s r => ?_) fun _ z => z)
  obtain ⟨ρ', q, k⟩ := WO.ofO k
  exact hg F0 H0 F1 H1 σ ρ v d _ ρ' (E.step s) r q fun σ' E' _ => k F1 H1 σ' s.ff E'
theorem ds_asgL {i : Nat} {f : ML} (he : DL K L mg W te f) : DS K L mg W (tAsg te (gName i)) (sAsgL i f) := fun F0 H0 F H σ ρ D E w => by
  refine he F0 H0 F H σ ρ _ E (post_mono (WO.of E w) (fun ds k F1 H1 p vs s n r => ?_) fun _ z => z)
  exact k F1 _ _ s.ff ((E.step s).seto n (.lst r) i)
theorem ds_expr (he : DE K L mg W te e) : DS K L mg W (tDrop te) (sExpr e) := fun F0 H0 F H σ ρ D E w => by
  refine he F0 H0 F H σ ρ _ E (post_mono (WO.of E w) (fun d k F1 H1 v s r => ?_) fun _ z => z)
  exact k F1 H1 σ s.ff (E.step s)
theorem ds_ret (he : DF K L mg W te e) : DS K L mg W (tRet te) (sRet e) := fun F0 H0 F H σ ρ D E w => by
  refine he F0 H0 F H σ ρ _ E (post_mono (WO.of E w) (fun d k F1 H1 v s r => ?_) fun _ z => z)
  exact k F1 H1 σ v s.ff (E.step s) r
theorem ds_retN : DS K L mg W tRetN sRetN := fun F0 H0 F H σ ρ D E w => w F H σ _ (Ex.refl _) E .non
theorem ds_retL {f : ML} (he : DL K L mg W te f) : DS K L mg W (tRet te) (sRetL f) := fun F0 H0 F H σ ρ D E w => by
  refine he F0 H0 F H σ ρ _ E (post_mono (WO.of E w) (fun d k F1 H1 p vs s n r => ?_) fun _ z => z)
  exact k F1 H1 σ p vs s.ff (E.step s) n r
theorem ds_retO {i : Nat} : DS K L mg W (tRet (tVar i)) (sRetO i) := fun F0 H0 F H σ ρ D E w => by
  unfold sRetO at w
  split at w
  · rename_i ds q
    obtain ⟨l, ho, e, f, h0, hl, r, _⟩ := E.ownv (i := i) (o := .lst ds) (by rw [q]; rfl)
    cases r with
    | lst r =>
      refine ⟨_, e, ?_⟩
      have z := w F (del H l) σ l _ (Ex.refl _) (E.drop q e) del_same r
      rw [del_upd hl] at z
      exact z
  · exact w.elim
theorem ds_raise {n : Str} {C : Addr} (hC : mg n = some (.ref C)) : DS K L mg W (fun _ σ H => W (.ref C) none σ H) (sRaise n) := fun F0 H0 F H σ ρ D E w => w F H σ (Ex.refl _) E C hC
theorem ds_if (ht : DT K L mg W tt tf) (h1 : DS K L mg W t g) (h2 : DS K L mg W u h) : DS K L mg W (tIfS tt t u) (sIf tf g h) := fun F0 H0 F H σ ρ D E w => by
  refine ht F0 H0 F H σ ρ _ E (post_mono (WO.of E w) (fun c k F1 H1 s => ?_) fun _ z => z)
  cases c with
  | true => exact iteT (h1 F0 H0 F1 H1 σ ρ D (E.step s) (WO.mono s.ff k))
  | false => exact iteF (h2 F0 H0 F1 H1 σ ρ D (E.step s) (WO.mono s.ff k))
theorem ds_frz {i : Nat} (h1 : DS K L mg W t g) : DS K L mg W t (sFrz i g) := fun F0 H0 F H σ ρ D E w => by
  unfold sFrz frz at w
  cases q : ρ[i]? with
  | none => rw [q] at w; exact h1 F0 H0 F H σ ρ D E w
  | some s =>
    rw [q] at w
    cases s with
    | own ds =>
      obtain ⟨F', ef, E'⟩ := E.frz q
      exact h1 F0 H0 F' H σ _ D E' (WO.mono ef w)
    | none => exact h1 F0 H0 F H σ ρ D E w
    | pin _ => exact h1 F0 H0 F H σ ρ D E w
    | val d => exact h1 F0 H0 F H σ ρ D E w
    | err n => exact h1 F0 H0 F H σ ρ D E w

/-! ### targets -/
theorem wipe_get (σ : St) : ∀ (vs : List Nat) (j : Nat), (wipe σ vs)[j]? = if j ∈ vs then (σ[j]?).map (fun _ => none) else σ[j]?
  | [], j => by simp [wipe]
  | v :: vs, j => by
    unfold wipe
    rw [List.getElem?_set, wipe_length]
    by_cases q : v = j
    · subst q
      simp
      cases r : σ[v]? with
      | none => rw [List.getElem?_eq_none_iff] at r; rw [if_neg (by omega)]; rfl
      | some o => obtain ⟨hl, _⟩ := List.getElem?_eq_some_iff.mp r; rw [if_pos hl]; rfl
    · rw [if_neg q, wipe_get σ vs j]
      have e : (j ∈ v :: vs) ↔ j ∈ vs := ⟨fun h => (List.mem_cons.mp h).resolve_left fun z => q z.symm, List.mem_cons_of_mem _⟩
      simp only [e]
theorem wipe_set {σ : St} {i : Nat} {o : Option V} {vs : List Nat} (h : i ∈ vs) : wipe (σ.set i o) vs = wipe σ vs := by
  refine List.ext_getElem? fun j => ?_
  rw [wipe_get, wipe_get, List.getElem?_set]
  by_cases q : i = j
  · subst q
    rw [if_pos h, if_pos h, if_pos rfl]
    split
    · rw [List.getElem?_eq_getElem (by assumption)]; rfl
    · rw [List.getElem?_eq_none (by omega)]
  · rw [if_neg q]
theorem wipe_wipe {σ : St} {vs : List Nat} : wipe (wipe σ vs) vs = wipe σ vs := by
  refine List.ext_getElem? fun j => ?_
  rw [wipe_get, wipe_get]
  split
  · cases σ[j]? <;> rfl
  · rfl
theorem dg_name {i : Nat} : DG K L (gName i) (gN i) [i] := fun F0 H0 F H σ ρ v d Q ρ' E r q k => by
  cases q
  exact k _ (E.setv r i) fun vs h => wipe_set (h i (List.mem_singleton.mpr rfl))
theorem dgs_nil : DGs K L gNil gNil' [] := fun F0 H0 F H σ ρ vs ds Q ρ' E r q k => by
  unfold gNil' at q
  split at q
  · cases q; cases r; exact ⟨rfl, k σ E fun _ _ => rfl⟩
  · cases q
theorem dgs_cons {gs : TGs} {tgs : List Dn.D → Fr → Option Fr} {js : List Nat} (h1 : DG K L gg tg is) (h2 : DGs K L gs tgs js) : DGs K L (gCons gg gs) (gC tg tgs) (is ++ js) := fun F0 H0 F H σ ρ vs ds Q ρ' E r q k => by
  unfold gC at q
  split at q
  · rename_i d ds
    cases r with
    | cons r1 r2 =>
      cases q1 : tg d ρ with
      | none => rw [q1] at q; cases q
      | some ρ1 =>
        rw [q1] at q
        refine ⟨_, _, rfl, ?_⟩
        refine h1 F0 H0 F H σ ρ _ d _ ρ1 E r1 q1 fun σ1 E1 w1 => ?_
        refine h2 F0 H0 F H σ1 ρ1 _ ds _ ρ' E1 r2 q fun σ2 E2 w2 => ?_
        exact k σ2 E2 fun vs h => (w2 vs fun i hi => h i (List.mem_append_right _ hi)).trans (w1 vs fun i hi => h i (List.mem_append_left _ hi))
  · cases q
theorem dg_tup {gs : TGs} {tgs : List Dn.D → Fr → Option Fr} {n : Nat} (h : DGs K L gs tgs is) (hn : ∀ ds ρ ρ', tgs ds ρ = some ρ' → ds.length = n) : DG K L (gTup K n gs) (gT tgs) is := fun F0 H0 F H σ ρ v d Q ρ' E r q k => by
  unfold gT at q
  split at q
  · cases r with
    | tup a b => exact ⟨_, _, rfl, ex_t E.st.fh (.inl (.inl a)), by rw [b.length]; exact hn _ _ _ q, h F0 H0 F H σ ρ _ _ Q ρ' E b q k⟩
  · cases q
theorem gnil_len {ds : List Dn.D} {ρ ρ' : Fr} (h : gNil' ds ρ = some ρ') : ds.length = 0 := by
  unfold gNil' at h
  split at h
  · rfl
  · cases h
theorem gC_len {tgs : List Dn.D → Fr → Option Fr} {n : Nat} (hn : ∀ ds ρ ρ', tgs ds ρ = some ρ' → ds.length = n) (ds : List Dn.D) (ρ ρ' : Fr) (h : gC tg tgs ds ρ = some ρ') : ds.length = n + 1 := by
  unfold gC at h
  split at h
  · rename_i d ds
    cases q1 : tg d ρ with
    | none => rw [q1] at h; cases h
    | some ρ1 => rw [q1] at h; rw [List.length_cons, hn _ _ _ h]
  · cases h

/-! ### l[k] = v, methods that change -/
theorem ownAt_eq {i : Nat} {ds : List Dn.D} (h : ownAt i ρ = some ds) : ownO ρ[i]? = some (.lst ds) := by
  unfold ownAt at h
  split at h
  · cases h; rename_i q; rw [q]; rfl
  · cases h; rename_i q; rw [q]; rfl
  · cases h
theorem RepO.isl {ho : HO} {ds : List Dn.D} (r : RepO K F ho (.lst ds)) : ∃ vs, ho = .lst vs ∧ RepL K F vs ds := by
  cases r with
  | lst r => exact ⟨_, rfl, r⟩
theorem ds_set {i : Nat} {tk : TE} {k : ME} (he : DF K L mg W te e) (hk : DE K L mg W tk k) : DS K L mg W (tAsg te (gSub (tVar i) tk rSetL)) (sSet i k e) := fun F0 H0 F H σ ρ D E w => by
  refine he F0 H0 F H σ ρ _ E (post_mono (WO.of E w) (fun d w1 F1 H1 v s r => ?_) fun _ z => z)
  have E1 := E.step s
  obtain ⟨ds, q, w2⟩ := WO.ofO w1
  have q := ownAt_eq q
  obtain ⟨l, ho, el, _⟩ := E1.ownv q
  refine ⟨_, el, ?_⟩
  refine hk F0 H0 F1 H1 σ ρ _ E1 (post_mono (WO.of E1 (WO.mono s.ff w2)) (fun j w3 F2 H2 x s2 r2 => ?_) fun _ z => z)
  have E2 := E1.step s2
  obtain ⟨ds', q3, w4⟩ := WO.ofO w3
  obtain ⟨l', ho', el', _, _, hl, rl, _⟩ := E2.ownv q
  rw [el] at el'
  cases el'
  obtain ⟨vs', rfl, rl'⟩ := rl.isl
  unfold setL at q3
  split at q3
  · rename_i jj
    cases qj : ixN ds.length jj with
    | none => rw [qj] at q3; cases q3
    | some n =>
      rw [qj] at q3
      cases q3
      obtain rfl := r2.isi
      refine ⟨l, vs', jj, n, rfl, rfl, hl, by rw [rl'.length]; exact qj, ?_⟩
      exact w4 F2 _ σ s2.ff (E2.mut q el (.lst (rl'.set (r.mono s2.ff) n)))
  · cases q3
/-- a method of a list that changes it -/
def RMD (K : PySem.W.Frag) (r : V → List V → Hp → VK → Prop) (fm : List Dn.D → List Dn.D → Option (List Dn.D × Dn.D)) : Prop :=
  ∀ F H l vs ds xs es ds' z (Q : VK), Ex F H → H l = some (.lst vs) → RepL K F vs ds → RepL K F xs es → fm ds es = some (ds', z) → (∀ ws v, RepL K F ws ds' → Rep K F v z → Q v (upd H l (.lst ws))) → r (.ref l) xs H Q
theorem tm_core {i : Nat} {r : V → List V → Hp → VK → Prop} {fm : List Dn.D → List Dn.D → Option (List Dn.D × Dn.D)} {tas : TA} {as : ML} (hr : RMD K r fm) (ha : DAF K L mg W tas as) (F0 H0 F H : Hp) (σ : St) (ρ : Fr) (D : Ends) (Q : VK) (kk : List Dn.D × Dn.D → Out) (E : Env K L F0 H0 F H σ ρ)
    (w : WO K mg W L F0 H0 F D (Out.ofO (ownAt i ρ) fun ds => Out.of (as ρ) ρ fun es => Out.ofO (fm ds es) kk))
    (kq : ∀ ds' z F1 H1 v, Ex F F1 → WO K mg W L F0 H0 F1 D (kk (ds', z)) → Env K L F0 H0 F1 H1 σ (putL i ds' ρ) → Rep K F1 v z → Q v H1) :
    tBM K "list" r (tVar i) tas σ H Q := by
  obtain ⟨ds, q, w2⟩ := WO.ofO w
  have q := ownAt_eq q
  obtain ⟨l, ho, el, _, _, hl0, rl0, _⟩ := E.ownv q
  obtain ⟨vs, rfl, _⟩ := rl0.isl
  refine ⟨_, el, .inl ⟨rfl, _, .of hl0⟩, ?_⟩
  refine ha F0 H0 F H σ ρ _ E (post_mono (WO.of E w2) (fun es w3 F1 H1 xs s r1 => ?_) fun _ z => z)
  have E1 := E.step s
  obtain ⟨⟨ds', z⟩, q3, w4⟩ := WO.ofO w3
  obtain ⟨l', ho', el', _, _, hl, rl, _⟩ := E1.ownv q
  rw [el] at el'
  cases el'
  obtain ⟨vs', rfl, rl'⟩ := rl.isl
  refine hr F1 H1 l vs' ds xs es ds' z _ s.fh hl rl' r1 q3 fun ws v rw' rz => ?_
  exact kq ds' z F1 _ v s.ff (WO.mono s.ff w4) (E1.mut q el (.lst rw')) rz
theorem ds_mut {i : Nat} {r : V → List V → Hp → VK → Prop} {fm : List Dn.D → List Dn.D → Option (List Dn.D × Dn.D)} {tas : TA} {as : ML} (hr : RMD K r fm) (ha : DAF K L mg W tas as) : DS K L mg W (tDrop (tBM K "list" r (tVar i) tas)) (sMut i fm as) := fun F0 H0 F H σ ρ D E w =>
  tm_core hr ha F0 H0 F H σ ρ D _ _ E w fun ds' z F1 H1 v e w1 E1 rz => w1 F1 H1 σ (Ex.refl _) E1
theorem ds_mutA {i j : Nat} {r : V → List V → Hp → VK → Prop} {fm : List Dn.D → List Dn.D → Option (List Dn.D × Dn.D)} {tas : TA} {as : ML} (hr : RMD K r fm) (ha : DAF K L mg W tas as) : DS K L mg W (tAsg (tBM K "list" r (tVar i) tas) (gName j)) (sMutA j i fm as) := fun F0 H0 F H σ ρ D E w =>
  tm_core hr ha F0 H0 F H σ ρ D _ _ E w fun ds' z F1 H1 v e w1 E1 rz => w1 F1 H1 _ (Ex.refl _) (E1.setv rz j)
theorem bm0_eq {r : V → List V → Hp → VK → Prop} {T : String} : tBM0 K T r te = tBM K T r te tNil := rfl
theorem ds_mut0 {i : Nat} {r : V → List V → Hp → VK → Prop} {fm : List Dn.D → List Dn.D → Option (List Dn.D × Dn.D)} (hr : RMD K r fm) : DS K L mg W (tDrop (tBM0 K "list" r (tVar i))) (sMut i fm aNil) := ds_mut hr daf_nil
theorem ds_mutA0 {i j : Nat} {r : V → List V → Hp → VK → Prop} {fm : List Dn.D → List Dn.D → Option (List Dn.D × Dn.D)} (hr : RMD K r fm) : DS K L mg W (tAsg (tBM0 K "list" r (tVar i)) (gName j)) (sMutA j i fm aNil) := ds_mutA hr daf_nil

/-! ### loops -/
theorem ds_for {wi : TI} {f : ML} (hi : DI K L mg W wi f) (hg : DG K L gg tg is) (hb : DS K L mg W t g) : DS K L mg W (tFor wi gg t) (sFor f tg g) := fun F0 H0 F H σ ρ D E w => by
  refine hi F0 H0 F H σ ρ _ E (post_mono (WO.of E w) (fun ds w1 F1 H1 J s src => ?_) fun _ z => z)
  obtain ⟨G, Y, wk, hG, hY⟩ := src
  refine for_it wk (fun i σ H => ∃ F ρ, Ex F1 F ∧ Env K L F0 H0 F H σ ρ ∧ WO K mg W L F0 H0 F D (loopFor (forB tg g) (ds.drop i) ρ)) ⟨F1, ρ, Ex.refl _, E.step s, by rw [List.drop_zero]; exact WO.mono s.ff w1⟩
    (fun i σ H _ ⟨F, ρ, e, E, _⟩ => hG F H e E.st.fh) ?_ ?_
  · rintro i x σ2 H2 H3 hlt ⟨F2, ρ2, e2, E2, w2⟩ y
    obtain ⟨F3, d, s3, hd, r3⟩ := hY i F2 H2 x H3 hlt e2 E2.st.fh y
    have ed : ds.drop i = d :: ds.drop (i + 1) := by
      obtain ⟨h1, h2⟩ := List.getElem?_eq_some_iff.mp hd
      rw [List.drop_eq_getElem_cons h1, h2]
    rw [ed] at w2
    have w3 := WO.mono s3.ff w2
    unfold loopFor forB at w3
    cases q : tg d ρ2 with
    | none => rw [q] at w3; exact w3.elim
    | some ρ3 =>
      rw [q] at w3
      refine hg F0 H0 F3 H3 σ2 ρ2 x d _ ρ3 (E2.step s3) r3 q fun σ3 E3 _ => ?_
      refine hb F0 H0 F3 H3 σ3 ρ3 _ E3 ?_
      have w4 : WO K mg W L F0 H0 F3 D (match g ρ3 with
        | .nx ρ' => loopFor (forB tg g) (ds.drop (i + 1)) ρ'
        | .cont ρ' => loopFor (forB tg g) (ds.drop (i + 1)) ρ'
        | .brk ρ' => .nx ρ'
        | o => o) := w3
      cases qq : g ρ3 with
      | nx ρ4 => rw [qq] at w4; exact fun F4 H4 σ4 e4 E4 => ⟨F4, ρ4, e2.trans (s3.ff.trans e4), E4, WO.mono e4 w4⟩
      | cont ρ4 => rw [qq] at w4; exact fun F4 H4 σ4 e4 E4 => ⟨F4, ρ4, e2.trans (s3.ff.trans e4), E4, WO.mono e4 w4⟩
      | brk ρ4 => rw [qq] at w4; exact w4
      | ret d ρ => rw [qq] at w4; exact w4
      | retL ds ρ => rw [qq] at w4; exact w4
      | exc n ρ => rw [qq] at w4; exact w4
      | stuck => rw [qq] at w4; exact w4
  · rintro σ2 H2 ⟨F2, ρ2, e2, E2, w2⟩
    rw [List.drop_length] at w2
    exact w2 F2 H2 σ2 (Ex.refl _) E2
theorem ds_while (hc : DT K L mg W tt tf) (hb : DS K L mg W t g) : DS K L mg W (tWhile tt t) (sWhile tf g) := fun F0 H0 F H σ ρ D E w => by
  refine ⟨fun m σ H => ∃ F ρ, Env K L F0 H0 F H σ ρ ∧ WO K mg W L F0 H0 F D (loopWhile tf g m ρ), ⟨fuel, F, ρ, E, w⟩, ?_⟩
  rintro m σ2 H2 ⟨F2, ρ2, E2, w2⟩
  cases m with
  | zero => exact w2.elim
  | succ m =>
    have w3 : WO K mg W L F0 H0 F2 D (Out.of (tf ρ2) ρ2 fun b => if b = true then (match g ρ2 with
      | .nx ρ' => loopWhile tf g m ρ'
      | .cont ρ' => loopWhile tf g m ρ'
      | .brk ρ' => .nx ρ'
      | o => o) else .nx ρ2) := w2
    refine hc F0 H0 F2 H2 σ2 ρ2 _ E2 (post_mono (WO.of E2 w3) (fun b w4 F3 H3 s3 => ?_) fun _ z => z)
    cases b with
    | false => exact iteF ((WO.mono s3.ff w4) F3 H3 σ2 (Ex.refl _) (E2.step s3))
    | true =>
      refine iteT ⟨fun σ' H' => ∃ m', m' < m + 1 ∧ ∃ F ρ, Env K L F0 H0 F H' σ' ρ ∧ WO K mg W L F0 H0 F D (loopWhile tf g m' ρ), fun _ _ z => z, ?_⟩
      refine hb F0 H0 F3 H3 σ2 ρ2 _ (E2.step s3) ?_
      have w5 := WO.mono s3.ff w4
      rw [if_pos rfl] at w5
      cases qq : g ρ2 with
      | nx ρ4 => rw [qq] at w5; exact fun F4 H4 σ4 e4 E4 => ⟨m, Nat.lt_succ_self _, F4, ρ4, E4, WO.mono e4 w5⟩
      | cont ρ4 => rw [qq] at w5; exact fun F4 H4 σ4 e4 E4 => ⟨m, Nat.lt_succ_self _, F4, ρ4, E4, WO.mono e4 w5⟩
      | brk ρ4 => rw [qq] at w5; exact w5
      | ret d ρ => rw [qq] at w5; exact w5
      | retL ds ρ => rw [qq] at w5; exact w5
      | exc n ρ => rw [qq] at w5; exact w5
      | stuck => rw [qq] at w5; exact w5

/-! ### comprehensions -/
theorem wipeF_len (ρ : Fr) : ∀ vs : List Nat, (wipeF ρ vs).length = ρ.length
  | [] => rfl
  | v :: vs => by unfold wipeF; rw [List.length_set, wipeF_len ρ vs]
theorem Env.setn (E : Env K L F0 H0 F H σ ρ) (i : Nat) : Env K L F0 H0 F H (σ.set i none) (ρ.set i .none) := E.setx (s := .none) rfl trivial i
theorem Env.wipe (E : Env K L F0 H0 F H σ ρ) : ∀ vs : List Nat, Env K L F0 H0 F H (L2.wipe σ vs) (wipeF ρ vs)
  | [] => E
  | v :: vs => (E.wipe vs).setn v
theorem post_noX {α : Type} {m : M α} {kx : α → Prop} {ke : Str → Prop} (h : ∃ z, noX m = .ok z ∧ kx z) : post m kx ke := by
  obtain ⟨z, q, k⟩ := h
  cases m with
  | ok a => cases q; exact k
  | exc n => cases q
  | stuck => cases q
/-- a step beside a new object that is not frozen -/
theorem Step.beside {p : Addr} {o : HO} (ho : NTup o) (hp : H p = none) (hF : F p = none) (s : Step F (upd H p o) F' H') : Step F H F' (del H' p) ∧ F' p = none ∧ H' p = some o := by
  have h1 : F' p = none := s.nw p o hF upd_same ho
  have h2 : H' p = some o := s.hh p o upd_same
  refine ⟨⟨s.ff, fun a u q => ?_, fun a u f h h3 => ?_, fun a u q => ?_⟩, h1, h2⟩
  · have ne : a ≠ p := ne_of_none q hp
    rw [del_ne ne]
    exact s.hh a u (by rw [upd_ne ne]; exact q)
  · have ne : a ≠ p := ne_of_none h hp
    exact s.nw a u f (by rw [upd_ne ne]; exact h) h3
  · have ne : a ≠ p := ne_of_none q h1
    rw [del_ne ne]
    exact s.fh a u q
theorem dl_lc {wi : TI} {f : ML} {vs : List Nat} (hi : DIB K L mg W wi f) (hg : DG K L gg tg is) (hv : ∀ i ∈ is, i ∈ vs) (ht : DT K L mg (fun _ _ _ _ => False) tt tf) (he : DF K L mg (fun _ _ _ _ => False) te e) :
    DL K L mg W (tLc wi gg tt te vs) (eLc f tg tf e vs) := fun F0 H0 F H σ ρ Q E p => by
  refine hi F0 H0 F H σ ρ _ E (post_mono (post_bind p) (fun ds k F1 H1 J s src => ?_) fun _ z => z)
  obtain ⟨G, Y, wk, hG, hY⟩ := src
  intro Z hZ
  have E1 := E.step s
  refine lc_it wk (fun i Hc => ∃ F2 H2 acc accd, Step F1 H1 F2 H2 ∧ F2 Z = none ∧ H2 Z = none ∧ Hc = upd H2 Z (.lst acc) ∧ RepL K F2 acc accd ∧ post (loopLc tg tf e vs ρ (ds.drop i) accd) (fun ds => WN K F H ds Q) (WE' mg W F H σ))
    ⟨F1, H1, [], [], Step.refl s.fh, s.fh.free hZ, hZ, rfl, .nil, by rw [List.drop_zero]; exact k⟩ ?_ ?_ ?_
  · rintro i Hc _ ⟨F2, H2, acc, accd, s2, f2, l2, rfl, r2, k2⟩
    exact hG F2 _ s2.ff (s2.hh.trans (Ex.new l2)) (s2.fh.trans (Ex.new l2))
  · rintro i x Hc Hy hlt ⟨F2, H2, acc, accd, s2, f2, l2, rfl, r2, k2⟩ y
    obtain ⟨F3, d, s3, hd, r3⟩ := hY i F2 _ x Hy hlt s2.ff (s2.hh.trans (Ex.new l2)) (s2.fh.trans (Ex.new l2)) y
    have ed : ds.drop i = d :: ds.drop (i + 1) := by
      obtain ⟨h1, h2⟩ := List.getElem?_eq_some_iff.mp hd
      rw [List.drop_eq_getElem_cons h1, h2]
    rw [ed] at k2
    unfold loopLc at k2
    cases q : tg d (wipeF ρ vs) with
    | none => rw [q] at k2; exact k2.elim
    | some ρ' =>
      rw [q] at k2
      have E2 : Env K L F0 H0 F2 (upd H2 Z (.lst acc)) σ ρ := (E1.step s2).step (Step.new0 s2.fh l2)
      have E3 := (E2.step s3).wipe vs
      refine hg F0 H0 F3 Hy _ _ x d _ ρ' E3 r3 q fun σ' E4 wz => ⟨(wz vs hv).trans wipe_wipe, ?_⟩
      refine ht F0 H0 F3 Hy σ' ρ' _ E4 (post_noX ?_)
      have k2 : post ((noX (tf ρ')).bind fun b => if b = true then (noX (e ρ')).bind fun y => if accd.length < sizeLine then loopLc tg tf e vs ρ (ds.drop (i + 1)) (accd ++ [y]) else .stuck else loopLc tg tf e vs ρ (ds.drop (i + 1)) accd) (fun ds => WN K F H ds Q) (WE' mg W F H σ) := k2
      cases qt : noX (tf ρ') with
      | exc n =>
        exfalso
        cases z : tf ρ' with
        | ok a => rw [z] at qt; cases qt
        | exc n => rw [z] at qt; cases qt
        | stuck => rw [z] at qt; cases qt
      | stuck => rw [qt] at k2; exact k2.elim
      | ok b =>
        rw [qt, M.bind_ok] at k2
        refine ⟨b, rfl, fun F4 H4 s4 => ?_⟩
        have s24 := s3.trans s4
        cases b with
        | false =>
          rw [if_neg Bool.false_ne_true] at k2
          refine iteF ?_
          obtain ⟨sb, fb, hb⟩ := Step.beside (o := .lst _) (fun _ z => nomatch z) l2 f2 s24
          exact ⟨F4, del H4 Z, acc, accd, s2.trans sb, fb, del_same, (del_upd hb).symm, r2.mono s24.ff, k2⟩
        | true =>
          rw [if_pos rfl] at k2
          refine iteT ?_
          refine he F0 H0 F4 H4 σ' ρ' _ (E4.step s4) (post_noX ?_)
          cases qe : noX (e ρ') with
          | exc n =>
            exfalso
            cases z : e ρ' with
            | ok a => rw [z] at qe; cases qe
            | exc n => rw [z] at qe; cases qe
            | stuck => rw [z] at qe; cases qe
          | stuck => rw [qe] at k2; exact k2.elim
          | ok yd =>
            rw [qe, M.bind_ok] at k2
            refine ⟨yd, rfl, fun F5 H5 v s5 r5 => ?_⟩
            have s25 := s24.trans s5
            obtain ⟨sb, fb, hb⟩ := Step.beside (o := .lst _) (fun _ z => nomatch z) l2 f2 s25
            have ra := r2.mono s25.ff
            split at k2
            · rename_i hz
              refine ⟨acc, hb, by rw [ra.length]; exact hz, ?_⟩
              refine ⟨F5, del H5 Z, acc ++ [v], accd ++ [yd], s2.trans sb, fb, del_same, ?_, ra.append (.cons r5 .nil), k2⟩
              funext b
              by_cases qb : b = Z
              · subst qb; rw [upd_same, upd_same]
              · rw [upd_ne qb, upd_ne qb, del_ne qb]
            · exact k2.elim
  · rintro Hc ⟨F2, H2, acc, accd, s2, f2, l2, rfl, r2, k2⟩
    rw [List.drop_length] at k2
    exact k2 F2 H2 Z acc (s.trans s2) l2 r2
theorem dt_yes : DT K L mg W tYes tYesF := fun F0 H0 F H σ ρ Q E p => p F H (Step.refl E.st.fh)

/-! ### calls -/
/-- a def that reckons f -/
def spD (K : PySem.W.Frag) (mg : Str → Option Value) (f : List Dn.D → M Dn.D) : Sp := fun vs H Q E => ∃ F ds, Ex F H ∧ RepL K F vs ds ∧
  post (f ds) (fun d => WF K F H d Q) (fun n => ∀ F' H', Step F H F' H' → ∀ C, mg n = some (.ref C) → E (.ref C) none H')
theorem df_call {f : List Dn.D → M Dn.D} {tas : TA} {as : ML} (ha : DAF K L mg W tas as) : DF K L mg W (tCallS (spD K mg f) (WE W) tas) (eCall f as) := fun F0 H0 F H σ ρ Q E p => by
  refine ha F0 H0 F H σ ρ _ E (post_mono (post_bind p) (fun ds k F1 H1 xs s1 r1 => ?_) fun _ z => z)
  refine ⟨F1, ds, s1.fh, r1, post_mono k (fun d k2 => WF.on s1 k2) fun n z F' H' s' C hC => z F' H' (s1.trans s') C hC⟩
/-! .. with arguments as they are, and an answer that holds no list and no dict -/
mutual
def scalD : Dn.D → Bool
  | .none => true
  | .bool _ => true
  | .int _ => true
  | .str _ => true
  | .tuple ds => scalDs ds
  | .list _ => false
  | .dict _ => false
def scalDs : List Dn.D → Bool
  | [] => true
  | d :: ds => scalD d && scalDs ds
end
def eCallS (f : List Dn.D → M Dn.D) (as : ML) : ME := fun ρ => (as ρ).bind fun ds => (f ds).bind fun d => if scalD d = true then .ok d else .stuck
theorem rd_kind {F F' : Hp} {a : Addr} {xs : List V} (h : Rd F a (.tup xs)) (k : ∀ o, F a = some o → (∀ ys, o ≠ .lst ys) → (∀ ys, o ≠ .dK ys) → (∀ ys, o ≠ .dT ys) → F' a = some o) : Rd F' a (.tup xs) := by
  rcases h with h | ⟨o, h⟩
  · exact .inl (k _ h (fun _ => by intro z; cases z) (fun _ => by intro z; cases z) (fun _ => by intro z; cases z))
  · exact .inr ⟨o, k _ h (fun _ => by intro z; cases z) (fun _ => by intro z; cases z) (fun _ => by intro z; cases z)⟩
mutual
theorem Rep.scal {F F' : Hp} (k : ∀ a o, F a = some o → (∀ ys, o ≠ .lst ys) → (∀ ys, o ≠ .dK ys) → (∀ ys, o ≠ .dT ys) → F' a = some o) : ∀ {v : V} {d : Dn.D}, scalD d = true → Rep K F v d → Rep K F' v d
  | _, _, _, .non => .non
  | _, _, _, .bl b => .bl b
  | _, _, _, .int i => .int i
  | _, _, _, .str x => .str x
  | _, _, h, .lst _ _ => by simp [scalD] at h
  | _, _, h, .tup s r => .tup (k _ _ s (fun _ z => nomatch z) (fun _ z => nomatch z) (fun _ z => nomatch z)) (RepL.scal k (by simpa [scalD] using h) r)
  | _, _, h, .scr _ _ _ => by simp [scalD] at h
  | _, _, h, .dK _ _ _ => by simp [scalD] at h
  | _, _, h, .dT _ _ _ => by simp [scalD] at h
  | _, _, h, .dKf _ _ _ => by simp [scalD] at h
  | _, _, h, .dTf _ _ _ => by simp [scalD] at h
  | _, _, h, .exc _ _ _ => by simp [scalD] at h
  | _, _, h, .ktp _ _ _ _ _ => by simp [scalD] at h
  | _, _, h, .fnc _ _ => by simp [scalD] at h
theorem RepL.scal {F F' : Hp} (k : ∀ a o, F a = some o → (∀ ys, o ≠ .lst ys) → (∀ ys, o ≠ .dK ys) → (∀ ys, o ≠ .dT ys) → F' a = some o) : ∀ {vs : List V} {ds : List Dn.D}, scalDs ds = true → RepL K F vs ds → RepL K F' vs ds
  | _, _, _, .nil => .nil
  | _, _, h, .cons r t => by
    simp [scalDs] at h
    exact .cons (Rep.scal k h.1 r) (RepL.scal k h.2 t)
end
/-- a heap's lists and dicts are as if frozen -/
def boxes (F H : Hp) : Hp := fun a => match F a with
  | some o => some o
  | none => match H a with
    | some (.lst xs) => some (.lst xs)
    | some (.dK xs) => some (.dK xs)
    | some (.dT xs) => some (.dT xs)
    | _ => none
theorem boxes_ff {F H : Hp} : Ex F (boxes F H) := fun a o h => by
  unfold boxes
  rw [h]
theorem boxes_fh {F H : Hp} (ex : Ex F H) : Ex (boxes F H) H := fun a o h => by
  unfold boxes at h
  split at h
  · rename_i q
    cases h
    exact ex _ _ q
  · split at h
    · rename_i q; cases h; exact q
    · rename_i q; cases h; exact q
    · rename_i q; cases h; exact q
    · cases h
theorem boxes_at {F H : Hp} (ex : Ex F H) {a : Addr} {o : HO} (h : H a = some o) (k : (∃ ys, o = .lst ys) ∨ (∃ ys, o = .dK ys) ∨ ∃ ys, o = .dT ys) : boxes F H a = some o := by
  unfold boxes
  cases q : F a with
  | some u =>
    have := ex _ _ q
    rw [h] at this
    exact this.symm
  | none =>
    rw [h]
    rcases k with ⟨_, rfl⟩ | ⟨_, rfl⟩ | ⟨_, rfl⟩ <;> rfl
theorem RepB.box {v : V} {d : Dn.D} (ex : Ex F H) (h : RepB K F H v d) : Rep K (boxes F H) v d := by
  cases h with
  | frz r => exact r.mono boxes_ff
  | thg q r =>
    cases r with
    | lst r => exact .lst (boxes_at ex q (.inl ⟨_, rfl⟩)) (r.mono boxes_ff)
    | dK r => exact .dK (boxes_at ex q (.inr (.inl ⟨_, rfl⟩))) (r.mono boxes_ff) rfl
    | dT r => exact .dT (boxes_at ex q (.inr (.inr ⟨_, rfl⟩))) (r.mono boxes_ff) rfl
theorem RepBL.box (ex : Ex F H) : ∀ {vs : List V} {ds : List Dn.D}, RepBL K F H vs ds → RepL K (boxes F H) vs ds
  | _, _, .nil => .nil
  | _, _, .cons r t => .cons (r.box ex) (RepBL.box ex t)
/-- what is left of the callee's frozen heap -/
def keepN (F H F' : Hp) : Hp := fun a => match F a with
  | some o => some o
  | none => match H a with
    | some (.tup _) => F' a
    | some _ => none
    | none => F' a
theorem df_callS {f : List Dn.D → M Dn.D} {tas : TA} {as : ML} (ha : DA K L mg W tas as) : DF K L mg W (tCallS (spD K mg f) (WE W) tas) (eCallS f as) := fun F0 H0 F H σ ρ Q E p => by
  refine ha F0 H0 F H σ ρ _ E (post_mono (post_bind p) (fun ds k F1 H1 xs s1 r1 => ?_) fun _ z => z)
  have st : ∀ F' H', Step (boxes F1 H1) H1 F' H' → Step F H F1 H' := fun F' H' s' => s1.trans ⟨Ex.refl _, s'.hh, fun _ _ h _ _ => h, s1.fh.trans s'.hh⟩
  refine ⟨boxes F1 H1, ds, boxes_fh s1.fh, r1.box s1.fh, post_mono (post_bind k) (fun d k2 F' H' v s' rv => ?_) fun n z F' H' s' C hC => z F1 H' (st F' H' s') C hC⟩
  split at k2
  · rename_i hd
    have ex2 : Ex F1 (keepN F1 H1 F') := fun a o h => by unfold keepN; rw [h]
    have s2 : Step F1 H1 (keepN F1 H1 F') H' := by
      refine ⟨ex2, s'.hh, fun a u h1 h2 h3 => ?_, fun a o h => ?_⟩
      · unfold keepN
        rw [h1, h2]
        cases u with
        | tup xs => exact absurd rfl (h3 xs)
        | _ => rfl
      · unfold keepN at h
        split at h
        · rename_i q
          cases h
          exact s'.hh _ _ (s1.fh _ _ q)
        · split at h
          · exact s'.fh _ _ h
          · cases h
          · exact s'.fh _ _ h
    refine k2 _ H' v (s1.trans s2) (rv.scal (fun a o h n1 n2 n3 => ?_) hd)
    unfold keepN
    cases q : F1 a with
    | some u =>
      have := s'.ff _ _ (boxes_ff (H := H1) _ _ q)
      rw [h] at this
      exact this.symm
    | none =>
      cases q1 : H1 a with
      | none => exact h
      | some u =>
        by_cases ht : ∃ ys, u = .tup ys
        · obtain ⟨ys, rfl⟩ := ht
          exact h
        exfalso
        by_cases hk : (∃ ys, u = .lst ys) ∨ (∃ ys, u = .dK ys) ∨ ∃ ys, u = .dT ys
        · have z := s'.ff _ _ (boxes_at s1.fh q1 hk)
          rw [h] at z
          cases z
          rcases hk with ⟨ys, e⟩ | ⟨ys, e⟩ | ⟨ys, e⟩
          · exact n1 ys e
          · exact n2 ys e
          · exact n3 ys e
        · have bn : boxes F1 H1 a = none := by
            unfold boxes
            rw [q, q1]
            cases u with
            | lst ys => exact (hk (.inl ⟨_, rfl⟩)).elim
            | dK ys => exact (hk (.inr (.inl ⟨_, rfl⟩))).elim
            | dT ys => exact (hk (.inr (.inr ⟨_, rfl⟩))).elim
            | _ => rfl
          have z := s'.nw a u bn q1 (fun xs e => ht ⟨xs, e⟩)
          rw [h] at z
          cases z
  · exact k2.elim
end

/-- a call that gives a new list -/
def spL (K : PySem.W.Frag) (mg : Str → Option Value) (f : List Dn.D → M (List Dn.D)) : Sp := fun vs H Q E => ∃ F ds, Ex F H ∧ RepL K F vs ds ∧
  post (f ds) (fun d => WN K F H d Q) (fun n => ∀ F' H', Step F H F' H' → ∀ C, mg n = some (.ref C) → E (.ref C) none H')
def eCallL (f : List Dn.D → M (List Dn.D)) (as : ML) : ML := fun ρ => (as ρ).bind f
section
variable {K : PySem.W.Frag} {L : Addr × Addr} {mg : Str → Option Value} {W : WX}
theorem dl_call {f : List Dn.D → M (List Dn.D)} {tas : TA} {as : ML} (ha : DAF K L mg W tas as) : DL K L mg W (tCallS (spL K mg f) (WE W) tas) (eCallL f as) := fun F0 H0 F H σ ρ Q E p => by
  refine ha F0 H0 F H σ ρ _ E (post_mono (post_bind p) (fun ds k F1 H1 xs s1 r1 => ?_) fun _ z => z)
  refine ⟨F1, ds, s1.fh, r1, post_mono k (fun d k2 => WN.on s1 k2) fun n z F' H' s' C hC => z F' H' (s1.trans s') C hC⟩
end
/-! ### a def by its body -/
theorem env_start {K : PySem.W.Frag} {L : Addr × Addr} {F H : Hp} {N : List Str} {vs : List V} {ds : List D} (ex : Ex F H) (r : RepL K F vs ds) : Env K L F H F H (L2.start N vs) (start' N.length ds) where
  st := Step.refl ex
  len := by unfold L2.start start'; simp [r.length]
  sl := fun i s h => by
    unfold start' at h
    unfold L2.start
    rw [List.getElem?_append] at h ⊢
    simp only [List.length_map] at h ⊢
    rw [r.length]
    split at h
    · rename_i hl
      rw [if_pos hl]
      rw [List.getElem?_map] at h ⊢
      cases q : ds[i]? with
      | none => rw [q] at h; cases h
      | some d =>
        rw [q] at h
        cases h
        obtain ⟨v, e, rv⟩ := r.get' q
        rw [e]
        exact ⟨v, rfl, rv⟩
    · rw [List.getElem?_replicate] at h
      split at h
      · cases h; trivial
      · cases h
  sep := fun i j l h1 => by
    exfalso
    unfold start' isOwn at h1
    rw [List.getElem?_append] at h1
    split at h1
    · rw [List.getElem?_map] at h1
      cases q : ds[i]? with
      | none => rw [q] at h1; cases h1
      | some d => rw [q] at h1; cases h1
    · rw [List.getElem?_replicate] at h1
      split at h1 <;> cases h1
theorem body_ok {K : PySem.W.Frag} {mg : Str → Option Value} {t : TS} {g : MS} {N : List Str} {np : Nat} {vs : List V} {H : Hp} {Q : VK} {E : XK} (h : ∀ L, DS K L mg (fun cls d _ H => E cls d H) t g) (hs : spD K mg (mFn np N.length g) vs H Q E) :
    t { nx := fun _ H' => Q .non H', rt := Q } (L2.start N vs) H := by
  obtain ⟨F, ds, ex, r, p⟩ := hs
  refine h (0, 0) F H F H _ _ _ (env_start (N := N) ex r) ?_
  unfold mFn at p
  split at p
  · cases q : g (start' N.length ds) with
    | nx ρ => rw [q] at p; exact fun F' H' σ' e E' => p F' H' .non E'.st .non
    | ret d ρ => rw [q] at p; exact fun F' H' σ' v e E' rv => p F' H' v E'.st rv
    | retL ds ρ => rw [q] at p; exact fun F' H1 σ' l vs e E' n rv => p _ _ _ (E'.st.trans (Step.new E'.st.fh n)) (.lst upd_same (rv.mono (Ex.new (E'.st.fh.free n))))
    | exc n ρ => rw [q] at p; exact fun F' H' σ' e E' C hC => p F' H' E'.st C hC
    | brk ρ => rw [q] at p; exact p.elim
    | cont ρ => rw [q] at p; exact p.elim
    | stuck => rw [q] at p; exact p.elim
  · exact p.elim
/-- .. that gives a new list -/
def Out.l : Out → M (List D)
  | .retL ds _ => .ok ds
  | .exc n _ => .exc n
  | _ => .stuck
def mFnL (np N : Nat) (g : MS) (ds : List D) : M (List D) := if ds.length = np then (g (start' N ds)).l else .stuck
theorem body_okL {K : PySem.W.Frag} {mg : Str → Option Value} {t : TS} {g : MS} {N : List Str} {np : Nat} {vs : List V} {H : Hp} {Q : VK} {E : XK} (h : ∀ L, DS K L mg (fun cls d _ H => E cls d H) t g) (hs : spL K mg (mFnL np N.length g) vs H Q E) :
    t { nx := fun _ H' => Q .non H', rt := Q } (L2.start N vs) H := by
  obtain ⟨F, ds, ex, r, p⟩ := hs
  refine h (0, 0) F H F H _ _ _ (env_start (N := N) ex r) ?_
  unfold mFnL at p
  split at p
  · cases q : g (start' N.length ds) with
    | nx ρ => rw [q] at p; exact p.elim
    | ret d ρ => rw [q] at p; exact p.elim
    | retL ds ρ => rw [q] at p; exact fun F' H1 σ' l vs e E' n rv => p F' H1 l vs E'.st n rv
    | exc n ρ => rw [q] at p; exact fun F' H' σ' e E' C hC => p F' H' E'.st C hC
    | brk ρ => rw [q] at p; exact p.elim
    | cont ρ => rw [q] at p; exact p.elim
    | stuck => rw [q] at p; exact p.elim
  · exact p.elim
end Dn

set_option Elab.async false
set_option linter.all false
set_option maxRecDepth 100000
set_option maxHeartbeats 4000000
/-! DenG: enumerate over a tuple; what is walked -/
namespace PySem
set_option maxHeartbeats 2000000 in
theorem dn_enum_new1 {v : Value} {o : Obj} {H : Heap → Prop} (B : Begins v o H) :
    Meets (Builtin.«enumerate.__new__» ⟨[.type "enumerate", v], []⟩) (fun _ R s => H s.heap ∧
      R (.ok (.ret (.ref (s.heap.push o).objs.size))) { s with heap := (s.heap.push o).push { cls := .type "enumerate", data := .fields #[.none, .bool false, .ref s.heap.objs.size, rawInt 0, .none, .none] } }) :=
  .of_wp fun prog w A R s h => by
    obtain ⟨hp, g, d, tk, os⟩ := s; obtain ⟨h1, h⟩ := h
    have hsub := sub_enumerate
    have q1 : ∀ {A' : Around} {E : Value → Shared → Prop} {Q : Value → Shared → Prop}, Q (.ref hp.objs.size) ⟨hp.push o, g, d, tk, os⟩ → wpAny (model prog w) A' (pyIter v) Q E ⟨hp, g, d, tk, os⟩ :=
      fun q => B.iter prog w _ _ ⟨hp, g, d, tk, os⟩ _ h1 q
    wp_walk using q1
    refine wpAny_stack_any fun st => wpAny_pure ?_
    split
    · rename_i c _ _ _ _ _
      cases (c == Value.type "enumerate")
      · wp_walk using q1
        exact ⟨_, rfl, h⟩
      · wp_walk using q1
        exact ⟨_, rfl, h⟩
    · wp_walk using q1
      exact ⟨_, rfl, h⟩
section
variable {prog : Program} {w : World} {A : Around} {E : Value → Shared → Prop} {s : Shared}
theorem dn_enum_begins {v : Value} {o : Obj} {H : Heap → Prop} {Q : Value → Shared → Prop} (B : Begins v o H) (h1 : H s.heap)
    (h : ∀ h', IsEnum h' (s.heap.objs.size + 1) s.heap.objs.size 0 .none → h'.get? s.heap.objs.size = some o → h'.objs.size = s.heap.objs.size + 2 →
      (∀ b o, s.heap.get? b = some o → h'.get? b = some o) → Q (.ref (s.heap.objs.size + 1)) { s with heap := h' }) :
    wpAny (model prog w) A (call (.type "enumerate") [v]) Q E s := by
  refine callType_new F.called_enumerate (by decide) (F.typeCall_enumerate_1 _) (F.newCall_enumerate_1 _) (fun obj => F.args_object_init_2 obj _) F.entry_enumerate_new
    (dn_enum_new1 B) ⟨h1, ?_⟩
  have hz : (s.heap.push o).objs.size = s.heap.objs.size + 1 := Heap.size_push ..
  show _ ∧ _
  rw [hz]
  have he : IsEnum ((s.heap.push o).push { cls := .type "enumerate", data := .fields #[.none, .bool false, .ref s.heap.objs.size, rawInt 0, .none, .none] }) (s.heap.objs.size + 1) s.heap.objs.size 0 .none := by
    have := Heap.get?_push_size (s.heap.push o) (o := { cls := .type "enumerate", data := .fields #[.none, .bool false, .ref s.heap.objs.size, rawInt 0, .none, .none] }) rfl
    rw [hz] at this; exact this
  refine ⟨⟨_, he, rfl⟩, h _ he (Heap.get?_push_of_some _ (Heap.get?_push_size _ B.free)) (by rw [Heap.size_push, hz]) fun b o x => Heap.get?_push_of_some _ (Heap.get?_push_of_some _ x)⟩
end
end PySem
namespace Dn
open PySem PySem.Spec PyProof.Rows L2
/-- the tuple at a as it stands at each turn, each item in a new pair -/
def IteT (K : PySem.W.Frag) (a : Addr) : It :=
  ⟨fun i H => ∃ (xs : List V) (x : V), SqT K H a xs ∧ xs[i]? = some x, fun i H v H' => ∃ T x, v = .ref T ∧ H T = none ∧ H' = upd H T (.tup [.int (i : Nat), x]) ∧ ∀ xs, SqT K H a xs → xs[i]? = some x, fun i H => ∃ xs : List V, SqT K H a xs ∧ xs.length = i⟩
theorem turn_enumT {P : Program} {w : World} {K : PySem.W.Frag} {elts : List Expr} {kk : Nat} {tpos : Pos} (a e it : Addr) :
    Turn P w K (.Tuple elts kk tpos) (IteT K a) [e, it] e (fun i h => (∃ old, IsEnum h e it ((i : Nat) : Int) old) ∧ h.IsTupleIter it a i ∧ e ≠ it) where
  mem := by simp
  obj := fun i h st b hb => by
    obtain ⟨⟨old, he⟩, ⟨o, ho, hc, hd⟩, _⟩ := st
    have e' : b = e ∨ b = it := by simpa using hb
    rcases e' with z | z
    · rw [z]; exact ⟨_, he, fun v q => nomatch q⟩
    · rw [z]; exact ⟨o, ho, fun v q => by rw [hd] at q; cases q⟩
  keep := fun i h h' st k => let ⟨⟨old, he⟩, hi, hne⟩ := st; ⟨⟨old, k e (by simp) _ he⟩, hi.at fun o q => k it (by simp) o q, hne⟩
  item := by
    intro X hP hw hK hc i pins s σ H E I hf st hg
    subst hP hw hK
    obtain ⟨⟨old, he⟩, hit, hne⟩ := st
    obtain ⟨xs, x, hq, hx⟩ := hg
    obtain ⟨its, rv, p, hz⟩ := I.tuple hq
    obtain ⟨u, hu, ru⟩ := rv.get hx
    have hel : e < s.heap.objs.size := Heap.lt_size he
    have hil : it < s.heap.objs.size := by obtain ⟨_, q, _⟩ := hit; exact Heap.lt_size q
    have hae : a ≠ e := fun z => by
      obtain ⟨o, ho, hc, _⟩ := p
      rw [z] at ho
      rw [show s.heap.get? e = some _ from he] at ho
      cases ho
      injection hc with z2
      exact absurd z2 (by decide)
    have hai : a ≠ it := fun z => by
      obtain ⟨o, ho, hc, _⟩ := p
      obtain ⟨o2, ho2, hc2, _⟩ := hit
      rw [z, ho2] at ho
      cases ho
      rw [hc2] at hc
      injection hc with z2
      exact absurd z2 (by decide)
    have Dr := Draws.tuple (prog := X.prog) (w := X.w) (A := X.A.in1) (I.ok.hd hc) it a hai its.toArray
    have hlt : i < its.toArray.size := by
      rw [List.size_toArray]
      exact (List.getElem?_eq_some_iff.mp hu).1
    refine wpAny_pyNext_enum_itemC (c := ((i : Nat) : Int)) (i := i) Dr he ⟨hit, p⟩ hlt hne (by simp; exact ⟨hne, fun z => hae z.symm⟩) fun y h' tk hy ho st' hT hsz hk => ?_
    have hyu : y = u := by
      have hu' : its.toArray[i]? = some u := by simpa using hu
      rw [hu'] at hy
      exact (Option.some.inj hy).symm
    subst hyu
    refine ⟨_, rfl, wpAny_letOwnedTupleGo_enum (s := { s with heap := h', toks := tk + 1 }) ho fun h'' he' sb => ?_⟩
    have hT2 : h''.get? s.heap.objs.size = some { cls := .type "tuple", data := .seq #[.int i tk, y] } := (sb.2 _ (Nat.ne_of_gt hel)).trans hT
    have new : ObjOk X.prog X.w (upd H s.heap.objs.size (.tup [.int (i : Nat), x])) h'' s.heap.objs.size (.tup [.int (i : Nat), x]) :=
      ⟨by show 2 ≤ sizeLine; decide, [.int i tk, y], .cons ⟨_, rfl⟩ (.cons ru .nil), ⟨_, hT2, rfl, _, rfl⟩⟩
    have I1 : Inv X pins σ (upd H s.heap.objs.size (.tup [.int (i : Nat), x])) { s with heap := h'', toks := tk + 1 } :=
      I.turnedNew (ch := [e, it]) (fun b ob hb q => (sb.2 b (fun z => hb (by simp [z]))).trans (hk b ob (fun z => hb (by simp [z])) (fun z => hb (by simp [z])) q)) hf (Nat.le_refl _) new
    refine ⟨.ref s.heap.objs.size, _, I1, rfl, ⟨_, x, rfl, I.hok.fresh (Nat.le_refl _), rfl, fun ys hy => by rw [I.tuple_inj hy hq]; exact hx⟩, ⟨⟨y, ?_⟩, st'.1.at fun o q => (sb.2 it (Ne.symm hne)).trans q, hne⟩, fun b hb => ?_⟩
    · have e1 : ((i + 1 : Nat) : Int) = (i : Int) + 1 := by omega
      rw [e1]; exact he'
    · have hb' : b < s.heap.objs.size := by
        have e' : b = e ∨ b = it := by simpa using hb
        rcases e' with z | z
        · rw [z]; exact hel
        · rw [z]; exact hil
      rw [upd_ne (Nat.ne_of_lt hb')]
      exact (hf b hb).1
  done := by
    intro X hP hw hK hc i pins s σ H E I hf st hg
    subst hP hw hK
    obtain ⟨⟨old, he⟩, hit, hne⟩ := st
    obtain ⟨xs, hq, hx⟩ := hg
    obtain ⟨its, rv, p, hz⟩ := I.tuple hq
    obtain ⟨f0, f1, f2, f3, f4, f5⟩ := hf it (by simp)
    have hl := rv.length
    have hae : a ≠ e := fun z => by
      obtain ⟨o, ho, hc, _⟩ := p
      rw [z] at ho
      rw [show s.heap.get? e = some _ from he] at ho
      cases ho
      injection hc with z2
      exact absurd z2 (by decide)
    have hai : a ≠ it := fun z => by
      obtain ⟨o, ho, hc, _⟩ := p
      obtain ⟨o2, ho2, hc2, _⟩ := hit
      rw [z, ho2] at ho
      cases ho
      rw [hc2] at hc
      injection hc with z2
      exact absurd z2 (by decide)
    have Dr := Draws.tuple (prog := X.prog) (w := X.w) (A := X.A.in1) (I.ok.hd hc) it a hai its.toArray
    have ei : i = its.toArray.size := by rw [List.size_toArray]; omega
    subst ei
    exact wpAny_pyNext_enum_endD Dr he ⟨hit, p⟩ fun h' eb => ⟨rfl, I.turned (t' := s.toks) (fun b o hb q => eb b o hb q) f0 f1 f3 f4 f5⟩
  self := fun A i s Q E st h => let ⟨⟨_, he⟩, _⟩ := st; wpAny_pyIter_enum he h
/-- enumerate(x), x a list or a tuple -/
def iEnumU (K : PySem.W.Frag) (ta : TA) : TI := fun σ H R => ta σ H fun vs H1 => ∃ a xs, vs = [.ref a] ∧ ((SqL K H1 a xs ∧ R (Ite K a) H1) ∨ (SqT K H1 a xs ∧ R (IteT K a) H1))
theorem pi_enumU {X : Cx} {e : Expr} {ta : TA} {p pos tpos : Pos} {elts : List Expr} {kk : Nat} (hg : Gl X "enumerate") (hm : X.mg "enumerate" = none) (ha : PA X [e] ta) (hs : starEach [e] X.env = [(false, eval e X.env)] := by rfl) :
    PI X (.Tuple elts kk tpos) (.Call (.Name "enumerate" p) [e] [] pos) (iEnumU X.K ta) := by
  refine ⟨fun pins s σ H R I h => ?_⟩
  refine Call_ (ld_blt I hg hm boot_enumerate (PyProof.Rows.callWith_type1 (thn (ha.run pos pins s σ H _ I h) fun us s1 ⟨vs, H1, I1, r1, q1⟩ => ?_) hs rfl))
  obtain ⟨a, xs, ex, q⟩ := q1
  subst ex
  cases r1 with
  | cons r rr =>
    cases rr
    cases r
    have fin : ∀ (b : Addr), (b = s1.heap.objs.size + 1 ∨ b = s1.heap.objs.size) → FpOk X pins H1 b := fun b e' => by
      have hle : s1.heap.objs.size ≤ b := by
        rcases e' with z | z
        · rw [z]; exact Nat.le_add_right _ _
        · rw [z]; exact Nat.le_refl _
      exact I1.fpOk hle (I1.hok.fresh hle)
    rcases q with ⟨hq, q⟩ | ⟨hq, q⟩
    · obtain ⟨its, rv, p', hz⟩ := I1.list hq
      refine call_enumerate_list p'.isList fun h' he hit hsz hk => wpAny_pyIter_enum he ?_
      have I2 : Inv X pins σ H1 { s1 with heap := h' } := I1.kept (t' := s1.toks) hk
      exact ⟨s1.heap.objs.size + 1, [s1.heap.objs.size + 1, s1.heap.objs.size], _, _, H1, rfl, I2, turn_enum a (s1.heap.objs.size + 1) s1.heap.objs.size, ⟨⟨.none, he⟩, hit, Nat.succ_ne_self _⟩, fun b hb => fin b (by simpa using hb), q⟩
    · obtain ⟨its, rv, p', hz⟩ := I1.tuple hq
      refine dn_enum_begins (begins_tuple a its.toArray) p' fun h' he hit hsz hk => wpAny_pyIter_enum he ?_
      have I2 : Inv X pins σ H1 { s1 with heap := h' } := I1.kept (t' := s1.toks) hk
      exact ⟨s1.heap.objs.size + 1, [s1.heap.objs.size + 1, s1.heap.objs.size], _, _, H1, rfl, I2, turn_enumT a (s1.heap.objs.size + 1) s1.heap.objs.size, ⟨⟨.none, he⟩, ⟨_, hit, rfl, rfl⟩, Nat.succ_ne_self _⟩, fun b hb => fin b (by simpa using hb), q⟩
/-- x a list or a tuple -/
def iSq (K : PySem.W.Frag) (tl : TE) : TI := fun σ H R => tl σ H fun x H1 => ∃ a xs, x = .ref a ∧ ((SqL K H1 a xs ∧ R (Itl K a) H1) ∨ (SqT K H1 a xs ∧ R (Itt K a) H1))
theorem pi_sq {X : Cx} {tg : Expr} {l : Expr} {tl : TE} (hl : PE X l tl) : PI X tg l (iSq X.K tl) := by
  refine ⟨fun pins s σ H R I h => ?_⟩
  refine thn (hl.run pins s σ H _ I h) fun v s1 ⟨x, H1, I1, r1, q1⟩ => ?_
  obtain ⟨a, xs, e, q⟩ := q1
  subst e
  cases r1
  rcases q with ⟨hq, q⟩ | ⟨hq, q⟩
  · obtain ⟨its, rv, p, hz⟩ := I1.list hq
    refine wpAny_pyIter_list p.isList ?_
    refine ⟨s1.heap.objs.size, [s1.heap.objs.size], _, _, H1, rfl, I1.kept (t' := s1.toks) fun b o e => Heap.get?_push_of_some _ e, turn_list a _, ⟨_, Heap.get?_push_size _ rfl, rfl, rfl⟩, fun b hb => ?_, q⟩
    have e : b = s1.heap.objs.size := by simpa using hb
    subst e
    exact I1.fpOk (Nat.le_refl _) (I1.hok.fresh (Nat.le_refl _))
  · obtain ⟨its, rv, p, hz⟩ := I1.tuple hq
    refine wpAny_pyIter_tuple (show s1.heap.IsTuple a its.toArray from p) ?_
    refine ⟨s1.heap.objs.size, [s1.heap.objs.size], _, _, H1, rfl, I1.kept (t' := s1.toks) fun b o e => Heap.get?_push_of_some _ e, turn_tuple a _, ⟨_, Heap.get?_push_size _ rfl, rfl, rfl⟩, fun b hb => ?_, q⟩
    have e : b = s1.heap.objs.size := by simpa using hb
    subst e
    exact I1.fpOk (Nat.le_refl _) (I1.hok.fresh (Nat.le_refl _))
theorem walk_enumT {K : PySem.W.Frag} {a : Addr} {xs : List V} : Walk (IteT K a) xs.length (fun H => SqT K H a xs) (YPair (fun i => some (.int (i : Nat))) (fun i => xs[i]?)) where
  goes := fun i H hi g => ⟨xs, xs[i], g, by simp [hi]⟩
  stops := fun H g => ⟨xs, g, rfl⟩
  yields := fun i H v H' hi g y => by
    obtain ⟨T, x, e, n, eh, q⟩ := y
    exact ⟨T, _, x, e, n, eh, rfl, q xs g⟩

/-! ### the walks over data -/
def itemsD (d : D) : M (List D) := lift (seq? d)
def iE (e : ME) : ML := fun ρ => (e ρ).bind itemsD
def enumL (ds : List D) : List D := ds.mapIdx fun i d => .tuple [.int i, d]
def iEn (as : ML) : ML := fun ρ => (as ρ).bind fun xs => match xs with
  | [d] => (itemsD d).bind fun ds => .ok (enumL ds)
  | _ => .stuck
def rngL (lo hi : Int) : List D := (List.range (hi - lo).toNat).map fun i => .int (lo + (i : Nat))
open Classical in
noncomputable def iR1 (as : ML) : ML := fun ρ => (as ρ).bind fun xs => match xs with
  | [.int j] => if In62 j then .ok (rngL 0 j) else .stuck
  | _ => .stuck
open Classical in
noncomputable def iR2 (as : ML) : ML := fun ρ => (as ρ).bind fun xs => match xs with
  | [.int i, .int j] => if In62 i ∧ In62 j then .ok (rngL i j) else .stuck
  | _ => .stuck
/-- range(i, j, -1) -/
def rngDn (i j : Int) : List D := (List.range (i - j).toNat).map fun k => .int (i - (k : Nat))
open Classical in
noncomputable def iR3 (as : ML) : ML := fun ρ => (as ρ).bind fun xs => match xs with
  | [.int i, .int j, .int c] => if c = -1 ∧ In62 i ∧ In62 j then .ok (rngDn i j) else .stuck
  | _ => .stuck
def iRev' (e : ME) : ML := fun ρ => (e ρ).bind fun d => (itemsD d).bind fun ds => .ok ds.reverse
def iS (e : ME) : ML := fun ρ => (e ρ).bind fun d => match d with
  | .str z => .ok (z.cps.toList.map fun c => .str ⟨#[c]⟩)
  | _ => .stuck
section
variable {K : PySem.W.Frag} {L : Addr × Addr} {mg : Str → Option Value} {W : WX} {te : TE} {e : ME} {ta : TA} {as : ML} {F H F' H' : Hp} {J : It} {ds : List D} {a : Addr} {vs : List V}
theorem Src.b (h : Src K J F ds) : SrcB K J F H ds := by
  obtain ⟨G, Y, w, g, y⟩ := h
  exact ⟨G, Y, w, fun F1 H1 e1 _ e3 => g F1 H1 e1 e3, fun i F1 H1 x H2 hi e1 _ e3 => y i F1 H1 x H2 hi e1 e3⟩
theorem di_b {wi : TI} {f : ML} (h : DI K L mg W wi f) : DIB K L mg W wi f := fun F0 H0 F H σ ρ R E p =>
  h F0 H0 F H σ ρ R E (post_mono p (fun ds k F' H' J s q => k F' H' J s q.b) fun _ z => z)
theorem src_tup (h : SqT K F a vs) (r : RepL K F vs ds) : Src K (Itt K a) F ds :=
  ⟨_, _, r.length ▸ walk_tup (xs := vs), fun F1 H1 e1 e2 => ex_t (e1.trans e2) h, fun i F1 H1 x H2 hi e1 e2 y => by
    obtain ⟨rfl, q⟩ := y
    obtain ⟨d, hd, rd⟩ := r.get q
    exact ⟨F1, d, Step.refl e2, hd, rd.mono e1⟩⟩
theorem src_lst (h : SqL K F a vs) (r : RepL K F vs ds) : Src K (Itl K a) F ds :=
  ⟨_, _, r.length ▸ walk_list (xs := vs), fun F1 H1 e1 e2 => ex_l (e1.trans e2) h, fun i F1 H1 x H2 hi e1 e2 y => by
    obtain ⟨rfl, q⟩ := y
    obtain ⟨d, hd, rd⟩ := r.get q
    exact ⟨F1, d, Step.refl e2, hd, rd.mono e1⟩⟩
theorem srcB_lst (h : H a = some (.lst vs)) (r : RepL K F vs ds) : SrcB K (Itl K a) F H ds :=
  ⟨_, _, r.length ▸ walk_list (xs := vs), fun F1 H1 e1 e2 e3 => .of (e2 _ _ h), fun i F1 H1 x H2 hi e1 e2 e3 y => by
    obtain ⟨rfl, q⟩ := y
    obtain ⟨d, hd, rd⟩ := r.get q
    exact ⟨F1, d, Step.refl e3, hd, rd.mono e1⟩⟩
theorem enum_get {i : Nat} {d : D} (h : ds[i]? = some d) : (enumL ds)[i]? = some (.tuple [.int i, d]) := by
  unfold enumL
  rw [List.getElem?_mapIdx, h]
  rfl
theorem enum_y {F1 H1 H2 : Hp} {x : V} {i : Nat} (r : RepL K F vs ds) (e1 : Ex F F1) (e2 : Ex F1 H1) (y : YPair (fun i => some (.int (i : Nat))) (fun i => vs[i]?) i H1 x H2) : ∃ F' d, Step F1 H1 F' H2 ∧ (enumL ds)[i]? = some d ∧ Rep K F' x d := by
  obtain ⟨T, x1, y1, rfl, hn, rfl, h1, h2⟩ := y
  cases h1
  obtain ⟨d, hd, rd⟩ := r.get h2
  refine ⟨_, _, Step.new e2 hn, enum_get hd, .tup upd_same ?_⟩
  exact .cons (.int _) (.cons ((rd.mono e1).mono (Ex.new (e2.free hn))) .nil)
theorem enum_len : (enumL ds).length = ds.length := by unfold enumL; simp
theorem src_enumT (h : SqT K F a vs) (r : RepL K F vs ds) : Src K (IteT K a) F (enumL ds) :=
  ⟨_, _, (enum_len.trans r.length.symm) ▸ walk_enumT (xs := vs), fun F1 H1 e1 e2 => ex_t (e1.trans e2) h, fun i F1 H1 x H2 hi e1 e2 y => enum_y r e1 e2 y⟩
theorem src_enumL (h : SqL K F a vs) (r : RepL K F vs ds) : Src K (Ite K a) F (enumL ds) :=
  ⟨_, _, (enum_len.trans r.length.symm) ▸ walk_enum (xs := vs), fun F1 H1 e1 e2 => ex_l (e1.trans e2) h, fun i F1 H1 x H2 hi e1 e2 y => enum_y r e1 e2 y⟩
theorem srcB_enumL (h : H a = some (.lst vs)) (r : RepL K F vs ds) : SrcB K (Ite K a) F H (enumL ds) :=
  ⟨_, _, (enum_len.trans r.length.symm) ▸ walk_enum (xs := vs), fun F1 H1 e1 e2 e3 => .of (e2 _ _ h), fun i F1 H1 x H2 hi e1 e2 e3 y => enum_y r e1 e3 y⟩
theorem di_sq (he : DF K L mg W te e) : DI K L mg W (iSq K te) (iE e) := fun F0 H0 F H σ ρ R E p => by
  refine he F0 H0 F H σ ρ _ E (post_mono (post_bind p) (fun d k F1 H1 x s1 r1 => ?_) fun _ z => z)
  obtain ⟨ds, q, k⟩ := post_lift k
  unfold seq? at q
  split at q
  · cases q
    cases r1 with
    | lst h r => exact ⟨_, _, rfl, .inl ⟨.of (s1.fh _ _ h), k F1 H1 _ s1 (src_lst (.of h) r)⟩⟩
  · cases q
    cases r1 with
    | tup h r => exact ⟨_, _, rfl, .inr ⟨ex_t s1.fh (.inl (.inl h)), k F1 H1 _ s1 (src_tup (.inl (.inl h)) r)⟩⟩
  · cases q
    obtain ⟨l, vs, rfl, h, r⟩ := r1.iscr
    exact ⟨_, _, rfl, .inl ⟨ex_l s1.fh h, k F1 H1 _ s1 (src_lst h r)⟩⟩
  · cases q
    obtain ⟨l, vs, o, rfl, h, _, _, r⟩ := r1.iktp
    have h : SqT K F1 l vs := .inl (.inr ⟨o, h⟩)
    exact ⟨_, _, rfl, .inr ⟨ex_t s1.fh h, k F1 H1 _ s1 (src_tup h r)⟩⟩
  · cases q
theorem dib_sq (he : DE K L mg W te e) : DIB K L mg W (iSq K te) (iE e) := fun F0 H0 F H σ ρ R E p => by
  refine he F0 H0 F H σ ρ _ E (post_mono (post_bind p) (fun d k F1 H1 x s1 r1 => ?_) fun _ z => z)
  obtain ⟨ds, q, k⟩ := post_lift k
  unfold seq? at q
  split at q
  · cases q
    obtain ⟨l, vs, rfl, h, r⟩ := r1.isl s1.fh
    exact ⟨_, _, rfl, .inl ⟨.of h, k F1 H1 _ s1 (srcB_lst h r)⟩⟩
  · cases q
    obtain ⟨_, _, _, _, _, r1⟩ := r1.ist s1.fh
    cases r1 with
    | tup h r => exact ⟨_, _, rfl, .inr ⟨ex_t s1.fh (.inl (.inl h)), k F1 H1 _ s1 (src_tup (.inl (.inl h)) r).b⟩⟩
  · cases q
    obtain ⟨l, vs, rfl, h, r⟩ := r1.iscrF.iscr
    exact ⟨_, _, rfl, .inl ⟨ex_l s1.fh h, k F1 H1 _ s1 (src_lst h r).b⟩⟩
  · cases q
    obtain ⟨l, vs, o, rfl, h, _, _, r, _⟩ := r1.iktp
    have h : SqT K F1 l vs := .inl (.inr ⟨o, h⟩)
    exact ⟨_, _, rfl, .inr ⟨ex_t s1.fh h, k F1 H1 _ s1 (src_tup h r).b⟩⟩
  · cases q
theorem RepL.one' {d : D} (r : RepL K F vs [d]) : ∃ x, vs = [x] ∧ Rep K F x d := by
  cases r with
  | cons a b => cases b; exact ⟨_, rfl, a⟩
theorem di_enum (ha : DAF K L mg W ta as) : DI K L mg W (iEnumU K ta) (iEn as) := fun F0 H0 F H σ ρ R E p => by
  refine ha F0 H0 F H σ ρ _ E (post_mono (post_bind p) (fun xs k F1 H1 ys s1 r1 => ?_) fun _ z => z)
  split at k
  · obtain ⟨x, rfl, r2⟩ := r1.one'
    obtain ⟨ds, q, k⟩ := post_lift (post_bind k)
    unfold seq? at q
    split at q
    · cases q
      cases r2 with
      | lst h r => exact ⟨_, _, rfl, .inl ⟨.of (s1.fh _ _ h), k F1 H1 _ s1 (src_enumL (.of h) r)⟩⟩
    · cases q
      cases r2 with
      | tup h r => exact ⟨_, _, rfl, .inr ⟨ex_t s1.fh (.inl (.inl h)), k F1 H1 _ s1 (src_enumT (.inl (.inl h)) r)⟩⟩
    · cases q
      obtain ⟨l, vs, rfl, h, r⟩ := r2.iscr
      exact ⟨_, _, rfl, .inl ⟨ex_l s1.fh h, k F1 H1 _ s1 (src_enumL h r)⟩⟩
    · cases q
      obtain ⟨l, vs, o, rfl, h, _, _, r⟩ := r2.iktp
      have h : SqT K F1 l vs := .inl (.inr ⟨o, h⟩)
      exact ⟨_, _, rfl, .inr ⟨ex_t s1.fh h, k F1 H1 _ s1 (src_enumT h r)⟩⟩
    · cases q
  · exact k.elim
theorem dib_enum (ha : DA K L mg W ta as) : DIB K L mg W (iEnumU K ta) (iEn as) := fun F0 H0 F H σ ρ R E p => by
  refine ha F0 H0 F H σ ρ _ E (post_mono (post_bind p) (fun xs k F1 H1 ys s1 r1 => ?_) fun _ z => z)
  split at k
  · obtain ⟨x, rfl, r2⟩ := r1.one
    obtain ⟨ds, q, k⟩ := post_lift (post_bind k)
    unfold seq? at q
    split at q
    · cases q
      obtain ⟨l, vs, rfl, h, r⟩ := r2.isl s1.fh
      exact ⟨_, _, rfl, .inl ⟨.of h, k F1 H1 _ s1 (srcB_enumL h r)⟩⟩
    · cases q
      obtain ⟨_, _, _, _, _, r2⟩ := r2.ist s1.fh
      cases r2 with
      | tup h r => exact ⟨_, _, rfl, .inr ⟨ex_t s1.fh (.inl (.inl h)), k F1 H1 _ s1 (src_enumT (.inl (.inl h)) r).b⟩⟩
    · cases q
      obtain ⟨l, vs, rfl, h, r⟩ := r2.iscrF.iscr
      exact ⟨_, _, rfl, .inl ⟨ex_l s1.fh h, k F1 H1 _ s1 (src_enumL h r).b⟩⟩
    · cases q
      obtain ⟨l, vs, o, rfl, h, _, _, r, _⟩ := r2.iktp
      have h : SqT K F1 l vs := .inl (.inr ⟨o, h⟩)
      exact ⟨_, _, rfl, .inr ⟨ex_t s1.fh h, k F1 H1 _ s1 (src_enumT h r).b⟩⟩
    · cases q
  · exact k.elim
theorem rng_len {lo hi : Int} : (rngL lo hi).length = (hi - lo).toNat := by unfold rngL; simp
theorem src_rng {lo hi : Int} : Src K (Itr lo (hi - lo).toNat) F (rngL lo hi) := by
  have wk : Walk (Itr lo (hi - lo).toNat) (rngL lo hi).length (fun _ => True) (YFn fun i => .int (lo + i)) := by rw [rng_len]; exact walk_range
  refine ⟨_, _, wk, fun _ _ _ _ => trivial, fun i F1 H1 x H2 hi e1 e2 y => ?_⟩
  obtain ⟨rfl, rfl⟩ := y
  refine ⟨F1, .int (lo + i), Step.refl e2, ?_, .int _⟩
  rw [rng_len] at hi
  unfold rngL
  rw [List.getElem?_map, List.getElem?_range hi]
  rfl
theorem di_rng1 (ha : DA K L mg W ta as) : DI K L mg W (iRng1 ta) (iR1 as) := fun F0 H0 F H σ ρ R E p => by
  refine ha F0 H0 F H σ ρ _ E (post_mono (post_bind p) (fun xs k F1 H1 ys s1 rr => ?_) fun _ z => z)
  split at k
  · split at k
    · rename_i j c
      obtain ⟨x, rfl, r1⟩ := rr.one
      obtain rfl := r1.isi
      have q := src_rng (K := K) (F := F1) (lo := 0) (hi := j)
      rw [Int.sub_zero] at q
      exact ⟨_, rfl, c.1, c.2, k F1 H1 _ s1 q⟩
    · exact k.elim
  · exact k.elim
theorem di_rng2 (ha : DA K L mg W ta as) : DI K L mg W (iRng2 ta) (iR2 as) := fun F0 H0 F H σ ρ R E p => by
  refine ha F0 H0 F H σ ρ _ E (post_mono (post_bind p) (fun xs k F1 H1 ys s1 rr => ?_) fun _ z => z)
  split at k
  · split at k
    · rename_i i j c
      obtain ⟨x, y, rfl, r1, r2⟩ := rr.two
      obtain rfl := r1.isi
      obtain rfl := r2.isi
      exact ⟨_, _, rfl, ⟨c.1.1, c.1.2, c.2.1, c.2.2⟩, k F1 H1 _ s1 src_rng⟩
    · exact k.elim
  · exact k.elim
theorem src_rngDn {i j : Int} : Src K (Itc i (-1) (i - j).toNat) F (rngDn i j) := by
  have hl : (rngDn i j).length = (i - j).toNat := by unfold rngDn; simp
  have wk : Walk (Itc i (-1) (i - j).toNat) (rngDn i j).length (fun _ => True) (YFn fun k => .int (i + (k : Nat) * -1)) := by rw [hl]; exact walk_rangeC
  refine ⟨_, _, wk, fun _ _ _ _ => trivial, fun k F1 H1 x H2 hi e1 e2 y => ?_⟩
  obtain ⟨rfl, rfl⟩ := y
  refine ⟨F1, .int (i - k), Step.refl e2, ?_, ?_⟩
  · rw [hl] at hi
    unfold rngDn
    rw [List.getElem?_map, List.getElem?_range hi]
    rfl
  · have e : i + (k : Int) * -1 = i - k := by omega
    show Rep K F1 (V.int (i + (k : Int) * -1)) (.int (i - k))
    rw [e]
    exact .int _
theorem di_rng3 (ha : DA K L mg W ta as) : DI K L mg W (iRng3 ta) (iR3 as) := fun F0 H0 F H σ ρ R E p => by
  refine ha F0 H0 F H σ ρ _ E (post_mono (post_bind p) (fun xs k F1 H1 ys s1 rr => ?_) fun _ z => z)
  split at k
  · split at k
    · rename_i i j c hc
      cases rr with
      | cons r1 rr =>
        obtain ⟨y, z, rfl, r2, r3⟩ := rr.two
        obtain rfl := r1.isi
        obtain rfl := r2.isi
        obtain rfl := r3.isi
        obtain ⟨rfl, hb⟩ := hc
        exact ⟨i, j, -1, (i - j).toNat, rfl, RgC.neg hb.1.1 hb.1.2 hb.2.1 hb.2.2, k F1 H1 _ s1 src_rngDn⟩
    · exact k.elim
  · exact k.elim
/-- reversed(x) -/
theorem src_rev (h : SqL K F a vs) (r : RepL K F vs ds) : Src K (Itv K a vs.length) F ds.reverse := by
  have wk : Walk (Itv K a vs.length) ds.reverse.length (fun H => SqL K H a vs) (fun i H x H' => H' = H ∧ vs[vs.length - 1 - i]? = some x) := by rw [List.length_reverse, ← r.length]; exact walk_rev
  refine ⟨_, _, wk, fun F1 H1 e1 e2 => ex_l (e1.trans e2) h, fun i F1 H1 x H2 hi e1 e2 y => ?_⟩
  obtain ⟨rfl, q⟩ := y
  obtain ⟨d, hd, rd⟩ := r.get q
  rw [List.length_reverse] at hi
  refine ⟨F1, d, Step.refl e2, ?_, rd.mono e1⟩
  rw [List.getElem?_reverse hi, ← r.length]
  exact hd
theorem walk_revT {xs : List V} : Walk (RT.ItvT K a xs.length) xs.length (fun H => SqT K H a xs) (fun i H x H' => H' = H ∧ xs[xs.length - 1 - i]? = some x) where
  goes := fun i H hi g => ⟨hi, xs, xs[xs.length - 1 - i]'(by omega), g, by simp [show xs.length - 1 - i < xs.length by omega]⟩
  stops := fun H g => Nat.le_refl _
  yields := fun i H v H' hi g y => by
    obtain ⟨e, q⟩ := y
    exact ⟨e, q xs g⟩
theorem src_revT (h : SqT K F a vs) (r : RepL K F vs ds) : Src K (RT.ItvT K a vs.length) F ds.reverse := by
  have wk : Walk (RT.ItvT K a vs.length) ds.reverse.length (fun H => SqT K H a vs) (fun i H x H' => H' = H ∧ vs[vs.length - 1 - i]? = some x) := by rw [List.length_reverse, ← r.length]; exact walk_revT
  refine ⟨_, _, wk, fun F1 H1 e1 e2 => ex_t (e1.trans e2) h, fun i F1 H1 x H2 hi e1 e2 y => ?_⟩
  obtain ⟨rfl, q⟩ := y
  obtain ⟨d, hd, rd⟩ := r.get q
  rw [List.length_reverse] at hi
  refine ⟨F1, d, Step.refl e2, ?_, rd.mono e1⟩
  rw [List.getElem?_reverse hi, ← r.length]
  exact hd
theorem di_rev (he : DF K L mg W te e) : DI K L mg W (RT.iRevA K te) (iRev' e) := fun F0 H0 F H σ ρ R E p => by
  refine he F0 H0 F H σ ρ _ E (post_mono (post_bind p) (fun d k F1 H1 x s1 r1 => ?_) fun _ z => z)
  obtain ⟨ds, q, k⟩ := post_lift (post_bind k)
  unfold seq? at q
  split at q
  · cases q
    cases r1 with
    | lst h r => exact ⟨_, _, rfl, .inl ⟨.of (s1.fh _ _ h), k F1 H1 _ s1 (src_rev (.of h) r)⟩⟩
  · cases q
    cases r1 with
    | tup h r => exact ⟨_, _, rfl, .inr ⟨ex_t s1.fh (.inl (.inl h)), k F1 H1 _ s1 (src_revT (.inl (.inl h)) r)⟩⟩
  · cases q
    obtain ⟨l, vs, rfl, h, r⟩ := r1.iscr
    exact ⟨_, _, rfl, .inl ⟨ex_l s1.fh h, k F1 H1 _ s1 (src_rev h r)⟩⟩
  · cases q
    obtain ⟨l, vs, o, rfl, h, _, _, r⟩ := r1.iktp
    have h : SqT K F1 l vs := .inl (.inr ⟨o, h⟩)
    exact ⟨_, _, rfl, .inr ⟨ex_t s1.fh h, k F1 H1 _ s1 (src_revT h r)⟩⟩
  · cases q
/-- a text, sign by sign -/
theorem src_str {z : Str} : Src K (Its z) F (z.cps.toList.map fun c => .str ⟨#[c]⟩) := by
  have wk : Walk (Its z) (z.cps.toList.map fun c => (.str ⟨#[c]⟩ : D)).length (fun _ => True) (fun i H v H' => H' = H ∧ ∃ c, z.cps[i]? = some c ∧ v = .str ⟨#[c]⟩) := by rw [List.length_map, Array.length_toList]; exact walk_str
  refine ⟨_, _, wk, fun _ _ _ _ => trivial, fun i F1 H1 x H2 hi e1 e2 y => ?_⟩
  obtain ⟨rfl, c, q, rfl⟩ := y
  refine ⟨F1, .str ⟨#[c]⟩, Step.refl e2, ?_, .str _⟩
  rw [List.getElem?_map, Array.getElem?_toList, q]
  rfl
theorem di_str (he : DE K L mg W te e) : DI K L mg W (iStr te) (iS e) := fun F0 H0 F H σ ρ R E p => by
  refine he F0 H0 F H σ ρ _ E (post_mono (post_bind p) (fun d k F1 H1 x s1 r1 => ?_) fun _ z => z)
  split at k
  · obtain rfl := r1.iss
    exact ⟨_, rfl, k F1 H1 _ s1 src_str⟩
  · exact k.elim

/-! ### list(range(..)), tuple(range(..)) -/
open Classical in
noncomputable def rgLD (i j : Int) : M (List D) := if RgOk i j then .ok (rngL i j) else .stuck
theorem rgV_eq {i j : Int} : RepL K F (rgV i j) (rngL i j) := by
  have e : rngL i j = ((List.range (j - i).toNat).map fun k => i + (k : Nat)).map PyData.int := by unfold rngL; rw [List.map_map]; rfl
  have e2 : rgV i j = ((List.range (j - i).toNat).map fun k => i + (k : Nat)).map V.int := by unfold rgV; rw [List.map_map]; rfl
  rw [e, e2]
  exact repL_ints _
noncomputable def eRg1 (a : ME) : ML := fun ρ => (a ρ).bind fun x => (toI x).bind fun j => rgLD 0 j
noncomputable def eRg2 (a b : ME) : ML := fun ρ => (a ρ).bind fun x => (b ρ).bind fun y => (toI x).bind fun i => (toI y).bind fun j => rgLD i j
theorem rgLD_post {i j : Int} {kx : List D → Prop} {ke : Str → Prop} (h : post (rgLD i j) kx ke) : RgOk i j ∧ kx (rngL i j) := by
  unfold rgLD at h
  split at h
  · exact ⟨by assumption, h⟩
  · exact h.elim
variable {tb : TE} {b : ME}
theorem dl_rg1 (ha : DE K L mg W te e) : DL K L mg W (tLstRg (tRg1 te)) (eRg1 e) := fun F0 H0 F H σ ρ Q E p => by
  refine ha F0 H0 F H σ ρ _ E (post_mono (post_bind p) (fun d k F1 H1 x s1 r1 => ?_) fun _ z => z)
  obtain ⟨j, rfl, k⟩ := toI_post (post_bind k)
  obtain ⟨h1, k⟩ := rgLD_post k
  exact ⟨j, r1.isi, h1, fun q hq => k F1 H1 q _ s1 hq rgV_eq⟩
theorem dl_rg2 (ha : DE K L mg W te e) (hb : DE K L mg W tb b) : DL K L mg W (tLstRg (tRg2 te tb)) (eRg2 e b) := fun F0 H0 F H σ ρ Q E p => by
  refine ha F0 H0 F H σ ρ _ E (post_mono (post_bind p) (fun d k F1 H1 x s1 r1 => ?_) fun _ z => z)
  refine hb F0 H0 F1 H1 σ ρ _ (E.step s1) (post_mono (post_bind k) (fun d2 k2 F2 H2 y s2 r2 => ?_) fun n z => WE'.on s1 z)
  obtain ⟨i, rfl, k3⟩ := toI_post (post_bind k2)
  obtain ⟨j, rfl, k4⟩ := toI_post (post_bind k3)
  obtain ⟨h1, k5⟩ := rgLD_post k4
  exact ⟨i, j, r1.isi, r2.isi, h1, fun q hq => k5 F2 H2 q _ (s1.trans s2) hq rgV_eq⟩
def eTL (f : ML) : ME := fun ρ => (f ρ).bind fun ds => .ok (.tuple ds)
theorem df_trg1 (ha : DE K L mg W te e) : DF K L mg W (tTupRg (tRg1 te)) (eTL (eRg1 e)) := fun F0 H0 F H σ ρ Q E p => by
  refine ha F0 H0 F H σ ρ _ E (post_mono (post_bind (post_bind p)) (fun d k F1 H1 x s1 r1 => ?_) fun _ z => z)
  obtain ⟨j, rfl, k⟩ := toI_post (post_bind k)
  obtain ⟨h1, k⟩ := rgLD_post k
  refine ⟨j, r1.isi, h1, fun q hq => ?_⟩
  exact k _ _ _ (s1.trans (Step.new s1.fh hq)) (.tup upd_same rgV_eq)
theorem df_trg2 (ha : DE K L mg W te e) (hb : DE K L mg W tb b) : DF K L mg W (tTupRg (tRg2 te tb)) (eTL (eRg2 e b)) := fun F0 H0 F H σ ρ Q E p => by
  refine ha F0 H0 F H σ ρ _ E (post_mono (post_bind (post_bind p)) (fun d k F1 H1 x s1 r1 => ?_) fun _ z => z)
  refine hb F0 H0 F1 H1 σ ρ _ (E.step s1) (post_mono (post_bind k) (fun d2 k2 F2 H2 y s2 r2 => ?_) fun n z => WE'.on s1 z)
  obtain ⟨i, rfl, k3⟩ := toI_post (post_bind k2)
  obtain ⟨j, rfl, k4⟩ := toI_post (post_bind k3)
  obtain ⟨h1, k5⟩ := rgLD_post k4
  refine ⟨i, j, r1.isi, r2.isi, h1, fun q hq => ?_⟩
  exact k5 _ _ _ ((s1.trans s2).trans (Step.new s2.fh hq)) (.tup upd_same rgV_eq)

/-! ### methods that change a list -/
def appM (ds es : List D) : Option (List D × D) := match es with
  | [e] => if ds.length < sizeLine then some (ds ++ [e], .none) else none
  | _ => none
theorem rm_append : RMD K rAppend appM := by
  intro F H l vs ds xs es ds' z Q ex hl r ra h k
  unfold appM at h
  split at h
  · split at h
    · rename_i hz
      cases h
      obtain ⟨x, rfl, rx⟩ := ra.one'
      exact ⟨l, vs, x, rfl, rfl, hl, by rw [r.length]; exact hz, k _ _ (r.append (.cons rx .nil)) .non⟩
    · cases h
  · cases h
def extM (ds es : List D) : Option (List D × D) := match es with
  | [.list zs] => if ds.length + zs.length ≤ sizeLine then some (ds ++ zs, .none) else none
  | _ => none
theorem rm_extend : RMD K rExtend extM := by
  intro F H l vs ds xs es ds' z Q ex hl r ra h k
  unfold extM at h
  split at h
  · split at h
    · rename_i hz
      cases h
      obtain ⟨x, rfl, rx⟩ := ra.one'
      cases rx with
      | lst hb rb => exact ⟨l, _, vs, _, rfl, rfl, hl, ex _ _ hb, by rw [r.length, rb.length]; exact hz, k _ _ (r.append rb) .non⟩
    · cases h
  · cases h
def popM (ds es : List D) : Option (List D × D) := match es with
  | [] => (ds[ds.length - 1]?).map fun y => (ds.dropLast, y)
  | _ => none
theorem RepL.dropLast (r : RepL K F vs ds) : RepL K F vs.dropLast ds.dropLast := by
  rw [List.dropLast_eq_take, List.dropLast_eq_take, r.length]
  exact r.take _
theorem rm_pop : RMD K rPop popM := by
  intro F H l vs ds xs es ds' z Q ex hl r ra h k
  unfold popM at h
  split at h
  · cases q : ds[ds.length - 1]? with
    | none => rw [q] at h; cases h
    | some y =>
      rw [q] at h
      cases h
      cases ra
      obtain ⟨v, hv, rv⟩ := r.get' q
      exact ⟨l, vs, v, rfl, rfl, hl, by rw [r.length]; exact hv, k _ _ r.dropLast rv⟩
  · cases h
open Classical in
noncomputable def popAtM (ds es : List D) : Option (List D × D) := match es with
  | [.int i] => if In63 i then (seqIndex? i ds.length).bind fun k => (ds[k]?).map fun y => (ds.eraseIdx k, y) else none
  | _ => none
theorem RepL.erase (h : RepL K F vs ds) (i : Nat) : RepL K F (vs.eraseIdx i) (ds.eraseIdx i) := by
  induction ds generalizing vs i with
  | nil => cases h; exact .nil
  | cons e ds ih =>
    cases h with
    | cons a q =>
      cases i with
      | zero => exact q
      | succ i => exact .cons a (ih q i)
theorem rm_popAt : RMD K rPopAt popAtM := by
  intro F H l vs ds xs es ds' z Q ex hl r ra h k
  unfold popAtM at h
  split at h
  · split at h
    · rename_i hz
      obtain ⟨x, rfl, rx⟩ := ra.one'
      cases rx
      cases q : seqIndex? _ ds.length with
      | none => rw [q] at h; cases h
      | some j =>
        rw [q] at h
        cases q2 : ds[j]? with
        | none => rw [Option.bind_some, q2] at h; cases h
        | some y =>
          rw [Option.bind_some, q2] at h
          cases h
          obtain ⟨v, hv, rv⟩ := r.get' q2
          exact ⟨l, vs, _, j, v, rfl, rfl, hl, hz.1, hz.2, by rw [r.length]; exact q, hv, k _ _ (r.erase j) rv⟩
    · cases h
  · cases h
open Classical in
noncomputable def insM (ds es : List D) : Option (List D × D) := match es with
  | [.int i, y] => if ds.length < sizeLine ∧ 0 ≤ i ∧ In63 i then some (ds.take i.toNat ++ [y] ++ ds.drop i.toNat, .none) else none
  | _ => none
def rInsert : V → List V → Hp → VK → Prop := fun x vs H Q => ∃ (l : Addr) (xs : List V) (i : Int) (y : V), x = .ref l ∧ vs = [.int i, y] ∧ H l = some (.lst xs) ∧ xs.length < sizeLine ∧ 0 ≤ i ∧ i < 2 ^ 63 ∧
    Q .non (upd H l (.lst (xs.take i.toNat ++ [y] ++ xs.drop i.toNat)))
theorem rm_insert : RMD K rInsert insM := by
  intro F H l vs ds xs es ds' z Q ex hl r ra h k
  unfold insM at h
  split at h
  · split at h
    · rename_i hz
      cases h
      cases ra with
      | cons r1 ra =>
        obtain ⟨x, rfl, rx⟩ := ra.one'
        cases r1
        exact ⟨l, vs, _, x, rfl, rfl, hl, by rw [r.length]; exact hz.1, hz.2.1, hz.2.2.2, k _ _ (((r.take _).append (.cons rx .nil)).append (r.drop _)) .non⟩
    · cases h
  · cases h
def revM (ds es : List D) : Option (List D × D) := match es with
  | [] => some (ds.reverse, .none)
  | _ => none
theorem rm_reverse : RMD K rReverse revM := by
  intro F H l vs ds xs es ds' z Q ex hl r ra h k
  unfold revM at h
  split at h
  · cases h
    cases ra
    exact ⟨l, vs, rfl, rfl, hl, k _ _ r.reverse .non⟩
  · cases h
def clrM (ds es : List D) : Option (List D × D) := match es with
  | [] => some ([], .none)
  | _ => none
theorem rm_clear : RMD K rClear clrM := by
  intro F H l vs ds xs es ds' z Q ex hl r ra h k
  unfold clrM at h
  split at h
  · cases h
    cases ra
    exact ⟨l, vs, rfl, rfl, hl, k _ _ .nil .non⟩
  · cases h
end
end Dn

set_option Elab.async false
set_option linter.all false
set_option maxRecDepth 100000
set_option maxHeartbeats 4000000
/-! DenH: defs, classes of errors, the end -/
namespace Dn
open PySem PySem.Spec PyProof.Rows L2

theorem hu65 {A : Around} {k : Nat} (h : Room k A) : A.units + 65 < cLine := by have := h.un; omega
theorem hu64 {A : Around} {k : Nat} (h : Room k A) : A.units + 64 < cLine := by have := h.un; omega
/-- a def of the top -/
def DefAt (K : PySem.W.Frag) (mg : Str → Option Value) (x : Str) (st : Stmt) : Prop := ∃ f fd, mg x = some (.ref f) ∧ Fun K x x st f fd
def FnAt (P : Program) (w : World) (K : PySem.W.Frag) (mg : Str → Option Value) (base : Heap) (x : Str) (ps : List Str) (k : Nat) (f : List D → M D) : Prop :=
  ∃ a fd, mg x = some (.ref a) ∧ PySem.W.keepIn K (.ref a) = true ∧ Binds K fd ps [] ∧ FnOk P w K mg base (L2.CX P w) k a fd ps (spD K mg f)
/-- a class of errors of the top, over ValueError; bs the names above it, from the nearest on -/
structure ExcAt (K : PySem.W.Frag) (mg : Str → Option Value) (x : Str) (C : Addr) (bm : List Value) : Prop where
  g : mg x = some (.ref C)
  e : PySem.W.excIn K C bm "ValueError.__new__" = true
  k : PySem.W.keepIn K (.ref C) = true
  b : PySem.W.subIn K (.ref C) (.type "BaseException") = some true
  t : PySem.W.typeIn K (.ref C) = some (.type "type")
section
variable {P : Program} {w : World} {K : PySem.W.Frag} {mg : Str → Option Value} {base : Heap}
theorem spD_len {np N : Nat} {g : MS} {vs : List V} {H : Hp} {Q : VK} {E : XK} (h : spD K mg (mFn np N g) vs H Q E) : vs.length = np := by
  obtain ⟨F, ds, ex, r, p⟩ := h
  unfold mFn at p
  split at p
  · rw [r.length]; assumption
  · exact p.elim
theorem fn_at {x : Str} {st : Stmt} {N ps : List Str} {k : Nat} {g : MS} (Df : DefAt K mg x st) (S : FnScope N ps (defScope st))
    (hb : ∀ (kV doc pm : Value) (an : Option Addr) (cdv ct : Value) (us : List Value), us.length = ps.length → bindArgs (PySem.W.fnOf x x (defArgs st) (defBody st) (defScope st) .none kV doc pm an cdv ct) ⟨us, []⟩ = pure (ps.zip us))
    (h : ∀ (f : Addr) (cdv : Value) (A : Around) (outer : List PySem.Env) (s : Shared) (H : Hp) (E : XK), Room k (A.deeper (envOfC x (defScope st) s.heap.objs.size f cdv)) →
      ∃ t, PSs (cxOf (L2.CX P w) P w K mg base N x (defScope st) f cdv A outer s H E) (defBody st) t ∧ ∀ L, DS K L mg (fun cls d _ H => E cls d H) t g) :
    FnAt P w K mg base x ps (k + 1) (mFn ps.length N.length g) := by
  obtain ⟨f, fd, hm, F⟩ := Df
  refine ⟨f, fd, hm, F.kp, F.binds hb, ?_⟩
  refine F.okX S (fun vs H Q E h => spD_len h) fun cdv A outer s H vs Q E hr hs => ?_
  obtain ⟨t, h1, h2⟩ := h f cdv A outer s H E hr
  exact ⟨t, h1, body_ok h2 hs⟩
/-- a def that calls itself, so often at most -/
theorem fn_mono {x : Str} {ps : List Str} {j k : Nat} {f : List D → M D} (h : FnAt P w K mg base x ps j f) (e : j ≤ k) : FnAt P w K mg base x ps k f := by
  obtain ⟨a, fd, h1, h2, h3, h4⟩ := h
  exact ⟨a, fd, h1, h2, h3, h4.mono e⟩
/-- the law's promise -/
def scrD (ns : List Int) : D := .dict [(.none, .list (ns.map .int))]
def Scr (ns : List Int) : Prop := ns.length ≤ 63 ∧ ∀ z ∈ ns, Builtin.Int.intBits z ≤ 1048576
def spLaw (K : PySem.W.Frag) : Sp := fun vs H Q _ => ∃ (a : Addr) (ns : List Int), vs = [.ref a] ∧ SqL K H a (ns.map V.int) ∧ Scr ns ∧ ∀ H', Q (.bl true) H'
theorem law_at {st : Stmt} {N : List Str} {k : Nat} {g : MS} (S : FnScope N ["script"] (defScope st)) {f : Addr} {fd : FuncData} (F : Fun K "law" "law" st f fd)
    (h : ∀ (f : Addr) (cdv : Value) (A : Around) (outer : List PySem.Env) (s : Shared) (H : Hp) (E : XK), Room k (A.deeper (envOfC "law" (defScope st) s.heap.objs.size f cdv)) →
      ∃ t, PSs (cxOf CX0 P w K mg base N "law" (defScope st) f cdv A outer s H E).nox (defBody st) t ∧ ∀ L, DS K L mg (fun _ _ _ _ => False) t g)
    (law : ∀ ns, Scr ns → mFn 1 N.length g [scrD ns] = .ok (.bool true)) : FnOk P w K mg base CX0 (k + 1) f fd ["script"] (spLaw K) := by
  refine F.ok S (fun vs H Q E h => ?_) fun cdv A outer s H vs Q E hr hs => ?_
  · obtain ⟨a, ns, rfl, _⟩ := h; rfl
  · obtain ⟨t, h1, h2⟩ := h f cdv A outer s H E hr
    refine ⟨t, h1, ?_⟩
    obtain ⟨a, ns, rfl, hS, hn, kq⟩ := hs
    have e := law ns hn
    refine body_ok (K := K) (mg := mg) (np := 1) (E := fun _ _ _ => False) h2 ⟨H, [scrD ns], Ex.refl _, .cons (.scr hS (repL_ints ns) rfl) .nil, ?_⟩
    rw [e]
    intro F' H' v s r
    cases r
    exact kq H'
end
end Dn

set_option Elab.async false
set_option linter.all false
set_option maxRecDepth 100000
set_option maxHeartbeats 4000000
/-! DenI: defs that change a list handed in -/
namespace Dn
open PySem PySem.Spec PyProof.Rows L2

inductive RepJ (K : PySem.W.Frag) (F : Hp) (l : Addr) (ws : List V) : Nat → List V → List D → Prop
  | here {es : List D} {vs : List V} {ds : List D} : RepL K F ws es → RepL K F vs ds → RepJ K F l ws 0 (.ref l :: vs) (.list es :: ds)
  | next {j : Nat} {v : V} {d : D} {vs : List V} {ds : List D} : Rep K F v d → RepJ K F l ws j vs ds → RepJ K F l ws (j + 1) (v :: vs) (d :: ds)
structure StepM (F H : Hp) (l : Addr) (F' H' : Hp) : Prop where
  ff : Ex F F'
  hh : ∀ a o, a ≠ l → H a = some o → H' a = some o
  nw : ∀ a o, F a = none → H a = some o → NTup o → F' a = none
  fh : Ex F' H'
  fl : F' l = none
def spM (K : PySem.W.Frag) (mg : Str → Option Value) (j : Nat) (f : List D → M (List D × D)) : Sp := fun vs H Q E => ∃ F ds l ws, Ex F H ∧ F l = none ∧ H l = some (.lst ws) ∧ RepJ K F l ws j vs ds ∧
  post (f ds) (fun r => ∀ F' H' ws' v, StepM F H l F' H' → H' l = some (.lst ws') → RepL K F' ws' r.1 → Rep K F' v r.2 → Q v H') (fun _ => False)
section
variable {K : PySem.W.Frag} {mg : Str → Option Value} {W : WX} {L : Addr × Addr} {F0 H0 F H F' H' : Hp} {σ : L2.St} {ρ : Fr} {l : Addr} {ws : List V} {j : Nat} {vs : List V} {ds : List D}
theorem RepJ.mono (e : Ex F F') (h : RepJ K F l ws j vs ds) : RepJ K F' l ws j vs ds := by
  induction h with
  | here r q => exact .here (r.mono e) (q.mono e)
  | next r _ ih => exact .next (r.mono e) ih
theorem RepJ.len (h : RepJ K F l ws j vs ds) : vs.length = ds.length := by
  induction h with
  | here r q => simp [q.length]
  | next r _ ih => simp [ih]
theorem Env.mutM (E : Env K L F0 H0 F H σ ρ) {i : Nat} {es es' : List D} {ws' : List V} (h : ownO ρ[i]? = some (.lst es)) (hl : σ[i]? = some (some (.ref l))) (hH : H l = some (.lst ws)) (s : StepM F H l F' H') (h' : H' l = some (.lst ws')) (r : RepL K F' ws' es') :
    Env K L F0 H0 F' H' σ (putL i es' ρ) := by
  have st : Step F H F' (upd H' l (.lst ws)) := ⟨s.ff, fun a o q => by
    by_cases z : a = l
    · subst z; rw [upd_same, ← hH, q]
    · rw [upd_ne z]; exact s.hh a o z q, s.nw, fun a o q => by rw [upd_ne (ne_of_none q s.fl)]; exact s.fh a o q⟩
  have E2 := (E.step st).mut (u := .lst es') h hl (.lst r)
  rw [upd_upd] at E2
  have e : upd H' l (.lst ws') = H' := by
    funext b
    by_cases z : b = l
    · subst z; rw [upd_same, h']
    · rw [upd_ne z]
  rw [e] at E2
  exact E2
/-- arguments, the one at j the list of one's own in slot i -/
def DAJ (K : PySem.W.Frag) (L : Addr × Addr) (mg : Str → Option Value) (W : WX) (i j : Nat) (t : TA) (f : ML) : Prop := ∀ F0 H0 F H σ ρ es (Q : List V → Hp → Prop), Env K L F0 H0 F H σ ρ → ownO ρ[i]? = some (.lst es) →
  post (f ρ) (fun ds => ∀ F' H' vs l ws, Step F H F' H' → σ[i]? = some (some (.ref l)) → F' l = none → H' l = some (.lst ws) → RepL K F' ws es → RepJ K F' l ws j vs ds → Q vs H') (WE' mg W F H σ) → t σ H Q
theorem daj_here {i : Nat} {tas : TA} {as : ML} (h : DAF K L mg W tas as) : DAJ K L mg W i 0 (tCons (tVar i) tas) (aCons (eVar i) as) := fun F0 H0 F H σ ρ es Q E ho p => by
  obtain ⟨l, hho, e, f, h0, hl, r, _⟩ := E.ownv ho
  obtain ⟨ws, rfl, r'⟩ := r.isl
  refine ⟨_, e, ?_⟩
  have ev : eVar i ρ = .ok (.list es) := by
    unfold eVar
    cases q : ρ[i]? with
    | none => rw [q] at ho; cases ho
    | some s =>
      rw [q] at ho
      cases s with
      | own o => cases ho; rfl
      | pin o => cases ho; rfl
      | none => cases ho
      | val _ => cases ho
      | err _ => cases ho
  unfold aCons at p
  rw [ev, M.bind_ok] at p
  refine h F0 H0 F H σ ρ _ E (post_mono (post_bind p) (fun d k F1 H1 ys s1 r1 => ?_) fun _ z => z)
  exact k F1 H1 _ l ws s1 e (s1.nw l _ f hl (fun _ z => nomatch z)) (s1.hh _ _ hl) (r'.mono s1.ff) (.here (r'.mono s1.ff) r1)
theorem daj_next {i : Nat} {ta : TE} {a : ME} {tas : TA} {as : ML} (ha : DF K L mg W ta a) (h : DAJ K L mg W i j tas as) : DAJ K L mg W i (j + 1) (tCons ta tas) (aCons a as) := fun F0 H0 F H σ ρ es Q E ho p => by
  refine ha F0 H0 F H σ ρ _ E (post_mono (post_bind p) (fun d k F1 H1 x s1 r1 => ?_) fun _ z => z)
  refine h F0 H0 F1 H1 σ ρ es _ (E.step s1) ho (post_mono (post_bind k) (fun e k2 F2 H2 ys l ws s2 el fl hl rl rj => ?_) fun n z => WE'.on s1 z)
  exact k2 F2 H2 _ l ws (s1.trans s2) el fl hl rl (.next (r1.mono s2.ff) rj)
def sCallM (i : Nat) (f : List D → M (List D × D)) (as : ML) (k : D → Fr → Out) : MS := fun ρ => Out.ofO (ownAt i ρ) fun _ => Out.of (as ρ) ρ fun ds => match f ds with
  | .ok r => k r.2 (putL i r.1 ρ)
  | _ => .stuck
theorem callM_core {i : Nat} {f : List D → M (List D × D)} {tas : TA} {as : ML} {k : D → Fr → Out} {Dd : Ends} {Q : VK} (ha : DAJ K L mg W i j tas as) (E : Env K L F0 H0 F H σ ρ) (w : WO K mg W L F0 H0 F Dd (sCallM i f as k ρ))
    (kq : ∀ d F1 H1 v ρ1, Ex F F1 → WO K mg W L F0 H0 F1 Dd (k d ρ1) → Env K L F0 H0 F1 H1 σ ρ1 → Rep K F1 v d → Q v H1) : tCallS (spM K mg j f) (WE W) tas σ H Q := by
  obtain ⟨es, q, w2⟩ := WO.ofO w
  have q := ownAt_eq q
  refine ha F0 H0 F H σ ρ es _ E q (post_mono (WO.of E w2) (fun ds w3 F1 H1 vs l ws s el fl hl rl rj => ?_) fun _ z => z)
  refine ⟨F1, ds, l, ws, s.fh, fl, hl, rj, ?_⟩
  cases qf : f ds with
  | ok r =>
    rw [qf] at w3
    intro F2 H2 ws' v sm h2 r2 rv
    exact kq r.2 F2 H2 v _ (s.ff.trans sm.ff) (WO.mono (s.ff.trans sm.ff) w3) ((E.step s).mutM q el hl sm h2 r2) rv
  | exc n => rw [qf] at w3; exact w3.elim
  | stuck => rw [qf] at w3; exact w3.elim
theorem ds_callM {i : Nat} {f : List D → M (List D × D)} {tas : TA} {as : ML} (ha : DAJ K L mg W i j tas as) : DS K L mg W (tDrop (tCallS (spM K mg j f) (WE W) tas)) (sCallM i f as fun _ ρ => .nx ρ) := fun F0 H0 F H σ ρ Dd E w =>
  callM_core ha E w fun d F1 H1 v ρ1 e w1 E1 r => w1 F1 H1 σ (Ex.refl _) E1
theorem ds_callMA {i n : Nat} {f : List D → M (List D × D)} {tas : TA} {as : ML} (ha : DAJ K L mg W i j tas as) : DS K L mg W (tAsg (tCallS (spM K mg j f) (WE W) tas) (gName n)) (sCallM i f as fun d ρ => .nx (ρ.set n (.val d))) := fun F0 H0 F H σ ρ Dd E w =>
  callM_core ha E w fun d F1 H1 v ρ1 e w1 E1 r => w1 F1 H1 _ (Ex.refl _) (E1.setv r n)
theorem ds_callMR {i : Nat} {f : List D → M (List D × D)} {tas : TA} {as : ML} (ha : DAJ K L mg W i j tas as) : DS K L mg W (tRet (tCallS (spM K mg j f) (WE W) tas)) (sCallM i f as fun d ρ => .ret d ρ) := fun F0 H0 F H σ ρ Dd E w =>
  callM_core ha E w fun d F1 H1 v ρ1 e w1 E1 r => w1 F1 H1 σ v (Ex.refl _) E1 r
/-- arguments, the one at j a list just made -/
def DAT (K : PySem.W.Frag) (L : Addr × Addr) (mg : Str → Option Value) (W : WX) (j : Nat) (t : TA) (f : ML) : Prop := ∀ F0 H0 F H σ ρ (Q : List V → Hp → Prop), Env K L F0 H0 F H σ ρ →
  post (f ρ) (fun ds => ∀ F' H' vs l ws, Step F H F' H' → H l = none → F' l = none → H' l = some (.lst ws) → RepJ K F' l ws j vs ds → Q vs H') (WE' mg W F H σ) → t σ H Q
theorem dat_here {ta : TE} {a : ML} {tas : TA} {as : ML} (ha : DL K L mg W ta a) (h : DAF K L mg W tas as) : DAT K L mg W 0 (tCons ta tas) (aCons (eL a) as) := fun F0 H0 F H σ ρ Q E p => by
  refine ha F0 H0 F H σ ρ _ E (post_mono (post_bind (post_bind p)) (fun es k F1 H1 l ws s n r => ?_) fun _ z => z)
  have st := s.trans (Step.new0 (o := .lst ws) s.fh n)
  have k : post ((as ρ).bind fun ds => M.ok (PyData.list es :: ds)) _ _ := k
  refine h F0 H0 F1 _ σ ρ _ (E.step st) (post_mono (post_bind k) (fun e k2 F2 H2 ys s2 r2 => ?_) fun n z => WE'.on st z)
  exact k2 F2 H2 _ l ws (st.trans s2) (s.hh.free n) (s2.nw l _ (s.fh.free n) upd_same (fun _ z => nomatch z)) (s2.hh _ _ upd_same) (.here (r.mono s2.ff) r2)
theorem dat_next {ta : TE} {a : ME} {tas : TA} {as : ML} (ha : DF K L mg W ta a) (h : DAT K L mg W j tas as) : DAT K L mg W (j + 1) (tCons ta tas) (aCons a as) := fun F0 H0 F H σ ρ Q E p => by
  refine ha F0 H0 F H σ ρ _ E (post_mono (post_bind p) (fun d k F1 H1 x s1 r1 => ?_) fun _ z => z)
  refine h F0 H0 F1 H1 σ ρ _ (E.step s1) (post_mono (post_bind k) (fun e k2 F2 H2 ys l ws s2 hn fl hl rj => ?_) fun n z => WE'.on s1 z)
  exact k2 F2 H2 _ l ws (s1.trans s2) (s1.hh.free hn) fl hl (.next (r1.mono s2.ff) rj)
def noX2 {α : Type} : M α → M α
  | .exc _ => .stuck
  | m => m
def eCallT (f : List D → M (List D × D)) (as : ML) : ME := fun ρ => (as ρ).bind fun ds => (noX (f ds)).bind fun r => .ok r.2
theorem df_callT {f : List D → M (List D × D)} {tas : TA} {as : ML} (ha : DAT K L mg W j tas as) : DF K L mg W (tCallS (spM K mg j f) (WE W) tas) (eCallT f as) := fun F0 H0 F H σ ρ Q E p => by
  refine ha F0 H0 F H σ ρ _ E (post_mono (post_bind p) (fun ds k F1 H1 vs l ws s hn fl hl rj => ?_) fun _ z => z)
  refine ⟨F1, ds, l, ws, s.fh, fl, hl, rj, ?_⟩
  cases qf : f ds with
  | ok r =>
    rw [qf] at k
    intro F2 H2 ws' v sm h2 r2 rv
    have k : WF K F H r.2 Q := k
    refine k F2 H2 v ⟨s.ff.trans sm.ff, fun a o q => sm.hh a o (ne_of_none q hn) (s.hh a o q), fun a o h1 h2 h3 => sm.nw a o (s.nw a o h1 h2 h3) (s.hh a o h2) h3, sm.fh⟩ rv
  | exc n => rw [qf] at k; exact k.elim
  | stuck => rw [qf] at k; exact k.elim
/-! ### the body of such a def -/
def startM (j N : Nat) (ds : List D) : Fr := match ds[j]? with
  | some (.list es) => (start' N ds).set j (.pin (.lst es))
  | _ => start' N ds
def pinL (j : Nat) (ρ : Fr) (d : D) : M (List D × D) := match ρ[j]? with
  | some (.pin (.lst es)) => .ok (es, d)
  | _ => .stuck
theorem pinL_post {j : Nat} {ρ : Fr} {d : D} {kx : List D × D → Prop} {ke : Str → Prop} (h : post (pinL j ρ d) kx ke) : ∃ es, ρ[j]? = some (.pin (.lst es)) ∧ kx (es, d) := by
  unfold pinL at h
  split at h
  · exact ⟨_, by assumption, h⟩
  · exact h.elim
def Out.mm (j : Nat) : Out → M (List D × D)
  | .nx ρ => pinL j ρ .none
  | .ret d ρ => pinL j ρ d
  | _ => .stuck
def mFnM (j np N : Nat) (g : MS) (ds : List D) : M (List D × D) := if ds.length = np then (g (startM j N ds)).mm j else .stuck
theorem repJ_get (h : RepJ K F l ws j vs ds) : vs[j]? = some (.ref l) ∧ (∃ es, ds[j]? = some (.list es) ∧ RepL K F ws es) ∧ ∀ i v, i ≠ j → vs[i]? = some v → ∃ d, ds[i]? = some d ∧ Rep K F v d := by
  induction h with
  | here r q =>
    refine ⟨rfl, ⟨_, rfl, r⟩, fun i v hi hv => ?_⟩
    cases i with
    | zero => exact (hi rfl).elim
    | succ i => simp at hv; simpa using q.get hv
  | next r _ ih =>
    obtain ⟨h1, ⟨es, h2, h3⟩, h4⟩ := ih
    refine ⟨by simpa using h1, ⟨es, by simpa using h2, h3⟩, fun i v hi hv => ?_⟩
    cases i with
    | zero => simp at hv; subst hv; exact ⟨_, rfl, r⟩
    | succ i => simp at hv; simpa using h4 i v (by omega) hv
theorem env_startM {N : List Str} (ex : Ex F H) (fl : F l = none) (hl : H l = some (.lst ws)) (r : RepJ K F l ws j vs ds) : Env K (l, 0) F (del H l) F H (L2.start N vs) (startM j N.length ds) := by
  obtain ⟨h1, ⟨es, h2, h3⟩, h4⟩ := repJ_get r
  have hlen := r.len
  have hj : j < ds.length := (List.getElem?_eq_some_iff.mp h2).1
  have hs : startM j N.length ds = (start' N.length ds).set j (.pin (.lst es)) := by unfold startM; rw [h2]
  have hst : (start' N.length ds).length = (L2.start N vs).length := by unfold start' L2.start; simp [hlen]
  have hgv : ∀ i, i < vs.length → (L2.start N vs)[i]? = (vs[i]?).map some := fun i hi => by
    unfold L2.start
    rw [List.getElem?_append_left (by simpa using hi), List.getElem?_map]
  refine ⟨⟨Ex.refl _, fun a o q => ?_, fun a o h _ _ => h, ex⟩, by rw [hs, List.length_set]; exact hst.symm, fun i s q => ?_, fun i k m q1 q2 _ _ => ?_⟩
  · by_cases z : a = l
    · subst z; rw [del_same] at q; cases q
    · rw [del_ne z] at q; exact q
  · rw [hs] at q
    rcases set_get q with ⟨e, es', hl'⟩ | ⟨ne, h'⟩
    · subst e; subst es'
      rw [hgv j (by omega), h1]
      exact ⟨rfl, fl, del_same, _, hl, .lst h3⟩
    · unfold start' at h'
      rw [List.getElem?_append] at h'
      split at h'
      · rename_i hi
        rw [List.length_map] at hi
        rw [List.getElem?_map] at h'
        rw [hgv i (by omega)]
        cases qd : ds[i]? with
        | none => rw [qd] at h'; cases h'
        | some d =>
          rw [qd] at h'
          cases h'
          have hv : ∃ v, vs[i]? = some v := ⟨vs[i]'(by omega), by simp [show i < vs.length by omega]⟩
          obtain ⟨v, hv⟩ := hv
          obtain ⟨d', hd', rd⟩ := h4 i v (fun z => ne z.symm) hv
          rw [qd] at hd'
          cases hd'
          rw [hv]
          exact ⟨v, rfl, rd⟩
      · rw [List.getElem?_replicate] at h'
        split at h'
        · cases h'; trivial
        · cases h'
  · have no : ∀ m, m ≠ j → ¬ isOwn ((startM j N.length ds)[m]?) := fun m hm q => by
      rw [hs, List.getElem?_set_ne (Ne.symm hm)] at q
      unfold start' isOwn at q
      rw [List.getElem?_append] at q
      split at q
      · rw [List.getElem?_map] at q
        cases qq : ds[m]? with
        | none => rw [qq] at q; cases q
        | some d => rw [qq] at q; cases q
      · rw [List.getElem?_replicate] at q
        split at q <;> cases q
    have a1 : i = j := Classical.byContradiction fun z => no i z q1
    have a2 : k = j := Classical.byContradiction fun z => no k z q2
    rw [a1, a2]
theorem body_okM {t : TS} {g : MS} {N : List Str} {np : Nat} {Q : VK} {E : XK} (h : ∀ L, DS K L mg (fun cls d _ H => E cls d H) t g) (hs : spM K mg j (mFnM j np N.length g) vs H Q E) :
    t { nx := fun _ H' => Q .non H', rt := Q } (L2.start N vs) H := by
  obtain ⟨F, ds, l, ws, ex, fl, hl, r, p⟩ := hs
  refine h (l, 0) F (del H l) F H _ _ _ (env_startM (N := N) ex fl hl r) ?_
  have fin : ∀ {F' H' : Hp} {σ' : L2.St} {ρ : Fr} {es : List D}, Env K (l, 0) F (del H l) F' H' σ' ρ → ρ[j]? = some (.pin (.lst es)) → StepM F H l F' H' ∧ ∃ ws', H' l = some (.lst ws') ∧ RepL K F' ws' es := fun {F' H' σ' ρ es} E' hp => by
    obtain ⟨e, f, _, ho, hH, rr⟩ := E'.sl j _ hp
    obtain ⟨ws', rfl, rl⟩ := rr.isl
    refine ⟨⟨E'.st.ff, fun a o ne q => E'.st.hh a o (by rw [del_ne ne]; exact q), fun a o h1 h2 h3 => ?_, E'.st.fh, f⟩, ws', hH, rl⟩
    by_cases z : a = l
    · rw [z]; exact f
    · exact E'.st.nw a o h1 (by rw [del_ne z]; exact h2) h3
  unfold mFnM at p
  split at p
  · cases q : g (startM j N.length ds) with
    | nx ρ =>
      rw [q] at p
      intro F' H' σ' e E'
      obtain ⟨es, hp, p⟩ := pinL_post p
      obtain ⟨sm, ws', h1, h2⟩ := fin E' hp
      exact p F' H' ws' .non sm h1 h2 .non
    | ret d ρ =>
      rw [q] at p
      intro F' H' σ' v e E' rv
      obtain ⟨es, hp, p⟩ := pinL_post p
      obtain ⟨sm, ws', h1, h2⟩ := fin E' hp
      exact p F' H' ws' v sm h1 h2 rv
    | retL ds ρ => rw [q] at p; exact p.elim
    | exc n ρ => rw [q] at p; exact p.elim
    | brk ρ => rw [q] at p; exact p.elim
    | cont ρ => rw [q] at p; exact p.elim
    | stuck => rw [q] at p; exact p.elim
  · exact p.elim
end
/-! ### such defs at the top -/
def FnAtM (P : Program) (w : World) (K : PySem.W.Frag) (mg : Str → Option Value) (base : Heap) (x : Str) (ps : List Str) (k j : Nat) (f : List D → M (List D × D)) : Prop :=
  ∃ a fd, mg x = some (.ref a) ∧ PySem.W.keepIn K (.ref a) = true ∧ Binds K fd ps [] ∧ FnOk P w K mg base (L2.CX P w) k a fd ps (spM K mg j f)
def FnAtL (P : Program) (w : World) (K : PySem.W.Frag) (mg : Str → Option Value) (base : Heap) (x : Str) (ps : List Str) (k : Nat) (f : List D → M (List D)) : Prop :=
  ∃ a fd, mg x = some (.ref a) ∧ PySem.W.keepIn K (.ref a) = true ∧ Binds K fd ps [] ∧ FnOk P w K mg base (L2.CX P w) k a fd ps (spL K mg f)
section
variable {P : Program} {w : World} {K : PySem.W.Frag} {mg : Str → Option Value} {base : Heap}
theorem fn_atM {x : Str} {st : Stmt} {N ps : List Str} {k j : Nat} {g : MS} (Df : DefAt K mg x st) (S : FnScope N ps (defScope st))
    (hb : ∀ (kV doc pm : Value) (an : Option Addr) (cdv ct : Value) (us : List Value), us.length = ps.length → bindArgs (PySem.W.fnOf x x (defArgs st) (defBody st) (defScope st) .none kV doc pm an cdv ct) ⟨us, []⟩ = pure (ps.zip us))
    (h : ∀ (f : Addr) (cdv : Value) (A : Around) (outer : List PySem.Env) (s : Shared) (H : Hp) (E : XK), Room k (A.deeper (envOfC x (defScope st) s.heap.objs.size f cdv)) →
      ∃ t, PSs (cxOf (L2.CX P w) P w K mg base N x (defScope st) f cdv A outer s H E) (defBody st) t ∧ ∀ L, DS K L mg (fun cls d _ H => E cls d H) t g) :
    FnAtM P w K mg base x ps (k + 1) j (mFnM j ps.length N.length g) := by
  obtain ⟨f, fd, hm, F⟩ := Df
  refine ⟨f, fd, hm, F.kp, F.binds hb, ?_⟩
  refine F.okX S (fun vs H Q E h => ?_) fun cdv A outer s H vs Q E hr hs => ?_
  · obtain ⟨F, ds, l, ws, ex, fl, hl, r, p⟩ := h
    unfold mFnM at p
    split at p
    · rw [r.len]; assumption
    · exact p.elim
  · obtain ⟨t, h1, h2⟩ := h f cdv A outer s H E hr
    exact ⟨t, h1, body_okM h2 hs⟩
theorem fn_atL {x : Str} {st : Stmt} {N ps : List Str} {k : Nat} {g : MS} (Df : DefAt K mg x st) (S : FnScope N ps (defScope st))
    (hb : ∀ (kV doc pm : Value) (an : Option Addr) (cdv ct : Value) (us : List Value), us.length = ps.length → bindArgs (PySem.W.fnOf x x (defArgs st) (defBody st) (defScope st) .none kV doc pm an cdv ct) ⟨us, []⟩ = pure (ps.zip us))
    (h : ∀ (f : Addr) (cdv : Value) (A : Around) (outer : List PySem.Env) (s : Shared) (H : Hp) (E : XK), Room k (A.deeper (envOfC x (defScope st) s.heap.objs.size f cdv)) →
      ∃ t, PSs (cxOf (L2.CX P w) P w K mg base N x (defScope st) f cdv A outer s H E) (defBody st) t ∧ ∀ L, DS K L mg (fun cls d _ H => E cls d H) t g) :
    FnAtL P w K mg base x ps (k + 1) (mFnL ps.length N.length g) := by
  obtain ⟨f, fd, hm, F⟩ := Df
  refine ⟨f, fd, hm, F.kp, F.binds hb, ?_⟩
  refine F.okX S (fun vs H Q E h => ?_) fun cdv A outer s H vs Q E hr hs => ?_
  · obtain ⟨F, ds, ex, r, p⟩ := h
    unfold mFnL at p
    split at p
    · rw [r.length]; assumption
    · exact p.elim
  · obtain ⟨t, h1, h2⟩ := h f cdv A outer s H E hr
    exact ⟨t, h1, body_okL h2 hs⟩
end
end Dn

set_option Elab.async false
set_option linter.all false
set_option maxRecDepth 100000
set_option maxHeartbeats 4000000
/-! DenJ: further words -/
namespace Dn
open PySem PySem.Spec PyProof.Rows L2
def eBool (a : ME) : ME := fun ρ => (a ρ).bind fun d => (toB d).bind fun b => .ok (.bool b)
def sPar (i j : Nat) (as : ML) : MS := fun ρ => Out.of (as ρ) ρ fun ds => match ds with
  | [d, e] => .nx ((ρ.set i (.val d)).set j (.val e))
  | _ => .stuck
section
variable {K : PySem.W.Frag} {L : Addr × Addr} {mg : Str → Option Value} {W : WX} {ta : TE} {a : ME} {tas : TA} {as : ML}
theorem df_ofE_bool (ha : DE K L mg W ta a) : DF K L mg W ta (eBool a) := fun F0 H0 F H σ ρ Q E p => by
  refine ha F0 H0 F H σ ρ _ E (post_mono (post_bind p) (fun d k F1 H1 x s1 r1 => ?_) fun _ z => z)
  obtain ⟨b, rfl, k⟩ := toB_post (post_bind k)
  obtain rfl := r1.isb
  exact k F1 H1 _ s1 (.bl b)
theorem RepL.two' {F : Hp} {vs : List V} {d e : D} (r : RepL K F vs [d, e]) : ∃ x y, vs = [x, y] ∧ Rep K F x d ∧ Rep K F y e := by
  cases r with
  | cons a b =>
    obtain ⟨y, rfl, c⟩ := b.one'
    exact ⟨_, _, rfl, a, c⟩
theorem ds_par {i j : Nat} (ha : DAF K L mg W tas as) : DS K L mg W (tPar i j tas) (sPar i j as) := fun F0 H0 F H σ ρ D E w => by
  refine ha F0 H0 F H σ ρ _ E (post_mono (WO.of E w) (fun ds k F1 H1 vs s r => ?_) fun _ z => z)
  split at k
  · obtain ⟨x, y, rfl, r1, r2⟩ := r.two'
    exact ⟨x, y, rfl, k F1 H1 _ s.ff (((E.step s).setv r1 i).setv r2 j)⟩
  · exact k.elim
end
/-! ### the rules with the written part told -/
section
variable {X : Cx} {K : PySem.W.Frag}
theorem kAdd (h : X.K = K := by rfl) : OpR X (binaryOp .Add) (oAdd K) := h ▸ op_addU
theorem kEq (hu : X.A.units + 64 < cLine) (h : X.K = K := by rfl) : OpR X (compareOp .Eq) (oEq K) := h ▸ op_eqU hu
theorem kNe (hu : X.A.units + 64 < cLine) (h : X.K = K := by rfl) : OpR X (compareOp .NotEq) (oNe K) := h ▸ op_neU hu
theorem kIn (hu : X.A.units + 65 < cLine) (h : X.K = K := by rfl) : OpR X (compareOp .In) (oIn K) := h ▸ op_inU hu
theorem kNin (hu : X.A.units + 65 < cLine) (h : X.K = K := by rfl) : OpR X (compareOp .NotIn) (oNin K) := h ▸ op_ninU hu
theorem kIx (h : X.K = K := by rfl) : IxR X (rIx K) := h ▸ ix_seq
theorem kSl (h : X.K = K := by rfl) : SlR X (oSl K) := h ▸ sl_any
theorem kLen (h : X.K = K := by rfl) : CallR X (.builtin "len") (oLen K) := h ▸ call_lenU
theorem kList (h : X.K = K := by rfl) : CallR X (.type "list") (oList K) := h ▸ call_listU
theorem kTuple (h : X.K = K := by rfl) : CallR X (.type "tuple") (oTuple K) := h ▸ call_tupleU
theorem kMax (hc : X.calm = true) (h : X.K = K := by rfl) : CallR X (.builtin "max") (oMax K) := h ▸ call_maxU hc
theorem kMin (hc : X.calm = true) (h : X.K = K := by rfl) : CallR X (.builtin "min") (oMin K) := h ▸ call_minU hc
theorem kSum (hc : X.calm = true) (h : X.K = K := by rfl) : CallR X (.builtin "sum") (rSum K) := h ▸ cr_sum hc
theorem kAny (hc : X.calm = true) (h : X.K = K := by rfl) : CallR X (.builtin "any") (rAny K) := h ▸ cr_any hc
theorem kAll (hc : X.calm = true) (h : X.K = K := by rfl) : CallR X (.builtin "all") (rAll K) := h ▸ cr_all hc
theorem kSort (h : X.K = K := by rfl) : CallR X (.builtin "sorted") (rSortedI K) := h ▸ cr_sortedI
theorem kIsi (h : X.K = K := by rfl) : CallR X (.builtin "isinstance") (rIsi K) := h ▸ call_isi
theorem pi_sqK {tg l : Expr} {tl : TE} (hl : PE X l tl) (h : X.K = K := by rfl) : PI X tg l (iSq K tl) := h ▸ pi_sq hl
theorem pi_enumK {e : Expr} {ta : TA} {p pos tpos : Pos} {elts : List Expr} {kk : Nat} (hg : Gl X "enumerate") (hm : X.mg "enumerate" = none) (ha : PA X [e] ta) (h : X.K = K := by rfl) (hs : starEach [e] X.env = [(false, eval e X.env)] := by rfl) :
    PI X (.Tuple elts kk tpos) (.Call (.Name "enumerate" p) [e] [] pos) (iEnumU K ta) := h ▸ pi_enumU hg hm ha hs
theorem pi_revK {tg e : Expr} {te : TE} {p pos : Pos} (hg : Gl X "reversed") (hm : X.mg "reversed" = none) (he : PE X e te) (h : X.K = K := by rfl) (hs : starEach [e] X.env = (false, eval e X.env) :: starEach [] X.env := by rfl) : PI X tg (.Call (.Name "reversed" p) [e] [] pos) (RT.iRevA K te) := h ▸ RT.pi_revA hg hm he hs
theorem pg_tupK {es : List Expr} {k : Nat} {pos : Pos} {t : TGs} {n : Nat} (hc : X.calm = true) (hp : PGs X es t) (h : X.K = K := by rfl)
    (hn : (assignEach es X.env).length = n := by rfl) (hst : (assignEach es X.env).findIdx? (·.1) = none := by rfl) : PG X (.Tuple es k pos) (gTup K n t) := h ▸ pg_tup hc hp hn hst
end
end Dn

set_option Elab.async false
set_option linter.all false
set_option maxRecDepth 100000
set_option maxHeartbeats 4000000
/-! DenK: the end -/
namespace Dn
open PySem PySem.Spec PyProof.Rows L2
section
variable {K : PySem.W.Frag} {h : Heap} {mg : Str → Option Value}
theorem def_mk {x : Str} {st : Stmt} {f : Addr} {oc : Value} {od an : Option Addr} {osl : Array (Option Value)} {kV doc pm cdv ct : Value} (X : K.In h) (G : h.Ns mainGlobals mg)
    (a : PySem.W.nsIn K mainGlobals x = some (some (.ref f)))
    (l : K.lookup f = some ⟨oc, od, .func (PySem.W.fnOf x x (defArgs st) (defBody st) (defScope st) .none kV doc pm an cdv ct), osl⟩)
    (c : PySem.W.codeIn K cdv x = true) (k : PySem.W.keepIn K (.ref f) = true) : DefAt K mg x st := ⟨f, _, PySem.W.mg_of X G a, fun_mk l c k⟩
def BindS (fd : FuncData) : Prop := ∀ (s : Shared) (u : Value), BindsTo s fd ⟨[u], []⟩ [("script", u)]
theorem law_mk {st : Stmt} {fa f : Addr} {oc : Value} {od an : Option Addr} {osl : Array (Option Value)} {kV doc pm cdv ct : Value} (X : K.In h) (G : h.Ns mainGlobals mg) (hfa : mg "law" = some (.ref fa))
    (a : PySem.W.nsIn K mainGlobals "law" = some (some (.ref f)))
    (l : K.lookup f = some ⟨oc, od, .func (PySem.W.fnOf "law" "law" (defArgs st) (defBody st) (defScope st) .none kV doc pm an cdv ct), osl⟩)
    (c : PySem.W.codeIn K cdv "law" = true) (k : PySem.W.keepIn K (.ref f) = true)
    (hb : ∀ (s : Shared) (u : Value), BindsTo s (PySem.W.fnOf "law" "law" (defArgs st) (defBody st) (defScope st) .none kV doc pm an cdv ct) ⟨[u], []⟩ [("script", u)]) :
    ∃ fd : FuncData, BindS fd ∧ Fun K "law" "law" st fa fd := by
  have e := hfa.symm.trans (PySem.W.mg_of X G a)
  cases e
  exact ⟨_, hb, fun_mk l c k⟩
theorem exc_mk {x : Str} {C : Addr} {bm : List Value} (X : K.In h) (G : h.Ns mainGlobals mg) (a : PySem.W.nsIn K mainGlobals x = some (some (.ref C))) (e : PySem.W.excIn K C bm "ValueError.__new__" = true)
    (k : PySem.W.keepIn K (.ref C) = true) (b : PySem.W.subIn K (.ref C) (.type "BaseException") = some true) (t : PySem.W.typeIn K (.ref C) = some (.type "type")) : ∃ C, ExcAt K mg x C bm := ⟨C, PySem.W.mg_of X G a, e, k, b, t⟩
end
abbrev kOf {K : PySem.W.Frag} {h : Heap} (_ : K.In h) : PySem.W.Frag := K
theorem walk_law {l : PySem.W.OpenLaw} {k : Nat} {q : Program} {loose : List Str} {XP : (Str → Option Value) → Heap → Prop} {YP : World → Heap → Prop} {d : DefRec} {K : Params → PySem.W.Frag} (hn : l.most = some 63) (hdf : d.params.defaults = []) (hr : Room k callerA)
    (hY : ∀ (w : World) (h : Heap), YP w h → (K w.params).In h)
    (F : ∀ (w : World) (mg : Str → Option Value) (fa : Addr) (h : Heap), (K w.params).In h → h.Ns mainGlobals mg → mg d.name = some (.ref fa) →
      ∃ fd : FuncData, (∀ (s : Shared) (u : Value), BindsTo s fd ⟨[u], []⟩ [("script", u)]) ∧ ∀ base : Heap, (K w.params).In base → base.Ns mainGlobals mg → FnOk l.prog w (K w.params) mg base CX0 k fa fd ["script"] (spLaw (K w.params))) :
    PySem.W.WalkO q loose XP YP l.row.toRowW d [] (fun f vs => PySem.call f vs) :=
  L2.walk_ofB (n := 63) (k := k) (x := "script") (CX := fun _ => CX0) (sp := fun w => spLaw (K w.params)) hn (by decide) hdf hr hY F (fun _ _ a ns hl hb _ hS => ⟨a, ns, rfl, hS, ⟨hl, hb⟩, fun _ => rfl⟩) fun _ _ _ _ _ z => z
end Dn

set_option Elab.async false
set_option linter.all false
set_option maxRecDepth 100000
set_option maxHeartbeats 4000000
/-! DenL: the pure layer made plain -/
namespace Dn
open PySem L2
variable {ρ : Fr} {a b c : ME} {as : ML} {tf uf : MT} {g h : MS} {i j : Nat}
/-! ### slots -/
def getV : Option S → M D
  | some (.val d) => .ok d
  | _ => .stuck
@[simp] theorem getV_val {d : D} : getV (some (.val d)) = .ok d := rfl
def getB : Option S → M D
  | some (.val d) => .ok d
  | some (.own o) => .ok o.d
  | some (.pin o) => .ok o.d
  | _ => .stuck
@[simp] theorem getB_val {d : D} : getB (some (.val d)) = .ok d := rfl
@[simp] theorem getB_own {ds : List D} : getB (some (.own (.lst ds))) = .ok (.list ds) := rfl
@[simp] theorem getB_pin {ds : List D} : getB (some (.pin (.lst ds))) = .ok (.list ds) := rfl
@[simp] theorem eVarF_ap : eVarF i ρ = getV ρ[i]? := rfl
@[simp] theorem eVar_ap : eVar i ρ = getB ρ[i]? := rfl
@[simp] theorem eC_ap {d : D} : eC d ρ = .ok d := rfl
@[simp] theorem e2_ap {f : D → D → Option D} : e2 f a b ρ = (a ρ).bind fun x => (b ρ).bind fun y => lift (f x y) := rfl
@[simp] theorem e2L_ap {f : D → D → Option (List D)} : e2L f a b ρ = (a ρ).bind fun x => (b ρ).bind fun y => lift (f x y) := rfl
@[simp] theorem e1_ap {f : D → Option D} : e1 f a ρ = (a ρ).bind fun x => lift (f x) := rfl
@[simp] theorem eL_ap : eL as ρ = (as ρ).bind fun ds => .ok (.list ds) := rfl
@[simp] theorem toB_bool {b : Bool} : toB (.bool b) = .ok b := rfl
@[simp] theorem tE_ap : tE a ρ = (a ρ).bind toB := rfl
@[simp] theorem tA_ap : tA tf uf ρ = (tf ρ).bind fun c => if c = true then uf ρ else .ok false := rfl
@[simp] theorem tO_ap : tO tf uf ρ = (tf ρ).bind fun c => if c = true then .ok true else uf ρ := rfl
@[simp] theorem tN_ap : tN tf ρ = (tf ρ).bind fun c => .ok (!c) := rfl
@[simp] theorem eAnd_ap : eAnd a b ρ = (a ρ).bind fun x => (toB x).bind fun c => if c = true then b ρ else .ok (.bool false) := rfl
@[simp] theorem eOr_ap : eOr a b ρ = (a ρ).bind fun x => (toB x).bind fun c => if c = true then .ok (.bool true) else b ρ := rfl
@[simp] theorem eNot_ap : eNot a ρ = (a ρ).bind fun x => (toB x).bind fun c => .ok (.bool (!c)) := rfl
@[simp] theorem eIf_ap : eIf tf a b ρ = (tf ρ).bind fun c => if c = true then a ρ else b ρ := rfl
@[simp] theorem eBool_ap : eBool a ρ = (a ρ).bind fun d => (toB d).bind fun b => .ok (.bool b) := rfl
@[simp] theorem aNil_ap : aNil ρ = .ok [] := rfl
@[simp] theorem aCons_ap : aCons a as ρ = (a ρ).bind fun d => (as ρ).bind fun ds => .ok (d :: ds) := rfl
@[simp] theorem eCall_ap {f : List D → M D} : eCall f as ρ = (as ρ).bind f := rfl
@[simp] theorem eCallL_ap {f : List D → M (List D)} : eCallL f as ρ = (as ρ).bind f := rfl
@[simp] theorem eCallS_ap {f : List D → M D} : eCallS f as ρ = (as ρ).bind fun ds => (f ds).bind fun d => if scalD d = true then .ok d else .stuck := rfl
@[simp] theorem scalD_b {x : Bool} : scalD (.bool x) = true := by simp [scalD]
@[simp] theorem scalD_i {x : Int} : scalD (.int x) = true := by simp [scalD]
@[simp] theorem scalD_s {x : Str} : scalD (.str x) = true := by simp [scalD]
@[simp] theorem scalD_n : scalD .none = true := by simp [scalD]
@[simp] theorem eB_ap {f : List D → Option D} : eB f as ρ = (as ρ).bind fun ds => lift (f ds) := rfl
@[simp] theorem eBL_ap {f : List D → Option (List D)} : eBL f as ρ = (as ρ).bind fun ds => lift (f ds) := rfl
@[simp] theorem eTup_ap : eTup as ρ = (as ρ).bind fun ds => .ok (.tuple ds) := rfl
@[simp] theorem oNone_ap : oNone ρ = .ok none := rfl
@[simp] theorem toI_int {i : Int} : toI (.int i) = .ok i := rfl
@[simp] theorem oSome_ap : oSome a ρ = (a ρ).bind fun d => (toI d).bind fun i => .ok (some i) := rfl
@[simp] theorem eSl_ap {f : D → Option Int → Option Int → Option D} {lo hi : Fr → M (Option Int)} : eSl f a lo hi ρ = (a ρ).bind fun x => (lo ρ).bind fun l => (hi ρ).bind fun h => lift (f x l h) := rfl
@[simp] theorem eSlL_ap {f : D → Option Int → Option Int → Option (List D)} {lo hi : Fr → M (Option Int)} : eSlL f a lo hi ρ = (a ρ).bind fun x => (lo ρ).bind fun l => (hi ρ).bind fun h => lift (f x l h) := rfl
@[simp] theorem eCh_ap {f g : D → D → Option D} : eCh f g a b c ρ = (a ρ).bind fun x => (b ρ).bind fun y => (lift (f x y)).bind fun z => (toB z).bind fun k => if k = true then (c ρ).bind fun w => lift (g y w) else .ok (.bool false) := rfl
@[simp] theorem eRg1_ap : eRg1 a ρ = (a ρ).bind fun x => (toI x).bind fun j => rgLD 0 j := rfl
@[simp] theorem eRg2_ap : eRg2 a b ρ = (a ρ).bind fun x => (b ρ).bind fun y => (toI x).bind fun i => (toI y).bind fun j => rgLD i j := rfl
@[simp] theorem eTL_ap : eTL as ρ = (as ρ).bind fun ds => .ok (.tuple ds) := rfl
@[simp] theorem tYesF_ap : tYesF ρ = .ok true := rfl
theorem scalDs_map {α : Type} {f : α → D} (h : ∀ a, scalD (f a) = true) : ∀ xs : List α, scalDs (xs.map f) = true
  | [] => by simp [scalDs]
  | x :: xs => by rw [List.map_cons]; simp [scalDs, h x, scalDs_map h xs]
theorem scalD_map {α : Type} {f : α → D} (h : ∀ a, scalD (f a) = true) (xs : List α) : scalD (.tuple (xs.map f)) = true := by
  rw [scalD]
  exact scalDs_map h xs
@[simp] theorem scalD_it {xs : List Int} : scalD (.tuple (xs.map .int)) = true := scalD_map (fun _ => by simp) xs
/-! ### operations on ints, bools -/
@[simp] theorem addD_int {x y : Int} : addD (.int x) (.int y) = some (.int (x + y)) := rfl
@[simp] theorem subD_int {x y : Int} : subD (.int x) (.int y) = some (.int (x - y)) := rfl
@[simp] theorem negD_int {x : Int} : negD (.int x) = some (.int (-x)) := rfl
@[simp] theorem cmpD_int {p : Int → Int → Bool} {x y : Int} : cmpD p (.int x) (.int y) = some (.bool (p x y)) := rfl
@[simp] theorem eqD_int {x y : Int} : eqD (.int x) (.int y) = some (.bool (decide (x = y))) := rfl
@[simp] theorem neD_int {x y : Int} : neD (.int x) (.int y) = some (.bool (!decide (x = y))) := rfl
@[simp] theorem eqD_bool {x y : Bool} : eqD (.bool x) (.bool y) = some (.bool (decide (x = y))) := rfl
@[simp] theorem neD_bool {x y : Bool} : neD (.bool x) (.bool y) = some (.bool (!decide (x = y))) := rfl
@[simp] theorem eqD_str {x y : Str} : eqD (.str x) (.str y) = some (.bool (decide (x = y))) := rfl
@[simp] theorem neD_str {x y : Str} : neD (.str x) (.str y) = some (.bool (!decide (x = y))) := rfl
@[simp] theorem isD_none {d : D} : isD d .none = some (.bool (isNone d)) := rfl
@[simp] theorem isnD_none {d : D} : isnD d .none = some (.bool (!isNone d)) := rfl
@[simp] theorem isNone_i {x : Int} : isNone (.int x) = false := rfl
@[simp] theorem isNone_t {x : List D} : isNone (.tuple x) = false := rfl
@[simp] theorem isNone_l {x : List D} : isNone (.list x) = false := rfl
@[simp] theorem isNone_n : isNone .none = true := rfl
@[simp] theorem mulD_small {x y : Int} (h : -(2 ^ 64) < x ∧ x < 2 ^ 64) : mulD (.int x) (.int y) = some (.int (x * y)) := if_pos (.inl (.inl h))
@[simp] theorem mulD_smallR {x y : Int} (h : -(2 ^ 64) < y ∧ y < 2 ^ 64) : mulD (.int x) (.int y) = some (.int (x * y)) := if_pos (.inl (.inr h))
theorem log_small {y : Int} (h : 0 < y) (h2 : y < 2 ^ 62) : y.natAbs.log2 < 9000 := by
  have h3 : y.natAbs < 2 ^ 62 := by omega
  have h4 : y.natAbs ≠ 0 := by omega
  have h5 := (Nat.log2_lt h4).mpr h3
  omega
@[simp] theorem divD_pos {x y : Int} (h : 0 < y) (h2 : y < 2 ^ 62) : divD (.int x) (.int y) = some (.int (x / y)) := if_pos ⟨h, log_small h h2⟩
@[simp] theorem modD_pos {x y : Int} (h : 0 < y) : modD (.int x) (.int y) = some (.int (x % y)) := if_pos h
/-! ### statements -/
def Out.seq (o : Out) (b : MS) : Out := match o with
  | .nx ρ' => b ρ'
  | o => o
@[simp] theorem seq_nx {b : MS} : (Out.nx ρ).seq b = b ρ := rfl
@[simp] theorem seq_brk {b : MS} : (Out.brk ρ).seq b = .brk ρ := rfl
@[simp] theorem seq_cont {b : MS} : (Out.cont ρ).seq b = .cont ρ := rfl
@[simp] theorem seq_ret {b : MS} {d : D} : (Out.ret d ρ).seq b = .ret d ρ := rfl
@[simp] theorem seq_retL {b : MS} {d : List D} : (Out.retL d ρ).seq b = .retL d ρ := rfl
@[simp] theorem seq_exc {b : MS} {n : Str} : (Out.exc n ρ).seq b = .exc n ρ := rfl
@[simp] theorem seq_stuck {b : MS} : (Out.stuck).seq b = .stuck := rfl
@[simp] theorem sNext_ap : sNext ρ = .nx ρ := rfl
@[simp] theorem sBrk_ap : sBrk ρ = .brk ρ := rfl
@[simp] theorem sCont_ap : sCont ρ = .cont ρ := rfl
@[simp] theorem sSeq_ap : sSeq g h ρ = (g ρ).seq h := by unfold sSeq Out.seq; cases g ρ <;> rfl
@[simp] theorem sAsg_ap {tg : D → Fr → Option Fr} : sAsg tg a ρ = Out.of (a ρ) ρ fun d => Out.ofO (tg d ρ) .nx := rfl
@[simp] theorem sAsgL_ap : sAsgL i as ρ = Out.of (as ρ) ρ fun ds => .nx (ρ.set i (.own (.lst ds))) := rfl
@[simp] theorem sExpr_ap : sExpr a ρ = Out.of (a ρ) ρ fun _ => .nx ρ := rfl
@[simp] theorem sRet_ap : sRet a ρ = Out.of (a ρ) ρ fun d => .ret d ρ := rfl
@[simp] theorem sRetL_ap : sRetL as ρ = Out.of (as ρ) ρ fun d => .retL d ρ := rfl
@[simp] theorem sRetN_ap : sRetN ρ = .ret .none ρ := rfl
@[simp] theorem sRaise_ap {n : Str} : sRaise n ρ = .exc n ρ := rfl
@[simp] theorem sIf_ap : sIf tf g h ρ = Out.of (tf ρ) ρ fun c => if c = true then g ρ else h ρ := rfl
@[simp] theorem sFrz_ap : sFrz i g ρ = g (frz i ρ) := rfl
def frzS : Option S → Fr → Nat → Fr
  | some (.own o), ρ, i => ρ.set i (.val o.d)
  | _, ρ, _ => ρ
@[simp] theorem frzS_own {ds : List D} : frzS (some (.own (.lst ds))) ρ i = ρ.set i (.val (.list ds)) := rfl
@[simp] theorem frzS_val {d : D} : frzS (some (.val d)) ρ i = ρ := rfl
@[simp] theorem frz_ap : frz i ρ = frzS ρ[i]? ρ i := by
  unfold frz frzS
  cases ρ[i]? with
  | none => rfl
  | some s => cases s <;> rfl
@[simp] theorem sFor_ap {tg : D → Fr → Option Fr} : sFor as tg g ρ = Out.of (as ρ) ρ fun ds => loopFor (forB tg g) ds ρ := rfl
@[simp] theorem forB_ap {tg : D → Fr → Option Fr} {d : D} : forB tg g d ρ = Out.ofO (tg d ρ) g := rfl
@[simp] theorem gN_ap {d : D} : gN i d ρ = some (ρ.set i (.val d)) := rfl
@[simp] theorem gNil_ap : gNil' [] ρ = some ρ := rfl
@[simp] theorem gC_ap {tg : D → Fr → Option Fr} {tgs : List D → Fr → Option Fr} {d : D} {ds : List D} : gC tg tgs (d :: ds) ρ = (tg d ρ).bind fun ρ' => tgs ds ρ' := rfl
@[simp] theorem gT_ap {tgs : List D → Fr → Option Fr} {ds : List D} : gT tgs (.tuple ds) ρ = tgs ds ρ := rfl
@[simp] theorem gL_ap {tgs : List D → Fr → Option Fr} {ds : List D} : gL tgs (.list ds) ρ = tgs ds ρ := rfl
def ownL : Option S → Option (List D)
  | some (.own (.lst ds)) => some ds
  | some (.pin (.lst ds)) => some ds
  | _ => none
@[simp] theorem ownL_own {ds : List D} : ownL (some (.own (.lst ds))) = some ds := rfl
@[simp] theorem ownL_pin {ds : List D} : ownL (some (.pin (.lst ds))) = some ds := rfl
@[simp] theorem ownAt_ap : ownAt i ρ = ownL ρ[i]? := rfl
def putS : Option S → List D → S
  | some (.pin _), ds => .pin (.lst ds)
  | _, ds => .own (.lst ds)
@[simp] theorem putS_own {o : OD} {ds : List D} : putS (some (.own o)) ds = .own (.lst ds) := rfl
@[simp] theorem putS_pin {o : OD} {ds : List D} : putS (some (.pin o)) ds = .pin (.lst ds) := rfl
@[simp] theorem putL_ap {ds : List D} : putL i ds ρ = ρ.set i (putS ρ[i]? ds) := by
  unfold putL putO putS
  cases ρ[i]? with
  | none => rfl
  | some s => cases s <;> rfl
@[simp] theorem sSet_ap {k e : ME} : sSet i k e ρ = Out.of (e ρ) ρ fun v => Out.ofO (ownAt i ρ) fun ds => Out.of (k ρ) ρ fun j => Out.ofO (setL ds j v) fun ds' => .nx (putL i ds' ρ) := rfl
@[simp] theorem sMut_ap {fm : List D → List D → Option (List D × D)} : sMut i fm as ρ = Out.ofO (ownAt i ρ) fun ds => Out.of (as ρ) ρ fun es => Out.ofO (fm ds es) fun r => .nx (putL i r.1 ρ) := rfl
@[simp] theorem sMutA_ap {fm : List D → List D → Option (List D × D)} : sMutA j i fm as ρ = Out.ofO (ownAt i ρ) fun ds => Out.of (as ρ) ρ fun es => Out.ofO (fm ds es) fun r => .nx ((putL i r.1 ρ).set j (.val r.2)) := rfl
@[simp] theorem m_nx : (Out.nx ρ).m = .ok .none := rfl
@[simp] theorem m_ret {d : D} : (Out.ret d ρ).m = .ok d := rfl
@[simp] theorem m_retL {d : List D} : (Out.retL d ρ).m = .ok (.list d) := rfl
@[simp] theorem m_exc {n : Str} : (Out.exc n ρ).m = .exc n := rfl
@[simp] theorem l_retL {d : List D} : (Out.retL d ρ).l = .ok d := rfl
@[simp] theorem l_exc {n : Str} : (Out.exc n ρ).l = .exc n := rfl
/-! ### walks -/
@[simp] theorem iE_ap : iE a ρ = (a ρ).bind itemsD := rfl
@[simp] theorem itemsD_l {ds : List D} : itemsD (.list ds) = .ok ds := rfl
@[simp] theorem itemsD_t {ds : List D} : itemsD (.tuple ds) = .ok ds := rfl
@[simp] theorem itemsD_s {ns : List Int} : itemsD (scrD ns) = .ok (ns.map .int) := rfl
@[simp] theorem seq_l {ds : List D} : seq? (.list ds) = some ds := rfl
@[simp] theorem seq_t {ds : List D} : seq? (.tuple ds) = some ds := rfl
@[simp] theorem seq_s {ns : List Int} : seq? (scrD ns) = some (ns.map .int) := rfl
def enumM : List D → M (List D)
  | [d] => (itemsD d).bind fun ds => .ok (enumL ds)
  | _ => .stuck
@[simp] theorem enumM_one {d : D} : enumM [d] = (itemsD d).bind fun ds => .ok (enumL ds) := rfl
@[simp] theorem iEn_ap : iEn as ρ = (as ρ).bind enumM := rfl
open Classical in
noncomputable def rngM1 : List D → M (List D)
  | [.int j] => if In62 j then .ok (rngL 0 j) else .stuck
  | _ => .stuck
open Classical in
noncomputable def rngM2 : List D → M (List D)
  | [.int i, .int j] => if In62 i ∧ In62 j then .ok (rngL i j) else .stuck
  | _ => .stuck
theorem rngM1_ok {j : Int} (h : In62 j) : rngM1 [.int j] = .ok (rngL 0 j) := if_pos h
theorem rngM2_ok {i j : Int} (h : In62 i) (h' : In62 j) : rngM2 [.int i, .int j] = .ok (rngL i j) := if_pos ⟨h, h'⟩
@[simp] theorem iR1_ap : iR1 as ρ = (as ρ).bind rngM1 := Eq.trans rfl rfl
@[simp] theorem iR2_ap : iR2 as ρ = (as ρ).bind rngM2 := Eq.trans rfl rfl
@[simp] theorem eLc_ap {tg : D → Fr → Option Fr} {vs : List Nat} : eLc as tg tf a vs ρ = (as ρ).bind fun ds => loopLc tg tf a vs ρ ds [] := rfl
theorem rgLD_ok {i j : Int} (h : RgOk i j) : rgLD i j = .ok (rngL i j) := if_pos h
theorem mFn_ok {np N : Nat} {g : MS} {ds : List D} (h : ds.length = np) : mFn np N g ds = (g (start' N ds)).m := if_pos h
theorem mFnL_ok {np N : Nat} {g : MS} {ds : List D} (h : ds.length = np) : mFnL np N g ds = (g (start' N ds)).l := if_pos h
/-! ### loops -/
/-- what is wanted behind a turn -/
def Turn' (Post : Out → Prop) (I : Fr → Prop) : Out → Prop
  | .nx ρ => I ρ
  | .cont ρ => I ρ
  | .brk ρ => Post (.nx ρ)
  | o => Post o
theorem loopFor_inv {body : D → Fr → Out} {Post : Out → Prop} (I : Nat → Fr → Prop) : ∀ (ds : List D) (k : Nat) (ρ : Fr), I k ρ →
    (∀ i d ρ, ds[i]? = some d → I (k + i) ρ → Turn' Post (I (k + i + 1)) (body d ρ)) → (∀ ρ, I (k + ds.length) ρ → Post (.nx ρ)) → Post (loopFor body ds ρ)
  | [], k, ρ, h0, _, hd => hd ρ h0
  | d :: ds, k, ρ, h0, hs, hd => by
    have h1 := hs 0 d ρ rfl h0
    have rc : ∀ ρ', I (k + 1) ρ' → Post (loopFor body ds ρ') := fun ρ' h => loopFor_inv I ds (k + 1) ρ' h
      (fun i d' ρ' q hi => by
        have z := hs (i + 1) d' ρ' (by simpa using q) (by rw [show k + (i + 1) = k + 1 + i by omega]; exact hi)
        rw [show k + (i + 1) + 1 = k + 1 + i + 1 by omega] at z
        exact z)
      (fun ρ' h => hd ρ' (by rw [List.length_cons, show k + (ds.length + 1) = k + 1 + ds.length by omega]; exact h))
    unfold loopFor
    cases q : body d ρ with
    | nx ρ' => rw [q] at h1; exact rc ρ' h1
    | cont ρ' => rw [q] at h1; exact rc ρ' h1
    | brk ρ' => rw [q] at h1; exact h1
    | ret d ρ => rw [q] at h1; exact h1
    | retL d ρ => rw [q] at h1; exact h1
    | exc n ρ => rw [q] at h1; exact h1
    | stuck => rw [q] at h1; exact h1
/-- a loop by an invariant -/
theorem for_inv {body : D → Fr → Out} {Post : Out → Prop} {ds : List D} {ρ : Fr} (I : Nat → Fr → Prop) (h0 : I 0 ρ)
    (hs : ∀ i d ρ, ds[i]? = some d → I i ρ → Turn' Post (I (i + 1)) (body d ρ)) (hd : ∀ ρ, I ds.length ρ → Post (.nx ρ)) : Post (loopFor body ds ρ) :=
  loopFor_inv I ds 0 ρ h0 (fun i d ρ q h => by rw [Nat.zero_add] at h ⊢; exact hs i d ρ q h) (fun ρ h => hd ρ (by rw [Nat.zero_add] at h; exact h))
/-- a comprehension without a test whose element is a function of the item -/
theorem loopLc_map {tg : D → Fr → Option Fr} {e : ME} {vs : List Nat} {ρ : Fr} (f : D → D) : ∀ (ds acc : List D), acc.length + ds.length < sizeLine →
    (∀ d ∈ ds, ∃ ρ', tg d (wipeF ρ vs) = some ρ' ∧ e ρ' = .ok (f d)) → loopLc tg tYesF e vs ρ ds acc = .ok (acc ++ ds.map f)
  | [], acc, _, _ => by unfold loopLc; simp
  | d :: ds, acc, hz, h => by
    obtain ⟨ρ', h1, h2⟩ := h d (List.mem_cons_self ..)
    rw [List.length_cons] at hz
    unfold loopLc
    rw [h1]
    show (noX (.ok true)).bind _ = _
    rw [show noX (M.ok true) = .ok true from rfl, M.bind_ok, if_pos rfl, h2, show noX (M.ok (f d)) = .ok (f d) from rfl, M.bind_ok, if_pos (by omega)]
    rw [loopLc_map f ds (acc ++ [f d]) (by rw [List.length_append, List.length_singleton]; omega) fun d hd => h d (List.mem_cons_of_mem _ hd)]
    simp
/-- .. with a test -/
theorem loopLc_filter {tg : D → Fr → Option Fr} {t : MT} {e : ME} {vs : List Nat} {ρ : Fr} (p : D → Bool) (f : D → D) : ∀ (ds acc : List D), acc.length + ds.length < sizeLine →
    (∀ d ∈ ds, ∃ ρ', tg d (wipeF ρ vs) = some ρ' ∧ t ρ' = .ok (p d) ∧ (p d = true → e ρ' = .ok (f d))) → loopLc tg t e vs ρ ds acc = .ok (acc ++ (ds.filter p).map f)
  | [], acc, _, _ => by unfold loopLc; simp
  | d :: ds, acc, hz, h => by
    obtain ⟨ρ', h1, h2, h3⟩ := h d (List.mem_cons_self ..)
    rw [List.length_cons] at hz
    unfold loopLc
    rw [h1]
    show (noX (t ρ')).bind _ = _
    rw [h2, show noX (M.ok (p d)) = .ok (p d) from rfl, M.bind_ok]
    cases q : p d with
    | true =>
      rw [if_pos rfl, h3 q, show noX (M.ok (f d)) = .ok (f d) from rfl, M.bind_ok, if_pos (by omega)]
      rw [loopLc_filter p f ds (acc ++ [f d]) (by rw [List.length_append, List.length_singleton]; omega) fun d hd => h d (List.mem_cons_of_mem _ hd)]
      simp [q]
    | false =>
      rw [if_neg Bool.false_ne_true]
      rw [loopLc_filter p f ds acc (by omega) fun d hd => h d (List.mem_cons_of_mem _ hd)]
      simp [q]
/-! ### isinstance -/
theorem kit_NoneType_int : L2.kitB "NoneType" "int" = some false := by decide +kernel
@[simp] theorem isi_NoneType_int  : isiD "int" .none = some (.bool false) := by show (L2.kitB "NoneType" "int").map _ = _; rw [kit_NoneType_int]; rfl
theorem kit_bool_int : L2.kitB "bool" "int" = some true := by decide +kernel
@[simp] theorem isi_bool_int {x : Bool} : isiD "int" (.bool x) = some (.bool true) := by show (L2.kitB "bool" "int").map _ = _; rw [kit_bool_int]; rfl
theorem kit_int_int : L2.kitB "int" "int" = some true := by decide +kernel
@[simp] theorem isi_int_int {x : Int} : isiD "int" (.int x) = some (.bool true) := by show (L2.kitB "int" "int").map _ = _; rw [kit_int_int]; rfl
theorem kit_str_int : L2.kitB "str" "int" = some false := by decide +kernel
@[simp] theorem isi_str_int {x : Str} : isiD "int" (.str x) = some (.bool false) := by show (L2.kitB "str" "int").map _ = _; rw [kit_str_int]; rfl
theorem kit_list_int : L2.kitB "list" "int" = some false := by decide +kernel
@[simp] theorem isi_list_int {x : List D} : isiD "int" (.list x) = some (.bool false) := by show (L2.kitB "list" "int").map _ = _; rw [kit_list_int]; rfl
theorem kit_tuple_int : L2.kitB "tuple" "int" = some false := by decide +kernel
@[simp] theorem isi_tuple_int {x : List D} : isiD "int" (.tuple x) = some (.bool false) := by show (L2.kitB "tuple" "int").map _ = _; rw [kit_tuple_int]; rfl
theorem kit_NoneType_bool : L2.kitB "NoneType" "bool" = some false := by decide +kernel
@[simp] theorem isi_NoneType_bool  : isiD "bool" .none = some (.bool false) := by show (L2.kitB "NoneType" "bool").map _ = _; rw [kit_NoneType_bool]; rfl
theorem kit_bool_bool : L2.kitB "bool" "bool" = some true := by decide +kernel
@[simp] theorem isi_bool_bool {x : Bool} : isiD "bool" (.bool x) = some (.bool true) := by show (L2.kitB "bool" "bool").map _ = _; rw [kit_bool_bool]; rfl
theorem kit_int_bool : L2.kitB "int" "bool" = some false := by decide +kernel
@[simp] theorem isi_int_bool {x : Int} : isiD "bool" (.int x) = some (.bool false) := by show (L2.kitB "int" "bool").map _ = _; rw [kit_int_bool]; rfl
theorem kit_str_bool : L2.kitB "str" "bool" = some false := by decide +kernel
@[simp] theorem isi_str_bool {x : Str} : isiD "bool" (.str x) = some (.bool false) := by show (L2.kitB "str" "bool").map _ = _; rw [kit_str_bool]; rfl
theorem kit_list_bool : L2.kitB "list" "bool" = some false := by decide +kernel
@[simp] theorem isi_list_bool {x : List D} : isiD "bool" (.list x) = some (.bool false) := by show (L2.kitB "list" "bool").map _ = _; rw [kit_list_bool]; rfl
theorem kit_tuple_bool : L2.kitB "tuple" "bool" = some false := by decide +kernel
@[simp] theorem isi_tuple_bool {x : List D} : isiD "bool" (.tuple x) = some (.bool false) := by show (L2.kitB "tuple" "bool").map _ = _; rw [kit_tuple_bool]; rfl
theorem kit_NoneType_str : L2.kitB "NoneType" "str" = some false := by decide +kernel
@[simp] theorem isi_NoneType_str  : isiD "str" .none = some (.bool false) := by show (L2.kitB "NoneType" "str").map _ = _; rw [kit_NoneType_str]; rfl
theorem kit_bool_str : L2.kitB "bool" "str" = some false := by decide +kernel
@[simp] theorem isi_bool_str {x : Bool} : isiD "str" (.bool x) = some (.bool false) := by show (L2.kitB "bool" "str").map _ = _; rw [kit_bool_str]; rfl
theorem kit_int_str : L2.kitB "int" "str" = some false := by decide +kernel
@[simp] theorem isi_int_str {x : Int} : isiD "str" (.int x) = some (.bool false) := by show (L2.kitB "int" "str").map _ = _; rw [kit_int_str]; rfl
theorem kit_str_str : L2.kitB "str" "str" = some true := by decide +kernel
@[simp] theorem isi_str_str {x : Str} : isiD "str" (.str x) = some (.bool true) := by show (L2.kitB "str" "str").map _ = _; rw [kit_str_str]; rfl
theorem kit_list_str : L2.kitB "list" "str" = some false := by decide +kernel
@[simp] theorem isi_list_str {x : List D} : isiD "str" (.list x) = some (.bool false) := by show (L2.kitB "list" "str").map _ = _; rw [kit_list_str]; rfl
theorem kit_tuple_str : L2.kitB "tuple" "str" = some false := by decide +kernel
@[simp] theorem isi_tuple_str {x : List D} : isiD "str" (.tuple x) = some (.bool false) := by show (L2.kitB "tuple" "str").map _ = _; rw [kit_tuple_str]; rfl
theorem kit_NoneType_list : L2.kitB "NoneType" "list" = some false := by decide +kernel
@[simp] theorem isi_NoneType_list  : isiD "list" .none = some (.bool false) := by show (L2.kitB "NoneType" "list").map _ = _; rw [kit_NoneType_list]; rfl
theorem kit_bool_list : L2.kitB "bool" "list" = some false := by decide +kernel
@[simp] theorem isi_bool_list {x : Bool} : isiD "list" (.bool x) = some (.bool false) := by show (L2.kitB "bool" "list").map _ = _; rw [kit_bool_list]; rfl
theorem kit_int_list : L2.kitB "int" "list" = some false := by decide +kernel
@[simp] theorem isi_int_list {x : Int} : isiD "list" (.int x) = some (.bool false) := by show (L2.kitB "int" "list").map _ = _; rw [kit_int_list]; rfl
theorem kit_str_list : L2.kitB "str" "list" = some false := by decide +kernel
@[simp] theorem isi_str_list {x : Str} : isiD "list" (.str x) = some (.bool false) := by show (L2.kitB "str" "list").map _ = _; rw [kit_str_list]; rfl
theorem kit_list_list : L2.kitB "list" "list" = some true := by decide +kernel
@[simp] theorem isi_list_list {x : List D} : isiD "list" (.list x) = some (.bool true) := by show (L2.kitB "list" "list").map _ = _; rw [kit_list_list]; rfl
theorem kit_tuple_list : L2.kitB "tuple" "list" = some false := by decide +kernel
@[simp] theorem isi_tuple_list {x : List D} : isiD "list" (.tuple x) = some (.bool false) := by show (L2.kitB "tuple" "list").map _ = _; rw [kit_tuple_list]; rfl
theorem kit_NoneType_tuple : L2.kitB "NoneType" "tuple" = some false := by decide +kernel
@[simp] theorem isi_NoneType_tuple  : isiD "tuple" .none = some (.bool false) := by show (L2.kitB "NoneType" "tuple").map _ = _; rw [kit_NoneType_tuple]; rfl
theorem kit_bool_tuple : L2.kitB "bool" "tuple" = some false := by decide +kernel
@[simp] theorem isi_bool_tuple {x : Bool} : isiD "tuple" (.bool x) = some (.bool false) := by show (L2.kitB "bool" "tuple").map _ = _; rw [kit_bool_tuple]; rfl
theorem kit_int_tuple : L2.kitB "int" "tuple" = some false := by decide +kernel
@[simp] theorem isi_int_tuple {x : Int} : isiD "tuple" (.int x) = some (.bool false) := by show (L2.kitB "int" "tuple").map _ = _; rw [kit_int_tuple]; rfl
theorem kit_str_tuple : L2.kitB "str" "tuple" = some false := by decide +kernel
@[simp] theorem isi_str_tuple {x : Str} : isiD "tuple" (.str x) = some (.bool false) := by show (L2.kitB "str" "tuple").map _ = _; rw [kit_str_tuple]; rfl
theorem kit_list_tuple : L2.kitB "list" "tuple" = some false := by decide +kernel
@[simp] theorem isi_list_tuple {x : List D} : isiD "tuple" (.list x) = some (.bool false) := by show (L2.kitB "list" "tuple").map _ = _; rw [kit_list_tuple]; rfl
theorem kit_tuple_tuple : L2.kitB "tuple" "tuple" = some true := by decide +kernel
@[simp] theorem isi_tuple_tuple {x : List D} : isiD "tuple" (.tuple x) = some (.bool true) := by show (L2.kitB "tuple" "tuple").map _ = _; rw [kit_tuple_tuple]; rfl
@[simp] theorem lenD_t {ds : List D} : lenD [.tuple ds] = some (.int ds.length) := rfl
@[simp] theorem lenD_l {ds : List D} : lenD [.list ds] = some (.int ds.length) := rfl
@[simp] theorem lenD_s {ns : List Int} : lenD [scrD ns] = some (.int ns.length) := by show some (PyData.int ((ns.map PyData.int).length : Nat)) = _; rw [List.length_map]
@[simp] theorem tupleD_l {ds : List D} : tupleD [.list ds] = some (.tuple ds) := rfl
@[simp] theorem tupleD_t {ds : List D} : tupleD [.tuple ds] = some (.tuple ds) := rfl
@[simp] theorem listD_l {ds : List D} : listD [.list ds] = some ds := rfl
@[simp] theorem listD_t {ds : List D} : listD [.tuple ds] = some ds := rfl
/-- one statement, then the rest -/
theorem seq_to {ρ ρ' : Fr} {g h : MS} {o : Out} (h1 : g ρ = .nx ρ') (h2 : h ρ' = o) : sSeq g h ρ = o := by
  rw [sSeq_ap, h1, seq_nx]
  exact h2
end Dn

set_option Elab.async false
set_option linter.all false
set_option maxRecDepth 100000
set_option maxHeartbeats 4000000
/-! DenM: try .. except -/
namespace Dn
open PySem PySem.Spec PyProof.Rows L2

def isErr : S → Bool
  | .err _ => true
  | _ => false
def noErr (ρ : Fr) : Bool := ρ.all fun s => !isErr s
def lk (l : List (Str × Bool)) (n : Str) : Option Bool := l.lookup n
/-- isinstance(e, X), e the error that slot i holds, its class the one named n -/
def eIsE (i : Nat) (tab : List (Str × Bool)) (n : Str) : ME := fun ρ => match ρ[i]? with
  | some (.err _) => lift ((lk tab n).map .bool)
  | _ => .stuck
/-- behind the suite -/
def outE (i : Nat) : Out → Out
  | .nx ρ => if noErr (ρ.set i .none) = true then .nx (ρ.set i .none) else .stuck
  | .brk ρ => if noErr (ρ.set i .none) = true then .brk (ρ.set i .none) else .stuck
  | .cont ρ => if noErr (ρ.set i .none) = true then .cont (ρ.set i .none) else .stuck
  | .ret d ρ => if noErr (ρ.set i .none) = true then .ret d (ρ.set i .none) else .stuck
  | _ => .stuck
def sTryAs (i : Nat) (tab : List (Str × Bool)) (gb : MS) (gs : Str → MS) : MS := fun ρ => match gb ρ with
  | .exc n ρ' => match lk tab n with
    | some true => if noErr ρ' = true then outE i (gs n (ρ'.set i (.err n))) else .stuck
    | some false => .exc n ρ'
    | none => .stuck
  | o => o
def sTryOnly (tab : List (Str × Bool)) (gb : MS) (gs : MS) : MS := fun ρ => match gb ρ with
  | .exc n ρ' => match lk tab n with
    | some true => (match gs ρ' with
      | .exc _ _ => .stuck
      | o => o)
    | some false => .exc n ρ'
    | none => .stuck
  | o => o
section
variable {K : PySem.W.Frag} {L : Addr × Addr} {mg : Str → Option Value} {W : WX} {F0 H0 F H F' H' : Hp} {σ : L2.St} {ρ : Fr}
theorem Env.relL (E : Env K L F0 H0 F H σ ρ) (h : noErr ρ = true) (a : Addr) : Env K (L.1, a) F0 H0 F H σ ρ where
  st := E.st
  len := E.len
  sep := E.sep
  sl := fun i s q => by
    have z := E.sl i s q
    cases s with
    | none => trivial
    | val d => exact z
    | own o => exact z
    | pin o => exact z
    | err n =>
      unfold noErr at h
      rw [List.all_eq_true] at h
      have := h _ (List.mem_of_getElem? q)
      simp [isErr] at this
theorem noErr_set {i : Nat} (h : noErr ρ = true) (s : S) (hs : isErr s = false) : noErr (ρ.set i s) = true := by
  unfold noErr at h ⊢
  rw [List.all_eq_true] at h ⊢
  intro x hx
  rcases List.mem_or_eq_of_mem_set hx with hx | hx
  · exact h x hx
  · subst hx; simp [hs]
/-- what the clause wishes, met by the pure suite -/
theorem try_core {i : Nat} {c : Value} {tab : List (Str × Bool)} {ts : Addr → Value → Option Addr → TS} {gs : Str → MS} {D : Ends} {n : Str}
    (hx : ∀ n b C, lk tab n = some b → mg n = some (.ref C) → PySem.W.exmOne K (.ref C) c = some b)
    (hs : ∀ a n C l, lk tab n = some true → mg n = some (.ref C) → DS K (l, a) mg (fun _ _ _ _ => False) (ts a (.ref C) none) (gs n))
    (w : WO K mg W L F0 H0 F D (match lk tab n with
      | some true => if noErr ρ = true then outE i (gs n (ρ.set i (.err n))) else .stuck
      | some false => .exc n ρ
      | none => .stuck)) (E : Env K L F0 H0 F H σ ρ) : Wm mg (wAs K c i ts W D) n σ H := by
  intro C hC
  cases q : lk tab n with
  | none => rw [q] at w; exact w.elim
  | some b =>
    rw [q] at w
    refine ⟨b, hx n b C q hC, fun hb => ?_, fun hb => ?_⟩
    · subst hb
      intro a ha
      have w : WO K mg W L F0 H0 F D (if noErr ρ = true then outE i (gs n (ρ.set i (.err n))) else .stuck) := w
      split at w
      · rename_i hn
        have E1 := (E.relL hn a).setx (s := .err n) (o := some (.ref a)) rfl (show SlotR K (L.1, a) F H0 H (.err n) (some (.ref a)) from rfl) i
        refine hs a n C L.1 q hC F0 H0 F H _ _ _ E1 ?_
        have back : ∀ {F' H' : Hp} {σ' : L2.St} {ρ' : Fr}, Env K (L.1, a) F0 H0 F' H' σ' ρ' → noErr (ρ'.set i .none) = true → Env K L F0 H0 F' H' (σ'.set i none) (ρ'.set i .none) := fun {F' H' σ' ρ'} E' hn' => (E'.setn i).relL hn' L.2
        cases qg : gs n (ρ.set i (.err n)) with
        | nx ρ' =>
          rw [qg] at w
          have w : WO K mg W L F0 H0 F D (if noErr (ρ'.set i .none) = true then .nx (ρ'.set i .none) else .stuck) := w
          split at w
          · rename_i hn'
            exact fun F' H' σ' e E' => w F' H' _ e (back E' hn')
          · exact w.elim
        | brk ρ' =>
          rw [qg] at w
          have w : WO K mg W L F0 H0 F D (if noErr (ρ'.set i .none) = true then .brk (ρ'.set i .none) else .stuck) := w
          split at w
          · rename_i hn'
            exact fun F' H' σ' e E' => w F' H' _ e (back E' hn')
          · exact w.elim
        | cont ρ' =>
          rw [qg] at w
          have w : WO K mg W L F0 H0 F D (if noErr (ρ'.set i .none) = true then .cont (ρ'.set i .none) else .stuck) := w
          split at w
          · rename_i hn'
            exact fun F' H' σ' e E' => w F' H' _ e (back E' hn')
          · exact w.elim
        | ret d ρ' =>
          rw [qg] at w
          have w : WO K mg W L F0 H0 F D (if noErr (ρ'.set i .none) = true then .ret d (ρ'.set i .none) else .stuck) := w
          split at w
          · rename_i hn'
            exact fun F' H' σ' v e E' => w F' H' _ v e (back E' hn')
          · exact w.elim
        | retL ds ρ' => rw [qg] at w; exact w.elim
        | exc n ρ' => rw [qg] at w; exact w.elim
        | stuck => rw [qg] at w; exact w.elim
      · exact w.elim
    · subst hb
      exact w F H σ (Ex.refl _) E C hC
theorem ds_tryAs {i : Nat} {c : Value} {tab : List (Str × Bool)} {tb : WX → TS} {ts : Addr → Value → Option Addr → TS} {gb : MS} {gs : Str → MS}
    (hx : ∀ n b C, lk tab n = some b → mg n = some (.ref C) → PySem.W.exmOne K (.ref C) c = some b)
    (hb : ∀ W, DS K L mg W (tb W) gb)
    (hs : ∀ a n C l, lk tab n = some true → mg n = some (.ref C) → DS K (l, a) mg (fun _ _ _ _ => False) (ts a (.ref C) none) (gs n)) :
    DS K L mg W (fun D σ H => tb (wAs K c i ts W D) D σ H) (sTryAs i tab gb gs) := fun F0 H0 F H σ ρ D E w => by
  refine hb _ F0 H0 F H σ ρ D E ?_
  unfold sTryAs at w
  cases q : gb ρ with
  | exc n ρ' =>
    rw [q] at w
    exact fun F' H' σ' e E' => try_core hx hs (WO.mono e w) E'
  | nx ρ' => rw [q] at w; exact w
  | brk ρ' => rw [q] at w; exact w
  | cont ρ' => rw [q] at w; exact w
  | ret d ρ' => rw [q] at w; exact w
  | retL ds ρ' => rw [q] at w; exact w
  | stuck => rw [q] at w; exact w
theorem ds_tryOnly {c : Value} {tab : List (Str × Bool)} {tb : WX → TS} {ts : Addr → Value → Option Addr → TS} {gb : MS} {gs : MS}
    (hx : ∀ n b C, lk tab n = some b → mg n = some (.ref C) → PySem.W.exmOne K (.ref C) c = some b)
    (hb : ∀ W, DS K L mg W (tb W) gb)
    (hs : ∀ a n C, mg n = some (.ref C) → DS K L mg (fun _ _ _ _ => False) (ts a (.ref C) none) gs) :
    DS K L mg W (fun D σ H => tb (wOnly K c ts W D) D σ H) (sTryOnly tab gb gs) := fun F0 H0 F H σ ρ D E w => by
  refine hb _ F0 H0 F H σ ρ D E ?_
  unfold sTryOnly at w
  cases q : gb ρ with
  | exc n ρ' =>
    rw [q] at w
    intro F' H' σ' e E' C hC
    have w : WO K mg W L F0 H0 F' D (match lk tab n with
    | some true => (match gs ρ' with
      | .exc _ _ => .stuck
      | o => o)
    | some false => .exc n ρ'
    | none => .stuck) := WO.mono e w
    cases ql : lk tab n with
    | none => rw [ql] at w; exact w.elim
    | some b =>
      rw [ql] at w
      refine ⟨b, hx n b C ql hC, fun hb => ?_, fun hb => ?_⟩
      · subst hb
        intro a ha
        refine hs a n C hC F0 H0 F' H' σ' ρ' _ E' ?_
        have w : WO K mg W L F0 H0 F' D (match gs ρ' with | .exc _ _ => .stuck | o => o) := w
        cases qg : gs ρ' with
        | exc n ρ'' => rw [qg] at w; exact w.elim
        | nx ρ'' => rw [qg] at w; exact w
        | brk ρ'' => rw [qg] at w; exact w
        | cont ρ'' => rw [qg] at w; exact w
        | ret d ρ'' => rw [qg] at w; exact w
        | retL ds ρ'' => rw [qg] at w; exact w
        | stuck => rw [qg] at w; exact w
      · subst hb
        have w : WO K mg W L F0 H0 F' D (.exc n ρ') := w
        exact w F' H' σ' (Ex.refl _) E' C hC
  | nx ρ' => rw [q] at w; exact w
  | brk ρ' => rw [q] at w; exact w
  | cont ρ' => rw [q] at w; exact w
  | ret d ρ' => rw [q] at w; exact w
  | retL ds ρ' => rw [q] at w; exact w
  | stuck => rw [q] at w; exact w
/-- isinstance(e, c) in the suite -/
def rIsX (K : PySem.W.Frag) (cls : Value) (d : Option Addr) (a : Addr) : List V → Hp → VK → Prop := fun xs H Q => ∃ D, cls = .ref D ∧ d = none ∧ ExcC K D ∧ rIsE K D a xs H Q
theorem call_isX {X : Cx} {a : Addr} {cls : Value} {d : Option Addr} {oe : Obj} {pn : List (Addr × Obj)} (hz : Zc cls d oe) (hf : ∃ vs, oe.data = .fields vs) (h : X.K = K := by rfl) : CallR (X.suite a ((a, oe) :: pn)) (.builtin "isinstance") (rIsX K cls d a) := by
  subst h
  intro pins s σ H xs us Q I r q
  obtain ⟨D, rfl, rfl, C, q⟩ := q
  exact call_isE C hz hf pins s σ H xs us Q I r q
theorem df_isX {i : Nat} {tab : List (Str × Bool)} {n : Str} {C : Addr} {a l : Addr} {c : V} {cv : Value} (hC : ExcC K C) (hc : ∀ u, L2.RelV c u → u = cv)
    (hk : ∀ b, lk tab n = some b → PySem.W.kitOne K (.ref C) cv = some b) : DF K (l, a) mg W (tCB (rIsX K (.ref C) none a) (tCons (tVar i) (tCons (tC c) tNil))) (eIsE i tab n) := fun F0 H0 F H σ ρ Q E p => by
  unfold eIsE at p
  split at p
  · rename_i m q
    obtain ⟨z, ez, k⟩ := post_lift p
    cases qb : lk tab n with
    | none => rw [qb] at ez; cases ez
    | some b =>
      rw [qb] at ez
      cases ez
      have e := join_some (E.sl i _ q)
      exact ⟨_, e, C, rfl, rfl, hC, c, cv, b, rfl, hc, hk b qb, k F H _ (Step.refl E.st.fh) (.bl b)⟩
  · exact p.elim
end
end Dn

set_option Elab.async false
set_option linter.all false
set_option maxRecDepth 100000
set_option maxHeartbeats 4000000
/-! DenN: what the classes of a law's errors say -/
namespace Dn
open PySem PySem.Spec PyProof.Rows L2
theorem pssId {X : Cx} {body : List Stmt} {t' : TS} (t : TS) (h : PSs X body t) (e : t = t') : PSs X body t' := e ▸ h
theorem boot_ValueError : bootBuiltins "ValueError" = some (.type "ValueError") := by decide +kernel
theorem bmK {X : Cx} {K : PySem.W.Frag} {e : Expr} {T : String} {r : V → List V → Hp → VK → Prop} {to : TE} {t : TA} (p : PE X e (tBM X.K T r to t)) (h : X.K = K := by rfl) : PE X e (tBM K T r to t) := h ▸ p
theorem bm0K {X : Cx} {K : PySem.W.Frag} {e : Expr} {T : String} {r : V → List V → Hp → VK → Prop} {to : TE} (p : PE X e (tBM0 X.K T r to)) (h : X.K = K := by rfl) : PE X e (tBM0 K T r to) := h ▸ p
structure ClsF (K : PySem.W.Frag) (C : Addr) : Prop where
  x : ExcC K C
  t : PySem.W.typeIn K (.ref C) = some (.type "type")
  s : PySem.W.subIn K (.ref C) (.ref C) = some true
/-- an own class by its name -/
def ClsAt (K : PySem.W.Frag) (mg : Str → Option Value) (n : Str) : Prop := ∃ C, mg n = some (.ref C) ∧ ClsF K C
/-- the class named n is below the class named m, or it is not -/
def Below (K : PySem.W.Frag) (mg : Str → Option Value) (n m : Str) (b : Bool) : Prop := ∀ C D, mg n = some (.ref C) → mg m = some (.ref D) → PySem.W.subIn K (.ref C) (.ref D) = some b
def BelowT (K : PySem.W.Frag) (mg : Str → Option Value) (n : Str) (T : String) (b : Bool) : Prop := ∀ C, mg n = some (.ref C) → PySem.W.subIn K (.ref C) (.type T) = some b
/-- all of a table -/
def Tab (K : PySem.W.Frag) (mg : Str → Option Value) (m : Str) (tab : List (Str × Bool)) : Prop := ∀ n b, lk tab n = some b → Below K mg n m b
/-- the classes of a table -/
def Cls (K : PySem.W.Frag) (mg : Str → Option Value) (tab : List (Str × Bool)) : Prop := ∀ n b C, lk tab n = some b → mg n = some (.ref C) → ClsF K C
def TabT (K : PySem.W.Frag) (mg : Str → Option Value) (T : String) (tab : List (Str × Bool)) : Prop := ∀ n b, lk tab n = some b → BelowT K mg n T b
section
variable {K : PySem.W.Frag} {mg : Str → Option Value} {m : Str} {T : String} {tab : List (Str × Bool)}
theorem tab_nil : Tab K mg m [] := fun n b h => nomatch h
theorem tab_cons {n0 : Str} {b0 : Bool} (h : Below K mg n0 m b0) (r : Tab K mg m tab) : Tab K mg m ((n0, b0) :: tab) := fun n b e => by
  unfold lk at e
  rw [List.lookup_cons] at e
  split at e
  · rename_i q
    have : n = n0 := by simpa using q
    subst this
    cases e
    exact h
  · exact r n b e
theorem cls_nil : Cls K mg [] := fun n b C h => nomatch h
theorem cls_cons {n0 : Str} {b0 : Bool} (h : ClsAt K mg n0) (r : Cls K mg tab) : Cls K mg ((n0, b0) :: tab) := fun n b C e hn => by
  unfold lk at e
  rw [List.lookup_cons] at e
  split at e
  · rename_i q
    have : n = n0 := by simpa using q
    subst this
    obtain ⟨D, hD, F⟩ := h
    rw [hD] at hn
    cases hn
    exact F
  · exact r n b C e hn
theorem tabT_nil : TabT K mg T [] := fun n b h => nomatch h
theorem tabT_cons {n0 : Str} {b0 : Bool} (h : BelowT K mg n0 T b0) (r : TabT K mg T tab) : TabT K mg T ((n0, b0) :: tab) := fun n b e => by
  unfold lk at e
  rw [List.lookup_cons] at e
  split at e
  · rename_i q
    have : n = n0 := by simpa using q
    subst this
    cases e
    exact h
  · exact r n b e
theorem exm_at {n : Str} {b : Bool} {C D : Addr} (F : ClsF K D) (hm : mg m = some (.ref D)) (t : Tab K mg m tab) (e : lk tab n = some b) (hn : mg n = some (.ref C)) : PySem.W.exmOne K (.ref C) (.ref D) = some b :=
  PySem.W.exm_ref F.x.hs F.x.hd F.t (t n b e C D hn hm)
theorem kit_at {n : Str} {b : Bool} {C D : Addr} (F : ClsF K D) (hm : mg m = some (.ref D)) (t : Tab K mg m tab) (e : lk tab n = some b) (hn : mg n = some (.ref C)) : PySem.W.kitOne K (.ref C) (.ref D) = some b := by
  have h4 := t n b e C D hn hm
  obtain ⟨cd, hc, _⟩ := PySem.W.any_some F.x.hd
  have e2 : ((PySem.W.clsIn K D).isSome && PySem.W.typeIn K (.ref D) == some (.type "type")) = true := by rw [hc, F.t] <;> rfl
  unfold PySem.W.kitOne
  split
  · rename_i q
    have q : Value.ref C = Value.ref D := beq_iff_eq.mp q
    cases q
    rw [F.s] at h4
    exact h4
  · show (if _ then _ else none) = _
    rw [if_pos e2]
    exact h4
theorem kitT_at {n : Str} {b : Bool} {C : Addr} (hT : PySem.W.kitMeta T = true) (t : TabT K mg T tab) (e : lk tab n = some b) (hn : mg n = some (.ref C)) : PySem.W.kitOne K (.ref C) (.type T) = some b := by
  have h4 := t n b e C hn
  unfold PySem.W.kitOne
  rw [if_neg (by intro q; cases (beq_iff_eq.mp q))]
  show (if PySem.W.kitMeta T = true then PySem.W.subIn K (.ref C) (.type T) else none) = _
  rw [if_pos hT]
  exact h4
theorem sub_mk {h : Heap} {n : Str} {C0 D0 : Addr} {b : Bool} (X : K.In h) (G : h.Ns mainGlobals mg) (a : PySem.W.nsIn K mainGlobals n = some (some (.ref C0))) (c : PySem.W.nsIn K mainGlobals m = some (some (.ref D0)))
    (s : PySem.W.subIn K (.ref C0) (.ref D0) = some b) : Below K mg n m b := fun C D hn hm => by
  have e := hn.symm.trans (PySem.W.mg_of X G a)
  cases e
  have e := hm.symm.trans (PySem.W.mg_of X G c)
  cases e
  exact s
theorem subT_mk {h : Heap} {n : Str} {C0 : Addr} {b : Bool} (X : K.In h) (G : h.Ns mainGlobals mg) (a : PySem.W.nsIn K mainGlobals n = some (some (.ref C0)))
    (s : PySem.W.subIn K (.ref C0) (.type T) = some b) : BelowT K mg n T b := fun C hn => by
  have e := hn.symm.trans (PySem.W.mg_of X G a)
  cases e
  exact s
theorem cls_mk {h : Heap} {n : Str} {C : Addr} (X : K.In h) (G : h.Ns mainGlobals mg) (a : PySem.W.nsIn K mainGlobals n = some (some (.ref C)))
    (hg : PySem.W.findIn K (.ref C) "__getattribute__" = some (some (.builtin "BaseException.__getattribute__")))
    (hk : PySem.W.findIn K (.ref C) "__getattr__" = some none)
    (hs : PySem.W.subIn K (.ref C) (.type "BaseException") = some true)
    (hd : PySem.W.hasDictIn K C = true)
    (ha : PySem.W.findIn K (.ref C) "__class__" = some (some (.builtin "object.__class__")))
    (hn : PySem.W.specialIn K (.builtin "object.__class__") "__get__" = some (some (.builtin "getset_descriptor.__get__")))
    (ht : PySem.W.takesIn K (.builtin "object.__class__") = some true)
    (hm : PySem.W.mroIn K C (.type "object") = some true)
    (t : PySem.W.typeIn K (.ref C) = some (.type "type"))
    (s : PySem.W.subIn K (.ref C) (.ref C) = some true) : ClsAt K mg n := ⟨C, PySem.W.mg_of X G a, ⟨hg, hk, hs, hd, ha, hn, ht, hm⟩, t, s⟩
/-- isinstance(e, X) for the own class X -/
theorem df_isC {W : WX} {i : Nat} {n : Str} {C D a l : Addr} (hC : ClsF K C) (hn : mg n = some (.ref C)) (F : ClsF K D) (hm : mg m = some (.ref D)) (t : Tab K mg m tab) :
    DF K (l, a) mg W (tCB (rIsX K (.ref C) none a) (tCons (tVar i) (tCons (tC (.ref D)) tNil))) (eIsE i tab n) :=
  df_isX (cv := .ref D) hC.x (fun _ r => r) fun b e => kit_at F hm t e hn
theorem df_isTy {W : WX} {i : Nat} {n : Str} {C a l : Addr} (hC : ClsF K C) (hn : mg n = some (.ref C)) (hT : PySem.W.kitMeta T = true) (t : TabT K mg T tab) :
    DF K (l, a) mg W (tCB (rIsX K (.ref C) none a) (tCons (tVar i) (tCons (tC (.ty T)) tNil))) (eIsE i tab n) :=
  df_isX (cv := .type T) hC.x (fun _ r => r) fun b e => kitT_at hT t e hn
end
end Dn

set_option Elab.async false
set_option linter.all false
set_option maxRecDepth 100000
set_option maxHeartbeats 4000000
/-! DenO: the pure layer made plain, second part -/
namespace Dn
open PySem L2
/-! ### equality of data that stand for plain things -/
structure Gr {α : Type} [DecidableEq α] (n : Nat) (f : α → D) : Prop where
  can : ∀ a, (f a).canLay0 = true
  dep : ∀ a, (f a).depth ≤ n
  eqv : ∀ a b, PyData.eqv (f a) (f b) = decide (a = b)
section
variable {α β : Type} [DecidableEq α] [DecidableEq β] {n m : Nat} {f : α → D} {g : β → D}
theorem gr_int : Gr 0 PyData.int := ⟨fun _ => by simp [PyData.canLay0], fun _ => by simp [PyData.depth], fun a b => by simp only [PyData.eqv]; exact (Bool.beq_eq_decide_eq a b)⟩
theorem gr_bool : Gr 0 PyData.bool := ⟨fun _ => by simp [PyData.canLay0], fun _ => by simp [PyData.depth], fun a b => by simp only [PyData.eqv]; exact (Bool.beq_eq_decide_eq a b)⟩
theorem Gr.canAll (G : Gr n f) : ∀ xs : List α, PyData.canLayAll0 (xs.map f) = true
  | [] => by simp [PyData.canLayAll0]
  | x :: xs => by rw [List.map_cons]; simp [PyData.canLayAll0, G.can x, G.canAll xs]
theorem Gr.depAll (G : Gr n f) : ∀ xs : List α, PyData.depthAll (xs.map f) ≤ n
  | [] => by simp [PyData.depthAll]
  | x :: xs => by
    rw [List.map_cons]
    have h1 := G.dep x
    have h2 := G.depAll xs
    simp only [PyData.depthAll]
    omega
theorem Gr.eqAll (G : Gr n f) : ∀ xs ys : List α, PyData.eqvAll (xs.map f) (ys.map f) = decide (xs = ys)
  | [], [] => by simp [PyData.eqvAll]
  | x :: xs, y :: ys => by
    rw [List.map_cons, List.map_cons]
    simp only [PyData.eqvAll, G.eqv x y, G.eqAll xs ys]
    by_cases h1 : x = y <;> by_cases h2 : xs = ys <;> simp [h1, h2]
  | [], _ :: _ => by simp [PyData.eqvAll]
  | _ :: _, [] => by simp [PyData.eqvAll]
theorem gr_list (G : Gr n f) : Gr (n + 1) (fun xs : List α => PyData.list (xs.map f)) :=
  ⟨fun xs => by simp only [PyData.canLay0]; exact G.canAll xs, fun xs => by simp only [PyData.depth]; have := G.depAll xs; omega, fun xs ys => by simp only [PyData.eqv]; exact G.eqAll xs ys⟩
theorem gr_tup (G : Gr n f) : Gr (n + 1) (fun xs : List α => PyData.tuple (xs.map f)) :=
  ⟨fun xs => by simp only [PyData.canLay0]; exact G.canAll xs, fun xs => by simp only [PyData.depth]; have := G.depAll xs; omega, fun xs ys => by simp only [PyData.eqv]; exact G.eqAll xs ys⟩
theorem gr_pair (F : Gr n f) (G : Gr m g) : Gr (max n m + 1) (fun p : α × β => PyData.tuple [f p.1, g p.2]) :=
  ⟨fun p => by simp [PyData.canLay0, PyData.canLayAll0, F.can, G.can], fun p => by
    have h1 := F.dep p.1
    have h2 := G.dep p.2
    simp only [PyData.depth, PyData.depthAll]
    omega, fun p q => by
    simp only [PyData.eqv, PyData.eqvAll, F.eqv, G.eqv]
    obtain ⟨a, b⟩ := p
    obtain ⟨c, d⟩ := q
    by_cases h1 : a = c <;> by_cases h2 : b = d <;> simp [h1, h2]⟩
theorem Gr.shaped (G : Gr n f) (h : n ≤ 64) (a : α) : SeqAt.shaped (f a) = true := by
  unfold SeqAt.shaped
  rw [G.can a, Bool.true_and, decide_eq_true_eq]
  exact Nat.le_trans (G.dep a) h
theorem eqD_l (G : Gr n f) (h : n ≤ 63) (xs ys : List α) : eqD (.list (xs.map f)) (.list (ys.map f)) = some (.bool (decide (xs = ys))) := by
  have e : eqB (.list (xs.map f)) (.list (ys.map f)) = if SeqAt.shaped (.list (xs.map f)) && SeqAt.shaped (.list (ys.map f)) then some (PyData.eqv (.list (xs.map f)) (.list (ys.map f))) else none := rfl
  unfold eqD
  rw [e, (gr_list G).shaped (by omega) xs, (gr_list G).shaped (by omega) ys, (gr_list G).eqv xs ys]
  rfl
theorem eqD_t (G : Gr n f) (h : n ≤ 63) (xs ys : List α) : eqD (.tuple (xs.map f)) (.tuple (ys.map f)) = some (.bool (decide (xs = ys))) := by
  have e : eqB (.tuple (xs.map f)) (.tuple (ys.map f)) = if SeqAt.shaped (.tuple (xs.map f)) && SeqAt.shaped (.tuple (ys.map f)) then some (PyData.eqv (.tuple (xs.map f)) (.tuple (ys.map f))) else none := rfl
  unfold eqD
  rw [e, (gr_tup G).shaped (by omega) xs, (gr_tup G).shaped (by omega) ys, (gr_tup G).eqv xs ys]
  rfl
theorem neD_of {d e : D} {b : Bool} (h : eqD d e = some (.bool b)) : neD d e = some (.bool (!b)) := by
  unfold eqD at h
  unfold neD
  cases q : eqB d e with
  | none => rw [q] at h; cases h
  | some c => rw [q] at h; cases h; rfl
theorem neD_l (G : Gr n f) (h : n ≤ 63) (xs ys : List α) : neD (.list (xs.map f)) (.list (ys.map f)) = some (.bool (!decide (xs = ys))) := neD_of (eqD_l G h xs ys)
theorem neD_t (G : Gr n f) (h : n ≤ 63) (xs ys : List α) : neD (.tuple (xs.map f)) (.tuple (ys.map f)) = some (.bool (!decide (xs = ys))) := neD_of (eqD_t G h xs ys)
end
@[simp] theorem eqD_il {xs ys : List Int} : eqD (.list (xs.map .int)) (.list (ys.map .int)) = some (.bool (decide (xs = ys))) := eqD_l gr_int (by decide) xs ys
@[simp] theorem neD_il {xs ys : List Int} : neD (.list (xs.map .int)) (.list (ys.map .int)) = some (.bool (!decide (xs = ys))) := neD_l gr_int (by decide) xs ys
@[simp] theorem eqD_it {xs ys : List Int} : eqD (.tuple (xs.map .int)) (.tuple (ys.map .int)) = some (.bool (decide (xs = ys))) := eqD_t gr_int (by decide) xs ys
@[simp] theorem neD_it {xs ys : List Int} : neD (.tuple (xs.map .int)) (.tuple (ys.map .int)) = some (.bool (!decide (xs = ys))) := neD_t gr_int (by decide) xs ys
/-! ### statements -/
def retO : Option S → Fr → Nat → Out
  | some (.own (.lst ds)), ρ, i => .retL ds (ρ.set i .none)
  | _, _, _ => .stuck
@[simp] theorem retO_own {ds : List D} {ρ : Fr} {i : Nat} : retO (some (.own (.lst ds))) ρ i = .retL ds (ρ.set i .none) := rfl
@[simp] theorem sRetO_ap {ρ : Fr} {i : Nat} : sRetO i ρ = retO ρ[i]? ρ i := by
  unfold sRetO retO
  cases ρ[i]? with
  | none => rfl
  | some s => cases s with
    | own o => cases o <;> rfl
    | _ => rfl
def resM (m : M (List D × D)) (k : List D × D → Out) : Out := match m with
  | .ok r => k r
  | _ => .stuck
@[simp] theorem resM_ok {r : List D × D} {k : List D × D → Out} : resM (.ok r) k = k r := rfl
@[simp] theorem sCallM_ap {i : Nat} {f : List D → M (List D × D)} {as : ML} {k : D → Fr → Out} {ρ : Fr} : sCallM i f as k ρ = Out.ofO (ownAt i ρ) fun _ => Out.of (as ρ) ρ fun ds => resM (f ds) fun r => k r.2 (putL i r.1 ρ) := rfl
@[simp] theorem noX_ok {α : Type} {x : α} : noX (M.ok x) = .ok x := rfl
@[simp] theorem eCallT_ap {f : List D → M (List D × D)} {as : ML} {ρ : Fr} : eCallT f as ρ = (as ρ).bind fun ds => (noX (f ds)).bind fun r => .ok r.2 := rfl
def isEr : Option S → M D → M D
  | some (.err _), m => m
  | _, _ => .stuck
@[simp] theorem isEr_err {n : Str} {m : M D} : isEr (some (.err n)) m = m := rfl
@[simp] theorem eIsE_ap {i : Nat} {tab : List (Str × Bool)} {n : Str} {ρ : Fr} : eIsE i tab n ρ = isEr ρ[i]? (lift ((lk tab n).map .bool)) := by
  unfold eIsE isEr
  cases ρ[i]? with
  | none => rfl
  | some s => cases s <;> rfl
/-- the exception or the rest -/
def onExc (o : Out) (h : Str → Fr → Out) : Out := match o with
  | .exc n ρ => h n ρ
  | o => o
@[simp] theorem onExc_exc {n : Str} {ρ : Fr} {h : Str → Fr → Out} : onExc (.exc n ρ) h = h n ρ := rfl
@[simp] theorem onExc_nx {ρ : Fr} {h : Str → Fr → Out} : onExc (.nx ρ) h = .nx ρ := rfl
@[simp] theorem onExc_ret {ρ : Fr} {d : D} {h : Str → Fr → Out} : onExc (.ret d ρ) h = .ret d ρ := rfl
def hitE (o : Option Bool) (a b : Out) : Out := match o with
  | some true => a
  | some false => b
  | none => .stuck
@[simp] theorem hitE_t {a b : Out} : hitE (some true) a b = a := rfl
@[simp] theorem hitE_f {a b : Out} : hitE (some false) a b = b := rfl
@[simp] theorem sTryAs_ap {i : Nat} {tab : List (Str × Bool)} {gb : MS} {gs : Str → MS} {ρ : Fr} : sTryAs i tab gb gs ρ = onExc (gb ρ) fun n ρ' => hitE (lk tab n) (if noErr ρ' = true then outE i (gs n (ρ'.set i (.err n))) else .stuck) (.exc n ρ') := by
  unfold sTryAs onExc hitE
  cases gb ρ with
  | exc n ρ' => cases q : lk tab n with
    | none => simp [q]
    | some b => cases b <;> simp [q]
  | _ => rfl
def calm (o : Out) : Out := match o with
  | .exc _ _ => .stuck
  | o => o
@[simp] theorem calm_nx {ρ : Fr} : calm (.nx ρ) = .nx ρ := rfl
@[simp] theorem calm_ret {ρ : Fr} {d : D} : calm (.ret d ρ) = .ret d ρ := rfl
@[simp] theorem sTryOnly_ap {tab : List (Str × Bool)} {gb gs : MS} {ρ : Fr} : sTryOnly tab gb gs ρ = onExc (gb ρ) fun n ρ' => hitE (lk tab n) (calm (gs ρ')) (.exc n ρ') := by
  unfold sTryOnly onExc hitE
  cases gb ρ with
  | exc n ρ' => cases q : lk tab n with
    | none => simp [q]
    | some b => cases b <;> simp [q, calm] <;> cases gs ρ' <;> rfl
  | _ => rfl
@[simp] theorem outE_nx {i : Nat} {ρ : Fr} : outE i (.nx ρ) = if noErr (ρ.set i .none) = true then .nx (ρ.set i .none) else .stuck := rfl
@[simp] theorem outE_ret {i : Nat} {ρ : Fr} {d : D} : outE i (.ret d ρ) = if noErr (ρ.set i .none) = true then .ret d (ρ.set i .none) else .stuck := rfl
@[simp] theorem noErr_nil : noErr [] = true := rfl
@[simp] theorem noErr_cons {s : S} {ρ : Fr} : noErr (s :: ρ) = (!isErr s && noErr ρ) := rfl
@[simp] theorem isErr_none : isErr .none = false := rfl
@[simp] theorem isErr_val {d : D} : isErr (.val d) = false := rfl
@[simp] theorem isErr_own {d : OD} : isErr (.own d) = false := rfl
@[simp] theorem isErr_pin {d : OD} : isErr (.pin d) = false := rfl
@[simp] theorem isErr_err {n : Str} : isErr (.err n) = true := rfl
/-! ### slices -/
@[simp] theorem slD_l {ds : List D} {lo hi : Option Int} : slD (.list ds) lo hi = some (.list (cutL ds lo hi)) := Eq.trans rfl rfl
@[simp] theorem slD_t {ds : List D} {lo hi : Option Int} : slD (.tuple ds) lo hi = some (.tuple (cutL ds lo hi)) := Eq.trans rfl rfl
@[simp] theorem slD_s {ns : List Int} {lo hi : Option Int} : slD (scrD ns) lo hi = some (.list (cutL (ns.map .int) lo hi)) := Eq.trans rfl rfl
@[simp] theorem slLD_l {ds : List D} {lo hi : Option Int} : slLD (.list ds) lo hi = some (cutL ds lo hi) := rfl
@[simp] theorem slLD_s {ns : List Int} {lo hi : Option Int} : slLD (scrD ns) lo hi = some (cutL (ns.map .int) lo hi) := rfl
theorem cutL_from {α : Type} (xs : List α) (k : Nat) : cutL xs (some (k : Int)) none = xs.drop k := by
  unfold cutL
  have e : HT.sIx xs.length xs.length none = xs.length := by unfold HT.sIx; rfl
  have e2 : HT.sIx xs.length 0 (some (k : Int)) = min k xs.length := by
    unfold HT.sIx
    simp
    try omega
  rw [e, e2]
  by_cases h : k ≤ xs.length
  · rw [Nat.min_eq_left h, List.take_of_length_le]
    simp
  · rw [Nat.min_eq_right (by omega), List.drop_eq_nil_of_le (by omega), List.drop_eq_nil_of_le (by omega), List.take_nil]
/-! ### what changes lists -/
@[simp] theorem appM_ok {ds : List D} {e : D} (h : ds.length < 16777216) : appM ds [e] = some (ds ++ [e], .none) := if_pos (show ds.length < sizeLine from h)
@[simp] theorem extM_ok {ds es : List D} (h : ds.length + es.length ≤ 16777216) : extM ds [.list es] = some (ds ++ es, .none) := if_pos (show ds.length + es.length ≤ sizeLine from h)
theorem insM_ok {ds : List D} {i : Int} {y : D} (h : ds.length < 16777216) (h0 : 0 ≤ i) (h1 : i ≤ 1000000000) : insM ds [.int i, y] = some (ds.take i.toNat ++ [y] ++ ds.drop i.toNat, .none) := if_pos ⟨h, h0, in63 (by omega)⟩
theorem popAtM_ok {ds : List D} {i : Nat} (h : i < ds.length) (h1 : i ≤ 1000000000) : popAtM ds [.int (i : Int)] = some (ds.eraseIdx i, ds[i]) := by
  unfold popAtM
  refine (if_pos (in63 (by omega))).trans ?_
  have e : seqIndex? (i : Int) ds.length = some i := by
    unfold seqIndex?
    simp
    omega
  rw [e]
  simp [List.getElem?_eq_getElem h]
@[simp] theorem mulD_rep {ds : List D} {k : Nat} (h : ds.length * k ≤ 16777216) (h1 : k ≤ 1000000000) : mulD (.list ds) (.int (k : Int)) = some (.list (List.replicate k ds).flatten) := by
  refine (if_pos ⟨in63 (by omega), by rw [show ((k : Int)).toNat = k from rfl]; exact h⟩).trans ?_
  simp
@[simp] theorem addD_l {a b : List D} (h : a.length + b.length ≤ 16777216) : addD (.list a) (.list b) = some (.list (a ++ b)) := if_pos (show _ ≤ sizeLine from h)
@[simp] theorem addD_t {a b : List D} (h : a.length + b.length ≤ 16777216) : addD (.tuple a) (.tuple b) = some (.tuple (a ++ b)) := if_pos (show _ ≤ sizeLine from h)
theorem powD_ok {i j : Int} (h0 : 0 ≤ j) (h1 : j ≤ 1000000) (h2 : i.natAbs < 2 ^ 64) : powD (.int i) (.int j) = some (.int (i ^ j.toNat)) := if_pos ⟨h0, h1, h2⟩
theorem atI_nat {α : Type} {xs : List α} {i : Int} (h0 : 0 ≤ i) (h : i < xs.length) : atI xs i = xs[i.toNat]? := by
  unfold atI ixN
  rw [if_pos h0, if_pos h]
  rfl
theorem ixD_il {ms : List Int} {i : Int} {v : Int} (h0 : 0 ≤ i) (h : ms[i.toNat]? = some v) : ixD (.list (ms.map .int)) (.int i) = some (.int v) := by
  have hl : i.toNat < ms.length := (List.getElem?_eq_some_iff.mp h).1
  show atI (ms.map PyData.int) i = _
  rw [atI_nat h0 (by rw [List.length_map]; omega), List.getElem?_map, h]
  rfl
theorem ixD_it {ms : List Int} {i : Int} {v : Int} (h0 : 0 ≤ i) (h : ms[i.toNat]? = some v) : ixD (.tuple (ms.map .int)) (.int i) = some (.int v) := by
  have hl : i.toNat < ms.length := (List.getElem?_eq_some_iff.mp h).1
  show atI (ms.map PyData.int) i = _
  rw [atI_nat h0 (by rw [List.length_map]; omega), List.getElem?_map, h]
  rfl
theorem ixD_is {ms : List Int} {i : Int} {v : Int} (h0 : 0 ≤ i) (h : ms[i.toNat]? = some v) : ixD (scrD ms) (.int i) = some (.int v) := by
  have hl : i.toNat < ms.length := (List.getElem?_eq_some_iff.mp h).1
  show atI (ms.map PyData.int) i = _
  rw [atI_nat h0 (by rw [List.length_map]; omega), List.getElem?_map, h]
  rfl
theorem setL_int {ms : List Int} {i : Int} {v : Int} (h0 : 0 ≤ i) (h : i < ms.length) : setL (ms.map .int) (.int i) (.int v) = some ((ms.set i.toNat v).map .int) := by
  unfold setL
  simp [ixN, h0, h, List.map_set]
end Dn

set_option Elab.async false
set_option linter.all false
set_option maxRecDepth 100000
set_option maxHeartbeats 4000000
/-! DenP: the pure layer made plain, third part: while -/
namespace Dn
open PySem L2
theorem fuel_is : fuel = 1000000 := by unfold fuel; rfl
theorem loopWhile_inv {tf : MT} {g : MS} {Post : Out → Prop} (I : Nat → Fr → Prop)
    (hs : ∀ m ρ, I m ρ → (tf ρ = .ok false ∧ Post (.nx ρ)) ∨ (tf ρ = .ok true ∧ Turn' Post (fun ρ' => ∃ m', m' < m ∧ I m' ρ') (g ρ))) : ∀ (n m : Nat) (ρ : Fr), m < n → I m ρ → Post (loopWhile tf g n ρ)
  | 0, m, ρ, h, _ => by omega
  | n + 1, m, ρ, h, hi => by
    unfold loopWhile
    rcases hs m ρ hi with ⟨e, p⟩ | ⟨e, p⟩
    · rw [e]
      exact p
    · rw [e]
      rw [of_ok, if_pos rfl]
      cases q : g ρ with
      | nx ρ' => rw [q] at p; obtain ⟨m', hm, hi'⟩ := p; exact loopWhile_inv I hs n m' ρ' (by omega) hi'
      | cont ρ' => rw [q] at p; obtain ⟨m', hm, hi'⟩ := p; exact loopWhile_inv I hs n m' ρ' (by omega) hi'
      | brk ρ' => rw [q] at p; exact p
      | ret d ρ => rw [q] at p; exact p
      | retL d ρ => rw [q] at p; exact p
      | exc n ρ => rw [q] at p; exact p
      | stuck => rw [q] at p; exact p
/-- while, by an invariant that tells how many turns are left at most -/
theorem while_inv {tf : MT} {g : MS} {Post : Out → Prop} {ρ : Fr} (I : Nat → Fr → Prop) (m : Nat) (h0 : I m ρ) (hm : m < 1000000)
    (hs : ∀ m ρ, I m ρ → (tf ρ = .ok false ∧ Post (.nx ρ)) ∨ (tf ρ = .ok true ∧ Turn' Post (fun ρ' => ∃ m', m' < m ∧ I m' ρ') (g ρ))) : Post (sWhile tf g ρ) :=
  loopWhile_inv I hs fuel m ρ (by rw [fuel_is]; exact hm) h0
end Dn

set_option Elab.async false
set_option linter.all false
set_option maxRecDepth 100000
set_option maxHeartbeats 4000000
/-! DenQ: errors that are kept behind the suite; isinstance of such -/
namespace Dn
open PySem PySem.Spec PyProof.Rows L2

/-! ### an object of ours that no one tracked is tracked from here on -/
section
variable {X : Cx} {pins : List (Addr × Obj)} {σ : L2.St} {H : Hp} {s : Shared}
theorem inv_track {a : Addr} {o : HO} (I : Inv X pins σ H s) (hn : H a = none) (n0 : X.s_0.heap.get? a = none) (hL : a ≠ X.env.locals) (hc : ∀ x c, X.env.cells.lookup x = some c → c ≠ a) (hp : ∀ p ∈ X.pn ++ pins, p.1 ≠ a)
    (new : ObjOk X.prog X.w (upd H a o) s.heap a o) : Inv X pins σ (upd H a o) s := by
  have ne0 : ∀ b u, X.s_0.heap.get? b = some u → b ≠ a := fun b u e z => by rw [z, n0] at e; cases e
  refine ⟨I.ok, I.os, I.bare, ⟨I.base.keep, I.base.slot, fun b u e n hx => ?_, I.base.there, fun b xs q => ?_, fun b u xs q => ?_, fun b ps q => ?_⟩, I.loc, I.cell, ?_, fun x c e => ?_, fun p h => ?_, I.hok.laidN (fun _ _ q => q) hn new, I.len⟩
  · rw [upd_ne (ne0 b u e)]; exact I.base.free b u e n hx
  · have z := I.base.tups b xs q
    rw [upd_ne (ne_of_none z hn)]; exact z
  · have z := I.base.frzs b u xs q
    rw [upd_ne (ne_of_none z hn)]; exact z
  · obtain ⟨m, z⟩ := I.base.tbls b ps q
    exact ⟨m, by rw [upd_ne (ne_of_none z hn)]; exact z⟩
  · rw [upd_ne (Ne.symm hL)]; exact I.free
  · rw [upd_ne (hc x c e)]; exact I.freeC x c e
  · obtain ⟨e, n, ne, nf, d⟩ := I.pin p h
    exact ⟨e, by rw [upd_ne (hp p h)]; exact n, ne, nf, d⟩
end
/-- the error's object, as what is known of it -/
def ExV (cls : Value) (d : Option Addr) (a : Addr) : HO := .ext fun h => ∃ (oe : Obj) (vs : Array Value), h.get? a = some oe ∧ Zc cls d oe ∧ oe.data = .fields vs
theorem exV_ok {P : Program} {w : World} {H : Hp} {h : Heap} {a : Addr} {cls : Value} {d : Option Addr} {oe : Obj} (e : h.get? a = some oe) (z : Zc cls d oe) (hd : ∃ vs, oe.data = .fields vs) : ObjOk P w H h a (ExV cls d a) := by
  obtain ⟨vs, hd⟩ := hd
  exact ⟨⟨oe, vs, e, z, hd⟩, ⟨oe, e⟩, fun _ _ ⟨o, v, q, r⟩ k => ⟨o, v, k o q, r⟩⟩
/-- as wAs, the error being tracked behind the suite -/
def wAsK (K : PySem.W.Frag) (c : Value) (i : Nat) (ts : Addr → Value → Option Addr → TS) (Wout : WX) (D : Ends) : WX := fun cls d σ H =>
  ∃ b, PySem.W.exmOne K cls c = some b ∧ (b = true → ∀ a, H a = none → ts a cls d
      { nx := fun σ' H' => H' a = none → D.nx (σ'.set i none) (upd H' a (ExV cls d a)), rt := fun v H' => H' a = none → D.rt v (upd H' a (ExV cls d a)),
        bk := fun σ' H' => H' a = none → D.bk (σ'.set i none) (upd H' a (ExV cls d a)), ct := fun σ' H' => H' a = none → D.ct (σ'.set i none) (upd H' a (ExV cls d a)) } (σ.set i (some (.ref a))) H) ∧
    (b = false → Wout cls d σ H)
section
variable {X : Cx} {x n : Str} {c : Value} {i : Nat} {body suite : List Stmt} {b₀ : Stmt} {np pos pos' : Pos} {tb : WX → TS} {ts : Addr → Value → Option Addr → TS} {Wout : WX}
theorem ps_try_asK (hs : X.stack = X.env :: X.outer) (hf : X.env.frame = some X.env.locals) (hN : X.N.Nodup) (hi : X.N[i]? = some n) (hln : X.env.kindOf n = some .local) (hc : Names X x c) (tk : Takes X Wout) (hex : X.ex = [])
    (hb : ∀ (W : WX) (pn : List (Addr × Obj)) (xe : Value → Shared → Prop), Takes (X.tr pn xe) W → PassesOwn (model X.prog X.w) X.A X.env xe → PSs (X.tr pn xe) body (tb W))
    (hsu : ∀ (a : Addr) (oe : Obj) (cls : Value) (d : Option Addr) (pn : List (Addr × Obj)), Zc cls d oe → (∃ vs, oe.data = .fields vs) → PSs (X.suite a ((a, oe) :: pn)) (b₀ :: suite) (ts a cls d)) :
    PS X (.Try body [.ExceptHandler (some (.Name x np)) (some n) (b₀ :: suite) pos'] [] [] pos) (fun D σ H => tb (wAsK X.K c i ts Wout D) D σ H) := by
  refine ⟨fun pins s σ H D I h => ?_⟩
  have ok := I.ok
  have hfr : X.A.frames = some (X.env :: X.outer) := by rw [ok.frames, hs]
  have hloc : Loc X.env.scope n := .inl hln
  refine wpAny_Try_except ?_
  refine wpAny_mono ((hb (wAsK X.K c i ts Wout D) (X.pn ++ pins) (fun e s₁ => wpAny (model X.prog X.w) X.A (noteFrame e X.env) (fun _ s₂ => wpAny (model X.prog X.w) X.A (setFlight e none) (fun _ s₃ =>
    wpAny (model X.prog X.w) X.A (handleBy e X.env [.ExceptHandler (some (.Name x np)) (some n) (b₀ :: suite) pos']) (SP X pins D) X.xe s₃) X.xe s₂) X.xe s₁) (fun u s' xx => ?_) PassesOwn.looking).run [] s σ H D (I.toTry _) h) (fun f s1 hsp => ?_) (fun e s1 he => he)
  · obtain ⟨a, B, sI, pins', σ', H', cls, d, rfl, J', nb, up, sky, na, os, ag, b, hb1, hyes, hno⟩ := xx
    have J : Inv X pins σ' H' sI := J'.ofTry ok
    have sky' : Sky B (X.env :: X.outer) a (Zc cls d) X.env.locals s'.heap := by rw [← hs]; exact sky
    show wpAny (model X.prog X.w) X.A (noteFrame (.ref a) X.env) _ _ _
    refine Sky.land Zc.steady hfr hf sky' fun h3 fl3 up3 => ?_
    have J3 : Inv X pins σ' H' { s' with heap := h3 } := J.landed nb fl3.1 (up.trans up3) os ag
    obtain ⟨oe3, vs3, he3, hz3, hd3⟩ := fl3.there
    have notFr : ∀ {h : Heap} {o : Obj} {vs : Array Value}, h.FunFrames B (X.env :: X.outer) → h.get? a = some o → o.data = .fields vs → a ∉ frs (X.env :: X.outer) := fun {h o vs} ff e dd hm => by
      obtain ⟨_, o', e', hnf⟩ := ff.mem hm
      rw [e] at e'; cases e'
      exact hnf _ dd
    have nfr := notFr fl3.2.2.1 he3 hd3
    have nL : a ≠ X.env.locals := fun z => nfr (List.mem_filterMap.mpr ⟨X.env, List.mem_cons_self, by rw [hf, z]⟩)
    have nF : a ∉ X.fs := fun hm => by
      obtain ⟨e, he, q⟩ := List.mem_filterMap.mp hm
      exact nfr (List.mem_filterMap.mpr ⟨e, List.mem_cons_of_mem _ he, q⟩)
    -- a is new
    have nI : ∀ b o, sI.heap.get? b = some o → b ≠ a := fun b o e z => by
      subst z
      have q := nb b o e (by rw [hs]; exact nfr)
      rw [fl3.2.1] at q
      cases q
    have n0 : X.s_0.heap.get? a = none := by
      cases q : X.s_0.heap.get? a with
      | none => rfl
      | some o =>
        obtain ⟨o', e⟩ := J.base.there a o q (by rw [hex]; exact fun z => nomatch z)
        exact absurd rfl (nI a o' e)
    have nP : ∀ p ∈ X.pn ++ pins, p.1 ≠ a := fun p hp => nI p.1 p.2 (J.pin p hp).1
    have nC : ∀ x c, X.env.cells.lookup x = some c → c ≠ a := fun x c e => by
      obtain ⟨v, o, ho, _⟩ := J.cell x c e
      exact nI c o ho
    have S3 := J3.suite he3 hd3 na nL nF
    refine wpAny_handleBy_cons (codeAny_handlers_test ?_) (by intro q; cases q)
    have LT : PySem.W.Looks (model X.prog X.w) h3 (typeOf (.ref a)) cls := fun A Q E s k q => wpAny_typeOf_ref (k _ _ he3) (by rw [hz3.1]; exact q)
    have LM := PySem.W.exm_one (M := model X.prog X.w) (J3.kIn) LT hb1
    have test : ∀ {Q : Value → Shared → Prop} {E : Value → Shared → Prop}, Q c { s' with heap := h3 } → wpAny (model X.prog X.w) (X.A.mark (some (.ref a))) (eval (.Name x np) X.env) Q E { s' with heap := h3 } := fun {Q E} q => by
      obtain ⟨hg, hdbg, hm | ⟨hm, hv, hnn⟩⟩ := hc
      · exact ld_glob (X := X.suite a ((a, oe3) :: (X.pn ++ pins))) S3 hg hm q hdbg
      · exact ld_blt (X := X.suite a ((a, oe3) :: (X.pn ++ pins))) S3 hg hm hv q hnn hdbg
    refine test (LM.here ?_)
    cases b with
    | true =>
      refine codeAny_handlers_suite_as ?_
      refine HandSPX.lands_againZ fl3 fun h4 fl4 up4 => ?_
      have J4 : Inv X pins σ' H' { s' with heap := h4 } := J.landed nb fl4.1 ((up.trans up3).trans up4) os ag
      obtain ⟨oe4, vs4, he4, hz4, hd4⟩ := fl4.there
      have S4 := J4.suite he4 hd4 na nL nF
      refine store_ok (X := X.suite a ((a, oe4) :: (X.pn ++ pins))) (v := .ref a) S4 hN hi hloc rfl (fun s5 S5 => ?_) (.inr hln)
      refine wpAny_mono ((hsu a oe4 cls d (X.pn ++ pins) hz4 ⟨_, hd4⟩).run [] s5 _ H' _ S5 (hyes rfl a na)) (fun f s6 hsp => ?_) (fun _ _ z => False.elim z)
      have end_ : ∀ {σ6 : L2.St} {H6 : Hp} {Q : Shared → Prop}, Inv (X.suite a ((a, oe4) :: (X.pn ++ pins))) [] σ6 H6 s6 → (∀ s7, H6 a = none → Inv X pins (σ6.set i none) (upd H6 a (ExV cls d a)) s7 → Q s7) →
          wpAny (model X.prog X.w) X.A (do bindName X.env n .none; unbindBehindTheSuite X.env n pos') (fun _ s7 => Q s7) X.xe s6 := fun {σ6 H6 Q} S6 hq => by
        have pA := S6.pin (a, oe4) (List.mem_append_left _ List.mem_cons_self)
        have J6 : Inv X pins σ6 H6 s6 := S6.unsuite ok
        have J7 : Inv X ((a, oe4) :: pins) σ6 H6 s6 := J6.pins_of fun p hp => by
          rcases List.mem_cons.mp hp with e | h
          · subst e; exact pA
          · exact J6.pin p (List.mem_append_right _ h)
        refine gone_ok J7 hN hi hln fun s7 I7 => hq s7 pA.2.1 ?_
        have p7 := I7.pin (a, oe4) (List.mem_append_right _ List.mem_cons_self)
        have I8 : Inv X pins (σ6.set i none) H6 s7 := I7.pins_of fun p hp => I7.pin p (List.mem_append_right _ (List.mem_cons_of_mem _ hp))
        exact inv_track I8 pA.2.1 n0 nL nC nP (exV_ok p7.1 hz4 ⟨_, hd4⟩)
      cases f with
      | next =>
        obtain ⟨σ6, H6, S6, q6⟩ := hsp
        exact end_ S6 fun s7 e7 J7 => ⟨_, _, J7, q6 e7⟩
      | brk =>
        obtain ⟨σ6, H6, S6, q6⟩ := hsp
        exact end_ S6 fun s7 e7 J7 => ⟨_, _, J7, q6 e7⟩
      | cont =>
        obtain ⟨σ6, H6, S6, q6⟩ := hsp
        exact end_ S6 fun s7 e7 J7 => ⟨_, _, J7, q6 e7⟩
      | ret u =>
        obtain ⟨v6, σ6, H6, S6, r6, q6⟩ := hsp
        exact end_ S6 fun s7 e7 J7 => ⟨_, _, _, J7, r6, q6 e7⟩
    | false =>
      show wpAny _ X.A (handleBy (.ref a) X.env []) _ _ _
      refine wpAny_handleBy_nil ?_
      obtain ⟨k1, k2, k3, oe, vs, T, oT, ts', he, hz, hd, h1, hr⟩ := id fl3
      unfold PySem.passOn
      refine wpAny_bind (wpAny_field he hd h1 ?_)
      rw [if_neg (show ¬ ((Value.ref T == Value.none) = true) from by simp)]
      have fin : wpAny (model X.prog X.w) X.A (setFlight (.ref a) X.env.frame) (fun _ s4 => wpAny (model X.prog X.w) X.A (throw (.ref a) : Sem Flow) (SP X pins D) X.xe s4) X.xe { s' with heap := h3 } := by
        rw [hf]
        refine HandSPX.setFlight_upZ fl3 fun h4 hh4 up4 => wpAny_throw (tk _ _ ?_)
        exact ⟨a, B, sI, pins, σ', H', cls, d, rfl, J, nb, (up.trans up3).trans up4, .inr (.inr (by rw [hs]; exact hh4)), na, os, ag, hno rfl⟩
      first
        | exact wpAny_bind (wpAny_pure (wpAny_bind fin))
        | exact wpAny_bind fin
  · cases f with
    | next =>
      obtain ⟨σ', H', J', q⟩ := hsp
      exact wpAny_execs_nil ⟨σ', H', J'.ofTry ok, q⟩
    | brk =>
      obtain ⟨σ', H', J', q⟩ := hsp
      exact ⟨σ', H', J'.ofTry ok, q⟩
    | cont =>
      obtain ⟨σ', H', J', q⟩ := hsp
      exact ⟨σ', H', J'.ofTry ok, q⟩
    | ret u =>
      obtain ⟨v, σ', H', J', r, q⟩ := hsp
      exact ⟨v, σ', H', J'.ofTry ok, r, q⟩
end

/-! ### the pure side -/
def keepS : S → S
  | .err n => .val (excD n)
  | s => s
/-- no error but n -/
def errOnly (n : Str) (ρ : Fr) : Bool := ρ.all fun s => match s with
  | .err m => decide (m = n)
  | _ => true
def outK (i : Nat) (n : Str) : Out → Out
  | .nx ρ => if errOnly n ρ = true then .nx ((ρ.set i .none).map keepS) else .stuck
  | .brk ρ => if errOnly n ρ = true then .brk ((ρ.set i .none).map keepS) else .stuck
  | .cont ρ => if errOnly n ρ = true then .cont ((ρ.set i .none).map keepS) else .stuck
  | .ret d ρ => if errOnly n ρ = true then .ret d ((ρ.set i .none).map keepS) else .stuck
  | _ => .stuck
def sTryK (i : Nat) (tab : List (Str × Bool)) (gb : MS) (gs : Str → MS) : MS := fun ρ => match gb ρ with
  | .exc n ρ' => match lk tab n with
    | some true => if noErr ρ' = true then outK i n (gs n (ρ'.set i (.err n))) else .stuck
    | some false => .exc n ρ'
    | none => .stuck
  | o => o
/-- j = e, in the suite -/
def sErr (j i : Nat) : MS := fun ρ => match ρ[i]? with
  | some (.err n) => .nx (ρ.set j (.err n))
  | _ => .stuck
section
variable {K : PySem.W.Frag} {L : Addr × Addr} {mg : Str → Option Value} {W : WX} {F0 H0 F H F' H' : Hp} {σ : L2.St} {ρ : Fr}
theorem ds_err {i j : Nat} : DS K L mg W (tAsg (tVar i) (gName j)) (sErr j i) := fun F0 H0 F H σ ρ D E w => by
  unfold sErr at w
  split at w
  · rename_i n q
    have e := E.sl i _ q
    have e : σ[i]? = some (some (.ref L.2)) := join_some e
    exact ⟨_, e, w F H _ (Ex.refl _) (E.setx (s := .err n) (o := some (.ref L.2)) rfl (show SlotR K L F H0 H (.err n) (some (.ref L.2)) from rfl) j)⟩
  · exact w.elim
theorem ownO_keep (s : S) : ownO (some (keepS s)) = ownO (some s) := by cases s <;> rfl
theorem isOwn_keep {ρ : Fr} {j : Nat} (h : isOwn (ρ.map keepS)[j]?) : isOwn ρ[j]? := by
  unfold isOwn at h ⊢
  rw [List.getElem?_map] at h
  cases q : ρ[j]? with
  | none => rw [q] at h; cases h
  | some s => rw [q] at h; rw [← ownO_keep s]; exact h
/-- behind the suite: the error is tracked, those who hold it hold a value -/
theorem Env.held {C a : Addr} {n : Str} (hC : Nm K C n) (E : Env K (L.1, a) F0 H0 F H σ ρ) (ha : H a = none) (he : errOnly n ρ = true) : Env K L F0 H0 (upd F a (ExV (.ref C) none a)) (upd H a (ExV (.ref C) none a)) σ (ρ.map keepS) where
  st := E.st.trans (Step.new E.st.fh ha)
  len := by rw [List.length_map]; exact E.len
  sl := fun j s q => by
    rw [List.getElem?_map] at q
    obtain ⟨t, qt, rfl⟩ := Option.map_eq_some_iff.mp q
    have E2 := (E.step (Step.new (o := ExV (.ref C) none a) E.st.fh ha)).sl j t qt
    cases t with
    | none => trivial
    | val d => exact E2
    | own o => exact E2
    | pin o => exact E2
    | err m =>
      unfold errOnly at he
      rw [List.all_eq_true] at he
      have z := he _ (List.mem_of_getElem? qt)
      have z : m = n := by simpa using z
      subst z
      exact ⟨.ref a, E2, .exc upd_same hC rfl⟩
  sep := fun i j l h1 h2 e1 e2 => E.sep i j l (isOwn_keep h1) (isOwn_keep h2) e1 e2
theorem errOnly_set {i : Nat} {n : Str} (h : errOnly n ρ = true) : errOnly n (ρ.set i .none) = true := by
  unfold errOnly at h ⊢
  rw [List.all_eq_true] at h ⊢
  intro x hx
  rcases List.mem_or_eq_of_mem_set hx with hx | hx
  · exact h x hx
  · subst hx; rfl
theorem tryK_core {i : Nat} {c : Value} {tab : List (Str × Bool)} {ts : Addr → Value → Option Addr → TS} {gs : Str → MS} {D : Ends} {n : Str}
    (hx : ∀ n b C, lk tab n = some b → mg n = some (.ref C) → PySem.W.exmOne K (.ref C) c = some b)
    (hm : ∀ n b C, lk tab n = some b → mg n = some (.ref C) → Nm K C n)
    (hs : ∀ a n C l, lk tab n = some true → mg n = some (.ref C) → DS K (l, a) mg (fun _ _ _ _ => False) (ts a (.ref C) none) (gs n))
    (w : WO K mg W L F0 H0 F D (match lk tab n with
      | some true => if noErr ρ = true then outK i n (gs n (ρ.set i (.err n))) else .stuck
      | some false => .exc n ρ
      | none => .stuck)) (E : Env K L F0 H0 F H σ ρ) : Wm mg (wAsK K c i ts W D) n σ H := by
  intro C hC
  cases q : lk tab n with
  | none => rw [q] at w; exact w.elim
  | some b =>
    rw [q] at w
    refine ⟨b, hx n b C q hC, fun hb => ?_, fun hb => ?_⟩
    · subst hb
      intro a ha
      have w : WO K mg W L F0 H0 F D (if noErr ρ = true then outK i n (gs n (ρ.set i (.err n))) else .stuck) := w
      split at w
      · rename_i hn
        have E1 := (E.relL hn a).setx (s := .err n) (o := some (.ref a)) rfl (show SlotR K (L.1, a) F H0 H (.err n) (some (.ref a)) from rfl) i
        refine hs a n C L.1 q hC F0 H0 F H _ _ _ E1 ?_
        have nm := hm n true C q hC
        have exu : ∀ {F' H' : Hp} {σ' : L2.St} {ρ' : Fr}, Env K (L.1, a) F0 H0 F' H' σ' ρ' → H' a = none → Ex F' (upd F' a (ExV (.ref C) none a)) := fun {F' H' σ' ρ'} E' h0 => Ex.new (E'.st.fh.free h0)
        have back : ∀ {F' H' : Hp} {σ' : L2.St} {ρ' : Fr}, Env K (L.1, a) F0 H0 F' H' σ' ρ' → H' a = none → errOnly n ρ' = true → Env K L F0 H0 (upd F' a (ExV (.ref C) none a)) (upd H' a (ExV (.ref C) none a)) (σ'.set i none) ((ρ'.set i .none).map keepS) :=
          fun {F' H' σ' ρ'} E' h0 he => (E'.setn i).held nm h0 (errOnly_set he)
        cases qg : gs n (ρ.set i (.err n)) with
        | nx ρ' =>
          rw [qg] at w
          have w : WO K mg W L F0 H0 F D (if errOnly n ρ' = true then .nx ((ρ'.set i .none).map keepS) else .stuck) := w
          split at w
          · rename_i hn'
            exact fun F' H' σ' e E' h0 => w _ _ _ (e.trans (exu E' h0)) (back E' h0 hn')
          · exact w.elim
        | brk ρ' =>
          rw [qg] at w
          have w : WO K mg W L F0 H0 F D (if errOnly n ρ' = true then .brk ((ρ'.set i .none).map keepS) else .stuck) := w
          split at w
          · rename_i hn'
            exact fun F' H' σ' e E' h0 => w _ _ _ (e.trans (exu E' h0)) (back E' h0 hn')
          · exact w.elim
        | cont ρ' =>
          rw [qg] at w
          have w : WO K mg W L F0 H0 F D (if errOnly n ρ' = true then .cont ((ρ'.set i .none).map keepS) else .stuck) := w
          split at w
          · rename_i hn'
            exact fun F' H' σ' e E' h0 => w _ _ _ (e.trans (exu E' h0)) (back E' h0 hn')
          · exact w.elim
        | ret d ρ' =>
          rw [qg] at w
          have w : WO K mg W L F0 H0 F D (if errOnly n ρ' = true then .ret d ((ρ'.set i .none).map keepS) else .stuck) := w
          split at w
          · rename_i hn'
            exact fun F' H' σ' v e E' r h0 => w _ _ _ v (e.trans (exu E' h0)) (back E' h0 hn') (r.mono (exu E' h0))
          · exact w.elim
        | retL ds ρ' => rw [qg] at w; exact w.elim
        | exc n ρ' => rw [qg] at w; exact w.elim
        | stuck => rw [qg] at w; exact w.elim
      · exact w.elim
    · subst hb
      exact w F H σ (Ex.refl _) E C hC
theorem ds_tryK {i : Nat} {c : Value} {tab : List (Str × Bool)} {tb : WX → TS} {ts : Addr → Value → Option Addr → TS} {gb : MS} {gs : Str → MS}
    (hx : ∀ n b C, lk tab n = some b → mg n = some (.ref C) → PySem.W.exmOne K (.ref C) c = some b)
    (hm : ∀ n b C, lk tab n = some b → mg n = some (.ref C) → Nm K C n)
    (hb : ∀ W, DS K L mg W (tb W) gb)
    (hs : ∀ a n C l, lk tab n = some true → mg n = some (.ref C) → DS K (l, a) mg (fun _ _ _ _ => False) (ts a (.ref C) none) (gs n)) :
    DS K L mg W (fun D σ H => tb (wAsK K c i ts W D) D σ H) (sTryK i tab gb gs) := fun F0 H0 F H σ ρ D E w => by
  refine hb _ F0 H0 F H σ ρ D E ?_
  unfold sTryK at w
  cases q : gb ρ with
  | exc n ρ' =>
    rw [q] at w
    exact fun F' H' σ' e E' => tryK_core hx hm hs (WO.mono e w) E'
  | nx ρ' => rw [q] at w; exact w
  | brk ρ' => rw [q] at w; exact w
  | cont ρ' => rw [q] at w; exact w
  | ret d ρ' => rw [q] at w; exact w
  | retL ds ρ' => rw [q] at w; exact w
  | stuck => rw [q] at w; exact w
end

/-! ### isinstance of what is held -/
inductive TyE (K : PySem.W.Frag) (H : Hp) : V → Value → Prop where
  | any {x : V} {t : Value} (h : TyX K H x t) : TyE K H x t
  | exc {a C : Addr} (h : H a = some (ExV (.ref C) none a)) (c : ExcC K C) : TyE K H (.ref a) (.ref C)
theorem kitE_of {X : Cx} {pins : List (Addr × Obj)} {σ : L2.St} {H : Hp} {s : Shared} {x : V} {u t : Value} (I : Inv X pins σ H s) (rx : RelV x u) (ty : TyE X.K H x t) : ∃ P : Heap → Prop, PySem.W.KitX X.K u t P ∧ P s.heap ∧ u ≠ .builtin "__main__.__loader__#opaque" := by
  cases ty with
  | any h => exact kit_of I rx h
  | @exc a C h c =>
    cases (show u = Value.ref a from rx)
    obtain ⟨⟨oe, vs, hget, hz, hd⟩, _, _⟩ := I.hok a _ h
    have J : PySem.W.InstAt s.heap a oe C none := by
      obtain ⟨oc, od, oda, osl⟩ := oe
      obtain ⟨h1, h2⟩ := hz
      dsimp only at h1 h2 hd
      subst h1 h2 hd
      exact ⟨hget, rfl, rfl, trivial⟩
    exact ⟨_, PySem.W.handS_kitx_exc c.hg c.hk c.hs c.hd c.ha c.hn c.ht c.hm, J, fun z => nomatch z⟩
def rIsiE (K : PySem.W.Frag) : List V → Hp → VK → Prop := fun xs H Q => ∃ (x c : V) (t u : Value) (b : Bool), xs = [x, c] ∧ ClsV c u ∧ TyE K H x t ∧ PySem.W.kitOne K t u = some b ∧ Q (.bl b) H
def rIsiTE (K : PySem.W.Frag) : List V → Hp → VK → Prop := fun xs H Q => ∃ (x : V) (tp : Addr) (cs : List V) (t : Value) (us : List Value) (b : Bool), xs = [x, .ref tp] ∧ H tp = some (.tup cs) ∧ Paired ClsV cs us ∧ TyE K H x t ∧ PySem.W.kitAny K t us = some b ∧ Q (.bl b) H
section
variable {X : Cx} {K : PySem.W.Frag}
theorem call_isiE : CallR X (.builtin "isinstance") (rIsiE X.K) := by
  intro pins s σ H xs us Q I r h
  obtain ⟨x, c, t, u, b, rfl, k, ty, e, q⟩ := h
  obtain ⟨u1, u2, rfl, r1, r2⟩ := vals2 r
  have e2 := k.eq r2
  subst e2
  obtain ⟨P, Z, p, hx⟩ := kitE_of I r1 ty
  exact PySem.W.kia_one Z I.kIn p e hx fun tk => ⟨.bl b, H, I.tok tk, rfl, q⟩
theorem kIsiE (h : X.K = K := by rfl) : CallR X (.builtin "isinstance") (rIsiE K) := h ▸ call_isiE
end
/-- isinstance(d, X): d an error that is held, or None -/
def isvD (tab : List (Str × Bool)) : D → Option D
  | .none => some (.bool false)
  | .dict [(.int _, .str n)] => (lk tab n).map .bool
  | _ => none
section
variable {K : PySem.W.Frag} {L : Addr × Addr} {mg : Str → Option Value} {W : WX} {ta : TE} {a : ME} {tab tab' : List (Str × Bool)} {c c' : V} {u u' : Value}
/-- what a class says of the named ones, and of None -/
structure IsT (K : PySem.W.Frag) (u : Value) (tab : List (Str × Bool)) : Prop where
  e : ∀ n b C, lk tab n = some b → Nm K C n → PySem.W.kitOne K (.ref C) u = some b
  n : PySem.W.kitOne K (.type "NoneType") u = some false
theorem isvD_bool {d z : D} (h : isvD tab d = some z) : ∃ b, z = .bool b := by
  unfold isvD at h
  split at h
  · cases h; exact ⟨_, rfl⟩
  · rename_i k n
    cases q : lk tab n with
    | none => rw [q] at h; cases h
    | some b => rw [q] at h; cases h; exact ⟨_, rfl⟩
  · cases h
theorem isv_ty {F H : Hp} {v : V} {d z : D} (ex : Ex F H) (r : RepB K F H v d) (h : isvD tab d = some z) : ∃ t, TyE K H v t ∧ ∀ tab b u, IsT K u tab → isvD tab d = some (.bool b) → PySem.W.kitOne K t u = some b := by
  unfold isvD at h
  split at h
  · cases h
    obtain rfl := r.isn
    exact ⟨_, .any (.base .non), fun tab b u i e => by cases e; exact i.n⟩
  · rename_i k n
    generalize hd : ((.dict [(.int k, .str n)]) : D) = d at r
    cases r with
    | frz r =>
      cases r with
      | exc h1 h2 h3 =>
        subst h3
        cases hd
        refine ⟨_, .exc (ex _ _ h1) h2.2, fun tab b u i e => ?_⟩
        have e : (lk tab n).map PyData.bool = some (.bool b) := e
        cases q : lk tab n with
        | none => rw [q] at e; cases e
        | some b' => rw [q] at e; cases e; exact i.e _ _ _ q h2
      | scr h r q => rw [q] at hd; injection hd with hd; injection hd with h1 _; injection h1 with h2 _; cases h2
      | dK h r q => rw [q] at hd; injection hd with hd; unfold dkD at hd; injection hd with h1 _; injection h1 with h2 _; cases h2
      | dT h r q => rw [q] at hd; injection hd with hd; unfold dtD at hd; injection hd with h1 _; injection h1 with h2 _; cases h2
      | dKf h r q => rw [q] at hd; injection hd with hd; unfold kdK at hd; injection hd with h1 _; injection h1 with h2 _; cases h2
      | dTf h r q => rw [q] at hd; injection hd with hd; unfold kdT at hd; injection hd with h1 _; injection h1 with h2 _; cases h2
      | ktp _ _ _ _ q => rw [q] at hd; injection hd with hd; injection hd with h1 _; injection h1 with h2 _; cases h2
      | fnc _ q => rw [q] at hd; injection hd with hd; injection hd with h1 _; injection h1 with h2 _; cases h2
      | non => cases hd
      | bl b => cases hd
      | int b => cases hd
      | str b => cases hd
      | lst _ _ => cases hd
      | tup _ _ => cases hd
    | thg h r =>
      cases r with
      | lst r => cases hd
      | dK r => injection hd with hd; unfold dkD at hd; injection hd with h1 _; injection h1 with h2 _; cases h2
      | dT r => injection hd with hd; unfold dtD at hd; injection hd with h1 _; injection h1 with h2 _; cases h2
  · cases h
theorem df_isv (k : ClsV c u) (i : IsT K u tab) (ha : DE K L mg W ta a) : DF K L mg W (tCB (rIsiE K) (tCons ta (tCons (tC c) tNil))) (e1 (isvD tab) a) := fun F0 H0 F H σ ρ Q E p => by
  refine ha F0 H0 F H σ ρ _ E (post_mono (post_bind p) (fun d kk F1 H1 x s1 r1 => ?_) fun _ z => z)
  obtain ⟨z, ez, k3⟩ := post_lift kk
  obtain ⟨b, rfl⟩ := isvD_bool ez
  obtain ⟨t, ty, kk⟩ := isv_ty s1.fh r1 ez
  exact ⟨x, c, t, u, b, rfl, k, ty, kk tab b u i ez, k3 F1 H1 _ s1 (.bl _)⟩
/-- isinstance(d, (X, Y)) -/
def isv2D (t1 t2 : List (Str × Bool)) (d : D) : Option D := match isvD t1 d, isvD t2 d with
  | some (.bool true), some _ => some (.bool true)
  | some (.bool false), r => r
  | _, _ => none
theorem df_isv2 (k : ClsV c u) (i : IsT K u tab) (k' : ClsV c' u') (i' : IsT K u' tab') (ha : DE K L mg W ta a) :
    DF K L mg W (tCB (rIsiTE K) (tCons ta (tCons (tTup (tCons (tC c) (tCons (tC c') tNil))) tNil))) (e1 (isv2D tab tab') a) := fun F0 H0 F H σ ρ Q E p => by
  refine ha F0 H0 F H σ ρ _ E (post_mono (post_bind p) (fun d kk F1 H1 x s1 r1 => ?_) fun _ z => z)
  obtain ⟨z, ez, k3⟩ := post_lift kk
  refine ⟨lt_line (by show 2 ≤ 100000; decide), fun l hl => ?_⟩
  have s2 : Step F1 H1 F1 (upd H1 l (.tup [c, c'])) := Step.new0 s1.fh hl
  have r2 := r1.step s2
  unfold isv2D at ez
  have fin : ∀ (t : Value) (b : Bool), TyE K (upd H1 l (.tup [c, c'])) x t → PySem.W.kitAny K t [u, u'] = some b → z = .bool b → rIsiTE K [x, .ref l] (upd H1 l (.tup [c, c'])) Q := fun t b ty e ez => by
    subst ez
    exact ⟨x, l, _, t, _, b, rfl, upd_same, .cons k (.cons k' .nil), ty, e, k3 F1 _ _ (s1.trans s2) (.bl b)⟩
  split at ez
  · rename_i d2 q1 q2
    cases ez
    obtain ⟨t, ty, kk⟩ := isv_ty s2.fh r2 q1
    refine fin t true ty ?_ rfl
    show (match PySem.W.kitOne K t u with | some true => some true | some false => _ | none => none) = _
    rw [kk tab true u i q1]
  · rename_i q1
    obtain ⟨b', rfl⟩ := isvD_bool ez
    obtain ⟨t, ty, kk⟩ := isv_ty s2.fh r2 q1
    refine fin t b' ty ?_ rfl
    show (match PySem.W.kitOne K t u with | some true => some true | some false => (match PySem.W.kitOne K t u' with | some true => some true | some false => some false | none => none) | none => none) = _
    rw [kk tab false u i q1, kk tab' b' u' i' ez]
    cases b' <;> rfl
  · cases ez
end

/-! ### the tables' parts -/
def NsMg (K : PySem.W.Frag) (mg : Str → Option Value) : Prop := ∀ n C, PySem.W.nsIn K mainGlobals n = some (some (.ref C)) → mg n = some (.ref C)
def NmAt (K : PySem.W.Frag) (mg : Str → Option Value) (n : Str) : Prop := ∀ C, mg n = some (.ref C) → Nm K C n
def NmT (K : PySem.W.Frag) (mg : Str → Option Value) (tab : List (Str × Bool)) : Prop := ∀ n b C, lk tab n = some b → mg n = some (.ref C) → Nm K C n
def NoneB (K : PySem.W.Frag) (mg : Str → Option Value) (m : Str) : Prop := ∀ D, mg m = some (.ref D) → PySem.W.subIn K (.type "NoneType") (.ref D) = some false
section
variable {K : PySem.W.Frag} {mg : Str → Option Value} {m : Str} {T : String} {tab : List (Str × Bool)}
theorem nmT_nil : NmT K mg [] := fun n b C h => nomatch h
theorem nmT_cons {n0 : Str} {b0 : Bool} (h : NmAt K mg n0) (r : NmT K mg tab) : NmT K mg ((n0, b0) :: tab) := fun n b C e hn => by
  unfold lk at e
  rw [List.lookup_cons] at e
  split at e
  · rename_i q
    have : n = n0 := by simpa using q
    subst this
    exact h C hn
  · exact r n b C e hn
theorem kit_none {D : Addr} (F : ClsF K D) (z : PySem.W.subIn K (.type "NoneType") (.ref D) = some false) : PySem.W.kitOne K (.type "NoneType") (.ref D) = some false := by
  obtain ⟨cd, hc, _⟩ := PySem.W.any_some F.x.hd
  have e2 : ((PySem.W.clsIn K D).isSome && PySem.W.typeIn K (.ref D) == some (.type "type")) = true := by rw [hc, F.t] <;> rfl
  unfold PySem.W.kitOne
  rw [if_neg (by intro q; cases (beq_iff_eq.mp q))]
  show (if _ then _ else none) = _
  rw [if_pos e2]
  exact z
theorem isT_own {D : Addr} (F : ClsF K D) (hm : mg m = some (.ref D)) (t : Tab K mg m tab) (ns : NsMg K mg) (z : NoneB K mg m) : IsT K (.ref D) tab :=
  ⟨fun n b C e hn => kit_at F hm t e (ns n C hn.1), kit_none F (z D hm)⟩
theorem isT_ty (hT : PySem.W.kitMeta T = true) (t : TabT K mg T tab) (ns : NsMg K mg) (z : kitB "NoneType" T = some false) : IsT K (.type T) tab :=
  ⟨fun n b C e hn => kitT_at hT t e (ns n C hn.1), kit_ty z⟩
theorem ns_mk {h : Heap} (X : K.In h) (G : h.Ns mainGlobals mg) : NsMg K mg := fun n C a => PySem.W.mg_of X G a
theorem nm_mk {h : Heap} {n : Str} {C0 : Addr} (X : K.In h) (G : h.Ns mainGlobals mg) (a : PySem.W.nsIn K mainGlobals n = some (some (.ref C0))) (k : ClsAt K mg n) : NmAt K mg n := fun C hC => by
  obtain ⟨C', h', F⟩ := k
  have e := hC.symm.trans (PySem.W.mg_of X G a)
  cases e
  have e := hC.symm.trans h'
  cases e
  exact ⟨a, F.x⟩
theorem none_mk {h : Heap} {D0 : Addr} (X : K.In h) (G : h.Ns mainGlobals mg) (c : PySem.W.nsIn K mainGlobals m = some (some (.ref D0))) (s : PySem.W.subIn K (.type "NoneType") (.ref D0) = some false) : NoneB K mg m := fun D hm => by
  have e := hm.symm.trans (PySem.W.mg_of X G c)
  cases e
  exact s
end
theorem kIsiTE {X : Cx} {K : PySem.W.Frag} (h : X.K = K := by rfl) : CallR X (.builtin "isinstance") (rIsiTE K) := by
  subst h
  intro pins s σ H xs us Q I r h
  obtain ⟨x, tp, cs, t, ws, b, rfl, hT, k, ty, e, q⟩ := h
  obtain ⟨u1, u2, rfl, r1, r2⟩ := vals2 r
  cases (show u2 = Value.ref tp from r2)
  obtain ⟨P, Z, p, hx⟩ := kitE_of I r1 ty
  obtain ⟨_, its, rv, o, h1, h2, n, h3⟩ := (show ObjOk X.prog X.w H s.heap tp (.tup cs) from I.hok tp _ hT)
  have e3 := ClsV.all k rv
  subst e3
  obtain ⟨oc, od, dt, sl⟩ := o
  simp only at h2 h3
  subst h2 h3
  exact PySem.W.kia_tup Z I.kIn p h1 e hx fun tk => ⟨.bl b, H, I.tok tk, rfl, q⟩
end Dn

set_option Elab.async false
set_option linter.all false
set_option maxRecDepth 100000
set_option maxHeartbeats 4000000
/-! DenR: held errors made plain; loops over lists by a function of the state -/
namespace Dn
open PySem L2
def okE (n : Str) : S → Bool
  | .err m => decide (m = n)
  | _ => true
@[simp] theorem okE_none {n : Str} : okE n .none = true := rfl
@[simp] theorem okE_val {n : Str} {d : D} : okE n (.val d) = true := rfl
@[simp] theorem okE_own {n : Str} {o : OD} : okE n (.own o) = true := rfl
@[simp] theorem okE_pin {n : Str} {o : OD} : okE n (.pin o) = true := rfl
@[simp] theorem okE_err {n m : Str} : okE n (.err m) = decide (m = n) := rfl
@[simp] theorem errOnly_nil {n : Str} : errOnly n [] = true := rfl
@[simp] theorem errOnly_cons {n : Str} {s : S} {ρ : Fr} : errOnly n (s :: ρ) = (okE n s && errOnly n ρ) := by cases s <;> rfl
@[simp] theorem keepS_none : keepS .none = .none := rfl
@[simp] theorem keepS_val {d : D} : keepS (.val d) = .val d := rfl
@[simp] theorem keepS_own {o : OD} : keepS (.own o) = .own o := rfl
@[simp] theorem keepS_pin {o : OD} : keepS (.pin o) = .pin o := rfl
@[simp] theorem keepS_err {n : Str} : keepS (.err n) = .val (excD n) := rfl
@[simp] theorem outK_nx {i : Nat} {n : Str} {ρ : Fr} : outK i n (.nx ρ) = if errOnly n ρ = true then .nx ((ρ.set i .none).map keepS) else .stuck := rfl
@[simp] theorem outK_ret {i : Nat} {n : Str} {ρ : Fr} {d : D} : outK i n (.ret d ρ) = if errOnly n ρ = true then .ret d ((ρ.set i .none).map keepS) else .stuck := rfl
@[simp] theorem sTryK_ap {i : Nat} {tab : List (Str × Bool)} {gb : MS} {gs : Str → MS} {ρ : Fr} : sTryK i tab gb gs ρ = onExc (gb ρ) fun n ρ' => hitE (lk tab n) (if noErr ρ' = true then outK i n (gs n (ρ'.set i (.err n))) else .stuck) (.exc n ρ') := by
  unfold sTryK onExc hitE
  cases gb ρ with
  | exc n ρ' => cases q : lk tab n with
    | none => simp [q]
    | some b => cases b <;> simp [q]
  | _ => rfl
def errS (o : Option S) (k : Str → Out) : Out := match o with
  | some (.err n) => k n
  | _ => .stuck
@[simp] theorem errS_err {n : Str} {k : Str → Out} : errS (some (.err n)) k = k n := rfl
@[simp] theorem sErr_ap {i j : Nat} {ρ : Fr} : sErr j i ρ = errS ρ[i]? fun n => .nx (ρ.set j (.err n)) := by
  unfold sErr errS
  cases ρ[i]? with
  | none => rfl
  | some s => cases s <;> rfl
@[simp] theorem isNone_x {n : Str} : isNone (excD n) = false := rfl
@[simp] theorem isvD_none {tab : List (Str × Bool)} : isvD tab .none = some (.bool false) := rfl
@[simp] theorem isvD_x {tab : List (Str × Bool)} {n : Str} : isvD tab (excD n) = (lk tab n).map .bool := rfl
@[simp] theorem isv2D_none {tab tab' : List (Str × Bool)} : isv2D tab tab' .none = some (.bool false) := rfl
def orO : Option Bool → Option Bool → Option D
  | some true, some _ => some (.bool true)
  | some false, some b => some (.bool b)
  | _, _ => none
@[simp] theorem orO_t {b : Bool} : orO (some true) (some b) = some (.bool true) := rfl
@[simp] theorem orO_f {b : Bool} : orO (some false) (some b) = some (.bool b) := rfl
@[simp] theorem isv2D_x {tab tab' : List (Str × Bool)} {n : Str} : isv2D tab tab' (excD n) = orO (lk tab n) (lk tab' n) := by
  unfold isv2D
  rw [isvD_x, isvD_x]
  cases lk tab n with
  | none => rfl
  | some b => cases b <;> cases lk tab' n <;> rfl
/-! ### loops by a function of the state -/
/-- each turn leads from a state to a state, some slots being left open -/
theorem for_state {α β : Type} {body : D → Fr → Out} {enc : α → D} {step : β → α → β} (I : β → Fr → Prop) (P : β → Prop) : ∀ (xs : List α) (b : β) (ρ : Fr), I b ρ → P b →
    (∀ b a ρ, a ∈ xs → P b → I b ρ → P (step b a) ∧ ∃ ρ', body (enc a) ρ = .nx ρ' ∧ I (step b a) ρ') → P (xs.foldl step b) ∧ ∃ ρ', loopFor body (xs.map enc) ρ = .nx ρ' ∧ I (xs.foldl step b) ρ'
  | [], b, ρ, h, p, _ => ⟨p, ρ, rfl, h⟩
  | x :: xs, b, ρ, h, p, hs => by
    obtain ⟨p', ρ', e, h'⟩ := hs b x ρ (List.mem_cons_self ..) p h
    obtain ⟨pz, ρz, ez, hz⟩ := for_state I P xs (step b x) ρ' h' p' fun b a ρ m => hs b a ρ (List.mem_cons_of_mem _ m)
    refine ⟨pz, ρz, ?_, hz⟩
    rw [List.map_cons]
    unfold loopFor
    rw [e]
    exact ez
end Dn

set_option Elab.async false
set_option linter.all false
set_option maxRecDepth 100000
set_option maxHeartbeats 4000000
/-! DenS: lists of data, indices, cuts, ranges, made plain -/
namespace Dn
open PySem L2
theorem rng_get {n : Nat} {j : Nat} {d : D} (h : (rngL 0 (n : Int))[j]? = some d) : j < n ∧ d = .int (j : Int) := by
  unfold rngL at h
  rw [List.getElem?_map] at h
  obtain ⟨y, hy, rfl⟩ := Option.map_eq_some_iff.mp h
  obtain ⟨hl, e⟩ := List.getElem?_eq_some_iff.mp hy
  rw [List.getElem_range] at e
  rw [List.length_range] at hl
  subst e
  exact ⟨by omega, by simp⟩
theorem rng_get2 {a b : Int} {j : Nat} {d : D} (h : (rngL a b)[j]? = some d) : (j : Int) < b - a ∧ d = .int (a + (j : Int)) := by
  unfold rngL at h
  rw [List.getElem?_map] at h
  obtain ⟨y, hy, rfl⟩ := Option.map_eq_some_iff.mp h
  obtain ⟨hl, e⟩ := List.getElem?_eq_some_iff.mp hy
  rw [List.getElem_range] at e
  rw [List.length_range] at hl
  subst e
  exact ⟨by omega, rfl⟩
theorem rng_len0 (n : Nat) : (rngL 0 (n : Int)).length = n := by rw [rng_len]; omega
theorem setL_ok {ds : List D} {i : Int} {v : D} (h0 : 0 ≤ i) (h : i < ds.length) : setL ds (.int i) v = some (ds.set i.toNat v) := by
  unfold setL
  simp [ixN, h0, h]
theorem ixD_l {ds : List D} {i : Int} {v : D} (h0 : 0 ≤ i) (h : ds[i.toNat]? = some v) : ixD (.list ds) (.int i) = some v := by
  have hl : i.toNat < ds.length := (List.getElem?_eq_some_iff.mp h).1
  show atI ds i = _
  rw [atI_nat h0 (by omega), h]
theorem ixD_t {ds : List D} {i : Int} {v : D} (h0 : 0 ≤ i) (h : ds[i.toNat]? = some v) : ixD (.tuple ds) (.int i) = some v := by
  have hl : i.toNat < ds.length := (List.getElem?_eq_some_iff.mp h).1
  show atI ds i = _
  rw [atI_nat h0 (by omega), h]
theorem set_range_map {α : Type} (n : Nat) (f : Nat → α) (i : Nat) (v : α) : ((List.range n).map f).set i v = (List.range n).map fun j => if j = i then v else f j := by
  refine List.ext_getElem? fun j => ?_
  rw [List.getElem?_set, List.getElem?_map, List.getElem?_map]
  by_cases h : j < n
  · by_cases e : i = j
    · subst e; simp [h]
    · have e' : ¬ j = i := fun z => e z.symm
      simp [h, e, e']
  · by_cases e : i = j
    · subst e; simp [h]
    · simp [h, e]
theorem cutL_to {α : Type} (xs : List α) (k : Nat) : cutL xs none (some (k : Int)) = xs.take k := by
  unfold cutL
  have e : HT.sIx xs.length 0 none = 0 := by unfold HT.sIx; rfl
  have e2 : HT.sIx xs.length xs.length (some (k : Int)) = min k xs.length := by
    unfold HT.sIx
    simp
    try omega
  rw [e, e2, List.drop_zero]
  by_cases h : k ≤ xs.length
  · rw [Nat.min_eq_left h, Nat.sub_zero]
  · rw [Nat.min_eq_right (by omega), List.take_of_length_le (by omega), List.take_of_length_le (by omega)]
theorem nat_mod {c m : Int} (h : 0 < m) : ∃ i : Nat, (i : Int) = c % m ∧ (i : Int) < m := ⟨(c % m).toNat, by
  have h1 := Int.emod_nonneg c (show m ≠ 0 by omega)
  have h2 := Int.emod_lt_of_pos c h
  omega⟩
/-! ### loops, step by step -/
section
variable {body : D → Fr → Out} {d : D} {ds : List D} {ρ ρ' : Fr}
theorem loop_nil : loopFor body [] ρ = .nx ρ := rfl
theorem loop_nx (h : body d ρ = .nx ρ') : loopFor body (d :: ds) ρ = loopFor body ds ρ' := by rw [loopFor, h]
theorem loop_cont (h : body d ρ = .cont ρ') : loopFor body (d :: ds) ρ = loopFor body ds ρ' := by rw [loopFor, h]
theorem loop_brk (h : body d ρ = .brk ρ') : loopFor body (d :: ds) ρ = .nx ρ' := by rw [loopFor, h]
theorem loop_ret {v : D} (h : body d ρ = .ret v ρ') : loopFor body (d :: ds) ρ = .ret v ρ' := by rw [loopFor, h]
theorem loop_exc {n : Str} (h : body d ρ = .exc n ρ') : loopFor body (d :: ds) ρ = .exc n ρ' := by rw [loopFor, h]
end
/-- a range of the natural numbers -/
theorem rng_nat (n : Nat) : rngL 0 (n : Int) = (List.range n).map fun j : Nat => .int (j : Int) := by
  unfold rngL
  rw [show ((n : Int) - 0).toNat = n by omega]
  exact List.map_congr_left fun j _ => by rw [Int.zero_add]
theorem rng_nat2 (a b : Nat) : rngL (a : Int) (b : Int) = (List.range (b - a)).map fun j : Nat => .int ((a + j : Nat) : Int) := by
  unfold rngL
  rw [show ((b : Int) - (a : Int)).toNat = b - a by omega]
  exact List.map_congr_left fun j _ => by rw [Int.natCast_add]
theorem cutL_both {α : Type} (xs : List α) (a b : Nat) : cutL xs (some (a : Int)) (some (b : Int)) = (xs.drop a).take (b - a) := by
  unfold cutL
  have e1 : HT.sIx xs.length 0 (some (a : Int)) = min a xs.length := by
    unfold HT.sIx
    simp
    try omega
  have e2 : HT.sIx xs.length xs.length (some (b : Int)) = min b xs.length := by
    unfold HT.sIx
    simp
    try omega
  rw [e1, e2]
  by_cases h : a ≤ xs.length
  · rw [Nat.min_eq_left h]
    by_cases h2 : b ≤ xs.length
    · rw [Nat.min_eq_left h2]
    · rw [Nat.min_eq_right (by omega), List.take_of_length_le (by simp), List.take_of_length_le (by simp; omega)]
  · rw [Nat.min_eq_right (show xs.length ≤ a by omega), List.drop_eq_nil_of_le (Nat.le_refl _), List.drop_eq_nil_of_le (by omega), List.take_nil, List.take_nil]
@[simp] theorem iRev_ap {e : ME} {ρ : Fr} : iRev' e ρ = (e ρ).bind fun d => (itemsD d).bind fun ds => .ok ds.reverse := rfl
theorem items_ref {d : D} {ds : List D} (h : itemsD d = .ok ds) : itemsD d = .ok ds := h
@[simp] theorem listD_s {ns : List Int} : listD [scrD ns] = some (ns.map .int) := rfl
/-- a loop that looks for the first item at which the body hands back -/
theorem loop_search {α : Type} {body : D → Fr → Out} {enc : α → D} {I : Fr → Prop} {P : α → D → Prop} : ∀ (xs : List α)
    (h : ∀ x ∈ xs, ∀ ρ, I ρ → (∃ d ρ', P x d ∧ body (enc x) ρ = .ret d ρ') ∨ ((∀ d, ¬ P x d) ∧ ∃ ρ', I ρ' ∧ body (enc x) ρ = .nx ρ')) (ρ : Fr), I ρ →
    (∃ pre x post d ρ', xs = pre ++ x :: post ∧ (∀ y ∈ pre, ∀ d, ¬ P y d) ∧ P x d ∧ loopFor body (xs.map enc) ρ = .ret d ρ') ∨
    ((∀ x ∈ xs, ∀ d, ¬ P x d) ∧ ∃ ρ', I ρ' ∧ loopFor body (xs.map enc) ρ = .nx ρ')
  | [], _, ρ, hi => .inr ⟨fun x hx => (by cases hx), ρ, hi, rfl⟩
  | x :: xs, h, ρ, hi => by
    rcases h x (List.mem_cons_self ..) ρ hi with ⟨d, ρ', p, e⟩ | ⟨np, ρ', hi', e⟩
    · exact .inl ⟨[], x, xs, d, ρ', rfl, fun y hy => (by cases hy), p, by rw [List.map_cons, loop_ret e]⟩
    · rw [List.map_cons, loop_nx e]
      rcases loop_search xs (fun y hy => h y (List.mem_cons_of_mem _ hy)) ρ' hi' with ⟨pre, y, post, d, ρ2, e1, e2, e3, e4⟩ | ⟨e1, ρ2, e2, e3⟩
      · refine .inl ⟨x :: pre, y, post, d, ρ2, by rw [e1]; rfl, fun z hz => ?_, e3, e4⟩
        rcases List.mem_cons.mp hz with rfl | hz
        · exact np
        · exact e2 z hz
      · refine .inr ⟨fun y hy => ?_, ρ2, e2, e3⟩
        rcases List.mem_cons.mp hy with rfl | hy
        · exact np
        · exact e1 y hy
/-- the first in an ascending list is the least -/
theorem first_least {xs pre post : List Nat} {x : Nat} {P : Nat → Prop} (hs : xs.Pairwise (· < ·)) (e : xs = pre ++ x :: post) (hp : ∀ y ∈ pre, ¬ P y) {y : Nat} (hy : y ∈ xs) (h : P y) : x ≤ y := by
  subst e
  rcases List.mem_append.mp hy with hy | hy
  · exact absurd h (hp y hy)
  · rcases List.mem_cons.mp hy with rfl | hy
    · exact Nat.le_refl _
    · have := (List.pairwise_append.mp hs).2.1
      exact Nat.le_of_lt ((List.pairwise_cons.mp this).1 y hy)
end Dn

set_option Elab.async false
set_option linter.all false
set_option maxRecDepth 100000
set_option maxHeartbeats 4000000
/-! DenT: dicts -/
namespace Dn
open PySem PySem.Spec PyProof.Rows L2

def key? : D → Option Key
  | .int i => some (.inl i)
  | .str x => some (.inr x)
  | _ => none
def keys? : List D → Option (List Key)
  | [] => some []
  | d :: ds => (key? d).bind fun k => (keys? ds).map (k :: ·)
def keyT? : D → Option (List Key)
  | .tuple ds => keys? ds
  | _ => none
section
variable {κ α : Type} [DecidableEq κ]
def vget (kvs : List (κ × α)) (k : κ) : Option α := (kvs.find? fun p => decide (p.1 = k)).map (·.2)
def vput (kvs : List (κ × α)) (k : κ) (v : α) : List (κ × α) := if (kvs.any fun p => decide (p.1 = k)) = true then kvs.map (fun p => if p.1 = k then (p.1, v) else p) else kvs ++ [(k, v)]
theorem vget_nil {k : κ} : vget ([] : List (κ × α)) k = none := rfl
theorem vget_pos {p : κ × α} {r : List (κ × α)} {k : κ} (e : p.1 = k) : vget (p :: r) k = some p.2 := by simp [vget, List.find?_cons, e]
theorem vget_neg {p : κ × α} {r : List (κ × α)} {k : κ} (e : ¬ p.1 = k) : vget (p :: r) k = vget r k := by simp [vget, List.find?_cons, e]
theorem vget_any (k : κ) : ∀ kvs : List (κ × α), (kvs.any fun p => decide (p.1 = k)) = (vget kvs k).isSome
  | [] => rfl
  | p :: r => by
    rw [List.any_cons]
    by_cases e : p.1 = k
    · simp only [vget_pos e, decide_eq_true e, Bool.true_or, Option.isSome_some]
    · rw [vget_neg e, decide_eq_false e, Bool.false_or]; exact vget_any k r
theorem vget_map (k j : κ) (y : α) : ∀ kvs : List (κ × α), vget (kvs.map fun p => if p.1 = k then (p.1, y) else p) j = (vget kvs j).map fun x => if j = k then y else x
  | [] => rfl
  | p :: r => by
    rw [List.map_cons]
    by_cases e : p.1 = k
    · rw [if_pos e]
      by_cases e2 : p.1 = j
      · rw [vget_pos (p := (p.1, y)) e2, vget_pos e2, Option.map_some, if_pos (e2.symm.trans e)]
      · rw [vget_neg (p := (p.1, y)) e2, vget_neg e2, vget_map k j y r]
    · rw [if_neg e]
      by_cases e2 : p.1 = j
      · rw [vget_pos e2, vget_pos e2, Option.map_some, if_neg (fun z => e (e2.trans z))]
      · rw [vget_neg e2, vget_neg e2, vget_map k j y r]
theorem vget_snoc (k j : κ) (y : α) : ∀ kvs : List (κ × α), vget kvs k = none → vget (kvs ++ [(k, y)]) j = if j = k then some y else vget kvs j
  | [], _ => by
    by_cases e : k = j
    · rw [if_pos e.symm]; exact vget_pos (p := (k, y)) e
    · rw [if_neg (fun z => e z.symm)]; exact vget_neg (p := (k, y)) e
  | p :: r, hn => by
    rw [List.cons_append]
    have hk : ¬ p.1 = k := fun e => by rw [vget_pos e] at hn; cases hn
    have hr : vget r k = none := by rw [vget_neg hk] at hn; exact hn
    by_cases e : p.1 = j
    · rw [vget_pos e, vget_pos e, if_neg (fun z => hk (e.trans z))]
    · rw [vget_neg e, vget_neg e, vget_snoc k j y r hr]
theorem vget_put (kvs : List (κ × α)) (k j : κ) (y : α) : vget (vput kvs k y) j = if j = k then some y else vget kvs j := by
  unfold vput
  rw [vget_any]
  cases q : vget kvs k with
  | none => simp only [Option.isSome_none, Bool.false_eq_true, if_false]; exact vget_snoc k j y kvs q
  | some x =>
    simp only [Option.isSome_some, if_true]
    rw [vget_map]
    by_cases e : j = k
    · subst e; rw [q, if_pos rfl, Option.map_some, if_pos rfl]
    · rw [if_neg e]
      cases vget kvs j with
      | none => rfl
      | some x => rw [Option.map_some, if_neg e]
theorem vput_len (kvs : List (κ × α)) (k : κ) (y : α) : (vput kvs k y).length ≤ kvs.length + 1 := by
  unfold vput
  split
  · rw [List.length_map]; omega
  · rw [List.length_append]; exact Nat.le_refl _
end
def decK : List (D × D) → Option (List (Key × D))
  | [] => some []
  | (k, v) :: r => (key? k).bind fun k' => (decK r).map ((k', v) :: ·)
def decT : List (D × D) → Option (List (List Key × D))
  | [] => some []
  | (k, v) :: r => (keyT? k).bind fun k' => (decT r).map ((k', v) :: ·)
def od? : D → Option OD
  | .dict ((.bool false, _) :: ps) => (decK ps).map .dK
  | .dict ((.bool true, _) :: ps) => (decT ps).map .dT
  | _ => none
@[simp] theorem key_int {i : Int} : key? (.int i) = some (.inl i) := rfl
@[simp] theorem key_str {x : Str} : key? (.str x) = some (.inr x) := rfl
theorem key_keyD : ∀ k : Key, key? (keyD k) = some k
  | .inl _ => rfl
  | .inr _ => rfl
theorem keys_keyD : ∀ ks : List Key, keys? (ks.map keyD) = some ks
  | [] => rfl
  | k :: ks => by
    show (key? (keyD k)).bind (fun k => (keys? (ks.map keyD)).map (k :: ·)) = _
    rw [key_keyD, keys_keyD ks]
    rfl
theorem decK_map : ∀ kvs : List (Key × D), decK (kvs.map fun p => (keyD p.1, p.2)) = some kvs
  | [] => rfl
  | p :: r => by
    show (key? (keyD p.1)).bind (fun k' => (decK (r.map fun p => (keyD p.1, p.2))).map ((k', p.2) :: ·)) = _
    rw [key_keyD, decK_map r]
    rfl
theorem decT_map : ∀ kvs : List (List Key × D), decT (kvs.map fun p => (.tuple (p.1.map keyD), p.2)) = some kvs
  | [] => rfl
  | p :: r => by
    show (keys? (p.1.map keyD)).bind (fun k' => (decT (r.map fun p => (.tuple (p.1.map keyD), p.2))).map ((k', p.2) :: ·)) = _
    rw [keys_keyD, decT_map r]
    rfl
@[simp] theorem od_dK {kvs : List (Key × D)} : od? (.dict (dkD kvs)) = some (.dK kvs) := by
  show (decK _).map OD.dK = _
  rw [decK_map]
  rfl
@[simp] theorem od_dT {kvs : List (List Key × D)} : od? (.dict (dtD kvs)) = some (.dT kvs) := by
  show (decT _).map OD.dT = _
  rw [decT_map]
  rfl
@[simp] theorem od_kdK {kvs : List (Key × D)} : od? (.dict (kdK kvs)) = some (.dK kvs) := by
  show (decK _).map OD.dK = _
  rw [decK_map]
  rfl
@[simp] theorem od_kdT {kvs : List (List Key × D)} : od? (.dict (kdT kvs)) = some (.dT kvs) := by
  show (decT _).map OD.dT = _
  rw [decT_map]
  rfl
def odGet : OD → D → Option (Option D)
  | .dK kvs, k => (key? k).map (vget kvs)
  | .dT kvs, k => (keyT? k).map (vget kvs)
  | .lst _, _ => none
def odPut : OD → D → D → Option OD
  | .dK kvs, k, v => (key? k).bind fun k => if kvs.length < sizeLine then some (.dK (vput kvs k v)) else none
  | .dT kvs, k, v => (keyT? k).bind fun k => if kvs.length < sizeLine then some (.dT (vput kvs k v)) else none
  | .lst _, _, _ => none
section
variable {K : PySem.W.Frag} {F H : Hp}
theorem key_rep {y : V} {d : D} {k : Key} (r : RepB K F H y d) (h : key? d = some k) : y = kV k := by
  unfold key? at h
  split at h
  · cases h; exact r.isi
  · cases h; exact r.iss
  · cases h
theorem keys_rep : ∀ {xs : List V} {ds : List D} {ks : List Key}, RepL K F xs ds → keys? ds = some ks → xs = ks.map kV
  | _, [], _, .nil, h => by cases h; rfl
  | _, d :: ds, ks, .cons a r, h => by
    unfold keys? at h
    cases q : key? d with
    | none => rw [q] at h; cases h
    | some k =>
      cases q2 : keys? ds with
      | none => rw [q, q2] at h; cases h
      | some ks' =>
        rw [q, q2] at h
        cases h
        rw [key_rep (H := F) (.frz a) q, keys_rep r q2]
        rfl
theorem keyT_rep {y : V} {d : D} {ks : List Key} (ex : Ex F H) (r : RepB K F H y d) (h : keyT? d = some ks) : ∃ b, y = .ref b ∧ H b = some (.tup (ks.map kV)) := by
  unfold keyT? at h
  split at h
  · rename_i ds
    generalize hd : ((.tuple ds) : D) = d at r
    cases r with
    | frz r => subst hd; cases r with
      | tup e q => exact ⟨_, rfl, by rw [← keys_rep q h]; exact ex _ _ e⟩
    | thg e q => cases q <;> cases hd
  · cases h
theorem repK_len : ∀ {xs : List (Key × V)} {ds : List (Key × D)}, RepK K F xs ds → xs.length = ds.length
  | _, _, .nil => rfl
  | _, _, .cons _ r => by rw [List.length_cons, List.length_cons, repK_len r]
theorem repT_len : ∀ {xs : List (List Key × V)} {ds : List (List Key × D)}, RepT K F xs ds → xs.length = ds.length
  | _, _, .nil => rfl
  | _, _, .cons _ r => by rw [List.length_cons, List.length_cons, repT_len r]
/-- what is found, here and there -/
def Fnd (K : PySem.W.Frag) (F : Hp) : Option V → Option D → Prop
  | none, none => True
  | some v, some d => Rep K F v d
  | _, _ => False
theorem repK_get (k : Key) : ∀ {xs : List (Key × V)} {ds : List (Key × D)}, RepK K F xs ds → Fnd K F (valV xs k) (vget ds k)
  | _, _, .nil => trivial
  | _, _, .cons (k := k') (v := v) (d := d) a r => by
    by_cases e : k' = k
    · rw [valV_pos (p := (k', v)) e, vget_pos (p := (k', d)) e]; exact a
    · rw [valV_neg (p := (k', v)) e, vget_neg (p := (k', d)) e]; exact repK_get k r
theorem repT_get (k : List Key) : ∀ {xs : List (List Key × V)} {ds : List (List Key × D)}, RepT K F xs ds → Fnd K F (valV xs k) (vget ds k)
  | _, _, .nil => trivial
  | _, _, .cons (k := k') (v := v) (d := d) a r => by
    by_cases e : k' = k
    · rw [valV_pos (p := (k', v)) e, vget_pos (p := (k', d)) e]; exact a
    · rw [valV_neg (p := (k', v)) e, vget_neg (p := (k', d)) e]; exact repT_get k r
theorem repK_any (k : Key) {xs : List (Key × V)} {ds : List (Key × D)} (r : RepK K F xs ds) : (xs.any fun p => decide (p.1 = k)) = (ds.any fun p => decide (p.1 = k)) := by
  rw [valV_any, vget_any]
  have h := repK_get k r
  cases q : valV xs k <;> cases q2 : vget ds k <;> rw [q, q2] at h <;> first | rfl | exact h.elim
theorem repT_any (k : List Key) {xs : List (List Key × V)} {ds : List (List Key × D)} (r : RepT K F xs ds) : (xs.any fun p => decide (p.1 = k)) = (ds.any fun p => decide (p.1 = k)) := by
  rw [valV_any, vget_any]
  have h := repT_get k r
  cases q : valV xs k <;> cases q2 : vget ds k <;> rw [q, q2] at h <;> first | rfl | exact h.elim
theorem repK_app {v : V} {d : D} (k : Key) (rv : Rep K F v d) : ∀ {xs : List (Key × V)} {ds : List (Key × D)}, RepK K F xs ds → RepK K F (xs ++ [(k, v)]) (ds ++ [(k, d)])
  | _, _, .nil => .cons rv .nil
  | _, _, .cons a r => .cons a (repK_app k rv r)
theorem repT_app {v : V} {d : D} (k : List Key) (rv : Rep K F v d) : ∀ {xs : List (List Key × V)} {ds : List (List Key × D)}, RepT K F xs ds → RepT K F (xs ++ [(k, v)]) (ds ++ [(k, d)])
  | _, _, .nil => .cons rv .nil
  | _, _, .cons a r => .cons a (repT_app k rv r)
theorem repK_map {v : V} {d : D} (k : Key) (rv : Rep K F v d) : ∀ {xs : List (Key × V)} {ds : List (Key × D)}, RepK K F xs ds → RepK K F (xs.map fun p => if p.1 = k then (p.1, v) else p) (ds.map fun p => if p.1 = k then (p.1, d) else p)
  | _, _, .nil => .nil
  | _, _, .cons (k := k') a r => by
    rw [List.map_cons, List.map_cons]
    by_cases e : k' = k
    · rw [if_pos e, if_pos e]; exact .cons rv (repK_map k rv r)
    · rw [if_neg e, if_neg e]; exact .cons a (repK_map k rv r)
theorem repT_map {v : V} {d : D} (k : List Key) (rv : Rep K F v d) : ∀ {xs : List (List Key × V)} {ds : List (List Key × D)}, RepT K F xs ds → RepT K F (xs.map fun p => if p.1 = k then (p.1, v) else p) (ds.map fun p => if p.1 = k then (p.1, d) else p)
  | _, _, .nil => .nil
  | _, _, .cons (k := k') a r => by
    rw [List.map_cons, List.map_cons]
    by_cases e : k' = k
    · rw [if_pos e, if_pos e]; exact .cons rv (repT_map k rv r)
    · rw [if_neg e, if_neg e]; exact .cons a (repT_map k rv r)
theorem repK_put {v : V} {d : D} (k : Key) {xs : List (Key × V)} {ds : List (Key × D)} (r : RepK K F xs ds) (rv : Rep K F v d) : RepK K F (putK xs k v) (vput ds k d) := by
  unfold putK vput
  rw [repK_any k r]
  split
  · exact repK_map k rv r
  · exact repK_app k rv r
theorem repT_put {v : V} {d : D} (k : List Key) {xs : List (List Key × V)} {ds : List (List Key × D)} (r : RepT K F xs ds) (rv : Rep K F v d) : RepT K F (putK xs k v) (vput ds k d) := by
  unfold putK vput
  rw [repT_any k r]
  split
  · exact repT_map k rv r
  · exact repT_app k rv r
/-- a dict, as it stands -/
theorem RepB.od {v : V} {d : D} {o : OD} (ex : Ex F H) (r : RepB K F H v d) (h : od? d = some o) : ∃ a ho, v = .ref a ∧ Rd H a ho ∧ RepO K F ho o := by
  cases r with
  | frz r =>
    cases r with
    | dK e q z =>
      rw [z, od_dK] at h
      cases h
      exact ⟨_, _, rfl, .inl (ex _ _ e), .dK q⟩
    | dT e q z =>
      rw [z, od_dT] at h
      cases h
      exact ⟨_, _, rfl, .inl (ex _ _ e), .dT q⟩
    | dKf e q z =>
      rw [z, od_kdK] at h
      cases h
      exact ⟨_, _, rfl, .inr ⟨_, ex _ _ e⟩, .dK q⟩
    | dTf e q z =>
      rw [z, od_kdT] at h
      cases h
      exact ⟨_, _, rfl, .inr ⟨_, ex _ _ e⟩, .dT q⟩
    | scr _ _ z => rw [z] at h; cases h
    | ktp _ _ _ _ z => rw [z] at h; cases h
    | fnc _ z => rw [z] at h; cases h
    | exc _ _ z => rw [z] at h; cases h
    | non => cases h
    | bl _ => cases h
    | int _ => cases h
    | str _ => cases h
    | lst _ _ => cases h
    | tup _ _ => cases h
  | thg e q =>
    cases q with
    | lst r => cases h
    | dK r =>
      have h : od? (.dict (dkD _)) = some o := h
      rw [od_dK] at h
      cases h
      exact ⟨_, _, rfl, .inl e, .dK r⟩
    | dT r =>
      have h : od? (.dict (dtD _)) = some o := h
      rw [od_dT] at h
      cases h
      exact ⟨_, _, rfl, .inl e, .dT r⟩
theorem od_get {a : Addr} {ho : HO} {o : OD} {y : V} {k : D} {r : Option D} (ex : Ex F H) (e : Rd H a ho) (ro : RepO K F ho o) (ry : RepB K F H y k) (h : odGet o k = some r) : ∃ ov, DGet H a y ov ∧ Fnd K F ov r := by
  cases ro with
  | lst _ => cases h
  | dK q =>
    have h : (key? k).map (vget _) = some r := h
    cases qk : key? k with
    | none => rw [qk] at h; cases h
    | some k' =>
      rw [qk] at h
      cases h
      rw [key_rep ry qk]
      exact ⟨_, (.inl ⟨_, _, e, rfl, rfl⟩), repK_get k' q⟩
  | dT q =>
    have h : (keyT? k).map (vget _) = some r := h
    cases qk : keyT? k with
    | none => rw [qk] at h; cases h
    | some k' =>
      rw [qk] at h
      cases h
      obtain ⟨b, rfl, hb⟩ := keyT_rep ex ry qk
      exact ⟨_, (.inr ⟨_, _, _, e, rfl, hb, rfl⟩), repT_get k' q⟩
theorem od_put {a : Addr} {ho : HO} {o o' : OD} {y v : V} {k d : D} (ex : Ex F H) (e : H a = some ho) (ro : RepO K F ho o) (ry : RepB K F H y k) (rv : Rep K F v d) (h : odPut o k d = some o') : ∃ ho', DPut H a y v (upd H a ho') ∧ RepO K F ho' o' := by
  cases ro with
  | lst _ => cases h
  | @dK vs ds q =>
    have h : (key? k).bind (fun k => if ds.length < sizeLine then some (OD.dK (vput ds k d)) else none) = some o' := h
    cases qk : key? k with
    | none => rw [qk] at h; cases h
    | some k' =>
      rw [qk] at h
      have h : (if ds.length < sizeLine then some (OD.dK (vput ds k' d)) else none) = some o' := h
      split at h
      · cases h
        rw [key_rep ry qk]
        exact ⟨_, DPut.k e (by rw [repK_len q]; assumption), .dK (repK_put k' q rv)⟩
      · cases h
  | @dT vs ds q =>
    have h : (keyT? k).bind (fun k => if ds.length < sizeLine then some (OD.dT (vput ds k d)) else none) = some o' := h
    cases qk : keyT? k with
    | none => rw [qk] at h; cases h
    | some k' =>
      rw [qk] at h
      have h : (if ds.length < sizeLine then some (OD.dT (vput ds k' d)) else none) = some o' := h
      split at h
      · cases h
        obtain ⟨b, rfl, hb⟩ := keyT_rep ex ry qk
        exact ⟨_, DPut.t e hb (by rw [repT_len q]; assumption), .dT (repT_put k' q rv)⟩
      · cases h
end

/-! ### reading -/
def rDGet : R2 := fun x y H Q => ∃ a v, x = .ref a ∧ DGet H a y (some v) ∧ Q v H
def rDIn : R2 := fun y x H Q => ∃ a o, x = .ref a ∧ DGet H a y o ∧ Q (.bl o.isSome) H
def rDNotIn : R2 := fun y x H Q => ∃ a o, x = .ref a ∧ DGet H a y o ∧ Q (.bl (!o.isSome)) H
def dgetD (d y : D) : Option D := (od? d).bind fun o => (odGet o y).bind id
def dinD (y d : D) : Option D := (od? d).bind fun o => (odGet o y).map fun r => .bool r.isSome
def dninD (y d : D) : Option D := (od? d).bind fun o => (odGet o y).map fun r => .bool (!r.isSome)
def dget2D (d y z : D) : Option D := (od? d).bind fun o => (odGet o y).map fun r => r.getD z
section
variable {X : Cx} {o i e f : Expr} {td ty tx : TE} {pos apos cpos : Pos}
theorem set_dictR (hu : X.A.units + 65 < cLine) : PSet X rSetD := set_dict (by omega)
theorem pe_dgetR (hu : X.A.units + 65 < cLine) (ho : PE X o td) (hi : PE X i ty) (hs : NoSl i) : PE X (.Subscript o i pos) (tOp rDGet td ty) := pe_dget (by omega) ho hi hs
theorem pe_dinR (hu : X.A.units + 65 < cLine) (hi : PE X i ty) (ho : PE X o td) (h1 : behindInMarks .In o = false := by rfl) : PE X (.Compare i [.In] [o] pos) (tOp rDIn ty td) := pe_cmp (pc_din (by omega) hi ho) h1
theorem pe_dninR (hu : X.A.units + 65 < cLine) (hi : PE X i ty) (ho : PE X o td) (h1 : behindInMarks .NotIn o = false := by rfl) : PE X (.Compare i [.NotIn] [o] pos) (tOp rDNotIn ty td) := pe_cmp (pc_dnotin (by omega) hi ho) h1
theorem pt_dinR (hu : X.A.units + 65 < cLine) (hi : PE X i ty) (ho : PE X o td) (h1 : behindInMarks .In o = false := by rfl) : PT X (.Compare i [.In] [o] pos) (tTest (tOp rDIn ty td)) := pt_cmp (pc_din (by omega) hi ho) h1
theorem pt_dninR (hu : X.A.units + 65 < cLine) (hi : PE X i ty) (ho : PE X o td) (h1 : behindInMarks .NotIn o = false := by rfl) : PT X (.Compare i [.NotIn] [o] pos) (tTest (tOp rDNotIn ty td)) := pt_cmp (pc_dnotin (by omega) hi ho) h1
theorem pe_dget2R (hu : X.A.units + 65 < cLine) (ho : PE X o td) (he : PE X e ty) (hf : PE X f tx) (m : M2 X o "get" apos e f cpos) : PE X (.Call (.Attribute o "get" apos) [e, f] [] cpos) (tDGet2 td ty tx) := pe_dget2 (by omega) ho he hf m
end
section
variable {K : PySem.W.Frag} {L : Addr × Addr} {mg : Str → Option Value} {W : WX} {ta tb tc : TE} {a b c : ME}
theorem rd_dget : R2D K rDGet dgetD := by
  intro F H x y d e Q z ex rx ry h k
  unfold dgetD at h
  cases q : od? d with
  | none => rw [q] at h; cases h
  | some o =>
    rw [q] at h
    have h : (odGet o e).bind id = some z := h
    obtain ⟨l, ho, rfl, hl, ro⟩ := rx.od ex q
    cases q2 : odGet o e with
    | none => rw [q2] at h; cases h
    | some r =>
      rw [q2] at h
      have h : r = some z := h
      subst h
      obtain ⟨ov, g, fd⟩ := od_get ex hl ro ry q2
      cases ov with
      | none => exact fd.elim
      | some v => exact ⟨l, v, rfl, g, k.here ex fd⟩
theorem rd_din : R2D K rDIn dinD := by
  intro F H x y d e Q z ex rx ry h k
  unfold dinD at h
  cases q : od? e with
  | none => rw [q] at h; cases h
  | some o =>
    rw [q] at h
    have h : (odGet o d).map _ = some z := h
    obtain ⟨l, ho, rfl, hl, ro⟩ := ry.od ex q
    cases q2 : odGet o d with
    | none => rw [q2] at h; cases h
    | some r =>
      rw [q2] at h
      cases h
      obtain ⟨ov, g, fd⟩ := od_get ex hl ro rx q2
      refine ⟨l, ov, rfl, g, ?_⟩
      have : ov.isSome = r.isSome := by cases ov <;> cases r <;> first | rfl | exact fd.elim
      rw [this]
      exact k.here ex (.bl _)
theorem rd_dnin : R2D K rDNotIn dninD := by
  intro F H x y d e Q z ex rx ry h k
  unfold dninD at h
  cases q : od? e with
  | none => rw [q] at h; cases h
  | some o =>
    rw [q] at h
    have h : (odGet o d).map _ = some z := h
    obtain ⟨l, ho, rfl, hl, ro⟩ := ry.od ex q
    cases q2 : odGet o d with
    | none => rw [q2] at h; cases h
    | some r =>
      rw [q2] at h
      cases h
      obtain ⟨ov, g, fd⟩ := od_get ex hl ro rx q2
      refine ⟨l, ov, rfl, g, ?_⟩
      have : ov.isSome = r.isSome := by cases ov <;> cases r <;> first | rfl | exact fd.elim
      rw [this]
      exact k.here ex (.bl _)
def eGet2 (a b c : ME) : ME := fun ρ => (a ρ).bind fun x => (lift (od? x)).bind fun o => (b ρ).bind fun y => (c ρ).bind fun z => lift ((odGet o y).map fun r => r.getD z)
theorem isD_of {F H : Hp} {l : Addr} {ho : HO} {o : OD} (e : Rd H l ho) (ro : RepO K F ho o) (h : ∀ ds, o ≠ .lst ds) : IsD H l := by
  cases ro with
  | lst _ => exact absurd rfl (h _)
  | dK _ => exact .inl ⟨_, e⟩
  | dT _ => exact .inr ⟨_, e⟩
theorem od_nol {d : D} {o : OD} (h : od? d = some o) : ∀ ds, o ≠ .lst ds := fun ds z => by
  subst z
  unfold od? at h
  split at h
  · rename_i ps
    cases q : decK ps with
    | none => rw [q] at h; cases h
    | some _ => rw [q] at h; cases h
  · rename_i ps
    cases q : decT ps with
    | none => rw [q] at h; cases h
    | some _ => rw [q] at h; cases h
  · cases h
theorem df_dget2 (ha : DE K L mg W ta a) (hb : DE K L mg W tb b) (hc : DF K L mg W tc c) : DF K L mg W (tDGet2 ta tb tc) (eGet2 a b c) := fun F0 H0 F H σ ρ Q E p => by
  refine ha F0 H0 F H σ ρ _ E (post_mono (post_bind p) (fun d k F1 H1 x s1 r1 => ?_) fun _ z => z)
  obtain ⟨o, qo, k⟩ := post_lift (post_bind k)
  obtain ⟨l, ho, rfl, hl, ro⟩ := r1.od s1.fh qo
  refine ⟨l, rfl, isD_of hl ro (od_nol qo), ?_⟩
  refine hb F0 H0 F1 H1 σ ρ _ (E.step s1) (post_mono (post_bind k) (fun e k2 F2 H2 y s2 r2 => ?_) fun n z => WE'.on s1 z)
  refine hc F0 H0 F2 H2 σ ρ _ ((E.step s1).step s2) (post_mono (post_bind k2) (fun u k3 F3 H3 w s3 r3 => ?_) fun n z => WE'.on (s1.trans s2) z)
  obtain ⟨z, ez, k4⟩ := post_lift k3
  cases q2 : odGet o e with
  | none => rw [q2] at ez; cases ez
  | some r =>
    rw [q2] at ez
    cases ez
    have hl3 := ex_rd s3.hh (ex_rd s2.hh hl)
    have ro3 := (ro.mono s2.ff).mono s3.ff
    obtain ⟨ov, g, fd⟩ := od_get s3.fh hl3 ro3 (r2.step s3) q2
    refine ⟨ov, g, k4 F3 H3 _ ((s1.trans s2).trans s3) ?_⟩
    cases ov with
    | none => cases r with
      | none => exact r3
      | some _ => exact fd.elim
    | some v => cases r with
      | none => exact fd.elim
      | some _ => exact fd
end

/-! ### a new one, one that changes -/
def sDNew (i : Nat) (o : OD) : MS := fun ρ => .nx (ρ.set i (.own o))
def dictAt (i : Nat) (ρ : Fr) : Option OD := match ownO ρ[i]? with
  | some (.lst _) => none
  | r => r
/-- d[k] = v in slot i -/
def sPut (i : Nat) (k e : ME) : MS := fun ρ => Out.of (e ρ) ρ fun v => Out.ofO (dictAt i ρ) fun o => Out.of (k ρ) ρ fun j => Out.ofO (odPut o j v) fun o' => .nx (putO i o' ρ)
section
variable {K : PySem.W.Frag} {L : Addr × Addr} {mg : Str → Option Value} {W : WX} {te tk : TE} {e k : ME}
theorem ds_dnewK {i : Nat} : DS K L mg W (tAsg tDNewK (gName i)) (sDNew i (.dK [])) := fun F0 H0 F H σ ρ D E w => by
  intro p hp
  exact w F _ _ (Ex.refl _) (E.seto hp (.dK .nil) i)
theorem ds_dnewT {i : Nat} : DS K L mg W (tAsg tDNewT (gName i)) (sDNew i (.dT [])) := fun F0 H0 F H σ ρ D E w => by
  intro p hp
  exact w F _ _ (Ex.refl _) (E.seto hp (.dT .nil) i)
theorem dictAt_eq {i : Nat} {ρ : Fr} {o : OD} (h : dictAt i ρ = some o) : ownO ρ[i]? = some o ∧ ∀ ds, o ≠ .lst ds := by
  unfold dictAt at h
  split at h
  · cases h
  · rename_i hne
    exact ⟨h, fun ds z => hne ds (by rw [h, z])⟩
theorem ds_put {i : Nat} (he : DF K L mg W te e) (hk : DE K L mg W tk k) : DS K L mg W (tAsg te (gSub (tVar i) tk rSetD)) (sPut i k e) := fun F0 H0 F H σ ρ D E w => by
  refine he F0 H0 F H σ ρ _ E (post_mono (WO.of E w) (fun d w1 F1 H1 v s r => ?_) fun _ z => z)
  have E1 := E.step s
  obtain ⟨o, q, w2⟩ := WO.ofO w1
  obtain ⟨q, nl⟩ := dictAt_eq q
  obtain ⟨l, ho, el, _⟩ := E1.ownv q
  refine ⟨_, el, ?_⟩
  refine hk F0 H0 F1 H1 σ ρ _ E1 (post_mono (WO.of E1 (WO.mono s.ff w2)) (fun j w3 F2 H2 x s2 r2 => ?_) fun _ z => z)
  have E2 := E1.step s2
  obtain ⟨o', q3, w4⟩ := WO.ofO w3
  obtain ⟨l', ho', el', _, _, hl, rl, _⟩ := E2.ownv q
  rw [el] at el'
  cases el'
  obtain ⟨hn, g, ro⟩ := od_put s2.fh hl rl r2 (r.mono s2.ff) q3
  exact ⟨l, _, rfl, g, w4 F2 _ σ s2.ff (E2.mut q el ro)⟩
end

/-! ### made plain -/
@[simp] theorem sDNew_ap {i : Nat} {o : OD} {ρ : Fr} : sDNew i o ρ = .nx (ρ.set i (.own o)) := rfl
def dictS : Option S → Option OD
  | some (.own (.lst _)) => none
  | some (.pin (.lst _)) => none
  | some (.own o) => some o
  | some (.pin o) => some o
  | _ => none
@[simp] theorem dictS_ownK {kvs : List (Key × D)} : dictS (some (.own (.dK kvs))) = some (.dK kvs) := rfl
@[simp] theorem dictS_ownT {kvs : List (List Key × D)} : dictS (some (.own (.dT kvs))) = some (.dT kvs) := rfl
@[simp] theorem dictAt_ap {i : Nat} {ρ : Fr} : dictAt i ρ = dictS ρ[i]? := by
  unfold dictAt dictS
  cases ρ[i]? with
  | none => rfl
  | some s => cases s with
    | own o => cases o <;> rfl
    | pin o => cases o <;> rfl
    | _ => rfl
def putOS : Option S → OD → S
  | some (.pin _), o => .pin o
  | _, o => .own o
@[simp] theorem putOS_own {o o' : OD} : putOS (some (.own o)) o' = .own o' := rfl
@[simp] theorem putOS_pin {o o' : OD} : putOS (some (.pin o)) o' = .pin o' := rfl
theorem putO_ap {i : Nat} {o : OD} {ρ : Fr} : putO i o ρ = ρ.set i (putOS ρ[i]? o) := by
  unfold putO putOS
  cases ρ[i]? with
  | none => rfl
  | some s => cases s <;> rfl
@[simp] theorem sPut_ap {i : Nat} {k e : ME} {ρ : Fr} : sPut i k e ρ = Out.of (e ρ) ρ fun v => Out.ofO (dictAt i ρ) fun o => Out.of (k ρ) ρ fun j => Out.ofO (odPut o j v) fun o' => .nx (ρ.set i (putOS ρ[i]? o')) := by
  unfold sPut
  simp only [putO_ap]
@[simp] theorem eGet2_ap {a b c : ME} {ρ : Fr} : eGet2 a b c ρ = (a ρ).bind fun x => (lift (od? x)).bind fun o => (b ρ).bind fun y => (c ρ).bind fun z => lift ((odGet o y).map fun r => r.getD z) := rfl
@[simp] theorem getB_ownO {o : OD} : getB (some (.own o)) = .ok o.d := rfl
@[simp] theorem od_d_L {ds : List D} : OD.d (.lst ds) = .list ds := rfl
@[simp] theorem od_d_K {kvs : List (Key × D)} : OD.d (.dK kvs) = .dict (dkD kvs) := rfl
@[simp] theorem od_d_T {kvs : List (List Key × D)} : OD.d (.dT kvs) = .dict (dtD kvs) := rfl
@[simp] theorem frzS_ownO {o : OD} {ρ : Fr} {i : Nat} : frzS (some (.own o)) ρ i = ρ.set i (.val o.d) := rfl
@[simp] theorem odGet_K {kvs : List (Key × D)} {k : D} : odGet (.dK kvs) k = (key? k).map (vget kvs) := rfl
@[simp] theorem odGet_T {kvs : List (List Key × D)} {k : D} : odGet (.dT kvs) k = (keyT? k).map (vget kvs) := rfl
@[simp] theorem dgetD_K {kvs : List (Key × D)} {i : Int} : dgetD (.dict (dkD kvs)) (.int i) = vget kvs (.inl i) := by
  unfold dgetD
  rw [od_dK]
  rfl
@[simp] theorem dinD_K {kvs : List (Key × D)} {i : Int} : dinD (.int i) (.dict (dkD kvs)) = some (.bool (vget kvs (.inl i)).isSome) := by
  unfold dinD
  rw [od_dK]
  rfl
@[simp] theorem dninD_K {kvs : List (Key × D)} {i : Int} : dninD (.int i) (.dict (dkD kvs)) = some (.bool (!(vget kvs (.inl i)).isSome)) := by
  unfold dninD
  rw [od_dK]
  rfl
theorem odPut_K {kvs : List (Key × D)} {i : Int} {v : D} (h : kvs.length < 16777216) : odPut (.dK kvs) (.int i) v = some (.dK (vput kvs (.inl i) v)) := if_pos (show kvs.length < sizeLine from h)
/-- ints as keys: those that are there -/
def inK (kvs : List (Key × D)) (i : Int) : Bool := (vget kvs (.inl i)).isSome
theorem inK_put {kvs : List (Key × D)} {i j : Int} {v : D} : inK (vput kvs (.inl i) v) j = (decide (j = i) || inK kvs j) := by
  unfold inK
  rw [vget_put]
  by_cases h : j = i
  · subst h; simp
  · have : ¬ (Sum.inl j : Key) = Sum.inl i := fun z => h (Sum.inl.inj z)
    rw [if_neg this]
    simp [h]
theorem inK_nil {i : Int} : inK [] i = false := rfl
end Dn

set_option Elab.async false
set_option linter.all false
set_option maxRecDepth 100000
set_option maxHeartbeats 4000000
/-! DenU: list(reversed(..)) -/
namespace Dn
open PySem PySem.Spec PyProof.Rows L2 RT

section
variable {prog : Program} {w : World} {A : Around} {E : Value → Shared → Prop} {s : Shared}
theorem extend_rev {R : Result → Shared → Prop} {it l : Addr} {items : Array Value} (hh : A.handled = none) (hit : s.heap.IsRevIter it l ((items.size : Int) - 1)) (hl : s.heap.IsList l items) (hne : l ≠ it) (hn : items.size ≤ sizeLine)
    (S : Addr) (hSi : S ≠ it) (hSl : S ≠ l) (res : Value) (c₀ : Nat) (hS : s.heap.get? S = some { cls := .type "list", data := .seq #[] c₀ })
    (hR : ∀ h' tk acc' c', (∀ b o, b ≠ S → b ≠ it → s.heap.get? b = some o → h'.get? b = some o) → h'.get? S = some { cls := .type "list", dict := none, data := .seq acc' c', slots := #[] } →
      ItemsOf (fun i v => items[items.size - 1 - i]? = some v) acc' items.size → R (.ok (.ret res)) { s with heap := h', toks := tk }) :
    wpAny (model prog w) A.in1 (Builtin.List.listExtendWith (.ref S) (.ref it) res)
      (fun fin s' => match fin with | .done f => R (.ok f) s' | .again c' => c'.quiet = true ∧ codeAny (model prog w) A c' R s') (fun e s' => R (.error e) s') s := by
  have W := (Walks.listRev (prog := prog) (w := w) (A := A.in1) hh it l hne items).toS
  have hSf : S ∉ [it, l] := by simp only [List.mem_cons, List.not_mem_nil, or_false, not_or]; exact ⟨hSi, hSl⟩
  have hT : s.TypeIs (.ref it) "list_reverseiterator" := Heap.IsRevIter.typeIs hit
  have h1 : Builtin.List.listSameRef (.ref S) (.ref it) = false := by simp [Builtin.List.listSameRef, hSi]
  unfold Builtin.List.listExtendWith
  refine wpAny_bind (wpAny_typeOf hT ?_)
  rw [if_neg (by rw [h1]; decide)]
  refine wpAny_bind (wpAny_pyIter_revIter hit ?_)
  refine wpAny_bind (wpAny_holding ?_)
  unfold Builtin.List.listLengthHint
  refine wpAny_bind (wpAny_specialOf hT nolen_lri ?_)
  show wpAny _ A.in1 (specialOf (Value.ref it) (Str.ofString "__length_hint__") >>= _) _ _ _
  refine wpAny_bind (wpAny_specialOf hT hint_lri ?_)
  generalize hid : ("list_reverseiterator.__length_hint__" : String) = id0
  wp_delta
  rw [show splitId id0 = some ("list_reverseiterator", "__length_hint__") from by subst hid; decide +kernel]
  subst hid
  refine wpAny_bind (wpAny_isInstance (b := true) hT (by rw [isSubtype_type]; kernel_rfl) ?_)
  refine wpAny_pure ?_
  rw [if_neg (by decide)]
  have e0 : ((items.size : Nat) : Int) - 1 - ((0 : Nat) : Int) = (items.size : Int) - 1 := by omega
  refine wpAny_pure ⟨plainId_quiet F.plain_extend_loop _, codeAny_extend_loopS W hn _ hSf _ items.size 0 _ _ _ rfl (Nat.zero_le _) ⟨Nat.zero_le _, by rw [e0]; exact hit, hl⟩ hS (ItemsOf.nil _) fun s' acc' c' hm hS' hacc => ?_⟩
  rw [Moved.eq_with hm]
  refine hR s'.heap s'.toks acc' c' (fun b o hb hb2 e => hm.heap b o (fun hmem => ?_) e) hS' hacc
  rcases List.mem_cons.mp hmem with e' | hmem
  · exact hb e'
  · exact hb2 (List.mem_singleton.mp hmem)
theorem init_rev {R : Result → Shared → Prop} {it l : Addr} {items : Array Value} (hh : A.handled = none) (hit : s.heap.IsRevIter it l ((items.size : Int) - 1)) (hl : s.heap.IsList l items) (hne : l ≠ it) (hn : items.size ≤ sizeLine)
    (S : Addr) (hSi : S ≠ it) (hSl : S ≠ l) (hS : s.heap.get? S = some { cls := .type "list", data := .seq #[] })
    (hR : ∀ h' tk acc' c', (∀ b o, b ≠ S → b ≠ it → s.heap.get? b = some o → h'.get? b = some o) → h'.get? S = some { cls := .type "list", dict := none, data := .seq acc' c', slots := #[] } →
      ItemsOf (fun i v => items[items.size - 1 - i]? = some v) acc' items.size → R (.ok (.ret .none)) { s with heap := h', toks := tk }) :
    wpAny (model prog w) A.in1 (Builtin.«list.__init__» ⟨[.ref S, .ref it], []⟩)
      (fun fin s' => match fin with | .done f => R (.ok f) s' | .again c' => c'.quiet = true ∧ codeAny (model prog w) A c' R s') (fun e s' => R (.error e) s') s := by
  show wpAny _ _ (do let old ← Builtin.List.listItems (.ref S); Builtin.List.listUpdate (.ref S) (fun _ => #[]); letGo old.toList.reverse; Builtin.List.listExtendWith (.ref S) (.ref it) .none) _ _ s
  refine wpAny_bind ?_
  unfold Builtin.List.listItems
  refine wpAny_bind (wpAny_seqItems hS rfl (wpAny_pure ?_))
  show wpAny _ _ (updateSeq S (fun _ => #[]) >>= fun _ => letGo (#[] : Array Value).toList.reverse >>= fun _ => Builtin.List.listExtendWith (.ref S) (.ref it) .none) _ _ s
  refine wpAny_bind (wpAny_updateSeq hS rfl ?_)
  have hS₂ := Heap.get?_update_self (Obj.mapSeq (fun _ => (#[] : Array Value))) hS rfl
  have oth : ∀ b o, b ≠ S → s.heap.get? b = some o → (s.heap.update S (Obj.mapSeq (fun _ => (#[] : Array Value)))).get? b = some o :=
    fun b o hb e => (Heap.get?_update_other _ _ (Ne.symm hb)).trans e
  refine wpAny_bind (wpAny_letGo ?_)
  refine extend_rev hh (hit.at fun o e => oth it o (Ne.symm hSi) e) (hl.at fun o e => oth l o (Ne.symm hSl) e) hne hn S hSi hSl .none _ hS₂ fun h' tk acc' c' hk hS' hacc => ?_
  exact hR h' tk acc' c' (fun b o hb hb2 e => hk b o hb hb2 (oth b o hb e)) hS' hacc
theorem call_list_rev {Q : Value → Shared → Prop} {it l : Addr} {items : Array Value} (hh : A.handled = none) (hit : s.heap.IsRevIter it l ((items.size : Int) - 1)) (hl : s.heap.IsList l items) (hne : l ≠ it) (hn : items.size ≤ sizeLine)
    (hQ : ∀ h' tk acc' c', (∀ b o, b ≠ it → s.heap.get? b = some o → h'.get? b = some o) →
      h'.get? s.heap.objs.size = some { cls := .type "list", dict := none, data := .seq acc' c', slots := #[] } → ItemsOf (fun i v => items[items.size - 1 - i]? = some v) acc' items.size → Q (.ref s.heap.objs.size) { s with heap := h', toks := tk }) :
    wpAny (model prog w) A (call (.type "list") [.ref it]) Q E s := by
  obtain ⟨oi, hoi, _⟩ := id hit
  obtain ⟨ol, hol, _⟩ := id hl
  refine callType_codes (Q₁ := fun obj s₁ => obj = .ref s.heap.objs.size ∧ s₁ = { s with heap := s.heap.push { cls := .type "list", data := .seq #[] } }) F.called_list (F.typeCall_list_1 _) F.entry_list_init
    (code_list_new _ ⟨rfl, rfl⟩) fun obj s₁ h₁ => ?_
  obtain ⟨rfl, rfl⟩ := h₁
  have hS : (s.heap.push { cls := .type "list", data := .seq #[] }).get? s.heap.objs.size = some { cls := .type "list", data := .seq #[] } := Heap.get?_push_size _ rfl
  refine ⟨⟨_, hS, rfl⟩, F.args_list_init_2 _ _, init_rev (A := A.in1) hh (hit.at fun o e => Heap.get?_push_of_some _ e) (hl.push _) hne hn _ (Nat.ne_of_gt (Heap.lt_size hoi)) (Nat.ne_of_gt (Heap.lt_size hol)) hS fun h' tk acc' c' hk hS' hacc => ?_⟩
  exact ⟨rfl, hQ h' tk acc' c' (fun b o hb e => hk b o (Nat.ne_of_lt (Heap.lt_size e)) hb (Heap.get?_push_of_some _ e)) hS' hacc⟩
end
def tLstRev (K : PySem.W.Frag) (te : TE) : TE := fun σ H Q => te σ H fun v H1 => ∃ (a : Addr) (xs : List V), v = .ref a ∧ SqL K H1 a xs ∧ ∀ q, H1 q = none → Q (.ref q) (upd H1 q (.lst xs.reverse))
section
variable {X : Cx}
theorem pe_listRev {e : Expr} {te : TE} {p p2 pos pos2 : Pos} {K : PySem.W.Frag} (hc : X.calm = true) (hg : Gl X "list") (hm : X.mg "list" = none) (hg2 : Gl X "reversed") (hm2 : X.mg "reversed" = none) (he : PE X e te) (hK : X.K = K := by rfl)
    (hs : starEach [e] X.env = (false, eval e X.env) :: starEach [] X.env := by rfl)
    (hs2 : starEach [.Call (.Name "reversed" p2) [e] [] pos2] X.env = (false, eval (.Call (.Name "reversed" p2) [e] [] pos2) X.env) :: starEach [] X.env := by rfl) :
    PE X (.Call (.Name "list" p) [.Call (.Name "reversed" p2) [e] [] pos2] [] pos) (tLstRev K te) := by
  subst hK
  refine ⟨fun pins s σ H Q I h => ?_⟩
  refine Call_ (ld_blt I hg hm boot_list (PyProof.Rows.callWith_type1 (args_cons (Call_ (ld_blt I hg2 hm2 PyProof.Rows.boot_reversed (PyProof.Rows.callWith_type1 (args_cons (thn (he.run pins s σ H _ I h) fun u s1 ⟨v, H1, I1, r1, q1⟩ => args_nil ?_) hs) hs rfl))) hs2) hs2 rfl))
  obtain ⟨a, xs, ev, hq, q⟩ := q1
  subst ev
  obtain rfl : u = Value.ref a := r1
  obtain ⟨its, rv, p', hz⟩ := I1.list hq
  refine call_reversed_list p'.isList (args_nil ?_)
  have k0 : ∀ b o, s1.heap.get? b = some o → (s1.heap.push (revObj a ((its.toArray.size : Int) - 1))).get? b = some o := fun b o e => Heap.get?_push_of_some _ e
  have hl := p'.isList
  obtain ⟨ol, hol, _⟩ := id hl
  have hne : a ≠ s1.heap.objs.size := Nat.ne_of_lt (Heap.lt_size hol)
  have hn : its.toArray.size ≤ sizeLine := by rw [List.size_toArray, ← rv.length]; exact hz
  have hsz : (s1.heap.push (revObj a ((its.toArray.size : Int) - 1))).objs.size = s1.heap.objs.size + 1 := by simp [Heap.push]
  refine call_list_rev (s := { s1 with heap := s1.heap.push (revObj a ((its.toArray.size : Int) - 1)) }) (I1.ok.hd hc) ⟨_, Heap.get?_push_size _ rfl, rfl, rfl⟩ (hl.push _) hne hn fun h' tk acc c' hk hS hi => ?_
  have hp : s1.heap.get? (s1.heap.objs.size + 1) = none := Heap.get?_none_of_le (Nat.le_succ _)
  have hH : H1 (s1.heap.objs.size + 1) = none := I1.hok.fresh (Nat.le_succ _)
  have hS : h'.get? (s1.heap.push (revObj a ((its.toArray.size : Int) - 1))).objs.size = _ := hS
  rw [hsz] at hS
  show _
  refine ⟨.ref (s1.heap.objs.size + 1), upd H1 (s1.heap.objs.size + 1) (.lst xs.reverse), I1.laidN (t' := tk) (fun b o e => hk b o (Nat.ne_of_lt (Heap.lt_size e)) (k0 b o e)) hp hH (show ObjOk X.prog X.w _ _ _ (.lst xs.reverse) from ⟨by rw [List.length_reverse]; exact hz, acc.toList, c', vals_rev rv hi, ?_⟩), ?_, q _ hH⟩
  · rw [Array.toArray_toList]; exact hS
  · show _ = _
    exact congrArg Value.ref hsz
/-- list(reversed(x)) -/
def lrD : D → Option (List D)
  | .list ds => some ds.reverse
  | _ => none
def eLR (a : ME) : ML := fun ρ => (a ρ).bind fun d => lift (lrD d)
variable {K : PySem.W.Frag} {L : Addr × Addr} {mg : Str → Option Value} {W : WX} {ta : TE} {a : ME}
theorem dl_listRev (ha : DE K L mg W ta a) : DL K L mg W (tLstRev K ta) (eLR a) := fun F0 H0 F H σ ρ Q E p => by
  refine ha F0 H0 F H σ ρ _ E (post_mono (post_bind p) (fun d k F1 H1 x s1 r1 => ?_) fun _ z => z)
  obtain ⟨ds, ez, k⟩ := post_lift k
  unfold lrD at ez
  split at ez
  · cases ez
    obtain ⟨l, vs, rfl, h, r⟩ := r1.isl s1.fh
    exact ⟨l, vs, rfl, .of h, fun q hq => k F1 H1 q _ s1 hq r.reverse⟩
  · cases ez
@[simp] theorem eLR_ap {ρ : Fr} : eLR a ρ = (a ρ).bind fun d => lift (lrD d) := rfl
@[simp] theorem lrD_l {ds : List D} : lrD (.list ds) = some ds.reverse := rfl
end
end Dn

set_option Elab.async false
set_option linter.all false
set_option maxRecDepth 100000
set_option maxHeartbeats 4000000
/-! DenV: methods that are read: index, count, join, split, partition; divmod -/
namespace Dn
open PySem PySem.Spec PyProof.Rows L2

def RMR (K : PySem.W.Frag) (r : V → List V → Hp → VK → Prop) (f : D → List D → Option D) : Prop :=
  ∀ F H x xs d ds Q z, Ex F H → RepB K F H x d → RepBL K F H xs ds → f d ds = some z → WF K F H z Q → r x xs H Q
def isL : D → Bool
  | .list _ => true
  | .dict [(.none, .list _)] => true
  | _ => false
/-- a method of a list that is read -/
def eML (f : D → List D → Option D) (a : ME) (as : ML) : ME := fun ρ => (a ρ).bind fun d => if isL d = true then (as ρ).bind fun ds => lift (f d ds) else .stuck
section
variable {K : PySem.W.Frag} {L : Addr × Addr} {mg : Str → Option Value} {W : WX} {ta tb : TE} {a b : ME} {tas : TA} {as : ML}
theorem isL_ty {F H : Hp} {x : V} {d : D} (ex : Ex F H) (r : RepB K F H x d) (h : isL d = true) : tyV K "list" x H := by
  unfold isL at h
  split at h
  · obtain ⟨l, vs, rfl, a, _⟩ := r.isl ex
    exact .inl ⟨rfl, vs, .of a⟩
  · obtain ⟨l, vs, rfl, a, _⟩ := r.iscr ex
    exact .inl ⟨rfl, vs, a⟩
  · cases h
theorem df_meth {r : V → List V → Hp → VK → Prop} {f : D → List D → Option D} (hr : RMR K r f) (ha : DE K L mg W ta a) (hs : DA K L mg W tas as) : DF K L mg W (tBM K "list" r ta tas) (eML f a as) := fun F0 H0 F H σ ρ Q E p => by
  refine ha F0 H0 F H σ ρ _ E (post_mono (post_bind p) (fun d k F1 H1 x s1 r1 => ?_) fun _ z => z)
  split at k
  · rename_i hl
    refine ⟨isL_ty s1.fh r1 hl, ?_⟩
    refine hs F0 H0 F1 H1 σ ρ _ (E.step s1) (post_mono (post_bind k) (fun ds k2 F2 H2 ys s2 r2 => ?_) fun n z => WE'.on s1 z)
    obtain ⟨z, ez, k3⟩ := post_lift k2
    exact hr F2 H2 x ys d ds Q z s2.fh (r1.step s2) r2 ez (WF.on (s1.trans s2) k3)
  · exact k.elim
/-- index -/
def indexD : D → List D → Option D
  | .list ds, [d] => if SeqAt.shaped d && SeqAt.shaped (.list ds) then (ds.findIdx? fun z => PyData.eqv z d).map fun j => .int (j : Int) else none
  | _, _ => none
theorem rm_index : RMR K (rIndexD K) indexD := by
  intro F H x xs d ds Q z ex rx rs h k
  unfold indexD at h
  split at h
  · rename_i es e
    split at h
    · rename_i c
      rw [Bool.and_eq_true] at c
      cases q : es.findIdx? fun z => PyData.eqv z e with
      | none => rw [q] at h; cases h
      | some j =>
        rw [q] at h
        cases h
        obtain ⟨y, rfl, ry⟩ := rs.one
        obtain ⟨l, vs, rfl, _, _⟩ := rx.isl ex
        obtain ⟨hj, h1, h2⟩ := List.findIdx?_eq_some_iff_getElem.mp q
        refine ⟨l, y, e, es, j, es[j], rfl, rfl, (rx.now ex).dp (canLay_sh c.2), (ry.now ex).dp (canLay_sh c.1), c.2, c.1, List.getElem?_eq_getElem hj, h1, fun m z' hm hz => ?_, k.here ex (.int _)⟩
        obtain ⟨hm', e'⟩ := List.getElem?_eq_some_iff.mp hz
        have := h2 m hm
        rw [← e']
        simpa using this
    · cases h
  · cases h
/-- count of ints -/
def countD : D → List D → Option D
  | .list ds, [.int i] => (ints? ds).map fun ns => .int (ns.count i : Nat)
  | _, _ => none
theorem rm_count : RMR K (rCntI K) countD := by
  intro F H x xs d ds Q z ex rx rs h k
  unfold countD at h
  split at h
  · rename_i es i
    cases q : ints? es with
    | none => rw [q] at h; cases h
    | some ns =>
      rw [q] at h
      cases h
      obtain ⟨y, rfl, ry⟩ := rs.one
      obtain rfl := ry.isi
      obtain ⟨l, vs, rfl, hl, rl⟩ := rx.isl ex
      obtain rfl := ints?_eq q
      obtain rfl := rl.ints
      exact ⟨l, ns, i, rfl, rfl, .of hl, k.here ex (.int _)⟩
  · cases h
/-! texts -/
def strs? : List D → Option (List Str)
  | [] => some []
  | .str x :: ds => (strs? ds).map (x :: ·)
  | _ => none
@[simp] theorem strs?_map (xs : List Str) : strs? (xs.map PyData.str) = some xs := by
  induction xs with
  | nil => rfl
  | cons n ns ih => show (strs? (ns.map PyData.str)).map (n :: ·) = some (n :: ns); rw [ih]; rfl
theorem strs?_eq : ∀ {ds : List D} {xs : List Str}, strs? ds = some xs → ds = xs.map PyData.str
  | [], _, h => by cases h; rfl
  | .str i :: ds, ns, h => by
    unfold strs? at h
    cases q : strs? ds with
    | none => rw [q] at h; cases h
    | some ms => rw [q] at h; cases h; rw [strs?_eq q]; rfl
  | .none :: _, _, h => by cases h
  | .bool _ :: _, _, h => by cases h
  | .int _ :: _, _, h => by cases h
  | .list _ :: _, _, h => by cases h
  | .tuple _ :: _, _, h => by cases h
  | .dict _ :: _, _, h => by cases h
theorem repL_strs {F : Hp} (xs : List Str) : RepL K F (xs.map V.str) (xs.map PyData.str) := by
  induction xs with
  | nil => exact .nil
  | cons n ns ih => exact .cons (.str n) ih
theorem RepL.strs {F : Hp} {vs : List V} {xs : List Str} (h : RepL K F vs (xs.map PyData.str)) : vs = xs.map V.str := by
  induction xs generalizing vs with
  | nil => cases h; rfl
  | cons n ns ih =>
    cases h with
    | cons a r => cases a; rw [ih r]; rfl
def isS : D → Bool
  | .str _ => true
  | _ => false
theorem isS_ty {F H : Hp} {x : V} {d : D} (r : RepB K F H x d) (h : isS d = true) : ∃ a, x = .str a := by
  unfold isS at h
  split at h
  · exact ⟨_, r.iss⟩
  · cases h
def eM1 (f : D → D → Option D) (a b : ME) : ME := fun ρ => (a ρ).bind fun d => if isS d = true then (b ρ).bind fun e => lift (f d e) else .stuck
def eM1L (f : D → D → Option (List D)) (a b : ME) : ML := fun ρ => (a ρ).bind fun d => if isS d = true then (b ρ).bind fun e => lift (f d e) else .stuck
def R1S (K : PySem.W.Frag) (r : V → List V → Hp → VK → Prop) (f : D → D → Option D) : Prop := ∀ F H x y d e Q z, Ex F H → RepB K F H x d → RepB K F H y e → f d e = some z → WF K F H z Q → r x [y] H Q
def R1SL (K : PySem.W.Frag) (r : V → List V → Hp → VK → Prop) (f : D → D → Option (List D)) : Prop := ∀ F H x y d e Q z, Ex F H → RepB K F H x d → RepB K F H y e → f d e = some z → WN K F H z Q → r x [y] H Q
theorem df_m1 {r : V → List V → Hp → VK → Prop} {f : D → D → Option D} (hr : R1S K r f) (ha : DE K L mg W ta a) (hb : DE K L mg W tb b) : DF K L mg W (tM1 r ta tb) (eM1 f a b) := fun F0 H0 F H σ ρ Q E p => by
  refine ha F0 H0 F H σ ρ _ E (post_mono (post_bind p) (fun d k F1 H1 x s1 r1 => ?_) fun _ z => z)
  split at k
  · rename_i hl
    refine ⟨isS_ty r1 hl, ?_⟩
    refine hb F0 H0 F1 H1 σ ρ _ (E.step s1) (post_mono (post_bind k) (fun e k2 F2 H2 y s2 r2 => ?_) fun n z => WE'.on s1 z)
    obtain ⟨z, ez, k3⟩ := post_lift k2
    exact hr F2 H2 x y d e Q z s2.fh (r1.step s2) r2 ez (WF.on (s1.trans s2) k3)
  · exact k.elim
theorem dl_m1 {r : V → List V → Hp → VK → Prop} {f : D → D → Option (List D)} (hr : R1SL K r f) (ha : DE K L mg W ta a) (hb : DE K L mg W tb b) : DL K L mg W (tM1 r ta tb) (eM1L f a b) := fun F0 H0 F H σ ρ Q E p => by
  refine ha F0 H0 F H σ ρ _ E (post_mono (post_bind p) (fun d k F1 H1 x s1 r1 => ?_) fun _ z => z)
  split at k
  · rename_i hl
    refine ⟨isS_ty r1 hl, ?_⟩
    refine hb F0 H0 F1 H1 σ ρ _ (E.step s1) (post_mono (post_bind k) (fun e k2 F2 H2 y s2 r2 => ?_) fun n z => WE'.on s1 z)
    obtain ⟨z, ez, k3⟩ := post_lift k2
    exact hr F2 H2 x y d e Q z s2.fh (r1.step s2) r2 ez (WN.on (s1.trans s2) k3)
  · exact k.elim
def rJoin (K : PySem.W.Frag) : V → List V → Hp → VK → Prop := fun x xs H Q => ∃ a p, ∃ ys : List Str, x = .str a ∧ xs = [.ref p] ∧ (SqL K H p (ys.map V.str) ∨ SqT K H p (ys.map V.str)) ∧
  (ys.map (·.length)).sum + ys.length * a.length ≤ 16777216 ∧ Q (.str (Txt.join a ys)) H
def rSplit : V → List V → Hp → VK → Prop := fun x xs H Q => ∃ a b, x = .str a ∧ xs = [.str b] ∧ (b.length == 0) = false ∧ a.length + 2 ≤ sizeLine ∧ rNewStrs (Txt.split a b) H Q
def rPartition : V → List V → Hp → VK → Prop := fun x xs H Q => ∃ a b, x = .str a ∧ xs = [.str b] ∧ (b.length == 0) = false ∧ a.length ≤ sizeLine ∧
      ∀ p, H p = none → Q (.ref p) (upd H p (.tup [.str (Txt.partition a b).1, .str (Txt.partition a b).2.1, .str (Txt.partition a b).2.2]))
def joinD : D → D → Option D
  | .str a, d => (seq? d).bind fun ds => (strs? ds).bind fun ys => if (ys.map (·.length)).sum + ys.length * a.length ≤ 16777216 then some (.str (Txt.join a ys)) else none
  | _, _ => none
def splitD : D → D → Option (List D)
  | .str a, .str b => if (b.length == 0) = false ∧ a.length + 2 ≤ 16777216 then some ((Txt.split a b).map .str) else none
  | _, _ => none
def partD : D → D → Option D
  | .str a, .str b => if (b.length == 0) = false ∧ a.length ≤ 16777216 then some (.tuple [.str (Txt.partition a b).1, .str (Txt.partition a b).2.1, .str (Txt.partition a b).2.2]) else none
  | _, _ => none
theorem rs_join : R1S K (rJoin K) joinD := by
  intro F H x y d e Q z ex rx ry h k
  unfold joinD at h
  split at h
  · rename_i a
    obtain rfl := rx.iss
    cases q : seq? e with
    | none => rw [q] at h; cases h
    | some ds =>
      rw [q] at h
      cases q2 : strs? ds with
      | none =>
        have h : (strs? ds).bind _ = some z := h
        rw [q2] at h; cases h
      | some ys =>
        have h : (strs? ds).bind _ = some z := h
        rw [q2] at h
        have h : (if _ then _ else _) = some z := h
        split at h
        · cases h
          obtain ⟨l, vs, rfl, hv, rv⟩ := ry.seq ex q
          obtain rfl := strs?_eq q2
          obtain rfl := rv.strs
          exact ⟨a, l, ys, rfl, rfl, hv, by assumption, k.here ex (.str _)⟩
        · cases h
  · cases h
theorem rs_split : R1SL K rSplit splitD := by
  intro F H x y d e Q z ex rx ry h k
  unfold splitD at h
  split at h
  · split at h
    · rename_i a b c
      cases h
      obtain rfl := rx.iss
      obtain rfl := ry.iss
      exact ⟨a, b, rfl, rfl, c.1, c.2, k.new ex (repL_strs _)⟩
    · cases h
  · cases h
theorem rs_partition : R1S K rPartition partD := by
  intro F H x y d e Q z ex rx ry h k
  unfold partD at h
  split at h
  · split at h
    · rename_i a b c
      cases h
      obtain rfl := rx.iss
      obtain rfl := ry.iss
      exact ⟨a, b, rfl, rfl, c.1, c.2, k.newT ex (.cons (.str _) (.cons (.str _) (.cons (.str _) .nil)))⟩
    · cases h
  · cases h
/-- divmod -/
def divmodD : List D → Option D
  | [.int i, .int j] => if 0 < j ∧ j < 1073741824 then some (.tuple [.int (i / j), .int (i % j)]) else none
  | _ => none
def rDivmod : List V → Hp → VK → Prop := fun xs H Q => ∃ i j, xs = [.int i, .int j] ∧ CDiv i j ∧ ∀ p, H p = none → Q (.ref p) (upd H p (.tup [.int (i / j), .int (i % j)]))
theorem rc_divmod : RCD K rDivmod divmodD := by
  intro F H xs ds Q z ex rx h k
  unfold divmodD at h
  split at h
  · split at h
    · rename_i i j c
      cases h
      obtain ⟨x, y, rfl, r, r'⟩ := rx.two
      obtain rfl := r.isi
      obtain rfl := r'.isi
      exact ⟨i, j, rfl, c, k.newT ex (.cons (.int _) (.cons (.int _) .nil))⟩
    · cases h
  · cases h
end
section
variable {X : Cx} {K : PySem.W.Frag} {o e : Expr} {to te : TE} {apos pos : Pos}
theorem pe_joinK (ho : PE X o to) (he : PE X e te) (h : X.K = K := by rfl) (hs : starEach [e] X.env = [(false, eval e X.env)] := by rfl) (hbase : attributeBase o "join" X.env (eval o X.env) = eval o X.env := by rfl) (hline : (apos.endLine == pos.line) = true := by rfl) :
    PE X (.Call (.Attribute o "join" apos) [e] [] pos) (tM1 (rJoin K) to te) := h ▸ pe_join ho he hs hbase hline
theorem pe_splitK (ho : PE X o to) (he : PE X e te) (hs : starEach [e] X.env = [(false, eval e X.env)] := by rfl) (hbase : attributeBase o "split" X.env (eval o X.env) = eval o X.env := by rfl) (hline : (apos.endLine == pos.line) = true := by rfl) :
    PE X (.Call (.Attribute o "split" apos) [e] [] pos) (tM1 rSplit to te) := pe_split ho he hs hbase hline
theorem pe_partitionK (ho : PE X o to) (he : PE X e te) (hs : starEach [e] X.env = [(false, eval e X.env)] := by rfl) (hbase : attributeBase o "partition" X.env (eval o X.env) = eval o X.env := by rfl) (hline : (apos.endLine == pos.line) = true := by rfl) :
    PE X (.Call (.Attribute o "partition" apos) [e] [] pos) (tM1 rPartition to te) := pe_partition ho he hs hbase hline
theorem kIndex (hu : X.A.units + 65 < cLine) (h : X.K = K := by rfl) : MtR X "list.index" (rIndexD K) := h ▸ mt_indexD hu
theorem kCount (h : X.K = K := by rfl) : MtR X "list.count" (rCntI K) := h ▸ mt_lcount
theorem kDivmod : CallR X (.builtin "divmod") rDivmod := call_divmod
end
/-! ### made plain -/
section
variable {a b : ME} {as : ML} {ρ : Fr}
@[simp] theorem eML_ap {f : D → List D → Option D} : eML f a as ρ = (a ρ).bind fun d => if isL d = true then (as ρ).bind fun ds => lift (f d ds) else .stuck := rfl
@[simp] theorem eM1_ap {f : D → D → Option D} : eM1 f a b ρ = (a ρ).bind fun d => if isS d = true then (b ρ).bind fun e => lift (f d e) else .stuck := rfl
@[simp] theorem eM1L_ap {f : D → D → Option (List D)} : eM1L f a b ρ = (a ρ).bind fun d => if isS d = true then (b ρ).bind fun e => lift (f d e) else .stuck := rfl
@[simp] theorem isL_l {ds : List D} : isL (.list ds) = true := rfl
@[simp] theorem isS_s {x : Str} : isS (.str x) = true := rfl
end
end Dn

set_option Elab.async false
set_option linter.all false
set_option maxRecDepth 100000
set_option maxHeartbeats 4000000
/-! DenW: longer chains of comparisons, str of an int -/
namespace Dn
open PySem PySem.Spec PyProof.Rows L2
section
variable {X : Cx} {op : CmpOp} {ops : List CmpOp} {a b : Expr} {es : List Expr} {ta tb : TE} {pos : Pos}
/-- the links of a chain, behind a value -/
abbrev TCs := V → TE
def tcsL (r : R2) (tb : TE) : TCs := fun x σ H Q => tb σ H fun y H2 => r x y H2 Q
def tcsC (r : R2) (tb : TE) (t : TCs) : TCs := fun x σ H Q => tb σ H fun y H2 => r x y H2 fun z H3 => ∃ k, z = .bl k ∧ (if k = true then t y σ H3 Q else Q (.bl false) H3)
def tChs (ta : TE) (t : TCs) : TE := fun σ H Q => ta σ H fun x H1 => t x σ H1 Q
structure PCs (X : Cx) (ops : List CmpOp) (es : List Expr) (t : TCs) : Prop where
  two : ∃ o1 or e1 er, ops = o1 :: or ∧ es = e1 :: er
  run : ∀ (pins : List (Addr × Obj)) (s : Shared) (σ : L2.St) (H : Hp) (Q : VK) (pos : Pos) (x : V) (v : Value), Inv X pins σ H s → RelV x v → t x σ H Q →
    wpAny (model X.prog X.w) X.A (compareChain pos v ops (evalEach es X.env)) (EP X pins σ Q) X.xe s
  test : ∀ (pins : List (Addr × Obj)) (s : Shared) (σ : L2.St) (H : Hp) (Q : Bool → Hp → Prop) (pos : Pos) (x : V) (v : Value), Inv X pins σ H s → RelV x v → t x σ H (fun z H' => ∃ k, z = .bl k ∧ Q k H') →
    wpAny (model X.prog X.w) X.A (testChain pos v ops (evalEach es X.env)) (TP X pins σ Q) X.xe s
theorem pcs_last {r : R2} (ho : OpR X (compareOp op) r) (hb : PE X b tb) : PCs X [op] [b] (tcsL r tb) := by
  refine ⟨⟨_, _, _, _, rfl, rfl⟩, fun pins s σ H Q pos x v I rx h => ?_, fun pins s σ H Q pos x v I rx h => ?_⟩
  · exact chain_last (thn (hb.run pins s σ H _ I h) fun u s2 ⟨y, H2, I2, r2, q2⟩ => ho pins s2 σ H2 x y v u Q I2 rx r2 q2)
  · refine test_last (thn (hb.run pins s σ H _ I h) fun u s2 ⟨y, H2, I2, r2, q2⟩ => thn (ho pins s2 σ H2 x y v u _ I2 rx r2 q2) fun d s3 ⟨z, H3, I3, r3, k, e, q3⟩ => ?_)
    subst e
    cases r3
    exact wpAny_truthy_bool ⟨H3, I3, q3⟩
theorem pcs_cons {r : R2} {t : TCs} (ho : OpR X (compareOp op) r) (hb : PE X b tb) (ht : PCs X ops es t) : PCs X (op :: ops) (b :: es) (tcsC r tb t) := by
  obtain ⟨o1, or, e1, er, rfl, rfl⟩ := ht.two
  refine ⟨⟨_, _, _, _, rfl, rfl⟩, fun pins s σ H Q pos x v I rx h => ?_, fun pins s σ H Q pos x v I rx h => ?_⟩
  · refine chain_link (thn (hb.run pins s σ H _ I h) fun u s2 ⟨y, H2, I2, r2, q2⟩ => thn (ho pins s2 σ H2 x y v u _ I2 rx r2 q2) fun d s3 ⟨z, H3, I3, r3, k, e, q3⟩ => ?_)
    subst e
    cases r3
    refine wpAny_truthy_bool ?_
    cases k with
    | false => exact ite_ff ⟨.bl false, H3, I3, rfl, q3⟩
    | true => exact ite_tt (ht.run pins s3 σ H3 Q pos y u I3 r2 q3)
  · refine test_link (thn (hb.run pins s σ H _ I h) fun u s2 ⟨y, H2, I2, r2, q2⟩ => thn (ho pins s2 σ H2 x y v u _ I2 rx r2 q2) fun d s3 ⟨z, H3, I3, r3, k, e, q3⟩ => ?_)
    subst e
    cases r3
    refine wpAny_truthy_bool ?_
    cases k with
    | false =>
      obtain ⟨k', e', q'⟩ := q3
      cases e'
      exact ite_ff ⟨H3, I3, q'⟩
    | true => exact ite_tt (ht.test pins s3 σ H3 Q pos y u I3 r2 q3)
theorem pe_chains {o2 : CmpOp} {b2 : Expr} {t : TCs} (ha : PE X a ta) (hc : PCs X (op :: o2 :: ops) (b :: b2 :: es) t) (hm : lastMarks (op :: o2 :: ops) (b :: b2 :: es) = false := by with_unfolding_all rfl) :
    PE X (.Compare a (op :: o2 :: ops) (b :: b2 :: es) pos) (tChs ta t) := by
  refine ⟨fun pins s σ H Q I h => ?_⟩
  exact Compare_chain (thn (ha.run pins s σ H _ I h) fun v s1 ⟨x, H1, I1, r1, q1⟩ => hc.run pins s1 σ H1 Q pos x v I1 r1 q1) hm
theorem pt_chains {o2 : CmpOp} {b2 : Expr} {t : TCs} (ha : PE X a ta) (hc : PCs X (op :: o2 :: ops) (b :: b2 :: es) t) (hm : lastMarks (op :: o2 :: ops) (b :: b2 :: es) = false := by with_unfolding_all rfl) :
    PT X (.Compare a (op :: o2 :: ops) (b :: b2 :: es) pos) (tTest (tChs ta t)) := by
  refine ⟨fun pins s σ H Q I h => ?_⟩
  exact isTrue_chain (thn (ha.run pins s σ H _ I h) fun v s1 ⟨x, H1, I1, r1, q1⟩ => hc.test pins s1 σ H1 Q pos x v I1 r1 q1) hm
end
def eCsL (g : D → D → Option D) (b : ME) : D → ME := fun x ρ => (b ρ).bind fun y => lift (g x y)
def eCsC (g : D → D → Option D) (b : ME) (t : D → ME) : D → ME := fun x ρ => (b ρ).bind fun y => (lift (g x y)).bind fun z => (toB z).bind fun k => if k = true then t y ρ else .ok (.bool false)
def eChs (a : ME) (t : D → ME) : ME := fun ρ => (a ρ).bind fun x => t x ρ
@[simp] theorem eCsL_ap {g : D → D → Option D} {b : ME} {x : D} {ρ : Fr} : eCsL g b x ρ = (b ρ).bind fun y => lift (g x y) := rfl
@[simp] theorem eCsC_ap {g : D → D → Option D} {b : ME} {t : D → ME} {x : D} {ρ : Fr} : eCsC g b t x ρ = (b ρ).bind fun y => (lift (g x y)).bind fun z => (toB z).bind fun k => if k = true then t y ρ else .ok (.bool false) := rfl
@[simp] theorem eChs_ap {a : ME} {t : D → ME} {ρ : Fr} : eChs a t ρ = (a ρ).bind fun x => t x ρ := rfl
section
variable {K : PySem.W.Frag} {L : Addr × Addr} {mg : Str → Option Value} {W : WX} {ta tb : TE} {a b : ME} {g : D → D → Option D} {r : R2} {t : TCs} {f : D → ME}
variable (K L mg W) in
def DCs (t : TCs) (f : D → ME) : Prop := ∀ F0 H0 F H σ ρ Q x d, Env K L F0 H0 F H σ ρ → RepB K F H x d → post (f d ρ) (fun d => WV K F H d Q) (WE' mg W F H σ) → t x σ H Q
theorem dcs_last (hr : R2D K r g) (hb : DE K L mg W tb b) : DCs K L mg W (tcsL r tb) (eCsL g b) := fun F0 H0 F H σ ρ Q x d E rx p => by
  refine hb F0 H0 F H σ ρ _ E (post_mono (post_bind p) (fun e k F1 H1 y s1 r1 => ?_) fun n z => z)
  obtain ⟨z', ez', k6⟩ := post_lift k
  exact hr F1 H1 x y d e Q z' s1.fh (rx.step s1) r1 ez' fun F' H' v s' r' => k6 F' H' v (s1.trans s') (.frz r')
theorem dcs_cons (hr : R2D K r g) (hb : DE K L mg W tb b) (ht : DCs K L mg W t f) : DCs K L mg W (tcsC r tb t) (eCsC g b f) := fun F0 H0 F H σ ρ Q x d E rx p => by
  refine hb F0 H0 F H σ ρ _ E (post_mono (post_bind p) (fun e k2 F2 H2 y s2 r2 => ?_) fun n z => z)
  obtain ⟨z, ez, k3⟩ := post_lift (post_bind k2)
  obtain ⟨q, rfl, k4⟩ := toB_post (post_bind k3)
  refine hr F2 H2 x y d e _ _ s2.fh (rx.step s2) r2 ez fun F3 H3 v s3 rz => ?_
  cases rz
  refine ⟨q, rfl, ?_⟩
  have s := s2.trans s3
  cases q with
  | false => exact iteF (k4 F3 H3 _ s (.frz (.bl false)))
  | true =>
    refine iteT ?_
    exact ht F0 H0 F3 H3 σ ρ Q y e ((E.step s2).step s3) (r2.step s3) (post_mono k4 (fun u k5 F4 H4 w s4 rw => k5 F4 H4 w (s.trans s4) rw) fun n z => WE'.on s z)
theorem de_chains (ha : DE K L mg W ta a) (hc : DCs K L mg W t f) : DE K L mg W (tChs ta t) (eChs a f) := fun F0 H0 F H σ ρ Q E p => by
  refine ha F0 H0 F H σ ρ _ E (post_mono (post_bind p) (fun d k F1 H1 x s1 r1 => ?_) fun _ z => z)
  exact hc F0 H0 F1 H1 σ ρ Q x d (E.step s1) r1 (post_mono k (fun u k5 F4 H4 w s4 rw => k5 F4 H4 w (s1.trans s4) rw) fun n z => WE'.on s1 z)
end
/-! ### str of an int -/
def oStr : List V → Hp → VK → Prop := fun xs H Q => (∃ i : Int, xs = [.int i] ∧ i.natAbs.log2 < 1920 ∧ Q (.str (toString i)) H) ∨ ∃ a : Str, xs = [.str a] ∧ Q (.str a) H
theorem call_strU {X : Cx} : CallR X (.type "str") oStr := by
  intro pins s σ H xs us Q I r h
  rcases h with h | h
  · exact call_str_int pins s σ H xs us Q I r h
  · exact SkE.call_str_str pins s σ H xs us Q I r h
def strD : List D → Option D
  | [.int i] => if i.natAbs.log2 < 1920 then some (.str (toString i)) else none
  | [.str a] => some (.str a)
  | _ => none
theorem rc_str {K : PySem.W.Frag} : RCD K oStr strD := by
  intro F H xs ds Q z ex r h k
  unfold strD at h
  split at h
  · rename_i i
    split at h
    · rename_i hl
      cases h
      obtain ⟨x, rfl, rx⟩ := r.one
      obtain rfl := rx.isi
      exact .inl ⟨i, rfl, hl, k.here ex (.str _)⟩
    · cases h
  · rename_i a
    cases h
    obtain ⟨x, rfl, rx⟩ := r.one
    obtain rfl := rx.iss
    exact .inr ⟨a, rfl, k.here ex (.str _)⟩
  · cases h
theorem log_lt62 {n : Nat} (h : n < 4611686018427387905) : n.log2 < 1920 := by
  by_cases z : n = 0
  · subst z; decide
  · have := (Nat.log2_lt z (k := 63)).mpr (by omega)
    omega
@[simp] theorem strD_int {i : Int} (h : In62 i) : strD [.int i] = some (.str (toString i)) := by
  unfold In62 at h
  refine if_pos (log_lt62 ?_)
  obtain ⟨h1, h2⟩ := h
  omega
@[simp] theorem strD_str {a : Str} : strD [.str a] = some (.str a) := rfl
end Dn

set_option Elab.async false
set_option linter.all false
set_option maxRecDepth 100000
set_option maxHeartbeats 4000000
/-! DenX: sorted of a tuple of ints -/
namespace Dn.SrtT
open PySem PyProof.Rows Srt SrtO
section
variable {prog : Program} {w : World} {A : Around} {E : Value → Shared → Prop} {s : Shared}
theorem collect_tup {l : Addr} {vs : List Value} {Q : List Value → Shared → Prop} (hl : ∃ o n, s.heap.get? l = some o ∧ o.cls = .type "tuple" ∧ o.data = .seq vs.toArray n)
    (h : Q vs { s with heap := (s.heap.push (seqObj "list" #[] 0)).update s.heap.objs.size (Obj.mapSeq (· ++ vs.toArray)) }) (hsz : vs.length ≤ sizeLine) :
    wpAny (model prog w) A (collect (.ref l)) Q E s := by
  obtain ⟨o, n, ho, hc, hd⟩ := hl
  unfold collect
  refine wpAny_bind (wpAny_runValue (codeAny_builtin entry_proto_collect' ?_))
  show wpAny _ _ (do again (.builtin "list.__iadd__" ⟨[← newList [], .ref l], []⟩)) _ _ s
  refine wpAny_bind (wpAny_newList (wpAny_pure ⟨Code.quiet_builtin _ (by decide +kernel), codeAny_builtin entry_list_iadd' ?_⟩))
  show wpAny _ _ (Builtin.List.listExtendWith (.ref s.heap.objs.size) (.ref l) (.ref s.heap.objs.size)) _ _ { s with heap := s.heap.push (seqObj "list" #[] 0) }
  unfold Builtin.List.listExtendWith
  have ho' : (s.heap.push (seqObj "list" #[] 0)).get? l = some o := Heap.get?_push_of_some _ ho
  refine wpAny_bind (wpAny_typeOf (T := "tuple") ⟨o, ho', hc⟩ ?_)
  have ht : (Value.type "tuple" == Value.type "tuple") = true := by rfl
  rw [if_pos (by rw [ht]; simp)]
  refine wpAny_bind (listItems_at ho' hd ?_)
  refine wpAny_bind (listItems_at (xs := #[]) (n := 0) (Heap.get?_push_size _ rfl) rfl ?_)
  rw [if_neg (by simp)]
  refine wpAny_bind (listUpdate_at (xs := #[]) (n := 0) (Heap.get?_push_size _ rfl) rfl ?_ (Nat.zero_le _) (by show (#[] ++ vs.toArray).size ≤ sizeLine + 1; simp only [Array.size_append, List.size_toArray, List.length_nil]; omega))
  refine wpAny_pure ?_
  show wpAny (model prog w) A (do
      let o ← load s.heap.objs.size
      match o.data with
      | .seq xs _ => pure xs.toList
      | _ => unsupported "internal:collect") Q E { s with heap := (s.heap.push (seqObj "list" #[] 0)).update s.heap.objs.size (Obj.mapSeq (· ++ vs.toArray)) }
  refine wpAny_bind (wpAny_load (get?_update_seq (Heap.get?_push_size _ rfl) _) ?_)
  show wpAny _ _ (pure ((#[] : Array Value) ++ vs.toArray).toList) Q E _
  rw [show ((#[] : Array Value) ++ vs.toArray).toList = vs by simp]
  exact wpAny_pure h
theorem sorted_ordT {l : Addr} {vs : List Value} {ltv : Value → Value → Bool} {Q : Value → Shared → Prop} (O : Swo ltv) (hl : ∃ o n, s.heap.get? l = some o ∧ o.cls = .type "tuple" ∧ o.data = .seq vs.toArray n) (hz : vs.length ≤ sizeLine)
    (hS : 2 ≤ vs.length → ∀ (h₁ : Heap) (a : Addr), SortableO prog w A.in1.in1 { s with heap := h₁ } a vs ltv)
    (h : ∀ out : List Value, Srtd ltv out → Stb ltv out vs → Q (.ref (s.heap.objs.size + 1)) { s with heap := sortedAll s.heap vs out.toArray }) :
    wpAny (model prog w) A (call (.builtin "sorted") [.ref l]) Q E s := by
  refine Calls.call_function_entry kind_sorted plain_sorted entry_sorted (args_sorted1 _) ?_
  unfold Builtin.«sorted»
  refine wpAny_bind (m := checkCount "sorted" 1 1 _) (wpAny_pure ?_)
  refine wpAny_bind (collect_tup hl ?_ hz)
  refine wpAny_bind (wpAny_newList ?_ hz)
  have hsz : ((s.heap.push (seqObj "list" #[] 0)).update s.heap.objs.size (Obj.mapSeq (· ++ vs.toArray))).objs.size = s.heap.objs.size + 1 := by
    rw [Heap.size_update, size_push']
  have hoL : (((s.heap.push (seqObj "list" #[] 0)).update s.heap.objs.size (Obj.mapSeq (· ++ vs.toArray))).push (seqObj "list" vs.toArray 0)).get? (s.heap.objs.size + 1) = some (seqObj "list" vs.toArray 0) := by
    rw [← hsz]; exact Heap.get?_push_size _ rfl
  show wpAny _ _ _ _ _ { s with heap := ((s.heap.push (seqObj "list" #[] 0)).update s.heap.objs.size (Obj.mapSeq (· ++ vs.toArray))).push (seqObj "list" vs.toArray 0) }
  rw [hsz]
  refine wpAny_bind (wpAny_holding (wpAny_call_entry slot_list_sort ⟨_, hoL, rfl⟩ entry_list_sort (list_sort_ord O hoL hz (fun h2 => hS h2 _ _) fun out hs hb => ⟨_, rfl, ?_⟩) (args_list_sort _)))
  exact wpAny_pure ⟨_, rfl, h out hs hb⟩
end
end Dn.SrtT
namespace Dn
open PySem PySem.Spec PyProof.Rows L2
/-- sorted of a list or a tuple of ints -/
def rSortedU (K : PySem.W.Frag) : List V → Hp → VK → Prop := fun vs H Q => ∃ (a : Addr) (ns : List Int), vs = [V.ref a] ∧ (SqL K H a (ns.map V.int) ∨ SqT K H a (ns.map V.int)) ∧
  ∀ (ns' : List Int) (p : Addr), ns'.Perm ns → ns'.Pairwise (· ≤ ·) → H p = none → Q (.ref p) (upd H p (.lst (ns'.map V.int)))
theorem cr_sortedU {X : Cx} : CallR X (.builtin "sorted") (rSortedU X.K) := by
  intro pins s σ H vs us Q I r h
  obtain ⟨a, ns, rfl, hs | hs, q⟩ := h
  · exact cr_sortedI pins s σ H _ us Q I r ⟨a, ns, rfl, hs, q⟩
  · obtain ⟨its, rv, hl, hz⟩ := I.tuple hs
    rw [Vals.ref1 r]
    have hi := rv.ints
    have hl' : ∃ o n, s.heap.get? a = some o ∧ o.cls = .type "tuple" ∧ o.data = .seq its.toArray n := by
      obtain ⟨o, ho, hc, n, hd⟩ := hl
      exact ⟨o, n, ho, hc, hd⟩
    refine SrtT.sorted_ordT SrtO.swo_int hl' (by rw [← rv.length]; exact hz) (fun h2 h₁ a' => SrtO.ints_sortable hi h2) fun out h1 h2 => ?_
    obtain ⟨k1, k2, k3⟩ := SrtO.ints_out hi h1 h2
    obtain ⟨ep, he'⟩ := PyProof.Rows.sortedAll_at s.heap its out.toArray
    have hlen : ((out.map SrtO.iv).map V.int).length ≤ sizeLine := by
      rw [List.length_map, k2.length_eq]
      rw [List.length_map] at hz
      exact hz
    exact ⟨.ref _, upd H (s.heap.objs.size + 1) (.lst ((out.map SrtO.iv).map V.int)), I.laid (t' := s.toks) (fun _ _ => PyProof.Rows.sortedAll_old) (Nat.le_succ _) ⟨hlen, out, ep, vals_of_ints k1, he'⟩, rfl, q _ _ k2 k3 (I.hok.fresh (Nat.le_succ _))⟩
theorem kSortU {X : Cx} {K : PySem.W.Frag} (h : X.K = K := by rfl) : CallR X (.builtin "sorted") (rSortedU K) := h ▸ cr_sortedU
def sortUD : List D → Option (List D)
  | [.list ds] => (ints? ds).map fun ns => (sortI ns).map .int
  | [.tuple ds] => (ints? ds).map fun ns => (sortI ns).map .int
  | [.dict [(.none, .tuple ds)]] => (ints? ds).map fun ns => (sortI ns).map .int
  | _ => none
theorem rc_sortU {K : PySem.W.Frag} : RCL K (rSortedU K) sortUD := by
  intro F H xs ds Q z ex rx h k
  unfold sortUD at h
  split at h
  · obtain ⟨x, rfl, r⟩ := rx.one
    obtain ⟨l, vs, rfl, a, b⟩ := r.isl ex
    rename_i es
    cases q : ints? es with
    | none => rw [q] at h; cases h
    | some ns =>
      rw [q] at h
      cases h
      obtain rfl := ints?_eq q
      obtain rfl := b.ints
      refine ⟨l, ns, rfl, .inl (.of a), fun ns' p hp hs hn => ?_⟩
      have e : ns' = sortI ns := sorted_one (hp.trans (sortI_perm ns).symm) hs (sortI_sorted ns)
      rw [e]
      exact k.new ex (repL_ints _) p hn
  · rename_i es
    obtain ⟨x, rfl, r⟩ := rx.one
    obtain ⟨l, vs, rfl, a, b, _⟩ := r.ist ex
    cases q : ints? es with
    | none => rw [q] at h; cases h
    | some ns =>
      rw [q] at h
      cases h
      obtain rfl := ints?_eq q
      obtain rfl := b.ints
      refine ⟨l, ns, rfl, .inr a, fun ns' p hp hs hn => ?_⟩
      have e : ns' = sortI ns := sorted_one (hp.trans (sortI_perm ns).symm) hs (sortI_sorted ns)
      rw [e]
      exact k.new ex (repL_ints _) p hn
  · rename_i es
    obtain ⟨x, rfl, r⟩ := rx.one
    obtain ⟨l, vs, rfl, a, b, _⟩ := r.iktT ex
    cases q : ints? es with
    | none => rw [q] at h; cases h
    | some ns =>
      rw [q] at h
      cases h
      obtain rfl := ints?_eq q
      obtain rfl := b.ints
      refine ⟨l, ns, rfl, .inr a, fun ns' p hp hs hn => ?_⟩
      have e : ns' = sortI ns := sorted_one (hp.trans (sortI_perm ns).symm) hs (sortI_sorted ns)
      rw [e]
      exact k.new ex (repL_ints _) p hn
  · cases h
@[simp] theorem sortUD_l {ns : List Int} : sortUD [.list (ns.map .int)] = some ((sortI ns).map .int) := by
  show (ints? (ns.map PyData.int)).map _ = _
  rw [ints?_map]
  rfl
@[simp] theorem sortUD_t {ns : List Int} : sortUD [.tuple (ns.map .int)] = some ((sortI ns).map .int) := by
  show (ints? (ns.map PyData.int)).map _ = _
  rw [ints?_map]
  rfl
end Dn

set_option Elab.async false
set_option linter.all false
set_option maxRecDepth 100000
set_option maxHeartbeats 4000000
/-! DenY: min of a tuple of ints -/
namespace Dn
open PySem PySem.Spec PyProof.Rows L2
theorem reads_ints {h : Heap} : ∀ {vs : List Value} {ns : List Int}, IntsAre vs ns → ReadsAll h vs (ns.map PyData.int) []
  | _, _, .nil => .nil
  | _, _, .cons n t r => .cons (as := []) (.int n t) (reads_ints r)
theorem dep_ints : ∀ ns : List Int, PyData.depthAll (ns.map PyData.int) = 0
  | [] => by simp [PyData.depthAll]
  | n :: ns => by simp [PyData.depthAll, PyData.depth, dep_ints ns]
theorem alike_ints (ns : List Int) : PySem.W.AlikeAll (ns.map PyData.int) := by
  refine ⟨fun x hx y hy => ?_, fun x hx => ?_⟩
  · obtain ⟨a, _, rfl⟩ := List.mem_map.mp hx
    obtain ⟨b, _, rfl⟩ := List.mem_map.mp hy
    simp [PySem.W.alike]
  · obtain ⟨a, _, rfl⟩ := List.mem_map.mp hx
    exact fun h => by cases h
def rMinT (K : PySem.W.Frag) : List V → Hp → VK → Prop := fun vs H Q => ∃ (a : Addr) (n : Int) (ns : List Int), vs = [V.ref a] ∧ SqT K H a ((n :: ns).map V.int) ∧ Q (.int (ns.foldl min n)) H
theorem cr_minT {X : Cx} (hc : X.calm = true) (hu : X.A.units + 65 < cLine) : CallR X (.builtin "min") (rMinT X.K) := by
  intro pins s σ H vs us Q I r h
  obtain ⟨a, n, ns, rfl, hs, q⟩ := h
  obtain ⟨its, rv, hl, _⟩ := I.tuple hs
  rw [Vals.ref1 r]
  have hi := rv.ints
  have hr : ReadsAll s.heap its.toArray.toList (.int n :: ns.map PyData.int) [] := reads_ints (ns := n :: ns) hi
  refine PySem.W.min_tuple_data (I.ok.hd hc) hl hr (alike_ints (n :: ns)) ?_ fun i v h' tk bs hv rd hk => ?_
  · have : PyData.depthAll (.int n :: ns.map PyData.int) = 0 := dep_ints (n :: ns)
    rw [this]
    omega
  · rw [PySem.W.minD_ints] at rd
    cases rd
    exact ⟨.int _, H, I.kept hk, ⟨_, rfl⟩, q⟩
def oMinU (K : PySem.W.Frag) := rcOr (oMin K) (rMinT K)
theorem call_minU2 {X : Cx} (hc : X.calm = true) (hu : X.A.units + 65 < cLine) : CallR X (.builtin "min") (oMinU X.K) := by
  intro pins s σ H vs us Q I r h
  rcases h with h | h
  · exact call_minU hc pins s σ H vs us Q I r h
  · exact cr_minT hc hu pins s σ H vs us Q I r h
theorem kMinU {X : Cx} {K : PySem.W.Frag} (hc : X.calm = true) (hu : X.A.units + 65 < cLine) (h : X.K = K := by rfl) : CallR X (.builtin "min") (oMinU K) := h ▸ call_minU2 hc hu
def minUD : List D → Option D
  | [.tuple ds] => (ints? ds).bind fun ns => match ns with
    | n :: ns => some (.int (ns.foldl min n))
    | [] => none
  | ds => minD ds
theorem rc_minU {K : PySem.W.Frag} : RCD K (oMinU K) minUD := by
  intro F H xs ds Q z ex rx h k
  unfold minUD at h
  split at h
  · obtain ⟨x, rfl, r⟩ := rx.one
    rename_i es
    obtain ⟨l, vs, rfl, a, b, _⟩ := r.ist ex
    cases q : ints? es with
    | none => rw [q] at h; cases h
    | some ns =>
      rw [q] at h
      obtain rfl := ints?_eq q
      obtain rfl := b.ints
      cases ns with
      | nil => cases h
      | cons n ns =>
        cases h
        exact .inr ⟨l, n, ns, rfl, a, k.here ex (.int _)⟩
  · exact .inl (rc_min F H xs _ Q z ex rx h k)
@[simp] theorem minUD_2 {i j : Int} : minUD [.int i, .int j] = some (.int (min i j)) := rfl
theorem minUD_t {n : Int} {ns : List Int} : minUD [.tuple ((n :: ns).map .int)] = some (.int (ns.foldl min n)) := by
  show (ints? ((n :: ns).map PyData.int)).bind _ = _
  rw [ints?_map]
  rfl
theorem min_first {n : Int} : ∀ {ns : List Int}, (∀ x ∈ ns, n ≤ x) → ns.foldl min n = n
  | [], _ => rfl
  | x :: xs, h => by
    rw [List.foldl_cons, show min n x = n by have := h x List.mem_cons_self; omega]
    exact min_first fun y hy => h y (List.mem_cons_of_mem _ hy)
end Dn

set_option Elab.async false
set_option linter.all false
set_option maxRecDepth 100000
set_option maxHeartbeats 4000000
/-! DenZ: is, is not between bools -/
namespace Dn
open PySem PySem.Spec PyProof.Rows L2
def oIsB : R2 := fun x y H Q => ∃ a b, x = .bl a ∧ y = .bl b ∧ Q (.bl (decide (a = b))) H
def oIsnB : R2 := fun x y H Q => ∃ a b, x = .bl a ∧ y = .bl b ∧ Q (.bl (!decide (a = b))) H
theorem op_isB {X : Cx} : OpR X (compareOp .Is) oIsB := op_is_bl
theorem op_isnB {X : Cx} : OpR X (compareOp .IsNot) oIsnB := op_isnot_bl
def isBD : D → D → Option D
  | .bool a, .bool b => some (.bool (decide (a = b)))
  | _, _ => none
def isnBD : D → D → Option D
  | .bool a, .bool b => some (.bool (!decide (a = b)))
  | _, _ => none
section
variable {K : PySem.W.Frag}
theorem rd_isB : R2D K oIsB isBD := by
  intro F H x y d e Q z ex rx ry h k
  unfold isBD at h
  split at h
  · cases h
    obtain rfl := rx.isb
    obtain rfl := ry.isb
    exact ⟨_, _, rfl, rfl, k.here ex (.bl _)⟩
  · cases h
theorem rd_isnB : R2D K oIsnB isnBD := by
  intro F H x y d e Q z ex rx ry h k
  unfold isnBD at h
  split at h
  · cases h
    obtain rfl := rx.isb
    obtain rfl := ry.isb
    exact ⟨_, _, rfl, rfl, k.here ex (.bl _)⟩
  · cases h
end
@[simp] theorem isBD_b {a b : Bool} : isBD (.bool a) (.bool b) = some (.bool (decide (a = b))) := rfl
@[simp] theorem isnBD_b {a b : Bool} : isnBD (.bool a) (.bool b) = some (.bool (!decide (a = b))) := rfl
end Dn

set_option Elab.async false
set_option linter.all false
set_option maxRecDepth 100000
set_option maxHeartbeats 4000000
/-! DenZZ: >= between tuples of ints -/
namespace Dn
open PySem PySem.Spec PyProof.Rows L2
def geI (ns ms : List Int) : Bool := Ob.lexAt (fun j => decide (ns.getD j 0 = ms.getD j 0)) (fun j => decide (ms.getD j 0 ≤ ns.getD j 0)) (decide (ms.length ≤ ns.length)) 0 (min ns.length ms.length)
def rGeT (K : PySem.W.Frag) : R2 := fun x y H Q => ∃ (a b : Addr) (ns ms : List Int), x = .ref a ∧ y = .ref b ∧ SqT K H a (ns.map V.int) ∧ SqT K H b (ms.map V.int) ∧ Q (.bl (geI ns ms)) H
theorem op_geT {X : Cx} (hu : X.A.units < cLine) : OpR X (compareOp .GtE) (rGeT X.K) := by
  intro pins s σ H x y v u Q I rx ry h
  obtain ⟨a, b, ns, ms, rfl, rfl, ha, hb, q⟩ := h
  cases rx
  cases ry
  obtain ⟨its, r1, p1, _⟩ := I.tuple ha
  obtain ⟨its2, r2, p2, _⟩ := I.tuple hb
  have i1 : IntsAre its ns := Vals.ints r1
  have i2 : IntsAre its2 ms := Vals.ints r2
  have e1 : its.toArray.size = ns.length := by rw [List.size_toArray]; exact i1.length
  have e2 : its2.toArray.size = ms.length := by rw [List.size_toArray]; exact i2.length
  have at1 : ∀ j (h1 : j < its.toArray.size), ∃ t, its.toArray[j] = .int (ns.getD j 0) t := fun j h1 => PyProof.Rows.IntsAre.int_at i1 _ _ (by simp at h1; simp [h1])
  have at2 : ∀ j (h1 : j < its2.toArray.size), ∃ t, its2.toArray[j] = .int (ms.getD j 0) t := fun j h1 => PyProof.Rows.IntsAre.int_at i2 _ _ (by simp at h1; simp [h1])
  have R := Ob.RcOp.tuples_ge (A := X.A) (s := s) (e := fun j => decide (ns.getD j 0 = ms.getD j 0)) (r := fun j => decide (ms.getD j 0 ≤ ns.getD j 0)) p1 p2 hu (fun j h1 h2 => by
    obtain ⟨t, et⟩ := at1 j h1
    obtain ⟨t', et'⟩ := at2 j h2
    rw [et, et']
    have z : (ns.getD j 0 == ms.getD j 0) = decide (ns.getD j 0 = ms.getD j 0) := by
      by_cases q : ns.getD j 0 = ms.getD j 0
      · rw [decide_eq_true q]; exact beq_iff_eq.mpr q
      · rw [decide_eq_false q]; exact beq_eq_false_iff_ne.mpr q
    rw [← z]
    exact SeqAt.EqAt.int_int _ _ _ _) (fun j h1 h2 _ => by
    obtain ⟨t, et⟩ := at1 j h1
    obtain ⟨t', et'⟩ := at2 j h2
    rw [et, et']
    exact Ob.RcOp.ge_int _ _ _ _)
  rw [e1, e2] at R
  exact R X.prog X.w X.xe (EP X pins σ Q) ⟨.bl _, H, I, rfl, q⟩
theorem kGeT {X : Cx} {K : PySem.W.Frag} (hu : X.A.units < cLine) (h : X.K = K := by rfl) : OpR X (compareOp .GtE) (rGeT K) := h ▸ op_geT hu
theorem hu0 {A : Around} {k : Nat} (h : Room k A) : A.units < cLine := by have := hu65 h; omega
def geTD : D → D → Option D
  | .tuple ds, .tuple es => (ints? ds).bind fun ns => (ints? es).map fun ms => .bool (geI ns ms)
  | _, _ => none
section
variable {K : PySem.W.Frag}
theorem rd_geT : R2D K (rGeT K) geTD := by
  intro F H x y d e Q z ex rx ry h k
  unfold geTD at h
  split at h
  · rename_i ds es
    cases q : ints? ds with
    | none => rw [q] at h; cases h
    | some ns =>
      rw [q] at h
      cases q2 : ints? es with
      | none => rw [q2] at h; cases h
      | some ms =>
        rw [q2] at h
        cases h
        obtain rfl := ints?_eq q
        obtain rfl := ints?_eq q2
        obtain ⟨l, vs, rfl, a, b, _⟩ := rx.ist ex
        obtain ⟨l', vs', rfl, a', b', _⟩ := ry.ist ex
        obtain rfl := b.ints
        obtain rfl := b'.ints
        exact ⟨l, l', ns, ms, rfl, rfl, a, a', k.here ex (.bl _)⟩
  · cases h
end
theorem geTD_2 {a b c d : Int} : geTD (.tuple [.int a, .int b]) (.tuple [.int c, .int d]) = some (.bool (if a = c then decide (b = d) || decide (d ≤ b) else decide (c ≤ a))) := by
  have e : geTD (.tuple [.int a, .int b]) (.tuple [.int c, .int d]) = some (.bool (geI [a, b] [c, d])) := rfl
  rw [e]
  unfold geI
  by_cases h : a = c
  · by_cases g : b = d <;> simp [Ob.lexAt, h, g]
  · simp [Ob.lexAt, h]
/-- int(..) of an int, a bool or a text -/
def intWD : List D → Option D
  | [.int i] => some (.int i)
  | [.bool b] => some (.int (if b then 1 else 0))
  | [.str a] => if a.length ≤ 640 then (PySem.intText? a).map .int else none
  | _ => none
def oIntW : List V → Hp → VK → Prop := fun xs H Q => oInt xs H Q ∨ ∃ a n, xs = [.str a] ∧ PySem.intText? a = some n ∧ a.length ≤ 640 ∧ Q (.int n) H
theorem call_intW {X : Cx} : CallR X (.type "int") oIntW := by
  intro pins s σ H xs us Q I r h
  rcases h with h | h
  · exact call_intU pins s σ H xs us Q I r h
  · exact call_int_str pins s σ H xs us Q I r h
theorem rc_intW {K : PySem.W.Frag} : RCD K oIntW intWD := by
  intro F H xs ds Q z ex rx h k
  unfold intWD at h
  split at h
  · cases h
    obtain ⟨x, rfl, r⟩ := rx.one
    obtain rfl := r.isi
    exact .inl (.inl ⟨_, rfl, k.here ex (.int _)⟩)
  · cases h
    obtain ⟨x, rfl, r⟩ := rx.one
    obtain rfl := r.isb
    exact .inl (.inr ⟨_, rfl, k.here ex (.int _)⟩)
  · rename_i a
    split at h
    · rename_i hl
      cases q : PySem.intText? a with
      | none => rw [q] at h; cases h
      | some n =>
        rw [q] at h
        cases h
        obtain ⟨x, rfl, r⟩ := rx.one
        obtain rfl := r.iss
        exact .inr ⟨a, n, rfl, q, hl, k.here ex (.int _)⟩
    · cases h
  · cases h
@[simp] theorem intWD_int {i : Int} : intWD [.int i] = some (.int i) := rfl
/-- one sign in a text -/
def sgnB : D → D → Option Bool
  | .str x, .str z => match x.cps.toList with
    | [c] => some (decide (c ∈ z.cps.toList))
    | _ => none
  | _, _ => none
def inSD (d e : D) : Option D := (sgnB d e).map .bool
def ninSD (d e : D) : Option D := (sgnB d e).map fun b => .bool (!b)
theorem sgnB_eq {d e : D} {b : Bool} (h : sgnB d e = some b) : ∃ (c : Nat) (z : Str), d = .str ⟨#[c]⟩ ∧ e = .str z ∧ b = decide (c ∈ z.cps.toList) := by
  unfold sgnB at h
  split at h
  · rename_i x z
    split at h
    · rename_i c q
      cases h
      refine ⟨c, z, ?_, rfl, rfl⟩
      have : x = ⟨#[c]⟩ := Str.ext' (Array.toList_inj.mp q)
      rw [this]
    · cases h
  · cases h
def rSgn : R2 := fun x y H Q => ∃ (c : Nat) (z : Str), x = .str ⟨#[c]⟩ ∧ y = .str z ∧ Q (.bl (decide (c ∈ z.cps.toList))) H
def rNSgn : R2 := fun x y H Q => ∃ (c : Nat) (z : Str), x = .str ⟨#[c]⟩ ∧ y = .str z ∧ Q (.bl (!decide (c ∈ z.cps.toList))) H
theorem op_sgn {X : Cx} : OpR X (compareOp .In) rSgn := op_in_sign
theorem op_nsgn {X : Cx} : OpR X (compareOp .NotIn) rNSgn := op_notIn_sign
theorem rd_inS {K : PySem.W.Frag} : R2D K rSgn inSD := by
  intro F H x y d e Q z ex rx ry h k
  unfold inSD at h
  cases q : sgnB d e with
  | none => rw [q] at h; cases h
  | some b =>
    rw [q] at h
    cases h
    obtain ⟨c, w, rfl, rfl, rfl⟩ := sgnB_eq q
    obtain rfl := rx.iss
    obtain rfl := ry.iss
    exact ⟨c, w, rfl, rfl, k.here ex (.bl _)⟩
theorem rd_ninS {K : PySem.W.Frag} : R2D K rNSgn ninSD := by
  intro F H x y d e Q z ex rx ry h k
  unfold ninSD at h
  cases q : sgnB d e with
  | none => rw [q] at h; cases h
  | some b =>
    rw [q] at h
    cases h
    obtain ⟨c, w, rfl, rfl, rfl⟩ := sgnB_eq q
    obtain rfl := rx.iss
    obtain rfl := ry.iss
    exact ⟨c, w, rfl, rfl, k.here ex (.bl _)⟩
end Dn

set_option Elab.async false
set_option linter.all false
set_option maxRecDepth 100000
set_option maxHeartbeats 4000000
/-! DenZA: a method that changes a list nobody keeps; l[m.pop(..)] = v -/
namespace Dn
open PySem L2
/-- a new list is changed, and let go -/
def sTmp (f : ML) (fm : List D → List D → Option (List D × D)) (as : ML) : MS := fun ρ => Out.of (f ρ) ρ fun ds => Out.of (as ρ) ρ fun es => Out.ofO (fm ds es) fun _ => .nx ρ
/-- l[m.meth(..)] = v, l in slot i, m in slot j -/
def sSetM (i j : Nat) (fm : List D → List D → Option (List D × D)) (as : ML) (e : ME) : MS := fun ρ => Out.of (e ρ) ρ fun v => Out.ofO (ownAt i ρ) fun _ => Out.ofO (ownAt j ρ) fun ds => Out.of (as ρ) ρ fun es => Out.ofO (fm ds es) fun r =>
  Out.ofO (ownAt i (putL j r.1 ρ)) fun ds' => Out.ofO (setL ds' r.2 v) fun d2 => .nx (putL i d2 (putL j r.1 ρ))
section
variable {K : PySem.W.Frag} {mg : Str → Option Value} {W : WX} {te : TE} {e : ME} {L : Addr × Addr} {tas : TA} {as : ML} {r : V → List V → Hp → VK → Prop} {fm : List D → List D → Option (List D × D)}
theorem ds_tmp {f : ML} (hr : RMD K r fm) (hf : DL K L mg W te f) (ha : DAF K L mg W tas as) : DS K L mg W (tDrop (tBM K "list" r te tas)) (sTmp f fm as) := fun F0 H0 F H σ ρ D E w => by
  refine hf F0 H0 F H σ ρ _ E (post_mono (WO.of E w) (fun ds w1 F1 H1 p vs s n r1 => ?_) fun _ z => z)
  have E1 := E.step s
  have f1 : F1 p = none := s.fh.free n
  have E2 := E1.step (Step.new0 (o := .lst vs) s.fh n)
  refine ⟨.inl ⟨rfl, _, .of upd_same⟩, ?_⟩
  refine ha F0 H0 F1 _ σ ρ _ E2 (post_mono (WO.of E2 (WO.mono s.ff w1)) (fun es w2 F2 H2 xs s2 r2 => ?_) fun _ z => z)
  obtain ⟨⟨ds', z⟩, q, w3⟩ := WO.ofO w2
  obtain ⟨s3, f2, h2⟩ := Step.beside (o := .lst _) (fun _ z => nomatch z) n f1 s2
  refine hr F2 H2 p vs ds xs es ds' z _ s2.fh h2 (r1.mono s2.ff) r2 q fun ws v rw' rz => ?_
  have e2 : upd H2 p (.lst ws) = upd (del H2 p) p (.lst ws) := by
    funext b
    by_cases z : b = p
    · subst z; rw [upd_same, upd_same]
    · rw [upd_ne z, upd_ne z, del_ne z]
  rw [e2]
  exact w3 F2 _ σ s2.ff ((E1.step s3).step (Step.new0 s3.fh del_same))
theorem ds_tmp0 {f : ML} (hr : RMD K r fm) (hf : DL K L mg W te f) : DS K L mg W (tDrop (tBM0 K "list" r te)) (sTmp f fm aNil) := ds_tmp hr hf daf_nil
theorem ds_setM {i j : Nat} (hr : RMD K r fm) (he : DF K L mg W te e) (ha : DAF K L mg W tas as) : DS K L mg W (tAsg te (gSub (tVar i) (tBM K "list" r (tVar j) tas) rSetL)) (sSetM i j fm as e) := fun F0 H0 F H σ ρ D E w => by
  refine he F0 H0 F H σ ρ _ E (post_mono (WO.of E w) (fun d w1 F1 H1 v s r1 => ?_) fun _ z => z)
  have E1 := E.step s
  obtain ⟨ds, q, w2⟩ := WO.ofO w1
  have q := ownAt_eq q
  obtain ⟨l, ho, el, _⟩ := E1.ownv q
  refine ⟨_, el, ?_⟩
  refine tm_core hr ha F0 H0 F1 H1 σ ρ D _ (fun r => Out.ofO (ownAt i (putL j r.1 ρ)) fun ds' => Out.ofO (setL ds' r.2 d) fun d2 => .nx (putL i d2 (putL j r.1 ρ))) E1 (WO.mono s.ff w2) fun ds' z F2 H2 x e2 w3 E2 rz => ?_
  obtain ⟨ds2, q2, w4⟩ := WO.ofO w3
  have q2 := ownAt_eq q2
  obtain ⟨d2, q3, w5⟩ := WO.ofO w4
  obtain ⟨l', ho', el', _, _, hl, rl, _⟩ := E2.ownv q2
  rw [el] at el'
  cases el'
  obtain ⟨vs', rfl, rl'⟩ := rl.isl
  unfold setL at q3
  split at q3
  · rename_i jj hz
    obtain rfl : z = .int jj := hz
    cases qj : ixN ds2.length jj with
    | none => rw [qj] at q3; cases q3
    | some n =>
      rw [qj] at q3
      cases q3
      have hx : x = .int jj := by cases rz; rfl
      subst hx
      refine ⟨l, vs', jj, n, rfl, rfl, hl, by rw [rl'.length]; exact qj, ?_⟩
      exact w5 F2 _ σ (Ex.refl _) (E2.mut q2 el (.lst (rl'.set (r1.mono e2) n)))
  · cases q3
theorem ds_setM0 {i j : Nat} (hr : RMD K r fm) (he : DF K L mg W te e) : DS K L mg W (tAsg te (gSub (tVar i) (tBM0 K "list" r (tVar j)) rSetL)) (sSetM i j fm aNil e) := ds_setM hr he daf_nil
end
section
variable {ρ : Fr} {e : ME} {as f : ML} {fm : List D → List D → Option (List D × D)} {i j : Nat}
@[simp] theorem sTmp_ap : sTmp f fm as ρ = Out.of (f ρ) ρ fun ds => Out.of (as ρ) ρ fun es => Out.ofO (fm ds es) fun _ => .nx ρ := rfl
@[simp] theorem sSetM_ap : sSetM i j fm as e ρ = Out.of (e ρ) ρ fun v => Out.ofO (ownAt i ρ) fun _ => Out.ofO (ownAt j ρ) fun ds => Out.of (as ρ) ρ fun es => Out.ofO (fm ds es) fun r =>
  Out.ofO (ownAt i (putL j r.1 ρ)) fun ds' => Out.ofO (setL ds' r.2 v) fun d2 => .nx (putL i d2 (putL j r.1 ρ)) := rfl
end
theorem repD_ok {ds : List D} {k : Nat} (h : ds.length * k ≤ 16777216) (h1 : k ≤ 1000000000) : repD (.list ds) (.int (k : Int)) = some (List.replicate k ds).flatten := by
  refine (if_pos ⟨in63 (by omega), by rw [show ((k : Int)).toNat = k from rfl]; exact h⟩).trans ?_
  simp
theorem repD_one {d : D} {k : Nat} (h : k ≤ 16777216) : repD (.list [d]) (.int (k : Int)) = some (List.replicate k d) := by
  rw [repD_ok (by simp; omega) (by omega)]
  congr 1
  induction k with
  | zero => rfl
  | succ k ih => rw [List.replicate_succ, List.flatten_cons, ih (by omega), List.replicate_succ]; rfl
theorem ixD_iln {ms : List Int} {i : Nat} {v : Int} (h : ms[i]? = some v) : ixD (.list (ms.map .int)) (.int (i : Int)) = some (.int v) := ixD_il (by omega) (by rw [Int.toNat_natCast]; exact h)
theorem ixD_itn {ms : List Int} {i : Nat} {v : Int} (h : ms[i]? = some v) : ixD (.tuple (ms.map .int)) (.int (i : Int)) = some (.int v) := ixD_it (by omega) (by rw [Int.toNat_natCast]; exact h)
theorem ixD_isn {ms : List Int} {i : Nat} {v : Int} (h : ms[i]? = some v) : ixD (scrD ms) (.int (i : Int)) = some (.int v) := ixD_is (by omega) (by rw [Int.toNat_natCast]; exact h)
theorem ixD_ln {ds : List D} {i : Nat} {v : D} (h : ds[i]? = some v) : ixD (.list ds) (.int (i : Int)) = some v := ixD_l (by omega) (by rw [Int.toNat_natCast]; exact h)
theorem ixD_tn {ds : List D} {i : Nat} {v : D} (h : ds[i]? = some v) : ixD (.tuple ds) (.int (i : Int)) = some v := ixD_t (by omega) (by rw [Int.toNat_natCast]; exact h)
theorem setL_n {ms : List Int} {i : Nat} {v : Int} (h : i < ms.length) : setL (ms.map .int) (.int (i : Int)) (.int v) = some ((ms.set i v).map .int) := setL_int (by omega) (by omega)
theorem setL_dn {ds : List D} {i : Nat} {v : D} (h : i < ds.length) : setL ds (.int (i : Int)) v = some (ds.set i v) := setL_ok (by omega) (by omega)
/-- a comprehension over data that stand for plain things -/
theorem lc_enc {α : Type} (enc : α → D) (p : α → Bool) (f : α → D) {tg : D → Fr → Option Fr} {t : MT} {e : ME} {vs : List Nat} {ρ : Fr} : ∀ (xs : List α) (acc : List D), acc.length + xs.length ≤ 16000000 →
    (∀ x ∈ xs, ∃ ρ', tg (enc x) (wipeF ρ vs) = some ρ' ∧ t ρ' = .ok (p x) ∧ (p x = true → e ρ' = .ok (f x))) → loopLc tg t e vs ρ (xs.map enc) acc = .ok (acc ++ (xs.filter p).map f)
  | [], acc, _, _ => by simp [loopLc]
  | x :: xs, acc, hl, h => by
    obtain ⟨ρ', h1, h2, h3⟩ := h x (List.mem_cons_self ..)
    rw [List.length_cons] at hl
    have ih := fun acc' hl' => lc_enc enc p f (tg := tg) (t := t) (e := e) (vs := vs) (ρ := ρ) xs acc' hl' fun y hy => h y (List.mem_cons_of_mem _ hy)
    have sl : acc.length < sizeLine := by show _ < 16777216; omega
    rw [List.map_cons, loopLc, h1]
    simp only [h2, noX, M.bind_ok]
    cases c : p x with
    | true =>
      simp only [h3 c, noX, M.bind_ok, if_true, if_pos sl]
      rw [ih (acc ++ [f x]) (by simp; omega), List.filter_cons_of_pos c]
      simp
    | false =>
      simp only [Bool.false_eq_true, if_false]
      rw [ih acc (by omega), List.filter_cons_of_neg (by simp [c])]
theorem lc_enc0 {α : Type} (enc : α → D) (p : α → Bool) (f : α → D) {tg : D → Fr → Option Fr} {t : MT} {e : ME} {vs : List Nat} {ρ : Fr} (xs : List α) (hl : xs.length ≤ 16000000)
    (h : ∀ x ∈ xs, ∃ ρ', tg (enc x) (wipeF ρ vs) = some ρ' ∧ t ρ' = .ok (p x) ∧ (p x = true → e ρ' = .ok (f x))) : loopLc tg t e vs ρ (xs.map enc) [] = .ok ((xs.filter p).map f) := by
  have := lc_enc enc p f xs [] (by simpa using hl) h
  simpa using this
theorem lc_map0 {α : Type} (enc f : α → D) {tg : D → Fr → Option Fr} {e : ME} {vs : List Nat} {ρ : Fr} (xs : List α) (hl : xs.length ≤ 16000000)
    (h : ∀ x ∈ xs, ∃ ρ', tg (enc x) (wipeF ρ vs) = some ρ' ∧ e ρ' = .ok (f x)) : loopLc tg tYesF e vs ρ (xs.map enc) [] = .ok (xs.map f) := by
  have := lc_enc0 enc (fun _ => true) f (tg := tg) (t := tYesF) (e := e) (vs := vs) (ρ := ρ) xs hl fun x hx => by
    obtain ⟨ρ', h1, h2⟩ := h x hx
    exact ⟨ρ', h1, rfl, fun _ => h2⟩
  rw [this, List.filter_eq_self.mpr (fun _ _ => rfl)]
@[simp] theorem revM_ok {ds : List D} : revM ds [] = some (ds.reverse, .none) := rfl
@[simp] theorem clrM_ok {ds : List D} : clrM ds [] = some ([], .none) := rfl
section
variable {α : Type} [DecidableEq α] {n : Nat} {f : α → D}
theorem inB_g (G : Gr n f) (h : n ≤ 63) (x : α) (xs : List α) : inB (f x) (.list (xs.map f)) = some (decide (x ∈ xs)) := by
  have e : inB (f x) (.list (xs.map f)) = if SeqAt.shaped (f x) && SeqAt.shaped (.list (xs.map f)) then some ((xs.map f).any fun z => PyData.eqv z (f x)) else none := rfl
  rw [e, G.shaped (by omega) x, (gr_list G).shaped (by omega) xs]
  simp only [Bool.and_self, if_true]
  congr 1
  clear e
  rw [List.any_map]
  induction xs with
  | nil => rfl
  | cons y ys ih =>
    rw [List.any_cons, ih]
    simp only [Function.comp, G.eqv]
    by_cases q : y = x
    · subst q; simp
    · have : ¬ x = y := fun z => q z.symm
      simp [q, this]
theorem inD_g (G : Gr n f) (h : n ≤ 63) (x : α) (xs : List α) : inD (f x) (.list (xs.map f)) = some (.bool (decide (x ∈ xs))) := by unfold inD; rw [inB_g G h]; rfl
theorem ninD_g (G : Gr n f) (h : n ≤ 63) (x : α) (xs : List α) : ninD (f x) (.list (xs.map f)) = some (.bool (!decide (x ∈ xs))) := by unfold ninD; rw [inB_g G h]; rfl
end
theorem gr_nat : Gr 0 (fun j : Nat => PyData.int (j : Int)) := ⟨fun _ => by simp [PyData.canLay0], fun _ => by simp [PyData.depth], fun a b => by
  simp only [PyData.eqv]
  by_cases h : a = b
  · subst h; simp
  · have : ¬ ((a : Int) = (b : Int)) := by omega
    rw [decide_eq_false h]; exact beq_eq_false_iff_ne.mpr this⟩
theorem gr_np : Gr 1 (fun p : Nat × Nat => PyData.tuple [.int (p.1 : Int), .int (p.2 : Int)]) := gr_pair gr_nat gr_nat
end Dn

set_option Elab.async false
set_option linter.all false
set_option maxRecDepth 100000
set_option maxHeartbeats 4000000
/-! DenZB: a text times 0 or 1 -/
namespace Dn
open PySem PySem.Spec PyProof.Rows L2
def rMulS : R2 := fun x y H Q => ∃ a k, x = .str a ∧ y = .int k ∧ (k = 0 ∨ k = 1) ∧ Q (.str (if k = 1 then a else "")) H
theorem op_mulS {X : Cx} : OpR X (binaryOp .Mult) rMulS := by
  intro pins s σ H x y v u Q I rx ry h
  obtain ⟨a, k, rfl, rfl, hk, q⟩ := h
  obtain ⟨t, rfl⟩ := rx
  obtain ⟨t', rfl⟩ := ry
  rcases hk with rfl | rfl
  · exact P.mul_str_none (by decide) (by decide) ⟨.str "", H, I.tok _, ⟨_, rfl⟩, q⟩
  · refine P.mul_str (by decide) (fun _ h => by cases h) (fun _ h => by cases h) ?_
    exact ⟨.str a, H, I, ⟨_, rfl⟩, q⟩
def mulSD : D → D → Option D
  | .str a, .int k => if k = 0 then some (.str "") else if k = 1 then some (.str a) else none
  | _, _ => none
theorem rd_mulS {K : PySem.W.Frag} : R2D K rMulS mulSD := by
  intro F H x y d e Q z ex rx ry h k
  unfold mulSD at h
  split at h
  · rename_i a i
    obtain rfl := rx.iss
    obtain rfl := ry.isi
    split at h
    · rename_i c
      cases h
      subst c
      exact ⟨a, 0, rfl, rfl, .inl rfl, k.here ex (.str _)⟩
    · split at h
      · rename_i c
        cases h
        subst c
        exact ⟨a, 1, rfl, rfl, .inr rfl, k.here ex (.str _)⟩
      · cases h
  · cases h
@[simp] theorem mulSD_0 {a : Str} : mulSD (.str a) (.int 0) = some (.str "") := rfl
@[simp] theorem mulSD_1 {a : Str} : mulSD (.str a) (.int 1) = some (.str a) := rfl
end Dn

set_option Elab.async false
set_option linter.all false
set_option maxRecDepth 100000
set_option maxHeartbeats 4000000
/-! DenZC: tuples whose object is known: made, asked for an item's place -/
namespace Dn
open PySem PySem.Spec PyProof.Rows L2
/-- the object of a tuple with no dict of its own -/
def KtO (o : Obj) : Prop := o.cls = .type "tuple" ∧ o.dict = none
def ints1? : List D → Option Int
  | [.int z] => some z
  | _ => none
/-- the first place of an int -/
def placeI (z : Int) : List Int → Option Nat
  | [] => none
  | n :: ns => if n = z then some 0 else (placeI z ns).map (· + 1)
theorem placeI_at {z : Int} : ∀ {ns : List Int} {j : Nat}, placeI z ns = some j → ns[j]? = some z ∧ ∀ m, m < j → ns[m]? ≠ some z
  | [], _, h => by cases h
  | n :: ns, j, h => by
    unfold placeI at h
    by_cases c : n = z
    · rw [if_pos c] at h
      cases h
      exact ⟨by rw [c]; rfl, fun m hm => by omega⟩
    · rw [if_neg c] at h
      cases q : placeI z ns with
      | none => rw [q] at h; cases h
      | some i =>
        rw [q] at h
        cases h
        obtain ⟨h1, h2⟩ := placeI_at q
        refine ⟨h1, fun m hm => ?_⟩
        cases m with
        | zero => exact fun e => c (by injection e)
        | succ m => exact h2 m (Nat.lt_of_succ_lt_succ hm)
section
variable {X : Cx}
theorem flat_ints (ys : List Int) : (ys.map V.int).all flatV = true := by
  rw [List.all_map]; exact List.all_eq_true.mpr fun _ _ => rfl
def rTupIx (K : PySem.W.Frag) : V → List V → Hp → VK → Prop := fun x xs H Q => ∃ (p : Addr) (ys : List Int) (z : Int) (j : Nat), x = .ref p ∧ xs = [.int z] ∧ SqT K H p (ys.map V.int) ∧ ys[j]? = some z ∧ (∀ m, m < j → ys[m]? ≠ some z) ∧ Q (.int (j : Nat)) H
theorem mt_tupIx : MtR X "tuple.index" (rTupIx X.K) := by
  intro pins s σ H x xs v us Q I rx rs h
  obtain ⟨p, ys, z, j, rfl, rfl, hq, hy, hno, q⟩ := h
  cases rx
  obtain ⟨u, rfl, t, rfl⟩ := vals1 rs
  obtain ⟨its, r, pl, hz⟩ := I.tuple hq
  obtain ⟨⟨cls, dd, dt, sl⟩, ho, hc, n, hd⟩ := pl
  simp only at hc hd
  subst hc hd
  have hl : its.toArray.size = ys.length := by rw [List.size_toArray, ← r.length, List.length_map]
  have at' : ∀ (m : Nat) (hm : m < its.toArray.size), ∃ y t', ys[m]? = some y ∧ its.toArray[m] = Value.int y t' := fun m hm => by
    have hm' : m < ys.length := hl ▸ hm
    obtain ⟨w, hw, t', hw'⟩ := r.get (i := m) (x := .int ys[m]) (by simp [hm'])
    refine ⟨ys[m], t', List.getElem?_eq_getElem hm', ?_⟩
    rw [← hw', ← (List.getElem?_eq_some_iff.mp hw).2]
    simp
  have hj : j < its.toArray.size := hl ▸ (List.getElem?_eq_some_iff.mp hy).1
  have hit : eqU (.int z) its.toArray[j] = true := by
    obtain ⟨y, t', h1, h2⟩ := at' j hj
    rw [hy] at h1
    cases h1
    rw [h2]
    show (z == z) = true
    simp
  have hmiss : ∀ m (hm : m < its.toArray.size), m < j → eqU (.int z) its.toArray[m] = false := fun m hm hmj => by
    obtain ⟨y, t', h1, h2⟩ := at' m hm
    rw [h2]
    show (y == z) = false
    exact beq_eq_false_iff_ne.mpr fun e => hno m hmj (e ▸ h1)
  exact call_meets PySem.F.slot_tuple_index ⟨_, ho, rfl⟩ PySem.F.entry_tuple_index (PySem.F.args_tuple_index_2 _ _) (_root_.TI.tuple_indexAt p its.toArray n dd sl (.int z t) (eqU (.int z)) j hj hit hmiss)
    ⟨ho, fun w hw => mem_eqAt (x := .int z) ⟨t, rfl⟩ rfl r (flat_ints ys) w (by simpa using hw), ⟨.int (j : Nat), H, I.tok _, ⟨_, rfl⟩, q⟩⟩
/-- a method of a tuple whose object is known -/
def tBMk (r : V → List V → Hp → VK → Prop) (to : TE) (t : TA) : TE := fun σ H Q => to σ H fun x H1 => (∃ p o xs, x = .ref p ∧ H1 p = some (.frz o (.tup xs)) ∧ KtO o) ∧ t σ H1 fun xs H2 => r x xs H2 Q
theorem pe_bmk {o e : Expr} {es : List Expr} {to : TE} {t : TA} {name : Str} {apos cpos : Pos} {id : String} {r : V → List V → Hp → VK → Prop} (slot : Slot "tuple" name id) (hty : typeOf (.builtin id) = pure (.type "method_descriptor")) (hm : MtR X id r) (ho : PE X o to) (ha : PA X (e :: es) t)
    (hbase : attributeBase o name X.env (eval o X.env) = eval o X.env := by rfl)
    (hfew : ((backTo cpos (starEach (e :: es) X.env)).all (fun x => !x.1) && (backToKw cpos (keywordEach [] X.env)).all (fun x => x.1.isSome) && decide ((e :: es).length + ([] : List Keyword).length + (if ([] : List Keyword).isEmpty then 0 else 1) < 30)) = true := by rfl)
    (hline : (apos.endLine == cpos.line) = true := by rfl) (hs : starEach (e :: es) X.env = (false, eval e X.env) :: starEach es X.env := by rfl) (hplain : (backTo cpos (starEach es X.env)).any (·.1) = false := by rfl) :
    PE X (.Call (.Attribute o name apos) (e :: es) [] cpos) (tBMk r to t) := by
  refine ⟨fun pins s σ H Q I h => wpAny_Call_method_late hbase hfew hline rfl (thn (ho.run pins s σ H _ I h) fun v s1 ⟨x, H1, I1, r1, ty, q1⟩ => ?_)⟩
  obtain ⟨p, ob, xs, rfl, hp, hc, hd⟩ := ty
  cases r1
  have hg : s1.heap.get? p = some ob := (I1.hok p _ hp).1
  refine ⟨"tuple", id, PySem.F.plainAttrs_tuple, slot, hty, ⟨ob, hg, hc⟩, fun a e => ?_, ?_⟩
  · cases e; exact ⟨ob, hg, hd⟩
  have hA := ha.run cpos pins s1 σ H1 _ I1 q1
  rw [hs] at hA ⊢
  refine Calls.callWith_builtin (by show (false || (backTo cpos (starEach es X.env)).any (·.1)) = false; rw [hplain]; rfl) (Calls.evalArgs_plain (thn hA fun us s2 ⟨vs, H2, I2, r2, q2⟩ => ?_))
  exact hm pins s2 σ H2 (.ref p) vs (.ref p) us Q I2 rfl r2 q2
/-- tuple(list): its object is known -/
def oTupK (K : PySem.W.Frag) : List V → Hp → VK → Prop := fun xs H Q => ∃ p ys, xs = [.ref p] ∧ SqL K H p ys ∧ ∀ l o, H l = none → KtO o → Q (.ref l) (upd H l (.frz o (.tup ys)))
theorem call_tupK : CallR X (.type "tuple") (oTupK X.K) := by
  intro pins s σ H xs us Q I r h
  obtain ⟨p, ys, rfl, hq, q⟩ := h
  obtain ⟨u, rfl, rx⟩ := vals1 r
  cases rx
  obtain ⟨its, r', pl, hz⟩ := I.list hq
  have hlen := r'.length
  refine call_tuple_list pl.isList (fun h' kp => ?_) (by simp only [List.size_toArray] <;> omega)
  have I1 : Inv X pins σ H { s with heap := h' } := I.kept (t' := s.toks) kp
  have new : ObjOk X.prog X.w (upd H h'.objs.size (.frz { cls := .type "tuple", data := .seq its.toArray } (.tup ys))) (h'.push { cls := .type "tuple", data := .seq its.toArray }) h'.objs.size (.frz { cls := .type "tuple", data := .seq its.toArray } (.tup ys)) :=
    ⟨Heap.get?_push_size _ rfl, hz, its, r', IsTup.new _ _⟩
  exact ⟨.ref h'.objs.size, _, I1.laid (t' := s.toks) (fun b o e => Heap.get?_push_of_some _ e) (Nat.le_refl _) new, rfl, q _ _ (I1.hok.fresh (Nat.le_refl _)) ⟨rfl, rfl⟩⟩
/-- tuple(range(..)): its object is known -/
def tTupRgK (te : L2.St → Hp → (Int → Int → Hp → Prop) → Prop) : TE := fun σ H Q => te σ H fun a b H1 => RgOk a b ∧ ∀ q o, H1 q = none → KtO o → Q (.ref q) (upd H1 q (.frz o (.tup (rgV a b))))
theorem pe_tupRgK {p pos : Pos} {e : Expr} {te : L2.St → Hp → (Int → Int → Hp → Prop) → Prop} (hc : X.calm = true) (hg : Gl X "tuple") (hm : X.mg "tuple" = none) (he : PRg X e te) (na : starEach [e] X.env = (false, eval e X.env) :: starEach [] X.env := by rfl) :
    PE X (.Call (.Name "tuple" p) [e] [] pos) (tTupRgK te) := by
  refine ⟨fun pins s σ H Q I h => Call_ (ld_blt I hg hm boot_tuple (PyProof.Rows.callWith_type1 (args_cons (thn (he pins s σ H _ I h) fun x s1 ⟨r, a, b, t, u, v, H1, ex, hr, I1, ok, q⟩ => args_nil ?_) na) na))⟩
  subst ex
  have ok' := ok
  obtain ⟨b1, b2, b3, b4, b5⟩ := ok
  refine call_tuple_range (n := (b - a).toNat) (I1.ok.hd hc) hr (small_one b1 b2 b3 b4) (rangeSize_nat a b) b5 fun h' tk acc hk hi => ?_
  have I2 : Inv X pins σ H1 { s1 with heap := h', toks := tk } := I1.kept hk
  have tu : IsTup (h'.push { cls := .type "tuple", data := .seq acc }) h'.objs.size acc.toList.toArray := by rw [Array.toArray_toList]; exact IsTup.new _ _
  have sz : (rgV a b).length ≤ sizeLine := by rw [rgV_length, sizeLine_eq]; omega
  have new : ObjOk X.prog X.w (upd H1 h'.objs.size (.frz { cls := .type "tuple", data := .seq acc } (.tup (rgV a b)))) (h'.push { cls := .type "tuple", data := .seq acc }) h'.objs.size (.frz { cls := .type "tuple", data := .seq acc } (.tup (rgV a b))) :=
    ⟨Heap.get?_push_size _ rfl, sz, acc.toList, vals_rg hi, tu⟩
  exact ⟨.ref h'.objs.size, _, I2.laid (t' := tk) (fun c o e => Heap.get?_push_of_some _ e) (Nat.le_refl _) new, rfl, q _ _ (I2.hok.fresh (Nat.le_refl _)) ⟨rfl, rfl⟩⟩
end
section
variable {K : PySem.W.Frag} {L : Addr × Addr} {mg : Str → Option Value} {W : WX} {ta te tb : TE} {a b e : ME} {tas : TA} {as : ML}
theorem WF.newK {F H : Hp} {z : List D} {Q : VK} {vs : List V} (e : Ex F H) (k : WF K F H (ktD z) Q) (r : RepL K F vs z) (p : Addr) (o : Obj) (hp : H p = none) (ho : KtO o) : Q (.ref p) (upd H p (.frz o (.tup vs))) :=
  k _ _ _ (Step.new e hp) (.ktp (xs := vs) (o := o) upd_same ho.1 ho.2 (r.mono (Ex.new (e.free hp))) rfl)
def tupKD : List D → Option D
  | [.list ds] => some (ktD ds)
  | _ => none
theorem rc_tupK : RCD K (oTupK K) tupKD := by
  intro F H xs ds Q z ex rx h k
  unfold tupKD at h
  split at h
  · cases h
    obtain ⟨x, rfl, r⟩ := rx.one
    obtain ⟨l, vs, rfl, a, b⟩ := r.isl ex
    exact ⟨l, vs, rfl, .of a, fun p o hp ho => k.newK ex b p o hp ho⟩
  · cases h
theorem kTupK {X : Cx} (h : X.K = K := by rfl) : CallR X (.type "tuple") (oTupK K) := h ▸ call_tupK
theorem kTupIx {X : Cx} (h : X.K = K := by rfl) : MtR X "tuple.index" (rTupIx K) := h ▸ mt_tupIx
def isKt : D → Bool
  | .dict [(.none, .tuple _)] => true
  | _ => false
def tupIxD : D → List D → Option D
  | .dict [(.none, .tuple ds)], [.int z] => (ints? ds).bind fun ns => (placeI z ns).map fun j => .int (j : Int)
  | _, _ => none
theorem tupIx_is {F H : Hp} {x : V} {xs : List V} {d : D} {ds : List D} {Q : VK} {z : D} (ex : Ex F H) (rx : RepB K F H x d) (rs : RepBL K F H xs ds) (h : tupIxD d ds = some z) (k : WF K F H z Q) : rTupIx K x xs H Q := by
  unfold tupIxD at h
  split at h
  · rename_i es i
    cases q : ints? es with
    | none => rw [q] at h; cases h
    | some ns =>
      rw [q] at h
      obtain rfl := ints?_eq q
      cases q2 : placeI i ns with
      | none =>
        have h : (placeI i ns).map (fun j => (PyData.int (j : Int))) = some z := h
        rw [q2] at h; cases h
      | some j =>
        have h : (placeI i ns).map (fun j => (PyData.int (j : Int))) = some z := h
        rw [q2] at h
        cases h
        obtain ⟨l, vs, rfl, a, b, _⟩ := rx.iktT ex
        obtain rfl := b.ints
        obtain ⟨y, rfl, r⟩ := rs.one
        obtain rfl := r.isi
        obtain ⟨h1, h2⟩ := placeI_at q2
        exact ⟨l, ns, i, j, rfl, rfl, a, h1, h2, k.here ex (.int _)⟩
  · cases h
def eMK (f : D → List D → Option D) (a : ME) (as : ML) : ME := fun ρ => (a ρ).bind fun d => if isKt d = true then (as ρ).bind fun ds => lift (f d ds) else .stuck
theorem isKt_eq {d : D} (h : isKt d = true) : ∃ ds, d = ktD ds := by
  unfold isKt at h
  split at h
  · exact ⟨_, rfl⟩
  · cases h
theorem df_tupIx (ha : DE K L mg W ta a) (hs : DA K L mg W tas as) : DF K L mg W (tBMk (rTupIx K) ta tas) (eMK tupIxD a as) := fun F0 H0 F H σ ρ Q E p => by
  refine ha F0 H0 F H σ ρ _ E (post_mono (post_bind p) (fun d k F1 H1 x s1 r1 => ?_) fun _ z => z)
  by_cases c : isKt d = true
  · rw [if_pos c] at k
    obtain ⟨ds, rfl⟩ := isKt_eq c
    obtain ⟨l, vs, o, rfl, h1, h2, h3, _, _⟩ := r1.iktp
    refine ⟨⟨l, o, vs, rfl, s1.fh _ _ h1, h2, h3⟩, ?_⟩
    refine hs F0 H0 F1 H1 σ ρ _ (E.step s1) (post_mono (post_bind k) (fun es k2 F2 H2 ys s2 r2 => ?_) fun n z => WE'.on s1 z)
    obtain ⟨z, ez, k3⟩ := post_lift k2
    exact tupIx_is s2.fh (r1.step s2) r2 ez (WF.on (s1.trans s2) k3)
  · rw [if_neg c] at k; exact k.elim
theorem pe_tupIx {X : Cx} {o e : Expr} {to : TE} {t : TA} {apos cpos : Pos} (ho : PE X o to) (ha : PA X [e] t) (h : X.K = K := by rfl)
    (hbase : attributeBase o "index" X.env (eval o X.env) = eval o X.env := by rfl)
    (hfew : ((backTo cpos (starEach [e] X.env)).all (fun x => !x.1) && (backToKw cpos (keywordEach [] X.env)).all (fun x => x.1.isSome) && decide (([e]).length + ([] : List Keyword).length + (if ([] : List Keyword).isEmpty then 0 else 1) < 30)) = true := by rfl)
    (hline : (apos.endLine == cpos.line) = true := by rfl) (hs : starEach [e] X.env = (false, eval e X.env) :: starEach [] X.env := by rfl) (hplain : (backTo cpos (starEach [] X.env)).any (·.1) = false := by rfl) :
    PE X (.Call (.Attribute o "index" apos) [e] [] cpos) (tBMk (rTupIx K) to t) := pe_bmk PySem.F.slot_tuple_index PySem.F.type_tuple_index (kTupIx h) ho ha hbase hfew hline hs hplain
/-- tuple(range(..)) -/
theorem rgK_post {F H F1 H1 : Hp} {i j : Int} {Q : VK} (s : Step F H F1 H1) (k : WF K F H (ktD (rngL i j)) Q) (q : Addr) (o : Obj) (hq : H1 q = none) (ho : KtO o) : Q (.ref q) (upd H1 q (.frz o (.tup (rgV i j)))) :=
  WF.newK s.fh (WF.on s k) rgV_eq q o hq ho
def eTLK (f : ML) : ME := fun ρ => (f ρ).bind fun ds => .ok (ktD ds)
theorem df_trgK1 (ha : DE K L mg W te e) : DF K L mg W (tTupRgK (tRg1 te)) (eTLK (eRg1 e)) := fun F0 H0 F H σ ρ Q E p => by
  refine ha F0 H0 F H σ ρ _ E (post_mono (post_bind (post_bind p)) (fun d k F1 H1 x s1 r1 => ?_) fun _ z => z)
  obtain ⟨c, rfl, k⟩ := toI_post (post_bind k)
  obtain ⟨ok, k⟩ := rgLD_post k
  exact ⟨c, r1.isi, ok, fun q o hq ho => rgK_post s1 k q o hq ho⟩
@[simp] theorem eTLK_ap {f : ML} {ρ : Fr} : eTLK f ρ = (f ρ).bind fun ds => .ok (ktD ds) := rfl
@[simp] theorem eMK_ap {f : D → List D → Option D} {ρ : Fr} : eMK f a as ρ = (a ρ).bind fun d => if isKt d = true then (as ρ).bind fun ds => lift (f d ds) else .stuck := rfl
@[simp] theorem isKt_k {ds : List D} : isKt (ktD ds) = true := rfl
@[simp] theorem tupKD_l {ds : List D} : tupKD [.list ds] = some (ktD ds) := rfl
theorem slD_k {ds : List D} {lo hi : Option Int} : slD (ktD ds) lo hi = some (if (cutL ds lo hi).length = ds.length then ktD ds else .tuple (cutL ds lo hi)) := Eq.trans rfl rfl
@[simp] theorem itemsD_k {ds : List D} : itemsD (ktD ds) = .ok ds := rfl
@[simp] theorem seq_k {ds : List D} : seq? (ktD ds) = some ds := rfl
@[simp] theorem lenD_k {ds : List D} : lenD [ktD ds] = some (.int ds.length) := rfl
@[simp] theorem listD_k {ds : List D} : listD [ktD ds] = some ds := rfl
@[simp] theorem tupleD_k {ds : List D} : tupleD [ktD ds] = some (ktD ds) := rfl
@[simp] theorem sortUD_k {ns : List Int} : sortUD [ktD (ns.map .int)] = some ((sortI ns).map .int) := by
  show (ints? (ns.map PyData.int)).map _ = _
  rw [ints?_map]
  rfl
theorem tupIxD_ok {z : Int} {ns : List Int} {j : Nat} (h : placeI z ns = some j) : tupIxD (ktD (ns.map .int)) [.int z] = some (.int (j : Int)) := by
  show (ints? (ns.map PyData.int)).bind (fun ns => (placeI z ns).map fun j => PyData.int (j : Int)) = _
  rw [ints?_map]
  show (placeI z ns).map (fun j => PyData.int (j : Int)) = _
  rw [h]; rfl
end
end Dn
namespace Dn
open PySem PySem.Spec PyProof.Rows L2
/-! ### sorted(.., reverse=True) -/
section
variable {K : PySem.W.Frag} {L : Addr × Addr} {mg : Str → Option Value} {W : WX} {tas : TA} {as : ML}
theorem kSortRev {X : Cx} (h : X.K = K := by rfl) : CallRK X (.builtin "sorted") [Str.ofString "reverse"] (rSortedKw K true [.bl true]) := h ▸ cr_sortedRev
def sortRevD : List D → Option (List D)
  | [.list ds] => (ints? ds).map fun ns => (sortI ns).reverse.map .int
  | _ => none
theorem dl_sortRev (ha : DA K L mg W tas as) : DL K L mg W (tCKw (rSortedKw K true [.bl true]) tas (tCons (tC (.bl true)) tNil)) (eBL sortRevD as) := fun F0 H0 F H σ ρ Q E p => by
  refine ha F0 H0 F H σ ρ _ E (post_mono (post_bind p) (fun ds k F1 H1 xs s1 r1 => ?_) fun _ z => z)
  obtain ⟨z, ez, k3⟩ := post_lift k
  unfold sortRevD at ez
  split at ez
  · rename_i es
    obtain ⟨x, rfl, r⟩ := r1.one
    obtain ⟨l, vs, rfl, a, b⟩ := r.isl s1.fh
    cases q : ints? es with
    | none => rw [q] at ez; cases ez
    | some ns =>
      rw [q] at ez
      cases ez
      obtain rfl := ints?_eq q
      obtain rfl := b.ints
      refine ⟨l, ns, rfl, rfl, .of a, fun ns' p hp ho hn => ?_⟩
      have ho : ns'.Pairwise (· ≥ ·) := ho
      have e : ns'.reverse = sortI ns := sorted_one (((List.reverse_perm _).trans hp).trans (sortI_perm ns).symm) (by rw [List.pairwise_reverse]; exact ho) (sortI_sorted ns)
      have e : ns' = (sortI ns).reverse := by rw [← e, List.reverse_reverse]
      rw [e]
      exact (WN.on s1 k3).new s1.fh (repL_ints _) p hn
  · cases ez
@[simp] theorem sortRevD_l {ns : List Int} : sortRevD [.list (ns.map .int)] = some ((sortI ns).reverse.map .int) := by
  show (ints? (ns.map PyData.int)).map _ = _
  rw [ints?_map]
  rfl
end
end Dn
namespace Dn
section
variable {α : Type} [DecidableEq α] {n : Nat} {f : α → D} {x : α} {xs : List α}
theorem inD_yes (G : Gr n f) (h : n ≤ 63) (m : x ∈ xs) : inD (f x) (.list (xs.map f)) = some (.bool true) := by rw [inD_g G h, decide_eq_true m]
theorem inD_no (G : Gr n f) (h : n ≤ 63) (m : x ∉ xs) : inD (f x) (.list (xs.map f)) = some (.bool false) := by rw [inD_g G h, decide_eq_false m]
theorem ninD_yes (G : Gr n f) (h : n ≤ 63) (m : x ∉ xs) : ninD (f x) (.list (xs.map f)) = some (.bool true) := by rw [ninD_g G h, decide_eq_false m]; rfl
theorem ninD_no (G : Gr n f) (h : n ≤ 63) (m : x ∈ xs) : ninD (f x) (.list (xs.map f)) = some (.bool false) := by rw [ninD_g G h, decide_eq_true m]; rfl
end
end Dn
namespace Dn
open PySem PySem.Spec PyProof.Rows L2
section
variable {P : Program} {w : World} {K : PySem.W.Frag} {mg : Str → Option Value} {base : Heap}
/-- a def that is never called with anything that is said of it -/
theorem fn_stuck {x : Str} {st : Stmt} {ps : List Str} {k : Nat} (Df : DefAt K mg x st)
    (hb : ∀ (kV doc pm : Value) (an : Option Addr) (cdv ct : Value) (us : List Value), us.length = ps.length → bindArgs (PySem.W.fnOf x x (defArgs st) (defBody st) (defScope st) .none kV doc pm an cdv ct) ⟨us, []⟩ = pure (ps.zip us)) :
    FnAt P w K mg base x ps k (fun _ => .stuck) := by
  obtain ⟨f, fd, hm, F⟩ := Df
  have no : ∀ vs H Q E, ¬ spD K mg (fun _ => .stuck) vs H Q E := fun vs H Q E h => by
    obtain ⟨F, ds, _, _, p⟩ := h
    exact p
  exact ⟨f, fd, hm, F.kp, F.binds hb, ⟨fun vs H Q E h => (no vs H Q E h).elim, fun A outer s H args us vs Q E hr e b v h => (no vs H Q E h).elim⟩⟩
end
end Dn

set_option Elab.async false
set_option linter.all false
set_option maxRecDepth 100000
set_option maxHeartbeats 4000000
/-! DenZD: defs handed in and called by a local name -/
namespace Dn
open PySem PySem.Spec PyProof.Rows L2
abbrev FnL := List (Str × (List D → M D))
def fnOf : FnL → Str → Option (List D → M D)
  | [], _ => none
  | (m, g) :: r, n => if m = n then some g else fnOf r n
theorem fnOf_mem : ∀ {fs : FnL} {n : Str} {g : List D → M D}, fnOf fs n = some g → (n, g) ∈ fs
  | (m, h) :: r, n, g, e => by
    unfold fnOf at e
    by_cases c : m = n
    · rw [if_pos c] at e; cases e; subst c; exact List.mem_cons_self
    · rw [if_neg c] at e; exact List.mem_cons_of_mem _ (fnOf_mem e)
/-- all of them keep their promises -/
def Fns (P : Program) (w : World) (K : PySem.W.Frag) (mg : Str → Option Value) (base : Heap) (k : Nat) (fs : FnL) : Prop := ∀ n g, (n, g) ∈ fs → ∃ ps, FnAt P w K mg base n ps k g
section
variable {P : Program} {w : World} {K : PySem.W.Frag} {mg : Str → Option Value} {base : Heap} {k j : Nat} {fs : FnL}
theorem fns_nil : Fns P w K mg base k [] := fun n g h => by cases h
theorem fns_cons {n : Str} {ps : List Str} {g : List D → M D} (h : FnAt P w K mg base n ps j g) (hj : j ≤ k) (r : Fns P w K mg base k fs) : Fns P w K mg base k ((n, g) :: fs) := fun m g' hm => by
  rcases List.mem_cons.mp hm with e | hm
  · cases e; exact ⟨ps, fn_mono h hj⟩
  · exact r m g' hm
end
def tCallV (K : PySem.W.Frag) (mg : Str → Option Value) (i : Nat) (fs : FnL) (E : L2.St → XK) (t : TA) : TE := fun σ H Q => ∃ f n g, (n, g) ∈ fs ∧ mg n = some (.ref f) ∧ σ[i]? = some (some (.ref f)) ∧ t σ H fun vs H1 => spD K mg g vs H1 Q (E σ)
section
variable {X : Cx} {k : Nat} {fs : FnL} {x : Str} {p pos : Pos} {e : Expr} {es : List Expr} {t : TA} {E : L2.St → XK}
theorem pe_callLV (i : Nat) (A : Fns X.prog X.w X.K X.mg X.base k fs) (hr : Room k X.A) (hx : ∀ σ, PassesAt (L2.CX X.prog X.w) X σ (E σ)) (ha : PA X (e :: es) t)
    (hN : X.N[i]? = some x := by rfl) (hv : Vis X.env.scope x := by first | exact Or.inl rfl | exact Or.inr (Or.inl rfl) | exact Or.inr (Or.inr rfl))
    (hdb : (x == ("__debug__" : Str)) = false := by decide) (hcd : (x == ("__classdict__" : Str)) = false := by decide)
    (he : starEach (e :: es) X.env = (false, eval e X.env) :: starEach es X.env := by rfl) (hpl : (backTo pos (starEach es X.env)).any (·.1) = false := by rfl) : PE X (.Call (.Name x p) (e :: es) [] pos) (tCallV X.K X.mg i fs E t) := by
  refine ⟨fun pins s σ H Q I h => ?_⟩
  obtain ⟨f, n, g, hm, hg, hs, ht⟩ := h
  obtain ⟨ps, a, fd, m, kp, b, F⟩ := A n g hm
  rw [hg] at m
  cases m
  refine wpAny_Call_Name_kw (thn ((pe_var (pos := p) hN hv hdb hcd).run pins s σ H (fun v H1 => v = .ref f ∧ H1 = H) I ⟨.ref f, hs, rfl, rfl⟩) fun u s1 ⟨v, H1, I1, r1, q1⟩ => ?_)
  obtain ⟨rfl, rfl⟩ := q1
  cases r1
  refine PySem.W.callWith_K (h₀ := X.base) I.ok.mod.kin kp (thn (ha.run pos pins s1 σ _ _ I1 ht) fun us s2 ⟨vs, H2, I2, r, q⟩ => ⟨I2.kIn, ?_⟩) he hpl
  exact run_fnS F hr b (hx σ) I2 r q
end
section
variable {X : Cx} {K : PySem.W.Frag} {mg : Str → Option Value} {k : Nat} {fs : FnL} {x : Str} {p pos : Pos} {e : Expr} {es : List Expr} {t : TA} {E : L2.St → XK}
theorem pe_callLK (i : Nat) (A : Fns X.prog X.w X.K X.mg X.base k fs) (hr : Room k X.A) (hx : ∀ σ, PassesAt (L2.CX X.prog X.w) X σ (E σ)) (ha : PA X (e :: es) t) (h1 : X.K = K := by rfl) (h2 : X.mg = mg := by rfl)
    (hN : X.N[i]? = some x := by rfl) (hv : Vis X.env.scope x := by first | exact Or.inl rfl | exact Or.inr (Or.inl rfl) | exact Or.inr (Or.inr rfl))
    (hdb : (x == ("__debug__" : Str)) = false := by decide) (hcd : (x == ("__classdict__" : Str)) = false := by decide)
    (he : starEach (e :: es) X.env = (false, eval e X.env) :: starEach es X.env := by rfl) (hpl : (backTo pos (starEach es X.env)).any (·.1) = false := by rfl) : PE X (.Call (.Name x p) (e :: es) [] pos) (tCallV K mg i fs E t) := by
  subst h1 h2
  exact pe_callLV i A hr hx ha hN hv hdb hcd he hpl
end
/-- the name of a def stands for it -/
def NsF (K : PySem.W.Frag) (mg : Str → Option Value) (n : Str) : Prop := ∀ C, mg n = some (.ref C) → PySem.W.nsIn K mainGlobals n = some (some (.ref C))
theorem nsf_mk {K : PySem.W.Frag} {mg : Str → Option Value} {h : Heap} {n : Str} {C0 : Addr} (X : K.In h) (G : h.Ns mainGlobals mg) (a : PySem.W.nsIn K mainGlobals n = some (some (.ref C0))) : NsF K mg n := fun C hC => by
  have := PySem.W.mg_of X G a
  rw [hC] at this
  cases this
  exact a
def fnNm : Option S → Option Str
  | some (.val (.dict [(.str n, .none)])) => some n
  | _ => none
def runV (fs : FnL) (o : Option Str) (m : M (List D)) : M D := match o with
  | some n => (match fnOf fs n with
    | some g => m.bind g
    | none => .stuck)
  | none => .stuck
def eCallV (i : Nat) (fs : FnL) (as : ML) : ME := fun ρ => runV fs (fnNm ρ[i]?) (as ρ)
section
variable {K : PySem.W.Frag} {L : Addr × Addr} {mg : Str → Option Value} {W : WX} {tas : TA} {as : ML} {fs : FnL}
theorem df_fn {n : Str} {a : Addr} (hf : NsF K mg n) (hm : mg n = some (.ref a)) : DF K L mg W (tC (.ref a)) (eC (fnD n)) := fun F0 H0 F H σ ρ Q E p => p F H _ (Step.refl E.st.fh) (.fnc (hf a hm) rfl)
theorem fnNm_eq {s : Option S} {n : Str} (h : fnNm s = some n) : s = some (.val (fnD n)) := by
  unfold fnNm at h
  split at h
  · cases h; rfl
  · cases h
theorem df_callLV {i : Nat} (ns : NsMg K mg) (ha : DAF K L mg W tas as) : DF K L mg W (tCallV K mg i fs (WE W) tas) (eCallV i fs as) := fun F0 H0 F H σ ρ Q E p => by
  unfold eCallV runV at p
  cases q : fnNm ρ[i]? with
  | none => rw [q] at p; exact p.elim
  | some n =>
    rw [q] at p
    have p : post (match fnOf fs n with | some g => (as ρ).bind g | none => .stuck) (fun d => WF K F H d Q) (WE' mg W F H σ) := p
    cases q2 : fnOf fs n with
    | none => rw [q2] at p; exact p.elim
    | some g =>
      rw [q2] at p
      obtain ⟨v, hv, r⟩ := E.var (fnNm_eq q)
      obtain ⟨a, rfl, hn⟩ := r.ifn
      refine ⟨a, n, g, fnOf_mem q2, ns n a hn, hv, ?_⟩
      exact df_call (f := g) ha F0 H0 F H σ ρ Q E p
end
@[simp] theorem eCallV_ap {i : Nat} {fs : FnL} {as : ML} {ρ : Fr} : eCallV i fs as ρ = runV fs (fnNm ρ[i]?) (as ρ) := rfl
@[simp] theorem fnNm_val {n : Str} : fnNm (some (.val (fnD n))) = some n := rfl
theorem runV_ok {fs : FnL} {n : Str} {g : List D → M D} {m : M (List D)} (h : fnOf fs n = some g) : runV fs (some n) m = m.bind g := by
  unfold runV; simp only [h]
end Dn
namespace Dn
open PySem PySem.Spec PyProof.Rows L2
/-! ### a list taken apart -/
theorem pg_lstK {X : Cx} {K : PySem.W.Frag} {es : List Expr} {k : Nat} {t : TGs} {n : Nat} {pos : Pos} (hc : X.calm = true) (h : PGs X es t) (e : X.K = K := by rfl)
    (hn : (assignEach es X.env).length = n := by rfl) (hst : (assignEach es X.env).findIdx? (·.1) = none := by rfl) : PG X (.Tuple es k pos) (gLst K n t) := by
  subst e
  exact pg_lst hc h hn hst
section
variable {K : PySem.W.Frag} {L : Addr × Addr} {is : List Nat}
theorem dg_lst {gs : TGs} {tgs : List Dn.D → Fr → Option Fr} {n : Nat} (h : DGs K L gs tgs is) (hn : ∀ ds ρ ρ', tgs ds ρ = some ρ' → ds.length = n) : DG K L (gLst K n gs) (gL tgs) is := fun F0 H0 F H σ ρ v d Q ρ' E r q k => by
  unfold gL at q
  split at q
  · cases r with
    | lst a b => exact ⟨_, _, rfl, .of (E.st.fh _ _ a), by rw [b.length]; exact hn _ _ _ q, h F0 H0 F H σ ρ _ _ Q ρ' E b q k⟩
  · cases q
end
end Dn

set_option Elab.async false
set_option linter.all false
set_option maxRecDepth 100000
set_option maxHeartbeats 4000000
/-! DenZE: dicts that are known to their object: walked by keys, values, pairs -/
namespace Dn
open PySem PySem.Spec PyProof.Rows L2
/-! ### a dict of one's own becomes known -/
def tKnow (t : TS) : TS := fun D σ H => ∃ d u, H d = some u ∧ Mut (some u) ∧ ∀ od, t D σ (upd H d (.frz od u))
theorem ps_know {X : Cx} {st : Stmt} {t : TS} (h : PS X st t) : PS X st (tKnow t) := ⟨fun pins s σ H D I hw => by
  obtain ⟨d, u, hd, mu, hw⟩ := hw
  obtain ⟨od, I1⟩ := I.lock hd mu
  exact h.run pins s σ _ _ I1 (hw od)⟩
def sKnow (i : Nat) (g : MS) : MS := fun ρ => match ρ[i]? with
  | some (.own (.dK kvs)) => g (ρ.set i (.val (.dict (kdK kvs))))
  | some (.own (.dT kvs)) => g (ρ.set i (.val (.dict (kdT kvs))))
  | _ => .stuck
section
variable {K : PySem.W.Frag} {L : Addr × Addr} {mg : Str → Option Value} {W : WX} {F0 H0 F H : Hp} {σ : L2.St} {ρ : Fr} {t : TS} {g : MS}
theorem Env.know (E : Env K L F0 H0 F H σ ρ) {i : Nat} {l : Addr} {o : OD} {ho : HO} {ob : Obj} {d : D} (h : ρ[i]? = some (.own o)) (hl : σ[i]? = some (some (.ref l))) (hH : H l = some ho) (hr : Rep K (upd F l (.frz ob ho)) (.ref l) d) :
    Env K L F0 H0 (upd F l (.frz ob ho)) (upd H l (.frz ob ho)) σ (ρ.set i (.val d)) := by
  have h1 : ownO ρ[i]? = some o := by rw [h]; rfl
  obtain ⟨l', ho', e, f, h0, hH', r, _⟩ := E.ownv h1
  rw [hl] at e
  cases e
  have ef : Ex F (upd F l (.frz ob ho)) := Ex.new f
  refine ⟨⟨E.st.ff.trans ef, fun a u q => ?_, fun a u q1 q2 q3 => ?_, E.st.fh.upd⟩, by rw [List.length_set]; exact E.len, fun j s q => ?_, fun j k m h1 h2 e1 e2 => ?_⟩
  · rw [upd_ne (ne_of_none q h0)]; exact E.st.hh a u q
  · rw [upd_ne (ne_of_none q2 h0)]; exact E.st.nw a u q1 q2 q3
  · rcases set_get q with ⟨e', es', _⟩ | ⟨ne, h'⟩
    · subst e'; subst es'
      rw [hl]
      exact ⟨.ref l, rfl, hr⟩
    · have z := E.sl j s h'
      cases s with
      | none => trivial
      | err n => exact z
      | val d => obtain ⟨v, e, rr⟩ := z; exact ⟨v, e, rr.mono ef⟩
      | own us =>
        obtain ⟨m, vs', e', f', h0', hHm, rr⟩ := z
        have nm := E.apart h1 (by rw [h']; rfl) hl (join_some e') ne
        exact ⟨m, vs', e', by rw [upd_ne nm]; exact f', h0', by rw [upd_ne nm]; exact hHm, rr.mono ef⟩
      | pin us =>
        obtain ⟨e', f', h0', ho', hHm, rr⟩ := z
        have nm := E.apart h1 (by rw [h']; rfl) hl (join_some e') ne
        exact ⟨e', by rw [upd_ne nm]; exact f', h0', ho', by rw [upd_ne nm]; exact hHm, rr.mono ef⟩
  · have nj := own_ne rfl h1
    have nk := own_ne rfl h2
    rw [List.getElem?_set_ne nj] at h1
    rw [List.getElem?_set_ne nk] at h2
    exact E.sep j k m h1 h2 e1 e2
theorem ds_know {i : Nat} (hg : DS K L mg W t g) : DS K L mg W (tKnow t) (sKnow i g) := fun F0 H0 F H σ ρ D E w => by
  unfold sKnow at w
  split at w
  · rename_i kvs q
    obtain ⟨l, ho, e, f, h0, hH, r, _⟩ := E.ownv (i := i) (o := .dK kvs) (by rw [q]; rfl)
    cases r with
    | dK r =>
      refine ⟨l, _, hH, trivial, fun od => ?_⟩
      have ef : ∀ ho, Ex F (upd F l (.frz od ho)) := fun ho => Ex.new f
      exact hg F0 H0 _ _ σ _ D (E.know (ob := od) q e hH (.dKf upd_same (r.mono (ef _)) rfl)) (w.mono (ef _))
  · rename_i kvs q
    obtain ⟨l, ho, e, f, h0, hH, r, _⟩ := E.ownv (i := i) (o := .dT kvs) (by rw [q]; rfl)
    cases r with
    | dT r =>
      refine ⟨l, _, hH, trivial, fun od => ?_⟩
      have ef : ∀ ho, Ex F (upd F l (.frz od ho)) := fun ho => Ex.new f
      exact hg F0 H0 _ _ σ _ D (E.know (ob := od) q e hH (.dTf upd_same (r.mono (ef _)) rfl)) (w.mono (ef _))
  · exact w.elim
/-! ### the walks -/
inductive KnD (F : Hp) : V → D → Prop
  | k {a : Addr} {xs : List (Key × V)} {ds : List (Key × D)} {o : Obj} : F a = some (.frz o (.dK xs)) → RepK K F xs ds → KnD F (.ref a) (.dict (kdK ds))
  | t {a : Addr} {xs : List (List Key × V)} {ds : List (List Key × D)} {o : Obj} : F a = some (.frz o (.dT xs)) → RepT K F xs ds → KnD F (.ref a) (.dict (kdT ds))
/-- keys; values; pairs of a known dict -/
def keysD : D → Option (List D)
  | .dict ((.bool false, .bool true) :: ps) => (decK ps).map fun kvs => kvs.map fun p => keyD p.1
  | .dict ((.bool true, .bool true) :: ps) => (decT ps).map fun kvs => kvs.map fun p => .tuple (p.1.map keyD)
  | _ => none
def valsD : D → Option (List D)
  | .dict ((.bool false, .bool true) :: ps) => (decK ps).map fun kvs => kvs.map fun p => p.2
  | .dict ((.bool true, .bool true) :: ps) => (decT ps).map fun kvs => kvs.map fun p => p.2
  | _ => none
def itmsD : D → Option (List D)
  | .dict ((.bool false, .bool true) :: ps) => (decK ps).map fun kvs => kvs.map fun p => .tuple [keyD p.1, p.2]
  | .dict ((.bool true, .bool true) :: ps) => (decT ps).map fun kvs => kvs.map fun p => .tuple [.tuple (p.1.map keyD), p.2]
  | _ => none
@[simp] theorem keysD_K {kvs : List (Key × D)} : keysD (.dict (kdK kvs)) = some (kvs.map fun p => keyD p.1) := by
  show (decK _).map _ = _; rw [decK_map]; rfl
@[simp] theorem keysD_T {kvs : List (List Key × D)} : keysD (.dict (kdT kvs)) = some (kvs.map fun p => .tuple (p.1.map keyD)) := by
  show (decT _).map _ = _; rw [decT_map]; rfl
@[simp] theorem valsD_K {kvs : List (Key × D)} : valsD (.dict (kdK kvs)) = some (kvs.map fun p => p.2) := by
  show (decK _).map _ = _; rw [decK_map]; rfl
@[simp] theorem valsD_T {kvs : List (List Key × D)} : valsD (.dict (kdT kvs)) = some (kvs.map fun p => p.2) := by
  show (decT _).map _ = _; rw [decT_map]; rfl
@[simp] theorem itmsD_K {kvs : List (Key × D)} : itmsD (.dict (kdK kvs)) = some (kvs.map fun p => .tuple [keyD p.1, p.2]) := by
  show (decK _).map _ = _; rw [decK_map]; rfl
@[simp] theorem itmsD_T {kvs : List (List Key × D)} : itmsD (.dict (kdT kvs)) = some (kvs.map fun p => .tuple [.tuple (p.1.map keyD), p.2]) := by
  show (decT _).map _ = _; rw [decT_map]; rfl
/-- what stands for the known mark -/
def isKn : D → Bool
  | .dict ((.bool _, .bool true) :: _) => true
  | _ => false
theorem Rep.kn {v : V} {d : D} (r : Rep K F v d) (hk : isKn d = true) : KnD (K := K) F v d := by
  cases r with
  | dKf h q e => subst e; exact .k h q
  | dTf h q e => subst e; exact .t h q
  | dK h q e => subst e; cases hk
  | dT h q e => subst e; cases hk
  | scr _ _ e => subst e; cases hk
  | exc _ _ e => subst e; cases hk
  | ktp _ _ _ _ e => subst e; cases hk
  | fnc _ e => subst e; cases hk
  | non => cases hk
  | bl _ => cases hk
  | int _ => cases hk
  | str _ => cases hk
  | lst _ _ => cases hk
  | tup _ _ => cases hk
theorem keysD_kn {d : D} {ds : List D} (h : keysD d = some ds) : isKn d = true := by
  unfold keysD at h; split at h
  · rfl
  · rfl
  · cases h
theorem valsD_kn {d : D} {ds : List D} (h : valsD d = some ds) : isKn d = true := by
  unfold valsD at h; split at h
  · rfl
  · rfl
  · cases h
theorem itmsD_kn {d : D} {ds : List D} (h : itmsD d = some ds) : isKn d = true := by
  unfold itmsD at h; split at h
  · rfl
  · rfl
  · cases h
theorem repK_at {xs : List (Key × V)} {ds : List (Key × D)} (r : RepK K F xs ds) : ∀ {i : Nat} {k : Key} {v : V}, xs[i]? = some (k, v) → ∃ d, ds[i]? = some (k, d) ∧ Rep K F v d := by
  induction ds generalizing xs with
  | nil => intro i k v h; cases r; simp at h
  | cons p ds ih =>
    intro i k v h
    cases r with
    | cons a q =>
      cases i with
      | zero => simp at h; obtain ⟨rfl, rfl⟩ := h; exact ⟨_, rfl, a⟩
      | succ i => simp at h; simpa using ih q h
theorem repT_at {xs : List (List Key × V)} {ds : List (List Key × D)} (r : RepT K F xs ds) : ∀ {i : Nat} {k : List Key} {v : V}, xs[i]? = some (k, v) → ∃ d, ds[i]? = some (k, d) ∧ Rep K F v d := by
  induction ds generalizing xs with
  | nil => intro i k v h; cases r; simp at h
  | cons p ds ih =>
    intro i k v h
    cases r with
    | cons a q =>
      cases i with
      | zero => simp at h; obtain ⟨rfl, rfl⟩ := h; exact ⟨_, rfl, a⟩
      | succ i => simp at h; simpa using ih q h
theorem repKV (k : Key) : Rep K F (kV k) (keyD k) := by
  cases k with
  | inl i => exact .int i
  | inr x => exact .str x
theorem repKVs : ∀ ks : List Key, RepL K F (ks.map kV) (ks.map keyD)
  | [] => .nil
  | k :: ks => .cons (repKV k) (repKVs ks)
/-- a tuple that stands in the heap is frozen -/
theorem froz {q : Addr} {ks : List Key} (ex : Ex F H) (h : H q = some (.tup (ks.map kV))) : ∃ F', Step F H F' H ∧ Rep K F' (.ref q) (.tuple (ks.map keyD)) := by
  cases e : F q with
  | none =>
    refine ⟨upd F q (.tup (ks.map kV)), ⟨Ex.new e, Ex.refl _, fun a o h1 h2 h3 => ?_, fun a o h1 => ?_⟩, .tup upd_same (repKVs ks)⟩
    · have ne : a ≠ q := fun z => by subst z; rw [h] at h2; cases h2; exact h3 _ rfl
      rw [upd_ne ne]; exact h1
    · by_cases z : a = q
      · subst z; rw [upd_same] at h1; cases h1; exact h
      · rw [upd_ne z] at h1; exact ex _ _ h1
  | some o =>
    have := ex _ _ e
    rw [h] at this
    cases this
    exact ⟨F, Step.refl ex, .tup e (repKVs ks)⟩
theorem src_keysK {a : Addr} {xs : List (Key × V)} {ds : List (Key × D)} {o : Obj} (h : F a = some (.frz o (.dK xs))) (r : RepK K F xs ds) : Src K (Itk a o xs) F (ds.map fun p => keyD p.1) := by
  have wk : Walk (Itk a o xs) (ds.map fun p => keyD p.1).length (fun H => H a = some (.frz o (.dK xs))) (fun i H x H' => H' = H ∧ ∃ k v, xs[i]? = some (k, v) ∧ x = kV k) := by rw [List.length_map, ← repK_len r]; exact walk_keys
  refine ⟨_, _, wk, fun F1 H1 e1 e2 => e2 _ _ (e1 _ _ h), fun i F1 H1 x H2 hi e1 e2 y => ?_⟩
  obtain ⟨rfl, k, v, hk, rfl⟩ := y
  obtain ⟨d, hd, _⟩ := repK_at r hk
  exact ⟨F1, keyD k, Step.refl e2, by rw [List.getElem?_map, hd]; rfl, repKV k⟩
theorem src_keysT {a : Addr} {xs : List (List Key × V)} {ds : List (List Key × D)} {o : Obj} (h : F a = some (.frz o (.dT xs))) (r : RepT K F xs ds) : Src K (Itkt a o xs) F (ds.map fun p => .tuple (p.1.map keyD)) := by
  have wk : Walk (Itkt a o xs) (ds.map fun p => (.tuple (p.1.map keyD) : D)).length (fun H => H a = some (.frz o (.dT xs))) (fun i H x H' => H' = H ∧ ∃ (k : List Key) (v : V) (q : Addr), xs[i]? = some (k, v) ∧ x = .ref q ∧ H q = some (.tup (k.map kV))) := by rw [List.length_map, ← repT_len r]; exact walk_keysT
  refine ⟨_, _, wk, fun F1 H1 e1 e2 => e2 _ _ (e1 _ _ h), fun i F1 H1 x H2 hi e1 e2 y => ?_⟩
  obtain ⟨rfl, k, v, q, hk, rfl, hq⟩ := y
  obtain ⟨d, hd, _⟩ := repT_at r hk
  obtain ⟨F', s, rp⟩ := froz (K := K) e2 hq
  exact ⟨F', _, s, by rw [List.getElem?_map, hd]; rfl, rp⟩
def iKD (f : D → Option (List D)) (e : ME) : ML := fun ρ => (e ρ).bind fun d => lift (f d)
variable {te : TE} {e : ME}
theorem di_keys (he : DF K L mg W te e) : DI K L mg W (iKeys te) (iKD keysD e) := fun F0 H0 F H σ ρ R E p => by
  refine he F0 H0 F H σ ρ _ E (post_mono (post_bind p) (fun d k F1 H1 x s1 r1 => ?_) fun _ z => z)
  obtain ⟨ds, q, k⟩ := post_lift k
  cases r1.kn (keysD_kn q) with
  | k h r =>
    rw [keysD_K] at q; cases q
    exact ⟨_, _, rfl, .inl ⟨_, s1.fh _ _ h, k F1 H1 _ s1 (src_keysK h r)⟩⟩
  | t h r =>
    rw [keysD_T] at q; cases q
    exact ⟨_, _, rfl, .inr ⟨_, s1.fh _ _ h, k F1 H1 _ s1 (src_keysT h r)⟩⟩
@[simp] theorem iKD_ap {f : D → Option (List D)} : iKD f e ρ = (e ρ).bind fun d => lift (f d) := rfl
def knS (o : Option S) (i : Nat) (ρ : Fr) (g : MS) : Out := match o with
  | some (.own (.dK kvs)) => g (ρ.set i (.val (.dict (kdK kvs))))
  | some (.own (.dT kvs)) => g (ρ.set i (.val (.dict (kdT kvs))))
  | _ => .stuck
@[simp] theorem sKnow_ap {i : Nat} : sKnow i g ρ = knS ρ[i]? i ρ g := rfl
@[simp] theorem knS_K {i : Nat} {kvs : List (Key × D)} : knS (some (.own (.dK kvs))) i ρ g = g (ρ.set i (.val (.dict (kdK kvs)))) := rfl
@[simp] theorem knS_T {i : Nat} {kvs : List (List Key × D)} : knS (some (.own (.dT kvs))) i ρ g = g (ρ.set i (.val (.dict (kdT kvs)))) := rfl
end
end Dn

set_option Elab.async false
set_option linter.all false
set_option maxRecDepth 100000
set_option maxHeartbeats 4000000
/-! DenZF: the pairs and the values of a dict of tuple keys -/
namespace Dn
open PySem PySem.Spec PyProof.Rows L2
section
variable {X : Cx} {pins : List (Addr × Obj)} {σ : L2.St} {H : Hp} {s : Shared}
/-- the entries of a known dict of tuple keys -/
theorem entsT {d : Addr} {o : Obj} {kvs : List (List Key × V)} (I : Inv X pins σ H s) (h : H d = some (.frz o (.dT kvs))) :
    (d == sysModules) = false ∧ ∃ (es : Array DictEntry) (ep : Nat), o.data = .dict es ep ∧ s.heap.DictRaw d es ep ∧ es.size = kvs.length ∧
      ∀ (i : Nat) (k : List Key) (v : V), kvs[i]? = some (k, v) → ∃ (en : DictEntry) (q : Addr), es[i]? = some en ∧ en.key = .ref q ∧ H q = some (.tup (k.map kV)) ∧ RelV v en.val := by
  obtain ⟨hd, z, hs, xs, pr, ob, es, ep, ho, hx, hdt, he, _⟩ := I.hok d _ h
  rw [hd] at ho
  cases ho
  refine ⟨hs, es, ep, hdt, ⟨_, hd, hx, hdt⟩, (size_of_entries he).trans (Paired.length pr).symm, fun i k v e => ?_⟩
  obtain ⟨b, hb, e1, e2, e3⟩ := paired_get pr e
  have w := entry_at he i
  rw [hb] at w
  exact ⟨_, b.2.1, w, rfl, e2, e3⟩
end
/-- the values; the pairs, each a new tuple -/
def ItdT (d : Addr) (o : Obj) (kvs : List (List Key × V)) : It :=
  ⟨fun i H => H d = some (.frz o (.dT kvs)) ∧ i < kvs.length, fun i H x H' => H' = H ∧ ∃ k, kvs[i]? = some (k, x), fun i H => H d = some (.frz o (.dT kvs)) ∧ kvs.length ≤ i⟩
def ItiT (d : Addr) (o : Obj) (kvs : List (List Key × V)) : It :=
  ⟨fun i H => H d = some (.frz o (.dT kvs)) ∧ i < kvs.length, fun i H x H' => ∃ T k v q, kvs[i]? = some (k, v) ∧ x = .ref T ∧ H T = none ∧ H q = some (.tup (k.map kV)) ∧ H' = upd H T (.tup [.ref q, v]), fun i H => H d = some (.frz o (.dT kvs)) ∧ kvs.length ≤ i⟩
section
variable {P : Program} {w : World} {K : PySem.W.Frag} {tg : Expr} {d : Addr} {o : Obj}
theorem dep {o : Obj} {es es' : Array DictEntry} {ep ep' : Nat} (h : o.data = .dict es ep) (h' : o.data = .dict es' ep') : es' = es ∧ ep' = ep := by
  rw [h] at h'; cases h'; exact ⟨rfl, rfl⟩
theorem turn_valsT {kvs : List (List Key × V)} {es : Array DictEntry} {ep : Nat} (it : Addr) (hod : o.data = .dict es ep) : Turn P w K tg (ItdT d o kvs) [it] it (fun i h => h.IsValIter it d i kvs.length ep) where
  mem := List.mem_cons_self
  obj := fun i h st b hb => by
    obtain rfl : b = it := by simpa using hb
    obtain ⟨oi, e, c, dd⟩ := st
    exact ⟨oi, e, fun v z => by rw [dd] at z; cases z⟩
  keep := fun i h h' st k => st.at fun oi e => k it List.mem_cons_self oi e
  item := by
    intro X hP hw hK hc i pins sh σ0 H E I hf st hg
    subst hP hw hK
    obtain ⟨hd, hi⟩ := hg
    obtain ⟨f0, f1, f2, f3, f4, f5⟩ := hf it List.mem_cons_self
    obtain ⟨hs, es', ep', hdt, hr, hsz, ent⟩ := entsT I hd
    obtain ⟨rfl, rfl⟩ := dep hod hdt
    obtain ⟨⟨k, v⟩, hkv⟩ : ∃ p, kvs[i]? = some p := ⟨kvs[i], List.getElem?_eq_getElem hi⟩
    obtain ⟨en, q, hen, hkey, hq, ru⟩ := ent i k v hkv
    obtain ⟨hlt, hee⟩ := Array.getElem?_eq_some_iff.mp hen
    rw [← hsz] at st
    refine wpAny_pyNext_values_item_raw st hr hlt fun h' st' sb => ?_
    have I1 := I.turned (t' := sh.toks) (h' := h') (fun b ob hb e => (sb.2 b hb).trans e) f0 f1 f3 f4 f5
    obtain ⟨oi, e, c, dd⟩ := id st'
    rw [hee]
    exact ⟨en.val, rfl, go_of (s := { sh with heap := h' }) e c dd (by decide) ⟨v, H, I1, ru, ⟨rfl, k, hkv⟩, by show Heap.IsValIter _ _ _ _ kvs.length _; rw [← hsz]; exact st', fun b hb => (hf b hb).1⟩⟩
  done := by
    intro X hP hw hK hc i pins sh σ0 H E I hf st hg
    subst hP hw hK
    obtain ⟨hd, hi⟩ := hg
    obtain ⟨f0, f1, f2, f3, f4, f5⟩ := hf it List.mem_cons_self
    obtain ⟨hs, es', ep', hdt, hr, hsz, ent⟩ := entsT I hd
    obtain ⟨rfl, rfl⟩ := dep hod hdt
    rw [← hsz] at st
    exact wpAny_pyNext_values_end_raw (I.ok.hd hc) st hr (by omega) fun h' eb => ⟨rfl, I.turned (t' := sh.toks) (fun b ob hb e => eb b ob hb e) f0 f1 f3 f4 f5⟩
  self := fun A i s Q E st h => wpAny_pyIter_valiter st h
theorem turn_itemsT {kvs : List (List Key × V)} {es : Array DictEntry} {ep : Nat} {elts : List Expr} {kk : Nat} {tpos : Pos} (it : Addr) (hod : o.data = .dict es ep) :
    Turn P w K (.Tuple elts kk tpos) (ItiT d o kvs) [it] it (fun i h => ∃ ok ov, IsItemIter h it d i kvs.length ep ok ov) where
  mem := List.mem_cons_self
  obj := fun i h st b hb => by
    obtain rfl : b = it := by simpa using hb
    obtain ⟨ok, ov, e⟩ := st
    exact ⟨_, e, fun v z => nomatch z⟩
  keep := fun i h h' ⟨ok, ov, e⟩ k => ⟨ok, ov, k it List.mem_cons_self _ e⟩
  item := by
    intro X hP hw hK hc i pins sh σ0 H E I hf st hg
    subst hP hw hK
    obtain ⟨hd, hi⟩ := hg
    obtain ⟨hs, es', ep', hdt, hr, hsz, ent⟩ := entsT I hd
    obtain ⟨rfl, rfl⟩ := dep hod hdt
    obtain ⟨⟨k, v⟩, hkv⟩ : ∃ p, kvs[i]? = some p := ⟨kvs[i], List.getElem?_eq_getElem hi⟩
    obtain ⟨en, q, hen, hkey, hq, ru⟩ := ent i k v hkv
    obtain ⟨hlt, hee⟩ := Array.getElem?_eq_some_iff.mp hen
    obtain ⟨ok, ov, he⟩ := st
    rw [← hsz] at he
    have below : it < sh.heap.objs.size := Heap.lt_size he
    refine wpAny_pyNext_items_item_raw he hr hlt fun h' ho hT hz hk => ⟨_, rfl, wpAny_letOwnedTupleGo_items (s := { sh with heap := h' }) ho fun h2 he' sb => ?_⟩
    rw [hee] at hT
    have hT2 : h2.get? sh.heap.objs.size = some { cls := .type "tuple", data := .seq #[en.key, en.val] } := (sb.2 _ (Nat.ne_of_gt below)).trans hT
    have new : ObjOk X.prog X.w (upd H sh.heap.objs.size (.tup [.ref q, v])) h2 sh.heap.objs.size (.tup [.ref q, v]) :=
      ⟨by show 2 ≤ sizeLine; decide, [en.key, en.val], .cons hkey (.cons ru .nil), ⟨_, hT2, rfl, _, rfl⟩⟩
    have I1 : Inv X pins σ0 (upd H sh.heap.objs.size (.tup [.ref q, v])) { sh with heap := h2 } :=
      I.turnedNew (t' := sh.toks) (ch := [it]) (fun b ob hb e => by rw [List.mem_singleton] at hb; exact (sb.2 b hb).trans (hk b ob hb e)) hf (Nat.le_refl _) new
    refine ⟨.ref sh.heap.objs.size, _, I1, rfl, ⟨_, k, v, q, hkv, rfl, I.hok.fresh (Nat.le_refl _), hq, rfl⟩, ⟨en.key, en.val, ?_⟩, fun b hb => ?_⟩
    · rw [← hsz, ← hee]; exact he'
    · obtain rfl : b = it := by simpa using hb
      rw [upd_ne (Nat.ne_of_lt below)]
      exact (hf b List.mem_cons_self).1
  done := by
    intro X hP hw hK hc i pins sh σ0 H E I hf st hg
    subst hP hw hK
    obtain ⟨hd, hi⟩ := hg
    obtain ⟨f0, f1, f2, f3, f4, f5⟩ := hf it List.mem_cons_self
    obtain ⟨hs, es', ep', hdt, hr, hsz, ent⟩ := entsT I hd
    obtain ⟨rfl, rfl⟩ := dep hod hdt
    obtain ⟨ok, ov, he⟩ := st
    rw [← hsz] at he
    exact wpAny_pyNext_items_end_raw (I.ok.hd hc) he hr (by omega) fun h' eb => ⟨rfl, I.turned (t' := sh.toks) (fun b ob hb e => eb b ob hb e) f0 f1 f3 f4 f5⟩
  self := fun A i s Q E ⟨_, _, e⟩ h => PySem.W.kcp_self e h
end
def iItmsU (td : TE) : TI := fun σ H R => td σ H fun x H1 => ∃ d o, x = .ref d ∧ ((∃ kvs, H1 d = some (.frz o (.dK kvs)) ∧ R (Iti d o kvs) H1) ∨ ∃ kvs, H1 d = some (.frz o (.dT kvs)) ∧ R (ItiT d o kvs) H1)
section
variable {X : Cx} {td : TE} {e tg : Expr} {apos cpos : Pos}
theorem pi_itmsU {elts : List Expr} {kk : Nat} {tpos : Pos} (he : PE X e td) (hbase : attributeBase e "items" X.env (eval e X.env) = eval e X.env := by rfl) (hline : (apos.endLine == cpos.line) = true := by rfl) :
    PI X (.Tuple elts kk tpos) (.Call (.Attribute e "items" apos) [] [] cpos) (iItmsU td) := by
  refine ⟨fun pins s σ H R I h => wpAny_Call_method (T := "dict") (id := "dict.items") hbase rfl hline F.plainAttrs_dict F.slot_dict_items F.type_dict_items (thn (he.run pins s σ H _ I h) fun u s1 ⟨x, H1, I1, rx, d, o, ex, q⟩ => ?_)⟩
  subst ex
  obtain rfl : u = Value.ref d := rx
  have I2 : Inv X pins σ H1 { s1 with heap := s1.heap.push { cls := .type "dict_items", data := .fields #[.ref d] } } := I1.kept (t' := s1.toks) fun b ob q => Heap.get?_push_of_some _ q
  have vw : (s1.heap.push { cls := .type "dict_items", data := .fields #[.ref d] }).IsItemsView s1.heap.objs.size d := ⟨_, Heap.get?_push_size _ rfl, rfl, rfl⟩
  have all : (d == sysModules) = false ∧ ∃ es ep, o.data = .dict es ep ∧ s1.heap.DictRaw d es ep ∧ s1.TypeIs (.ref d) "dict" ∧ (∀ b, Value.ref d = .ref b → ∃ ob, s1.heap.get? b = some ob ∧ ob.dict = none) ∧
      wpAny (model X.prog X.w) X.A (pyIter (.ref s1.heap.objs.size)) (PIE X pins σ (.Tuple elts kk tpos) R) X.xe { s1 with heap := s1.heap.push { cls := .type "dict_items", data := .fields #[.ref d] } } := by
    rcases q with ⟨kvs, hd, q⟩ | ⟨kvs, hd, q⟩
    · obtain ⟨hs, hgd, hx, es, ep, vs, hdt, hsz, kv, hm⟩ := I1.frzK hd
      obtain ⟨j1, j2, _⟩ := isD_at I1 (.inl ⟨kvs, .inr ⟨o, hd⟩⟩)
      have hr : s1.heap.DictRaw d es ep := ⟨o, hgd, hx, hdt⟩
      refine ⟨hs, es, ep, hdt, hr, j1, j2, wpAny_pyIter_items_raw vw (hr.at fun ob z => Heap.get?_push_of_some _ z) (pi_one (tk := s1.toks) I2 _ (turn_items _ hdt) ⟨.none, .none, ?_⟩ q)⟩
      rw [← hsz]; exact Heap.get?_push_size _ rfl
    · obtain ⟨hs, es, ep, hdt, hr, hsz, ent⟩ := entsT I1 hd
      obtain ⟨j1, j2, _⟩ := isD_at I1 (.inr ⟨kvs, .inr ⟨o, hd⟩⟩)
      refine ⟨hs, es, ep, hdt, hr, j1, j2, wpAny_pyIter_items_raw vw (hr.at fun ob z => Heap.get?_push_of_some _ z) (pi_one (tk := s1.toks) I2 _ (turn_itemsT _ hdt) ⟨.none, .none, ?_⟩ q)⟩
      rw [← hsz]; exact Heap.get?_push_size _ rfl
  obtain ⟨hs, es, ep, hdt, hr, j1, j2, fin⟩ := all
  refine ⟨j1, j2, ?_⟩
  show wpAny _ _ (callWith cpos (.builtin "dict.items") [.ref d] [] []) _ X.xe s1
  exact method_meetsIn F.slot_dict_items F.entry_dict_items rfl (PySem.evalArgs_none ⟨rfl, j1, F.args_dict_items_1 _, _, meets_dict_items_raw d hs, ⟨es, ep, hr⟩, fin⟩)
end
section
variable {K : PySem.W.Frag} {L : Addr × Addr} {mg : Str → Option Value} {W : WX} {F : Hp} {te : TE} {e : ME}
theorem src_itmsK {a : Addr} {xs : List (Key × V)} {ds : List (Key × D)} {o : Obj} (h : F a = some (.frz o (.dK xs))) (r : RepK K F xs ds) : Src K (Iti a o xs) F (ds.map fun p => .tuple [keyD p.1, p.2]) := by
  have wk : Walk (Iti a o xs) (ds.map fun p => (.tuple [keyD p.1, p.2] : D)).length (fun H => H a = some (.frz o (.dK xs))) (YPair (fun i => xs[i]?.map fun kv => kV kv.1) (fun i => xs[i]?.map Prod.snd)) := by rw [List.length_map, ← repK_len r]; exact walk_items
  refine ⟨_, _, wk, fun F1 H1 e1 e2 => e2 _ _ (e1 _ _ h), fun i F1 H1 x H2 hi e1 e2 y => ?_⟩
  obtain ⟨T, k', v', rfl, hT, rfl, hk, hv⟩ := y
  dsimp only at hk hv
  cases hx : xs[i]? with
  | none => rw [hx] at hk; cases hk
  | some p =>
    obtain ⟨k, v⟩ := p
    rw [hx] at hk hv
    cases hk; cases hv
    obtain ⟨d, hd, rd⟩ := repK_at r hx
    have ex := Ex.new (H := F1) (o := .tup [kV k, v]) (e2.free hT)
    exact ⟨_, .tuple [keyD k, d], Step.new e2 hT, by rw [List.getElem?_map, hd]; rfl, .tup upd_same (.cons (repKV k) (.cons (rd.mono (e1.trans ex)) .nil))⟩
theorem src_itmsT {a : Addr} {xs : List (List Key × V)} {ds : List (List Key × D)} {o : Obj} (h : F a = some (.frz o (.dT xs))) (r : RepT K F xs ds) : Src K (ItiT a o xs) F (ds.map fun p => .tuple [.tuple (p.1.map keyD), p.2]) := by
  have wk : Walk (ItiT a o xs) (ds.map fun p => (.tuple [.tuple (p.1.map keyD), p.2] : D)).length (fun H => H a = some (.frz o (.dT xs))) (fun i H x H' => ∃ T k v q, xs[i]? = some (k, v) ∧ x = .ref T ∧ H T = none ∧ H q = some (.tup (k.map kV)) ∧ H' = upd H T (.tup [.ref q, v])) := by
    rw [List.length_map, ← repT_len r]
    exact ⟨fun _ _ hi q => ⟨q, hi⟩, fun _ q => ⟨q, Nat.le_refl _⟩, fun _ _ _ _ _ _ y => y⟩
  refine ⟨_, _, wk, fun F1 H1 e1 e2 => e2 _ _ (e1 _ _ h), fun i F1 H1 x H2 hi e1 e2 y => ?_⟩
  obtain ⟨T, k, v, q, hk, rfl, hT, hq, rfl⟩ := y
  obtain ⟨d, hd, rd⟩ := repT_at r hk
  obtain ⟨F', s, rp⟩ := froz (K := K) e2 hq
  have ex := Ex.new (H := F') (o := .tup [.ref q, v]) (s.fh.free hT)
  exact ⟨_, .tuple [.tuple (k.map keyD), d], s.trans (Step.new s.fh hT), by rw [List.getElem?_map, hd]; rfl, .tup upd_same (.cons (rp.mono ex) (.cons (rd.mono ((e1.trans s.ff).trans ex)) .nil))⟩
theorem di_itms (he : DF K L mg W te e) : DI K L mg W (iItmsU te) (iKD itmsD e) := fun F0 H0 F H σ ρ R E p => by
  refine he F0 H0 F H σ ρ _ E (post_mono (post_bind p) (fun d k F1 H1 x s1 r1 => ?_) fun _ z => z)
  obtain ⟨ds, q, k⟩ := post_lift k
  cases r1.kn (itmsD_kn q) with
  | k h r =>
    rw [itmsD_K] at q; cases q
    exact ⟨_, _, rfl, .inl ⟨_, s1.fh _ _ h, k F1 H1 _ s1 (src_itmsK h r)⟩⟩
  | t h r =>
    rw [itmsD_T] at q; cases q
    exact ⟨_, _, rfl, .inr ⟨_, s1.fh _ _ h, k F1 H1 _ s1 (src_itmsT h r)⟩⟩
end
end Dn

set_option Elab.async false
set_option linter.all false
set_option maxRecDepth 100000
set_option maxHeartbeats 4000000
/-! DenZG: defs that change a dict handed in -/
namespace Dn
open PySem PySem.Spec PyProof.Rows L2
/-- a thing of one's own, out of data -/
def od2? : D → Option OD
  | .list es => some (.lst es)
  | d => od? d
theorem od2_d (o : OD) : od2? o.d = some o := by
  cases o with
  | lst es => rfl
  | dK kvs => exact od_dK
  | dT kvs => exact od_dT
inductive RepJO (K : PySem.W.Frag) (F : Hp) (l : Addr) (ho : HO) (o : OD) : Nat → List V → List D → Prop
  | here {vs : List V} {ds : List D} : RepO K F ho o → RepL K F vs ds → RepJO K F l ho o 0 (.ref l :: vs) (o.d :: ds)
  | next {j : Nat} {v : V} {d : D} {vs : List V} {ds : List D} : Rep K F v d → RepJO K F l ho o j vs ds → RepJO K F l ho o (j + 1) (v :: vs) (d :: ds)
def spO (K : PySem.W.Frag) (mg : Str → Option Value) (j : Nat) (f : List D → M (OD × D)) : Sp := fun vs H Q E => ∃ F ds l ho o, Ex F H ∧ F l = none ∧ H l = some ho ∧ RepJO K F l ho o j vs ds ∧
  post (f ds) (fun r => ∀ F' H' ho' v, StepM F H l F' H' → H' l = some ho' → RepO K F' ho' r.1 → Rep K F' v r.2 → Q v H') (fun _ => False)
section
variable {K : PySem.W.Frag} {mg : Str → Option Value} {W : WX} {L : Addr × Addr} {F0 H0 F H F' H' : Hp} {σ : L2.St} {ρ : Fr} {l : Addr} {ho : HO} {o : OD} {j : Nat} {vs : List V} {ds : List D}
theorem RepJO.len (h : RepJO K F l ho o j vs ds) : vs.length = ds.length := by
  induction h with
  | here r q => simp [q.length]
  | next r _ ih => simp [ih]
theorem Env.mutO (E : Env K L F0 H0 F H σ ρ) {i : Nat} {o o' : OD} {ho ho' : HO} (h : ownO ρ[i]? = some o) (hl : σ[i]? = some (some (.ref l))) (hH : H l = some ho) (s : StepM F H l F' H') (h' : H' l = some ho') (r0 : RepO K F ho o) (r : RepO K F' ho' o') :
    Env K L F0 H0 F' H' σ (putO i o' ρ) := by
  have st : Step F H F' (upd H' l ho) := ⟨s.ff, fun a u q => by
    by_cases z : a = l
    · subst z; rw [upd_same, ← hH, q]
    · rw [upd_ne z]; exact s.hh a u z q, s.nw, fun a u q => by rw [upd_ne (ne_of_none q s.fl)]; exact s.fh a u q⟩
  have E2 := (E.step st).mut (u := o') h hl r
  rw [upd_upd] at E2
  have e : upd H' l ho' = H' := by
    funext b
    by_cases z : b = l
    · subst z; rw [upd_same, h']
    · rw [upd_ne z]
  rw [e] at E2
  exact E2
/-- arguments, the one at j the thing of one's own in slot i -/
def DAJO (K : PySem.W.Frag) (L : Addr × Addr) (mg : Str → Option Value) (W : WX) (i j : Nat) (t : TA) (f : ML) : Prop := ∀ F0 H0 F H σ ρ o (Q : List V → Hp → Prop), Env K L F0 H0 F H σ ρ → ownO ρ[i]? = some o →
  post (f ρ) (fun ds => ∀ F' H' vs l ho, Step F H F' H' → σ[i]? = some (some (.ref l)) → F' l = none → H' l = some ho → RepO K F' ho o → RepJO K F' l ho o j vs ds → Q vs H') (WE' mg W F H σ) → t σ H Q
theorem dajO_here {i : Nat} {tas : TA} {as : ML} (h : DAF K L mg W tas as) : DAJO K L mg W i 0 (tCons (tVar i) tas) (aCons (eVar i) as) := fun F0 H0 F H σ ρ o Q E hw p => by
  obtain ⟨l, hho, e, f, h0, hl, r, _⟩ := E.ownv hw
  refine ⟨_, e, ?_⟩
  have ev : eVar i ρ = .ok o.d := by
    unfold eVar
    cases q : ρ[i]? with
    | none => rw [q] at hw; cases hw
    | some s =>
      rw [q] at hw
      cases s with
      | own o => cases hw; rfl
      | pin o => cases hw; rfl
      | none => cases hw
      | val _ => cases hw
      | err _ => cases hw
  unfold aCons at p
  rw [ev, M.bind_ok] at p
  refine h F0 H0 F H σ ρ _ E (post_mono (post_bind p) (fun d k F1 H1 ys s1 r1 => ?_) fun _ z => z)
  exact k F1 H1 _ l hho s1 e (s1.nw l _ f hl r.nt) (s1.hh _ _ hl) (r.mono s1.ff) (.here (r.mono s1.ff) r1)
theorem dajO_next {i : Nat} {ta : TE} {a : ME} {tas : TA} {as : ML} (ha : DF K L mg W ta a) (h : DAJO K L mg W i j tas as) : DAJO K L mg W i (j + 1) (tCons ta tas) (aCons a as) := fun F0 H0 F H σ ρ o Q E hw p => by
  refine ha F0 H0 F H σ ρ _ E (post_mono (post_bind p) (fun d k F1 H1 x s1 r1 => ?_) fun _ z => z)
  refine h F0 H0 F1 H1 σ ρ o _ (E.step s1) hw (post_mono (post_bind k) (fun e k2 F2 H2 ys l ho s2 el fl hl rl rj => ?_) fun n z => WE'.on s1 z)
  exact k2 F2 H2 _ l ho (s1.trans s2) el fl hl rl (.next (r1.mono s2.ff) rj)
def sCallO (i : Nat) (f : List D → M (OD × D)) (as : ML) (k : D → Fr → Out) : MS := fun ρ => Out.ofO (ownO ρ[i]?) fun _ => Out.of (as ρ) ρ fun ds => match f ds with
  | .ok r => k r.2 (putO i r.1 ρ)
  | _ => .stuck
theorem callO_core {i : Nat} {f : List D → M (OD × D)} {tas : TA} {as : ML} {k : D → Fr → Out} {Dd : Ends} {Q : VK} (ha : DAJO K L mg W i j tas as) (E : Env K L F0 H0 F H σ ρ) (w : WO K mg W L F0 H0 F Dd (sCallO i f as k ρ))
    (kq : ∀ d F1 H1 v ρ1, Ex F F1 → WO K mg W L F0 H0 F1 Dd (k d ρ1) → Env K L F0 H0 F1 H1 σ ρ1 → Rep K F1 v d → Q v H1) : tCallS (spO K mg j f) (WE W) tas σ H Q := by
  obtain ⟨o, q, w2⟩ := WO.ofO w
  refine ha F0 H0 F H σ ρ o _ E q (post_mono (WO.of E w2) (fun ds w3 F1 H1 vs l ho s el fl hl rl rj => ?_) fun _ z => z)
  refine ⟨F1, ds, l, ho, o, s.fh, fl, hl, rj, ?_⟩
  cases qf : f ds with
  | ok r =>
    rw [qf] at w3
    intro F2 H2 ho' v sm h2 r2 rv
    exact kq r.2 F2 H2 v _ (s.ff.trans sm.ff) (WO.mono (s.ff.trans sm.ff) w3) ((E.step s).mutO q el hl sm h2 rl r2) rv
  | exc n => rw [qf] at w3; exact w3.elim
  | stuck => rw [qf] at w3; exact w3.elim
theorem ds_callO {i : Nat} {f : List D → M (OD × D)} {tas : TA} {as : ML} (ha : DAJO K L mg W i j tas as) : DS K L mg W (tDrop (tCallS (spO K mg j f) (WE W) tas)) (sCallO i f as fun _ ρ => .nx ρ) := fun F0 H0 F H σ ρ Dd E w =>
  callO_core ha E w fun d F1 H1 v ρ1 e w1 E1 r => w1 F1 H1 σ (Ex.refl _) E1
theorem ds_callOA {i n : Nat} {f : List D → M (OD × D)} {tas : TA} {as : ML} (ha : DAJO K L mg W i j tas as) : DS K L mg W (tAsg (tCallS (spO K mg j f) (WE W) tas) (gName n)) (sCallO i f as fun d ρ => .nx (ρ.set n (.val d))) := fun F0 H0 F H σ ρ Dd E w =>
  callO_core ha E w fun d F1 H1 v ρ1 e w1 E1 r => w1 F1 H1 _ (Ex.refl _) (E1.setv r n)
theorem ds_callOR {i : Nat} {f : List D → M (OD × D)} {tas : TA} {as : ML} (ha : DAJO K L mg W i j tas as) : DS K L mg W (tRet (tCallS (spO K mg j f) (WE W) tas)) (sCallO i f as fun d ρ => .ret d ρ) := fun F0 H0 F H σ ρ Dd E w =>
  callO_core ha E w fun d F1 H1 v ρ1 e w1 E1 r => w1 F1 H1 σ v (Ex.refl _) E1 r
/-! ### the body of such a def -/
def startO (j N : Nat) (ds : List D) : Fr := match ds[j]?.bind od2? with
  | some o => (start' N ds).set j (.pin o)
  | none => start' N ds
def pinO (j : Nat) (ρ : Fr) (d : D) : M (OD × D) := match ρ[j]? with
  | some (.pin o) => .ok (o, d)
  | _ => .stuck
theorem pinO_post {j : Nat} {ρ : Fr} {d : D} {kx : OD × D → Prop} {ke : Str → Prop} (h : post (pinO j ρ d) kx ke) : ∃ o, ρ[j]? = some (.pin o) ∧ kx (o, d) := by
  unfold pinO at h
  split at h
  · exact ⟨_, by assumption, h⟩
  · exact h.elim
def Out.mo (j : Nat) : Out → M (OD × D)
  | .nx ρ => pinO j ρ .none
  | .ret d ρ => pinO j ρ d
  | _ => .stuck
def mFnO (j np N : Nat) (g : MS) (ds : List D) : M (OD × D) := if ds.length = np then (g (startO j N ds)).mo j else .stuck
theorem repJO_get (h : RepJO K F l ho o j vs ds) : vs[j]? = some (.ref l) ∧ (ds[j]? = some o.d ∧ RepO K F ho o) ∧ ∀ i v, i ≠ j → vs[i]? = some v → ∃ d, ds[i]? = some d ∧ Rep K F v d := by
  induction h with
  | here r q =>
    refine ⟨rfl, ⟨rfl, r⟩, fun i v hi hv => ?_⟩
    cases i with
    | zero => exact (hi rfl).elim
    | succ i => simp at hv; simpa using q.get hv
  | next r _ ih =>
    obtain ⟨h1, ⟨h2, h3⟩, h4⟩ := ih
    refine ⟨by simpa using h1, ⟨by simpa using h2, h3⟩, fun i v hi hv => ?_⟩
    cases i with
    | zero => simp at hv; subst hv; exact ⟨_, rfl, r⟩
    | succ i => simp at hv; simpa using h4 i v (by omega) hv
theorem env_startO {N : List Str} (ex : Ex F H) (fl : F l = none) (hl : H l = some ho) (r : RepJO K F l ho o j vs ds) : Env K (l, 0) F (del H l) F H (L2.start N vs) (startO j N.length ds) := by
  obtain ⟨h1, ⟨h2, h3⟩, h4⟩ := repJO_get r
  have hlen := r.len
  have hj : j < ds.length := (List.getElem?_eq_some_iff.mp h2).1
  have hs : startO j N.length ds = (start' N.length ds).set j (.pin o) := by unfold startO; rw [h2, Option.bind_some, od2_d]
  have hst : (start' N.length ds).length = (L2.start N vs).length := by unfold start' L2.start; simp [hlen]
  have hgv : ∀ i, i < vs.length → (L2.start N vs)[i]? = (vs[i]?).map some := fun i hi => by
    unfold L2.start
    rw [List.getElem?_append_left (by simpa using hi), List.getElem?_map]
  refine ⟨⟨Ex.refl _, fun a o q => ?_, fun a o h _ _ => h, ex⟩, by rw [hs, List.length_set]; exact hst.symm, fun i s q => ?_, fun i k m q1 q2 _ _ => ?_⟩
  · by_cases z : a = l
    · subst z; rw [del_same] at q; cases q
    · rw [del_ne z] at q; exact q
  · rw [hs] at q
    rcases set_get q with ⟨e, es', hl'⟩ | ⟨ne, h'⟩
    · subst e; subst es'
      rw [hgv j (by omega), h1]
      exact ⟨rfl, fl, del_same, _, hl, h3⟩
    · unfold start' at h'
      rw [List.getElem?_append] at h'
      split at h'
      · rename_i hi
        rw [List.length_map] at hi
        rw [List.getElem?_map] at h'
        rw [hgv i (by omega)]
        cases qd : ds[i]? with
        | none => rw [qd] at h'; cases h'
        | some d =>
          rw [qd] at h'
          cases h'
          have hv : ∃ v, vs[i]? = some v := ⟨vs[i]'(by omega), by simp [show i < vs.length by omega]⟩
          obtain ⟨v, hv⟩ := hv
          obtain ⟨d', hd', rd⟩ := h4 i v (fun z => ne z.symm) hv
          rw [qd] at hd'
          cases hd'
          rw [hv]
          exact ⟨v, rfl, rd⟩
      · rw [List.getElem?_replicate] at h'
        split at h'
        · cases h'; trivial
        · cases h'
  · have no : ∀ m, m ≠ j → ¬ isOwn ((startO j N.length ds)[m]?) := fun m hm q => by
      rw [hs, List.getElem?_set_ne (Ne.symm hm)] at q
      unfold start' isOwn at q
      rw [List.getElem?_append] at q
      split at q
      · rw [List.getElem?_map] at q
        cases qq : ds[m]? with
        | none => rw [qq] at q; cases q
        | some d => rw [qq] at q; cases q
      · rw [List.getElem?_replicate] at q
        split at q <;> cases q
    have a1 : i = j := Classical.byContradiction fun z => no i z q1
    have a2 : k = j := Classical.byContradiction fun z => no k z q2
    rw [a1, a2]
theorem body_okO {t : TS} {g : MS} {N : List Str} {np : Nat} {Q : VK} {E : XK} (h : ∀ L, DS K L mg (fun cls d _ H => E cls d H) t g) (hs : spO K mg j (mFnO j np N.length g) vs H Q E) :
    t { nx := fun _ H' => Q .non H', rt := Q } (L2.start N vs) H := by
  obtain ⟨F, ds, l, ho, o, ex, fl, hl, r, p⟩ := hs
  refine h (l, 0) F (del H l) F H _ _ _ (env_startO (N := N) ex fl hl r) ?_
  have fin : ∀ {F' H' : Hp} {σ' : L2.St} {ρ : Fr} {o : OD}, Env K (l, 0) F (del H l) F' H' σ' ρ → ρ[j]? = some (.pin o) → StepM F H l F' H' ∧ ∃ ho', H' l = some ho' ∧ RepO K F' ho' o := fun {F' H' σ' ρ o} E' hp => by
    obtain ⟨e, f, _, ho, hH, rr⟩ := E'.sl j _ hp
    refine ⟨⟨E'.st.ff, fun a o ne q => E'.st.hh a o (by rw [del_ne ne]; exact q), fun a o h1 h2 h3 => ?_, E'.st.fh, f⟩, ho, hH, rr⟩
    by_cases z : a = l
    · rw [z]; exact f
    · exact E'.st.nw a o h1 (by rw [del_ne z]; exact h2) h3
  unfold mFnO at p
  split at p
  · cases q : g (startO j N.length ds) with
    | nx ρ =>
      rw [q] at p
      intro F' H' σ' e E'
      obtain ⟨es, hp, p⟩ := pinO_post p
      obtain ⟨sm, ws', h1, h2⟩ := fin E' hp
      exact p F' H' ws' .non sm h1 h2 .non
    | ret d ρ =>
      rw [q] at p
      intro F' H' σ' v e E' rv
      obtain ⟨es, hp, p⟩ := pinO_post p
      obtain ⟨sm, ws', h1, h2⟩ := fin E' hp
      exact p F' H' ws' v sm h1 h2 rv
    | retL ds ρ => rw [q] at p; exact p.elim
    | exc n ρ => rw [q] at p; exact p.elim
    | brk ρ => rw [q] at p; exact p.elim
    | cont ρ => rw [q] at p; exact p.elim
    | stuck => rw [q] at p; exact p.elim
  · exact p.elim
end
def FnAtO (P : Program) (w : World) (K : PySem.W.Frag) (mg : Str → Option Value) (base : Heap) (x : Str) (ps : List Str) (k j : Nat) (f : List D → M (OD × D)) : Prop :=
  ∃ a fd, mg x = some (.ref a) ∧ PySem.W.keepIn K (.ref a) = true ∧ Binds K fd ps [] ∧ FnOk P w K mg base (L2.CX P w) k a fd ps (spO K mg j f)
section
variable {P : Program} {w : World} {K : PySem.W.Frag} {mg : Str → Option Value} {base : Heap}
theorem fn_atO {x : Str} {st : Stmt} {N ps : List Str} {k j : Nat} {g : MS} (Df : DefAt K mg x st) (S : FnScope N ps (defScope st))
    (hb : ∀ (kV doc pm : Value) (an : Option Addr) (cdv ct : Value) (us : List Value), us.length = ps.length → bindArgs (PySem.W.fnOf x x (defArgs st) (defBody st) (defScope st) .none kV doc pm an cdv ct) ⟨us, []⟩ = pure (ps.zip us))
    (h : ∀ (f : Addr) (cdv : Value) (A : Around) (outer : List PySem.Env) (s : Shared) (H : Hp) (E : XK), Room k (A.deeper (envOfC x (defScope st) s.heap.objs.size f cdv)) →
      ∃ t, PSs (cxOf (L2.CX P w) P w K mg base N x (defScope st) f cdv A outer s H E) (defBody st) t ∧ ∀ L, DS K L mg (fun cls d _ H => E cls d H) t g) :
    FnAtO P w K mg base x ps (k + 1) j (mFnO j ps.length N.length g) := by
  obtain ⟨f, fd, hm, F⟩ := Df
  refine ⟨f, fd, hm, F.kp, F.binds hb, ?_⟩
  refine F.okX S (fun vs H Q E h => ?_) fun cdv A outer s H vs Q E hr hs => ?_
  · obtain ⟨F, ds, l, ho, o, ex, fl, hl, r, p⟩ := h
    unfold mFnO at p
    split at p
    · rw [r.len]; assumption
    · exact p.elim
  · obtain ⟨t, h1, h2⟩ := h f cdv A outer s H E hr
    exact ⟨t, h1, body_okO h2 hs⟩
end
/-! ### made plain -/
def resO (m : M (OD × D)) (k : OD × D → Out) : Out := match m with
  | .ok r => k r
  | _ => .stuck
@[simp] theorem resO_ok {r : OD × D} {k : OD × D → Out} : resO (.ok r) k = k r := rfl
@[simp] theorem getB_pinO {o : OD} : getB (some (.pin o)) = .ok o.d := rfl
@[simp] theorem dictS_pinK {kvs : List (Key × D)} : dictS (some (.pin (.dK kvs))) = some (.dK kvs) := rfl
@[simp] theorem dictS_pinT {kvs : List (List Key × D)} : dictS (some (.pin (.dT kvs))) = some (.dT kvs) := rfl
@[simp] theorem ownO_own {o : OD} : ownO (some (.own o)) = some o := rfl
@[simp] theorem ownO_pin {o : OD} : ownO (some (.pin o)) = some o := rfl
@[simp] theorem sCallO_ap {i : Nat} {f : List D → M (OD × D)} {as : ML} {k : D → Fr → Out} {ρ : Fr} : sCallO i f as k ρ = Out.ofO (ownO ρ[i]?) fun _ => Out.of (as ρ) ρ fun ds => resO (f ds) fun r => k r.2 (ρ.set i (putOS ρ[i]? r.1)) := by
  unfold sCallO
  simp only [putO_ap]
  rfl
end Dn

set_option Elab.async false
set_option linter.all false
set_option maxRecDepth 100000
set_option maxHeartbeats 4000000
/-! DenZH: for over a list of one's own that stays as it is meanwhile -/
namespace Dn
open PySem PySem.Spec PyProof.Rows L2
def noPin (ρ : Fr) : Prop := ∀ (j : Nat) (o : OD), ρ[j]? ≠ some (.pin o)
open Classical in
/-- a turn, where the list stands as it did -/
noncomputable def forP (i : Nat) (ds : List D) (tg : D → Fr → Option Fr) (g : MS) : D → Fr → Out := fun d ρ => if ρ[i]? = some (.pin (.lst ds)) then forB tg g d ρ else .stuck
open Classical in
/-- the list is one's own again -/
noncomputable def outO (i : Nat) (ds : List D) : Out → Out
  | .nx ρ => if ρ[i]? = some (.pin (.lst ds)) then .nx (ρ.set i (.own (.lst ds))) else .stuck
  | .ret d ρ => if ρ[i]? = some (.pin (.lst ds)) then .ret d (ρ.set i (.own (.lst ds))) else .stuck
  | .exc n ρ => if ρ[i]? = some (.pin (.lst ds)) then .exc n (ρ.set i (.own (.lst ds))) else .stuck
  | _ => .stuck
open Classical in
theorem outO_nx {i : Nat} {ds : List D} {ρ : Fr} : outO i ds (.nx ρ) = if ρ[i]? = some (.pin (.lst ds)) then .nx (ρ.set i (.own (.lst ds))) else .stuck := rfl
open Classical in
theorem outO_ret {i : Nat} {ds : List D} {d : D} {ρ : Fr} : outO i ds (.ret d ρ) = if ρ[i]? = some (.pin (.lst ds)) then .ret d (ρ.set i (.own (.lst ds))) else .stuck := rfl
open Classical in
theorem outO_exc {i : Nat} {ds : List D} {n : Str} {ρ : Fr} : outO i ds (.exc n ρ) = if ρ[i]? = some (.pin (.lst ds)) then .exc n (ρ.set i (.own (.lst ds))) else .stuck := rfl
open Classical in
noncomputable def sForO (i : Nat) (tg : D → Fr → Option Fr) (g : MS) : MS := fun ρ => match ρ[i]? with
  | some (.own (.lst ds)) => if noPin ρ then outO i ds (loopFor (forP i ds tg g) ds (ρ.set i (.pin (.lst ds)))) else .stuck
  | _ => .stuck
section
variable {K : PySem.W.Frag} {mg : Str → Option Value} {W : WX} {L : Addr × Addr} {F0 H0 F H F' H' : Hp} {σ : L2.St} {ρ : Fr} {l : Addr} {i : Nat} {ds : List D}
theorem isOwn_set {j : Nat} {s u : S} (h : ρ[i]? = some s) (e : (ownO (some s)).isSome = (ownO (some u)).isSome) : isOwn (ρ.set i u)[j]? ↔ isOwn ρ[j]? := by
  by_cases c : j = i
  · subst c
    have hl : j < ρ.length := (List.getElem?_eq_some_iff.mp h).1
    rw [List.getElem?_set_self hl, h]
    unfold isOwn
    rw [e]
  · rw [List.getElem?_set_ne (Ne.symm c)]
theorem Env.toPin {o : OD} (E : Env K L F0 H0 F H σ ρ) (h : ρ[i]? = some (.own o)) (np : noPin ρ) (hl : σ[i]? = some (some (.ref l))) : Env K (l, L.2) F0 H0 F H σ (ρ.set i (.pin o)) where
  st := E.st
  len := by rw [List.length_set]; exact E.len
  sl := fun j s q => by
    rcases set_get q with ⟨e, es, hlen⟩ | ⟨ne, h'⟩
    · subst es
      rw [← e]
      obtain ⟨l', ho, e, r1, r2, r3, r4⟩ := E.sl i _ h
      rw [hl] at e
      cases e
      exact ⟨by rw [hl]; rfl, r1, r2, ho, r3, r4⟩
    · have r := E.sl j s h'
      cases s with
      | none => exact r
      | val d => exact r
      | own od => exact r
      | pin od => exact (np j od h').elim
      | err n => exact r
  sep := fun j k m h1 h2 e1 e2 => E.sep j k m ((isOwn_set (u := .pin o) h rfl).mp h1) ((isOwn_set (u := .pin o) h rfl).mp h2) e1 e2
theorem Env.toOwn {o : OD} (E : Env K (l, L.2) F0 H0 F H σ ρ) (h : ρ[i]? = some (.pin o)) : Env K L F0 H0 F H σ (ρ.set i (.own o)) where
  st := E.st
  len := by rw [List.length_set]; exact E.len
  sl := fun j s q => by
    rcases set_get q with ⟨e, es, hlen⟩ | ⟨ne, h'⟩
    · subst es
      rw [← e]
      obtain ⟨e, r1, r2, ho, r3, r4⟩ := E.sl i _ h
      exact ⟨l, ho, e, r1, r2, r3, r4⟩
    · have r := E.sl j s h'
      cases s with
      | none => exact r
      | val d => exact r
      | own od => exact r
      | pin od =>
        exfalso
        obtain ⟨e1, _⟩ := E.sl i _ h
        obtain ⟨e2, _⟩ := r
        have a1 : σ[i]? = some (some (.ref l)) := join_some e1
        have a2 : σ[j]? = some (some (.ref l)) := join_some e2
        exact ne (E.sep i j l (by unfold isOwn; rw [h]; rfl) (by unfold isOwn; rw [h']; rfl) a1 a2)
      | err n => exact r
  sep := fun j k m h1 h2 e1 e2 => E.sep j k m ((isOwn_set (u := .own o) h rfl).mp h1) ((isOwn_set (u := .own o) h rfl).mp h2) e1 e2
variable {gg : TG} {tg : D → Fr → Option Fr} {is : List Nat} {t : TS} {g : MS}
theorem walk_own {n : Nat} : Walk (Itl K l) n (fun H => ∃ xs, SqL K H l xs ∧ xs.length = n) (fun i H x H' => H' = H ∧ ∀ xs, SqL K H l xs → xs[i]? = some x) :=
  ⟨fun i _ hi ⟨xs, q, e⟩ => ⟨xs, xs[i]'(by omega), q, by simp [show i < xs.length by omega]⟩, fun _ ⟨xs, q, e⟩ => ⟨xs, q, Nat.le_of_eq e⟩, fun _ _ _ _ _ _ y => y⟩
theorem pin_of {D : Ends} {es : List Dn.D} (w : WO K mg W L F0 H0 F D (outO i ds (loopFor (forP i ds tg g) es ρ))) : ρ[i]? = some (.pin (.lst ds)) := by
  refine Classical.byContradiction fun ne => ?_
  cases es with
  | nil =>
    have e : outO i ds (loopFor (forP i ds tg g) [] ρ) = .stuck := if_neg ne
    rw [e] at w
    exact w.elim
  | cons d es =>
    unfold loopFor at w
    have e : forP i ds tg g d ρ = .stuck := if_neg ne
    rw [e] at w
    exact w.elim
theorem ds_forO {i : Nat} (hg : ∀ L, DG K L gg tg is) (hb : ∀ L, DS K L mg W t g) : DS K L mg W (tFor (iSq K (tVar i)) gg t) (sForO i tg g) := fun F0 H0 F H σ ρ D E w => by
  unfold sForO at w
  split at w
  · rename_i ds ho
    split at w
    · rename_i np
      obtain ⟨l, hho, e, f, h0, hl, r, _⟩ := E.ownv (o := .lst ds) (by rw [ho]; rfl)
      obtain ⟨vs, rfl, r'⟩ := r.isl
      have E1 := E.toPin ho np e
      refine ⟨_, e, ?_⟩
      refine ⟨_, _, rfl, .inl ⟨.of hl, ?_⟩⟩
      have std : ∀ {F1 H1 : Hp} {σ1 : L2.St} {ρ1 : Fr}, Env K (l, L.2) F0 H0 F1 H1 σ1 ρ1 → ρ1[i]? = some (.pin (.lst ds)) → ∃ xs, H1 l = some (.lst xs) ∧ RepL K F1 xs ds := fun {F1 H1 σ1 ρ1} E2 hp => by
        obtain ⟨_, _, _, ho, h1, h2⟩ := E2.sl i _ hp
        obtain ⟨xs, rfl, h3⟩ := h2.isl
        exact ⟨xs, h1, h3⟩
      have wk := walk_own (K := K) (l := l) (n := ds.length)
      refine for_it wk (fun j σ H => ∃ F1 ρ1, Ex F F1 ∧ Env K (l, L.2) F0 H0 F1 H σ ρ1 ∧ WO K mg W L F0 H0 F1 D (outO i ds (loopFor (forP i ds tg g) (ds.drop j) ρ1)))
        ⟨F, _, Ex.refl _, E1, by rw [List.drop_zero]; exact w⟩ ?_ ?_ ?_
      · rintro j σ2 H2 _ ⟨F2, ρ2, e2, E2, w2⟩
        obtain ⟨xs, h1, h2⟩ := std E2 (pin_of w2)
        exact ⟨xs, .of h1, h2.length⟩
      · rintro j x σ2 H2 H3 hlt ⟨F2, ρ2, e2, E2, w2⟩ ⟨rfl, y⟩
        have hp := pin_of w2
        obtain ⟨xs, h1, h2⟩ := std E2 hp
        have hx := y xs (.of h1)
        obtain ⟨d, hd, r3⟩ := h2.get hx
        have ed : ds.drop j = d :: ds.drop (j + 1) := by
          obtain ⟨h1, h2⟩ := List.getElem?_eq_some_iff.mp hd
          rw [List.drop_eq_getElem_cons h1, h2]
        rw [ed] at w2
        unfold loopFor at w2
        have ef : forP i ds tg g d ρ2 = forB tg g d ρ2 := if_pos hp
        rw [ef] at w2
        unfold forB at w2
        cases q : tg d ρ2 with
        | none => rw [q] at w2; exact w2.elim
        | some ρ3 =>
          rw [q] at w2
          refine hg (l, L.2) F0 H0 F2 H3 σ2 ρ2 x d _ ρ3 E2 r3 q fun σ3 E3 _ => ?_
          refine hb (l, L.2) F0 H0 F2 H3 σ3 ρ3 _ E3 ?_
          have w4 : WO K mg W L F0 H0 F2 D (outO i ds (match g ρ3 with
            | .nx ρ' => loopFor (forP i ds tg g) (ds.drop (j + 1)) ρ'
            | .cont ρ' => loopFor (forP i ds tg g) (ds.drop (j + 1)) ρ'
            | .brk ρ' => .nx ρ'
            | o => o)) := w2
          cases qq : g ρ3 with
          | nx ρ4 => rw [qq] at w4; exact fun F4 H4 σ4 e4 E4 => ⟨F4, ρ4, e2.trans e4, E4, WO.mono e4 w4⟩
          | cont ρ4 => rw [qq] at w4; exact fun F4 H4 σ4 e4 E4 => ⟨F4, ρ4, e2.trans e4, E4, WO.mono e4 w4⟩
          | brk ρ4 =>
            rw [qq] at w4
            have hp4 : ρ4[i]? = some (.pin (.lst ds)) := pin_of (tg := tg) (g := g) (es := []) w4
            rw [outO_nx, if_pos hp4] at w4
            exact fun F4 H4 σ4 e4 E4 => w4 F4 H4 σ4 e4 (E4.toOwn hp4)
          | ret d ρ4 =>
            rw [qq, outO_ret] at w4
            by_cases hp4 : ρ4[i]? = some (.pin (.lst ds))
            · rw [if_pos hp4] at w4
              exact fun F4 H4 σ4 v e4 E4 rv => w4 F4 H4 σ4 v e4 (E4.toOwn hp4) rv
            · rw [if_neg hp4] at w4; exact w4.elim
          | retL ds ρ => rw [qq] at w4; exact w4.elim
          | exc n ρ4 =>
            rw [qq, outO_exc] at w4
            by_cases hp4 : ρ4[i]? = some (.pin (.lst ds))
            · rw [if_pos hp4] at w4
              exact fun F4 H4 σ4 e4 E4 => w4 F4 H4 σ4 e4 (E4.toOwn hp4)
            · rw [if_neg hp4] at w4; exact w4.elim
          | stuck => rw [qq] at w4; exact w4.elim
      · rintro σ2 H2 ⟨F2, ρ2, e2, E2, w2⟩
        have hp := pin_of w2
        rw [List.drop_length] at w2
        rw [show loopFor (forP i ds tg g) [] ρ2 = .nx ρ2 from rfl, outO_nx, if_pos hp] at w2
        exact w2 F2 H2 σ2 (Ex.refl _) (E2.toOwn hp)
    · exact w.elim
  · exact w.elim
end
/-! ### made plain -/
theorem forO_nx {i : Nat} {tg : D → Fr → Option Fr} {g : MS} {ρ ρ' : Fr} {ds : List D} (h : ρ[i]? = some (.own (.lst ds))) (np : noPin ρ) (lp : loopFor (forP i ds tg g) ds (ρ.set i (.pin (.lst ds))) = .nx ρ') (h' : ρ'[i]? = some (.pin (.lst ds))) : sForO i tg g ρ = .nx (ρ'.set i (.own (.lst ds))) := by
  unfold sForO
  rw [h]
  refine (if_pos np).trans ?_
  rw [lp, outO_nx]
  exact if_pos h'
theorem forP_ap {i : Nat} {tg : D → Fr → Option Fr} {g : MS} {ρ : Fr} {ds : List D} {d : D} (h : ρ[i]? = some (.pin (.lst ds))) : forP i ds tg g d ρ = forB tg g d ρ := if_pos h
end Dn

set_option Elab.async false
set_option linter.all false
set_option maxRecDepth 100000
set_option maxHeartbeats 4000000
/-! DenZI: get of a dict with one argument -/
namespace Dn
open PySem PySem.Spec PyProof.Rows L2
section
variable {X : Cx} {o e : Expr} {apos cpos : Pos} {td ty : TE}
theorem pe_dget1R (hu : X.A.units + 65 < cLine) (ho : PE X o td) (he : PE X e ty) (m : M1 X o "get" apos e cpos) : PE X (.Call (.Attribute o "get" apos) [e] [] cpos) (tDGet1 td ty) := pe_dget1 (by omega) ho he m
end
def eGet1 (a b : ME) : ME := fun ρ => (a ρ).bind fun x => (lift (od? x)).bind fun o => (b ρ).bind fun y => lift ((odGet o y).map fun r => r.getD .none)
@[simp] theorem eGet1_ap {a b : ME} {ρ : Fr} : eGet1 a b ρ = (a ρ).bind fun x => (lift (od? x)).bind fun o => (b ρ).bind fun y => lift ((odGet o y).map fun r => r.getD .none) := rfl
section
variable {K : PySem.W.Frag} {L : Addr × Addr} {mg : Str → Option Value} {W : WX} {ta tb : TE} {a b : ME}
theorem df_dget1 (ha : DE K L mg W ta a) (hb : DE K L mg W tb b) : DF K L mg W (tDGet1 ta tb) (eGet1 a b) := fun F0 H0 F H σ ρ Q E p => by
  refine ha F0 H0 F H σ ρ _ E (post_mono (post_bind p) (fun d k F1 H1 x s1 r1 => ?_) fun _ z => z)
  obtain ⟨o, qo, k⟩ := post_lift (post_bind k)
  obtain ⟨l, ho, rfl, hl, ro⟩ := r1.od s1.fh qo
  refine ⟨l, rfl, isD_of hl ro (od_nol qo), ?_⟩
  refine hb F0 H0 F1 H1 σ ρ _ (E.step s1) (post_mono (post_bind k) (fun e k2 F2 H2 y s2 r2 => ?_) fun n z => WE'.on s1 z)
  obtain ⟨z, ez, k4⟩ := post_lift k2
  cases q2 : odGet o e with
  | none => rw [q2] at ez; cases ez
  | some r =>
    rw [q2] at ez
    cases ez
    have hl3 := ex_rd s2.hh hl
    have ro3 := ro.mono s2.ff
    obtain ⟨ov, g, fd⟩ := od_get s2.fh hl3 ro3 r2 q2
    refine ⟨ov, g, k4 F2 H2 _ (s1.trans s2) ?_⟩
    cases ov with
    | none => cases r with
      | none => exact .non
      | some _ => exact fd.elim
    | some v => cases r with
      | none => exact fd.elim
      | some _ => exact fd
end
end Dn

set_option Elab.async false
set_option linter.all false
set_option maxRecDepth 100000
set_option maxHeartbeats 4000000
/-! DenZJ: remove of a list of ints -/
namespace Dn
open PySem PySem.Spec PyProof.Rows L2
def remM (ds es : List D) : Option (List D × D) := match es with
  | [.int k] => (ints? ds).bind fun ns => if k ∈ ns then some ((ns.erase k).map .int, .none) else none
  | _ => none
/-- where the first one stands -/
theorem rem_at {k : Int} : ∀ {ns : List Int}, k ∈ ns → ∃ j, ns[j]? = some k ∧ (∀ i, i < j → ns[i]? ≠ some k) ∧ ns.eraseIdx j = ns.erase k
  | a :: ns, h => by
    by_cases c : a = k
    · subst c
      exact ⟨0, rfl, fun i hi => absurd hi (Nat.not_lt_zero i), by simp⟩
    · have h' : k ∈ ns := (List.mem_cons.mp h).resolve_left fun z => c z.symm
      obtain ⟨j, h1, h2, h3⟩ := rem_at h'
      refine ⟨j + 1, h1, fun i hi => ?_, ?_⟩
      · cases i with
        | zero => exact fun z => c (Option.some.inj z)
        | succ i => exact h2 i (by omega)
      · rw [List.erase_cons_tail (by simpa using c), ← h3]
        rfl
section
variable {K : PySem.W.Frag}
theorem rm_remove : RMD K rRemI remM := by
  intro F H l vs ds xs es ds' z Q ex hl r ra h k
  unfold remM at h
  split at h
  · obtain ⟨x, rfl, rx⟩ := ra.one'
    cases rx
    cases q : ints? ds with
    | none => rw [q] at h; cases h
    | some ns =>
      rw [q, Option.bind_some] at h
      obtain rfl := ints?_eq q
      split at h
      · rename_i kk hk
        cases h
        obtain rfl := r.ints
        obtain ⟨j, j2, j3, j4⟩ := rem_at hk
        refine ⟨l, ns, kk, j, rfl, rfl, hl, j2, j3, ?_⟩
        rw [j4]
        exact k _ _ (repL_ints _) .non
      · cases h
  · cases h
end
theorem remM_ok {ns : List Int} {k : Int} (h : k ∈ ns) : remM (ns.map .int) [.int k] = some ((ns.erase k).map .int, .none) := by
  show (ints? (ns.map PyData.int)).bind _ = _
  rw [ints?_map, Option.bind_some, if_pos h]
end Dn

set_option Elab.async false
set_option linter.all false
set_option maxRecDepth 100000
set_option maxHeartbeats 4000000
/-! DenZK: sorted of a list of tuples of ints and texts -/
namespace Dn
open PySem PySem.Spec PyProof.Rows L2
abbrev Ky := List (Int ⊕ List Nat)
abbrev tLt (a b : Ky) : Bool := (listOrd itemOrd).blt a b
theorem tLt_swo {α : Type} (k : α → Ky) : SrtO.Swo fun x y => tLt (k x) (k y) := by
  refine ⟨fun x y h => ?_, fun x y z h1 h2 => ?_⟩
  · rcases SrtO.bcase (tLt (k y) (k x)) with q | q
    · have := (listOrd itemOrd).trans _ _ _ h q
      rw [(listOrd itemOrd).irrefl] at this
      cases this
    · exact q
  · rcases SrtO.bcase (tLt (k z) (k x)) with q | q
    · rcases (listOrd itemOrd).negTrans _ (k y) _ q with e | e
      · exact absurd (h2.symm.trans e) (by decide)
      · exact absurd (h1.symm.trans e) (by decide)
    · exact q
section
variable {α : Type} (lt : α → α → Bool)
def insO (x : α) : List α → List α
  | [] => [x]
  | y :: l => if lt y x then y :: insO x l else x :: y :: l
def isort : List α → List α
  | [] => []
  | x :: l => insO lt x (isort l)
variable {lt}
theorem ins_perm (x : α) : ∀ l : List α, (insO lt x l).Perm (x :: l)
  | [] => List.Perm.refl _
  | y :: l => by
    unfold insO
    split
    · exact ((ins_perm x l).cons y).trans (List.Perm.swap x y l)
    · exact List.Perm.refl _
theorem isort_perm : ∀ l : List α, (isort lt l).Perm l
  | [] => List.Perm.refl _
  | x :: l => (ins_perm x _).trans ((isort_perm l).cons x)
theorem ins_srtd (O : SrtO.Swo lt) (x : α) : ∀ {l : List α}, SrtO.Srtd lt l → SrtO.Srtd lt (insO lt x l)
  | [], _ => List.pairwise_singleton _ _
  | y :: l, h => by
    have h1 := (List.pairwise_cons.mp h).1
    have h2 := (List.pairwise_cons.mp h).2
    unfold insO
    split
    · rename_i c
      refine List.pairwise_cons.mpr ⟨fun z hz => ?_, ins_srtd O x h2⟩
      rcases List.mem_cons.mp ((ins_perm x l).mem_iff.mp hz) with rfl | hz
      · exact O.asym _ _ c
      · exact h1 z hz
    · rename_i c
      have c : lt y x = false := by simpa using c
      refine List.pairwise_cons.mpr ⟨fun z hz => ?_, h⟩
      rcases List.mem_cons.mp hz with rfl | hz
      · exact c
      · exact O.tr _ _ _ c (h1 z hz)
theorem isort_srtd (O : SrtO.Swo lt) : ∀ l : List α, SrtO.Srtd lt (isort lt l)
  | [] => List.Pairwise.nil
  | x :: l => ins_srtd O x (isort_srtd O l)
theorem ins_cls (O : SrtO.Swo lt) (z x : α) : ∀ l : List α, (insO lt x l).filter (SrtO.eqv lt z) = (x :: l).filter (SrtO.eqv lt z)
  | [] => rfl
  | y :: l => by
    unfold insO
    split
    · rename_i c
      have ih := ins_cls O z x l
      rw [List.filter_cons, ih]
      simp only [List.filter_cons]
      rcases SrtO.bcase (SrtO.eqv lt z x) with q | q
      · rcases SrtO.bcase (SrtO.eqv lt z y) with p | p
        · have e := SrtO.eqv_trans O (v := y) q
          rw [p] at e
          have := (SrtO.eqv_iff.mp e.symm).2
          rw [c] at this
          cases this
        · simp [p]
      · simp [q]
    · rfl
theorem isort_stb (O : SrtO.Swo lt) (l : List α) : SrtO.Stb lt (isort lt l) l := ⟨isort_perm l, fun z => by
  induction l with
  | nil => rfl
  | cons x l ih =>
    show (insO lt x (isort lt l)).filter _ = _
    rw [ins_cls O, List.filter_cons, List.filter_cons, ih]⟩
end
/-! ### the machine's side -/
def itemV : V → Int ⊕ List Nat
  | .int i => .inl i
  | .str x => .inr x.cps.toList
  | _ => .inl 0
def kV (H : Hp) : V → Ky
  | .ref t => match H t with
    | some (.tup ys) => ys.map itemV
    | _ => []
  | _ => []
def confV (shape : Nat → Bool) : Nat → List V → Prop
  | _, [] => True
  | i, .int _ :: r => shape i = false ∧ confV shape (i + 1) r
  | i, .str _ :: r => shape i = true ∧ confV shape (i + 1) r
  | _, _ :: _ => False
theorem conf_items {shape : Nat → Bool} : ∀ {ys : List V} {its : List Value} {i : Nat}, Vals ys its → confV shape i ys → tupItems shape i its = some (ys.map itemV)
  | _, _, _, .nil, _ => rfl
  | .int n :: ys, _ :: its, i, .cons r t, c => by
    obtain ⟨k, rfl⟩ := (show ∃ k, _ = Value.int n k from r)
    have ih := conf_items t c.2
    show (if shape i = true then none else (tupItems shape (i + 1) its).map (Sum.inl n :: ·)) = _
    rw [if_neg (by rw [c.1]; decide), ih]
    rfl
  | .str x :: ys, _ :: its, i, .cons r t, c => by
    obtain ⟨k, rfl⟩ := (show ∃ k, _ = Value.str x k from r)
    have ih := conf_items t c.2
    show (if shape i = true then (tupItems shape (i + 1) its).map (Sum.inr x.cps.toList :: ·) else none) = _
    rw [if_pos c.1, ih]
    rfl
def rSortT (K : PySem.W.Frag) : List V → Hp → VK → Prop := fun vs H Q => ∃ (a : Addr) (xs : List V) (shape : Nat → Bool), vs = [V.ref a] ∧ SqL K H a xs ∧
  (∀ x ∈ xs, ∃ t ys, x = V.ref t ∧ H t = some (.tup ys) ∧ confV shape 0 ys ∧ ys ≠ []) ∧
  ∀ p, H p = none → Q (.ref p) (upd H p (.lst (isort (fun x y => tLt (kV H x) (kV H y)) xs)))
def IsTp (h : Heap) (shape : Nat → Bool) (v : Value) (l : Ky) : Prop := ∃ a o xs n, v = .ref a ∧ h.get? a = some o ∧ o.cls = .type "tuple" ∧ o.data = .seq xs n ∧ tupItems shape 0 xs.toList = some l ∧ 0 < xs.size
theorem IsTp.keeps {h h' : Heap} {shape : Nat → Bool} {v : Value} {l : Ky} (p : IsTp h shape v l) (k : ∀ b o, h.get? b = some o → h'.get? b = some o) : IsTp h' shape v l := by
  obtain ⟨a, o, xs, n, e, ho, hc, hd, hi, hs⟩ := p
  exact ⟨a, o, xs, n, e, k _ _ ho, hc, hd, hi, hs⟩
theorem IsTp.key {h : Heap} {shape : Nat → Bool} {v : Value} {l : Ky} (p : IsTp h shape v l) : (tupKind h shape).keyOf v = some l := by
  obtain ⟨a, o, xs, n, rfl, ho, hc, hd, hi, hs⟩ := p
  show tupKey h shape (.ref a) = some l
  unfold tupKey
  simp only [ho, hd]
  exact hi
theorem tups_ex {h : Heap} {shape : Nat → Bool} : ∀ {vs : List Value}, (∀ v ∈ vs, ∃ l, IsTp h shape v l) → ∃ fs, TupsOf h shape vs fs ∧ fs.length = vs.length
  | [], _ => ⟨[], .nil, rfl⟩
  | v :: vs, hp => by
    obtain ⟨fs, h1, h2⟩ := tups_ex fun u hu => hp u (List.mem_cons_of_mem _ hu)
    obtain ⟨l, a, o, xs, n, rfl, ho, hc, hd, hi, hs⟩ := hp v List.mem_cons_self
    obtain ⟨f, r, e⟩ : ∃ f r, xs.toList = f :: r := by
      cases q : xs.toList with
      | nil => have : xs.toList.length = 0 := by rw [q]; rfl
               rw [Array.length_toList] at this
               omega
      | cons f r => exact ⟨f, r, rfl⟩
    rw [e] at hi
    refine ⟨f :: fs, .cons ⟨a, o, xs, n, rfl, ho, hc, hd, ?_, fun hz => ?_, fun hz => ?_⟩ h1, by rw [List.length_cons, List.length_cons, h2]⟩
    · rw [← Array.getElem?_toList, e]
      rfl
    · obtain ⟨k, t, l', e1, _⟩ := tupItems_int hz hi
      exact ⟨k, t, e1⟩
    · obtain ⟨k, t, l', e1, _⟩ := tupItems_str hz hi
      exact ⟨k, t, e1⟩
theorem cr_sortT {X : Cx} : CallR X (.builtin "sorted") (rSortT X.K) := by
  intro pins s σ H vs us Q I r h
  obtain ⟨a, xs, shape, rfl, hs, hx, q⟩ := h
  obtain ⟨its, rv, hl, hz⟩ := I.list hs
  rw [Vals.ref1 r]
  obtain ⟨e1, e2⟩ := refs_back rv fun x m => by
    obtain ⟨t, ys, e, _⟩ := hx x m
    exact ⟨t, e⟩
  have tp : ∀ v ∈ its, IsTp s.heap shape v (kV H (backV v)) := fun v hv => by
    obtain ⟨t, rfl⟩ := e2 v hv
    have hm : V.ref t ∈ xs := by rw [e1]; exact List.mem_map.mpr ⟨_, hv, rfl⟩
    obtain ⟨t', ys, e, ht, cf, ne⟩ := hx _ hm
    cases e
    obtain ⟨_, its2, r2, o, ho, hc, n, hd⟩ := I.hok _ _ ht
    have kk : kV H (backV (.ref t)) = ys.map itemV := by
      show (match H t with | some (.tup ys) => ys.map itemV | _ => []) = _
      rw [ht]
    rw [kk]
    refine ⟨t, o, its2.toArray, n, rfl, ho, hc, hd, by simpa using conf_items r2 cf, ?_⟩
    have := r2.length
    have : ys.length ≠ 0 := fun z => ne (List.eq_nil_of_length_eq_zero z)
    rw [List.size_toArray]
    omega
  refine SrtO.sorted_ord (tLt_swo fun v => kV H (backV v)) hl.isList (by rw [← rv.length]; exact hz) (fun h2 h₁ a' ha kk => ?_) fun out h1 h2 => ?_
  · intro h' keep
    have tp' : ∀ v ∈ its, IsTp h' shape v (kV H (backV v)) := fun v hv => (tp v hv).keeps fun b o e => keep b o (kk b o e).1 (kk b o e).2
    obtain ⟨fs, t1, t2⟩ := tups_ex fun v hv => ⟨_, tp' v hv⟩
    refine ⟨tuples' true, fun Q E hq => tup_kind (s := { s with heap := h' }) (by omega) t1 hq, fun p q hp hq => ?_⟩
    exact tup_ltAt (s := { s with heap := h' }) true _ _ _ _ _ _ (tp' _ hp).key (tp' _ hq).key ⟨rfl, rfl⟩
  · have h3 : ∀ u ∈ out, ∃ a, u = Value.ref a := fun u hu => e2 u (h2.perm.mem_iff.mp hu)
    obtain ⟨ep, he'⟩ := PyProof.Rows.sortedAll_at s.heap its out.toArray
    have O := tLt_swo (kV H)
    have hb : SrtO.Stb (fun x y => tLt (kV H x) (kV H y)) (out.map backV) xs := by
      rw [e1]
      exact SrtO.Stb.map O backV h2
    have st := isort_stb O xs
    have e := SrtO.stb_uniq O (SrtO.srtd_map (f := backV) (lt := fun x y => tLt (kV H x) (kV H y)) h1) (isort_srtd O xs) (hb.trans ⟨st.perm.symm, fun x => (st.cls x).symm⟩)
    have q' := q _ (I.hok.fresh (Nat.le_succ _))
    rw [← e] at q'
    have hlen : (out.map backV).length ≤ sizeLine := by rw [hb.len]; exact hz
    exact ⟨.ref _, upd H (s.heap.objs.size + 1) (.lst (out.map backV)), I.laid (t' := s.toks) (fun _ _ => PyProof.Rows.sortedAll_old) (Nat.le_succ _) ⟨hlen, out, ep, vals_back h3, he'⟩, rfl, q'⟩
theorem kSortT {X : Cx} {K : PySem.W.Frag} (h : X.K = K := by rfl) : CallR X (.builtin "sorted") (rSortT K) := h ▸ cr_sortT
/-! ### the data's side -/
def itemK : D → Int ⊕ List Nat
  | .int i => .inl i
  | .str x => .inr x.cps.toList
  | _ => .inl 0
def kD : D → Ky
  | .tuple es => es.map itemK
  | _ => []
def confD (shape : Nat → Bool) : Nat → List D → Bool
  | _, [] => true
  | i, .int _ :: r => !shape i && confD shape (i + 1) r
  | i, .str _ :: r => shape i && confD shape (i + 1) r
  | _, _ :: _ => false
def okD (shape : Nat → Bool) : D → Bool
  | .tuple es => confD shape 0 es && !es.isEmpty
  | _ => false
def shapeOf : List D → Nat → Bool
  | .tuple es :: _, i => match es[i]? with
    | some (.str _) => true
    | _ => false
  | _, _ => false
def dLt (x y : D) : Bool := tLt (kD x) (kD y)
def sortTD : List D → Option (List D)
  | [.list ds] => if ds.all (okD (shapeOf ds)) then some (isort dLt ds) else none
  | _ => none
section
variable {K : PySem.W.Frag} {F H : Hp}
theorem conf_rep {shape : Nat → Bool} : ∀ {es : List D} {ys : List V} {i : Nat}, RepL K F ys es → confD shape i es = true → confV shape i ys ∧ ys.map itemV = es.map itemK
  | [], ys, i, r, _ => by cases r; exact ⟨trivial, rfl⟩
  | d :: es, ys, i, r, c => by
    cases r with
    | cons a q =>
      unfold confD at c
      split at c
      · rename_i h; cases h
      · rename_i h
        cases h
        cases a
        have c := Bool.and_eq_true_iff.mp c
        obtain ⟨h1, h2⟩ := conf_rep q c.2
        exact ⟨⟨by simpa using c.1, h1⟩, by rw [List.map_cons, List.map_cons, h2]; rfl⟩
      · rename_i h
        cases h
        cases a
        have c := Bool.and_eq_true_iff.mp c
        obtain ⟨h1, h2⟩ := conf_rep q c.2
        exact ⟨⟨by simpa using c.1, h1⟩, by rw [List.map_cons, List.map_cons, h2]; rfl⟩
      · cases c
theorem ok_rep {shape : Nat → Bool} {v : V} {d : D} (ex : Ex F H) (r : Rep K F v d) (c : okD shape d = true) : (∃ t ys, v = V.ref t ∧ H t = some (.tup ys) ∧ confV shape 0 ys ∧ ys ≠ []) ∧ kV H v = kD d := by
  cases d with
  | tuple es =>
    have c := Bool.and_eq_true_iff.mp (show (confD shape 0 es && !es.isEmpty) = true from c)
    cases r with
    | tup h q =>
      obtain ⟨h1, h2⟩ := conf_rep q c.1
      have hh := ex _ _ h
      refine ⟨⟨_, _, rfl, hh, h1, fun z => ?_⟩, ?_⟩
      · subst z
        cases q
        simp at c
      · show (match H _ with | some (.tup ys) => ys.map itemV | _ => []) = _
        rw [hh]
        exact h2
  | _ => cases c
theorem ins_rep {shape : Nat → Bool} (ex : Ex F H) {v : V} {d : D} (r : Rep K F v d) (c : okD shape d = true) : ∀ {ds : List D} {vs : List V}, RepL K F vs ds → (∀ e ∈ ds, okD shape e = true) → RepL K F (insO (fun x y => tLt (kV H x) (kV H y)) v vs) (insO dLt d ds)
  | [], _, q, _ => by cases q; exact .cons r .nil
  | e :: ds, _, q, hc => by
    cases q with
    | cons a q =>
      have k1 := (ok_rep ex r c).2
      have k2 := (ok_rep ex a (hc e List.mem_cons_self)).2
      unfold insO dLt
      rw [k1, k2]
      split
      · exact .cons a (ins_rep ex r c q fun e he => hc e (List.mem_cons_of_mem _ he))
      · exact .cons r (.cons a q)
theorem isort_rep {shape : Nat → Bool} (ex : Ex F H) : ∀ {ds : List D} {vs : List V}, RepL K F vs ds → (∀ e ∈ ds, okD shape e = true) → RepL K F (isort (fun x y => tLt (kV H x) (kV H y)) vs) (isort dLt ds)
  | [], _, q, _ => by cases q; exact .nil
  | e :: ds, _, q, hc => by
    cases q with
    | cons a q =>
      have hc' := fun e he => hc e (List.mem_cons_of_mem _ he)
      refine ins_rep ex a (hc e List.mem_cons_self) (isort_rep ex q hc') fun u hu => hc' u ((isort_perm ds).mem_iff.mp hu)
theorem RepL.mem_rep : ∀ {ds : List D} {vs : List V}, RepL K F vs ds → ∀ v ∈ vs, ∃ d ∈ ds, Rep K F v d
  | _, _, .nil, v, hv => by cases hv
  | _, _, .cons a q, v, hv => by
    rcases List.mem_cons.mp hv with rfl | hv
    · exact ⟨_, List.mem_cons_self, a⟩
    · obtain ⟨d, hd, r⟩ := RepL.mem_rep q v hv
      exact ⟨d, List.mem_cons_of_mem _ hd, r⟩
end
theorem rc_sortT {K : PySem.W.Frag} : RCL K (rSortT K) sortTD := by
  intro F H xs ds Q z ex rx h k
  unfold sortTD at h
  split at h
  · rename_i es
    obtain ⟨x, rfl, r⟩ := rx.one
    obtain ⟨l, vs, rfl, a, b⟩ := r.isl ex
    split at h
    · rename_i c
      cases h
      have c := List.all_eq_true.mp c
      refine ⟨l, vs, shapeOf es, rfl, .of a, fun v hv => ?_, fun p hp => k.new ex (isort_rep ex b c) p hp⟩
      obtain ⟨d, hd, rr⟩ := b.mem_rep v hv
      exact (ok_rep ex rr (c d hd)).1
    · cases h
  · cases h
/-- a list sorted already stays as it is -/
theorem isort_id {α : Type} {lt : α → α → Bool} (O : SrtO.Swo lt) {l : List α} (h : SrtO.Srtd lt l) : isort lt l = l := SrtO.stb_uniq O (isort_srtd O l) h (isort_stb O l)
end Dn

set_option Elab.async false
set_option linter.all false
set_option maxRecDepth 100000
set_option maxHeartbeats 4000000
/-! DenZL: the sum of two tuples, its object known -/
namespace Dn
open PySem PySem.Spec PyProof.Rows L2
def rCatK (K : PySem.W.Frag) : R2 := fun x y H Q => ∃ a b xs ys, x = .ref a ∧ y = .ref b ∧ SqT K H a xs ∧ SqT K H b ys ∧ xs ≠ [] ∧ ys ≠ [] ∧ xs.length + ys.length ≤ sizeLine ∧
  ∀ p o, H p = none → KtO o → Q (.ref p) (upd H p (.frz o (.tup (xs ++ ys))))
theorem op_catK {X : Cx} : OpR X (binaryOp .Add) (rCatK X.K) := by
  intro pins s σ H x y v u Q I rx ry h
  obtain ⟨a, b, xs, ys, rfl, rfl, ha, hb, hx, hy, hz, q⟩ := h
  cases rx
  cases ry
  obtain ⟨its, r1, p1, _⟩ := I.tuple ha
  obtain ⟨its2, r2, p2, _⟩ := I.tuple hb
  have n1 : its ≠ [] := fun z => by subst z; cases r1; exact hx rfl
  have n2 : its2 ≠ [] := fun z => by subst z; cases r2; exact hy rfl
  refine HT.cat_tup p1 p2 n1 (fun z => absurd z n2) (fun z => ?_) (by rw [← r1.length, ← r2.length]; exact hz)
  have new : ObjOk X.prog X.w (upd H s.heap.objs.size (.frz { cls := .type "tuple", data := .seq (its ++ its2).toArray } (.tup (xs ++ ys)))) (s.heap.push { cls := .type "tuple", data := .seq (its ++ its2).toArray }) s.heap.objs.size (.frz { cls := .type "tuple", data := .seq (its ++ its2).toArray } (.tup (xs ++ ys))) :=
    ⟨Heap.get?_push_size _ rfl, by rw [List.length_append]; exact hz, _, r1.append r2, IsTup.new _ _⟩
  exact ⟨.ref s.heap.objs.size, _, I.laid (t' := s.toks) (fun b ob q => Heap.get?_push_of_some _ q) (Nat.le_refl _) new, rfl, q _ _ (I.hok.fresh (Nat.le_refl _)) ⟨rfl, rfl⟩⟩
theorem kAddK {X : Cx} {K : PySem.W.Frag} (h : X.K = K := by rfl) : OpR X (binaryOp .Add) (rCatK K) := h ▸ op_catK
open Classical in
noncomputable def addKD : D → D → Option D
  | .tuple a, .tuple b => if a ≠ [] ∧ b ≠ [] ∧ a.length + b.length ≤ sizeLine then some (ktD (a ++ b)) else none
  | _, _ => none
theorem rd_addK {K : PySem.W.Frag} : R2D K (rCatK K) addKD := by
  intro F H x y d e Q z ex rx ry h k
  unfold addKD at h
  split at h
  · split at h
    · rename_i a b hz
      cases h
      obtain ⟨l, vs, rfl, h1, r1, f1⟩ := rx.ist ex
      obtain ⟨m, ws, rfl, h2, r2, f2⟩ := ry.ist ex
      refine ⟨l, m, vs, ws, rfl, rfl, h1, h2, fun e => ?_, fun e => ?_, by rw [r1.length, r2.length]; exact hz.2.2, fun p o hp ho => WF.newK ex k (r1.append r2) p o hp ho⟩
      · subst e; cases r1; exact hz.1 rfl
      · subst e; cases r2; exact hz.2.1 rfl
    · cases h
  · cases h
theorem addKD_ok {a b : List D} (h1 : a ≠ []) (h2 : b ≠ []) (h : a.length + b.length ≤ 16777216) : addKD (.tuple a) (.tuple b) = some (ktD (a ++ b)) := if_pos ⟨h1, h2, (show _ ≤ sizeLine from h)⟩
end Dn

set_option Elab.async false
set_option linter.all false
set_option maxRecDepth 100000
set_option maxHeartbeats 4000000
/-! DenZM: sorted of a list of lists of ints -/
namespace Dn
open PySem PySem.Spec PyProof.Rows L2
def iV : V → D
  | .int i => .int i
  | _ => .int 0
def allI : List V → Prop
  | [] => True
  | .int _ :: r => allI r
  | _ :: _ => False
def kLV (H : Hp) : V → Ky
  | .ref t => match H t with
    | some (.lst ys) => PySem.W.keyToks (.list (ys.map iV))
    | _ => []
  | _ => []
def rSortL (K : PySem.W.Frag) : List V → Hp → VK → Prop := fun vs H Q => ∃ (a : Addr) (xs : List V), vs = [V.ref a] ∧ SqL K H a xs ∧
  (∀ x ∈ xs, ∃ t ys, x = V.ref t ∧ H t = some (.lst ys) ∧ allI ys) ∧
  ∀ p, H p = none → Q (.ref p) (upd H p (.lst (isort (fun x y => tLt (kLV H x) (kLV H y)) xs)))
theorem reads_iL {h : Heap} : ∀ {ys : List V} {its : List Value}, Vals ys its → allI ys → ∃ as, ReadsAll h its (ys.map iV) as
  | _, _, .nil, _ => ⟨[], .nil⟩
  | .int n :: ys, _ :: its, .cons r t, c => by
    obtain ⟨k, rfl⟩ := (show ∃ k, _ = Value.int n k from r)
    obtain ⟨as, h1⟩ := reads_iL (h := h) t c
    exact ⟨_, .cons (.int n k) h1⟩
theorem alike_iL : ∀ {ys zs : List V}, allI ys → allI zs → PySem.W.alikeAll (ys.map iV) (zs.map iV) = true
  | [], _, _, _ => by rw [List.map_nil, PySem.W.alikeAll]
  | .int n :: ys, [], _, _ => by rw [List.map_cons, List.map_nil, PySem.W.alikeAll]
  | .int n :: ys, .int m :: zs, a, b => by
    rw [List.map_cons, List.map_cons, PySem.W.alikeAll, alike_iL (ys := ys) (zs := zs) a b]
    simp [iV, PySem.W.alike]
theorem depth_iL : ∀ {ys : List V}, PyData.depthAll (ys.map iV) = 0
  | [] => by simp [PyData.depthAll]
  | y :: ys => by
    rw [List.map_cons, PyData.depthAll, depth_iL (ys := ys)]
    cases y <;> simp [iV, PyData.depth]
/-- a list of ints in the heap -/
def IsLs (h : Heap) (v : Value) (ys : List V) : Prop := ∃ a o xs n, v = .ref a ∧ h.get? a = some o ∧ o.cls = .type "list" ∧ o.data = .seq xs n ∧ Vals ys xs.toList ∧ allI ys
theorem IsLs.keeps {h h' : Heap} {v : Value} {l : List V} (p : IsLs h v l) (k : ∀ b o, h.get? b = some o → h'.get? b = some o) : IsLs h' v l := by
  obtain ⟨a, o, xs, n, e, ho, hc, hd, hi, hs⟩ := p
  exact ⟨a, o, xs, n, e, k _ _ ho, hc, hd, hi, hs⟩
theorem IsLs.reads {h : Heap} {v : Value} {l : List V} (p : IsLs h v l) : ∃ as, Reads h v (.list (l.map iV)) as := by
  obtain ⟨a, o, xs, n, rfl, ho, hc, hd, hi, hs⟩ := p
  obtain ⟨as, r⟩ := reads_iL (h := h) hi hs
  exact ⟨_, .list ho hc hd r⟩
theorem IsLs.looks {M : Model} {h : Heap} {v : Value} {l : List V} (p : IsLs h v l) : PySem.W.Looks M h (typeOf v) (Value.type "list") := by
  obtain ⟨a, o, xs, n, rfl, ho, hc, hd, hi, hs⟩ := p
  rw [← hc]
  exact (PySem.W.Looks.ld ho).andThen .now
theorem cr_sortL {X : Cx} (hu : X.A.units + 64 < cLine) : CallR X (.builtin "sorted") (rSortL X.K) := by
  intro pins s σ H vs us Q I r h
  obtain ⟨a, xs, rfl, hs, hx, q⟩ := h
  obtain ⟨its, rv, hl, hz⟩ := I.list hs
  rw [Vals.ref1 r]
  obtain ⟨e1, e2⟩ := refs_back rv fun x m => by
    obtain ⟨t, ys, e, _⟩ := hx x m
    exact ⟨t, e⟩
  have tp : ∀ v ∈ its, ∃ l, IsLs s.heap v l ∧ kLV H (backV v) = PySem.W.keyToks (.list (l.map iV)) := fun v hv => by
    obtain ⟨t, rfl⟩ := e2 v hv
    have hm : V.ref t ∈ xs := by rw [e1]; exact List.mem_map.mpr ⟨_, hv, rfl⟩
    obtain ⟨t', ys, e, ht, ai⟩ := hx _ hm
    cases e
    obtain ⟨_, its2, n, r2, e⟩ := I.hok _ _ ht
    refine ⟨ys, ⟨t, _, its2.toArray, n, rfl, e, rfl, rfl, by simpa using r2, ai⟩, ?_⟩
    show (match H t with | some (.lst ys) => PySem.W.keyToks (.list (ys.map iV)) | _ => []) = _
    rw [ht]
  refine SrtO.sorted_ord (tLt_swo fun v => kLV H (backV v)) hl.isList (by rw [← rv.length]; exact hz) (fun h2 h₁ a' ha kk => ?_) fun out h1 h2 => ?_
  · intro h' keep
    have tp' : ∀ v ∈ its, ∃ l, IsLs h' v l ∧ kLV H (backV v) = PySem.W.keyToks (.list (l.map iV)) := fun v hv => by
      obtain ⟨l, h3, h4⟩ := tp v hv
      exact ⟨l, h3.keeps fun b o e => keep b o (kk b o e).1 (kk b o e).2, h4⟩
    refine ⟨oneType', fun Q E hq => PySem.W.kas_kind (T := .type "list") (s := { s with heap := h' }) h2 (fun v hv => ?_) (by rfl) (by rfl) hq, fun p q hp hq => ?_⟩
    · obtain ⟨l, h3, _⟩ := tp' v hv
      exact h3.looks
    · obtain ⟨l, h3, h4⟩ := tp' _ hp
      obtain ⟨m, h5, h6⟩ := tp' _ hq
      obtain ⟨as, r1⟩ := h3.reads
      obtain ⟨bs, r2⟩ := h5.reads
      obtain ⟨_, _, _, _, _, _, _, _, _, a1⟩ := h3
      obtain ⟨_, _, _, _, _, _, _, _, _, a2⟩ := h5
      refine PySem.W.oneLt_alike (s := { s with heap := h' }) (f := true) (fun _ xs e => by cases e) r1 r2 (by rw [PySem.W.alike]; exact alike_iL a1 a2) (fun e => by cases e) ?_ ⟨rfl, ?_⟩
      · rw [PyData.depth, PyData.depth, depth_iL, depth_iL]
        show X.A.units + 1 + 1 + _ < _
        omega
      · show _ = tLt (kLV H (backV p.1)) (kLV H (backV q.1))
        rw [h4, h6]
        rfl
  · have h3 : ∀ u ∈ out, ∃ a, u = Value.ref a := fun u hu => e2 u (h2.perm.mem_iff.mp hu)
    obtain ⟨ep, he'⟩ := PyProof.Rows.sortedAll_at s.heap its out.toArray
    have O := tLt_swo (kLV H)
    have hb : SrtO.Stb (fun x y => tLt (kLV H x) (kLV H y)) (out.map backV) xs := by
      rw [e1]
      exact SrtO.Stb.map O backV h2
    have st := isort_stb O xs
    have e := SrtO.stb_uniq O (SrtO.srtd_map (f := backV) (lt := fun x y => tLt (kLV H x) (kLV H y)) h1) (isort_srtd O xs) (hb.trans ⟨st.perm.symm, fun x => (st.cls x).symm⟩)
    have q' := q _ (I.hok.fresh (Nat.le_succ _))
    rw [← e] at q'
    have hlen : (out.map backV).length ≤ sizeLine := by rw [hb.len]; exact hz
    exact ⟨.ref _, upd H (s.heap.objs.size + 1) (.lst (out.map backV)), I.laid (t' := s.toks) (fun _ _ => PyProof.Rows.sortedAll_old) (Nat.le_succ _) ⟨hlen, out, ep, vals_back h3, he'⟩, rfl, q'⟩
theorem kSortL {X : Cx} {K : PySem.W.Frag} (hu : X.A.units + 64 < cLine) (h : X.K = K := by rfl) : CallR X (.builtin "sorted") (rSortL K) := h ▸ cr_sortL hu
/-! ### the data's side -/
def allID : List D → Bool
  | [] => true
  | .int _ :: r => allID r
  | _ :: _ => false
def okLD : D → Bool
  | .list es => allID es
  | _ => false
def lLt (x y : D) : Bool := tLt (PySem.W.keyToks x) (PySem.W.keyToks y)
def sortLD : List D → Option (List D)
  | [.list ds] => if ds.all okLD then some (isort lLt ds) else none
  | _ => none
section
variable {K : PySem.W.Frag} {F H : Hp}
theorem allI_rep : ∀ {es : List D} {ys : List V}, RepL K F ys es → allID es = true → allI ys ∧ ys.map iV = es
  | [], ys, r, _ => by cases r; exact ⟨trivial, rfl⟩
  | d :: es, ys, r, c => by
    cases r with
    | cons a q =>
      unfold allID at c
      split at c
      · rename_i h; cases h
      · rename_i h
        cases h
        cases a
        obtain ⟨h1, h2⟩ := allI_rep q c
        exact ⟨h1, by rw [List.map_cons, h2]; rfl⟩
      · cases c
theorem okL_rep {v : V} {d : D} (ex : Ex F H) (r : Rep K F v d) (c : okLD d = true) : (∃ t ys, v = V.ref t ∧ H t = some (.lst ys) ∧ allI ys) ∧ kLV H v = PySem.W.keyToks d := by
  cases d with
  | list es =>
    cases r with
    | lst h q =>
      obtain ⟨h1, h2⟩ := allI_rep q c
      have hh := ex _ _ h
      refine ⟨⟨_, _, rfl, hh, h1⟩, ?_⟩
      show (match H _ with | some (.lst ys) => PySem.W.keyToks (.list (ys.map iV)) | _ => []) = _
      rw [hh, ← h2]
  | _ => cases c
theorem insL_rep (ex : Ex F H) {v : V} {d : D} (r : Rep K F v d) (c : okLD d = true) : ∀ {ds : List D} {vs : List V}, RepL K F vs ds → (∀ e ∈ ds, okLD e = true) → RepL K F (insO (fun x y => tLt (kLV H x) (kLV H y)) v vs) (insO lLt d ds)
  | [], _, q, _ => by cases q; exact .cons r .nil
  | e :: ds, _, q, hc => by
    cases q with
    | cons a q =>
      have k1 := (okL_rep ex r c).2
      have k2 := (okL_rep ex a (hc e List.mem_cons_self)).2
      unfold insO lLt
      rw [k1, k2]
      split
      · exact .cons a (insL_rep ex r c q fun e he => hc e (List.mem_cons_of_mem _ he))
      · exact .cons r (.cons a q)
theorem isortL_rep (ex : Ex F H) : ∀ {ds : List D} {vs : List V}, RepL K F vs ds → (∀ e ∈ ds, okLD e = true) → RepL K F (isort (fun x y => tLt (kLV H x) (kLV H y)) vs) (isort lLt ds)
  | [], _, q, _ => by cases q; exact .nil
  | e :: ds, _, q, hc => by
    cases q with
    | cons a q =>
      have hc' := fun e he => hc e (List.mem_cons_of_mem _ he)
      refine insL_rep ex a (hc e List.mem_cons_self) (isortL_rep ex q hc') fun u hu => hc' u ((isort_perm ds).mem_iff.mp hu)
end
theorem rc_sortL {K : PySem.W.Frag} : RCL K (rSortL K) sortLD := by
  intro F H xs ds Q z ex rx h k
  unfold sortLD at h
  split at h
  · rename_i es
    obtain ⟨x, rfl, r⟩ := rx.one
    obtain ⟨l, vs, rfl, a, b⟩ := r.isl ex
    split at h
    · rename_i c
      cases h
      have c := List.all_eq_true.mp c
      refine ⟨l, vs, rfl, .of a, fun v hv => ?_, fun p hp => k.new ex (isortL_rep ex b c) p hp⟩
      obtain ⟨d, hd, rr⟩ := b.mem_rep v hv
      exact (okL_rep ex rr (c d hd)).1
    · cases h
  · cases h
/-! ### plain -/
def liD (l : List Int) : D := .list (l.map .int)
def iLt (a b : List Int) : Bool := lLt (liD a) (liD b)
theorem iLt_swo : SrtO.Swo iLt := tLt_swo fun l : List Int => PySem.W.keyToks (liD l)
theorem toks_inj : ∀ {a b : List Int}, PySem.W.keyToksAll (a.map PyData.int) = PySem.W.keyToksAll (b.map PyData.int) → a = b
  | [], [], _ => rfl
  | [], y :: b, h => by simp [PySem.W.keyToksAll] at h
  | x :: a, [], h => by simp [PySem.W.keyToksAll] at h
  | x :: a, y :: b, h => by
    simp only [List.map_cons, PySem.W.keyToksAll, PySem.W.keyToks, List.cons_append, List.nil_append, List.cons.injEq, Sum.inl.injEq, true_and] at h
    rw [h.1, toks_inj h.2]
theorem iLt_tot {a b : List Int} (h1 : iLt a b = false) (h2 : iLt b a = false) : a = b := by
  have := (listOrd itemOrd).total _ _ h1 h2
  unfold liD at this
  rw [PySem.W.keyToks, PySem.W.keyToks] at this
  exact toks_inj this
theorem insL_map (x : List Int) : ∀ l : List (List Int), insO lLt (liD x) (l.map liD) = (insO iLt x l).map liD
  | [] => rfl
  | y :: l => by
    rw [List.map_cons]
    unfold insO
    show (if iLt y x = true then _ else _) = _
    split
    · rw [List.map_cons, insL_map x l]
    · rfl
theorem isortL_map : ∀ l : List (List Int), isort lLt (l.map liD) = (isort iLt l).map liD
  | [] => rfl
  | x :: l => by
    show insO lLt (liD x) (isort lLt (l.map liD)) = (insO iLt x (isort iLt l)).map liD
    rw [isortL_map l, insL_map]
theorem allID_ints : ∀ l : List Int, allID (l.map PyData.int) = true
  | [] => rfl
  | x :: l => by rw [List.map_cons]; exact allID_ints l
theorem sortL_li (l : List (List Int)) : sortLD [.list (l.map liD)] = some ((isort iLt l).map liD) := by
  have ok : (l.map liD).all okLD = true := List.all_eq_true.mpr fun d hd => by
    obtain ⟨x, _, rfl⟩ := List.mem_map.mp hd
    exact allID_ints x
  have e : sortLD [.list (l.map liD)] = if (l.map liD).all okLD then some (isort lLt (l.map liD)) else none := rfl
  rw [e, if_pos ok, isortL_map]
theorem isortL_perm {l m : List (List Int)} (p : l.Perm m) : isort iLt l = isort iLt m :=
  List.Perm.eq_of_pairwise (le := fun x y => iLt y x = false) (fun a b _ _ h1 h2 => iLt_tot h2 h1) (isort_srtd iLt_swo l) (isort_srtd iLt_swo m) ((isort_perm l).trans (p.trans (isort_perm m).symm))
/-- a comprehension over what is told of a list -/
theorem loopLc_enc {α : Type} (enc dec : α → D) {tg : D → Fr → Option Fr} {e : ME} {vs : List Nat} {ρ : Fr} : ∀ (xs : List α) (acc : List D), acc.length + xs.length < sizeLine →
    (∀ x ∈ xs, ∃ ρ', tg (enc x) (wipeF ρ vs) = some ρ' ∧ e ρ' = .ok (dec x)) → loopLc tg tYesF e vs ρ (xs.map enc) acc = .ok (acc ++ xs.map dec)
  | [], acc, _, _ => by unfold loopLc; simp
  | x :: xs, acc, hz, h => by
    obtain ⟨ρ', h1, h2⟩ := h x (List.mem_cons_self ..)
    rw [List.length_cons] at hz
    rw [List.map_cons]
    unfold loopLc
    rw [h1]
    show (noX (.ok true)).bind _ = _
    rw [show noX (M.ok true) = .ok true from rfl, M.bind_ok, if_pos rfl, h2, show noX (M.ok (dec x)) = .ok (dec x) from rfl, M.bind_ok, if_pos (by omega)]
    rw [loopLc_enc enc dec xs (acc ++ [dec x]) (by rw [List.length_append, List.length_singleton]; omega) fun d hd => h d (List.mem_cons_of_mem _ hd)]
    simp
/-- a loop that goes back with the first thing found -/
theorem search_ex {α : Type} {body : D → Fr → Out} {enc : α → D} {I : Fr → Prop} {E : α → Prop} : ∀ (xs : List α)
    (h : ∀ x ∈ xs, ∀ ρ, I ρ → (∃ d ρ', isNone d = false ∧ E x ∧ body (enc x) ρ = .ret d ρ') ∨ (¬ E x ∧ ∃ ρ', I ρ' ∧ body (enc x) ρ = .nx ρ')) (ρ : Fr), I ρ →
    (∃ d ρ', isNone d = false ∧ (∃ x ∈ xs, E x) ∧ loopFor body (xs.map enc) ρ = .ret d ρ') ∨ ((∀ x ∈ xs, ¬ E x) ∧ ∃ ρ', I ρ' ∧ loopFor body (xs.map enc) ρ = .nx ρ')
  | [], _, ρ, hI => .inr ⟨fun x hx => (by cases hx), ρ, hI, rfl⟩
  | x :: xs, h, ρ, hI => by
    rcases h x List.mem_cons_self ρ hI with ⟨d, ρ', h1, h2, h3⟩ | ⟨h1, ρ', h2, h3⟩
    · exact .inl ⟨d, ρ', h1, ⟨x, List.mem_cons_self, h2⟩, loop_ret h3⟩
    · rw [List.map_cons, loop_nx h3]
      rcases search_ex xs (fun y hy => h y (List.mem_cons_of_mem _ hy)) ρ' h2 with ⟨d, ρ'', g1, ⟨y, hy, g2⟩, g3⟩ | ⟨g1, g2⟩
      · exact .inl ⟨d, ρ'', g1, ⟨y, List.mem_cons_of_mem _ hy, g2⟩, g3⟩
      · exact .inr ⟨fun y hy => (List.mem_cons.mp hy).elim (fun e => by rw [e]; exact h1) (g1 y), g2⟩
end Dn

set_option Elab.async false
set_option linter.all false
set_option maxRecDepth 100000
set_option maxHeartbeats 4000000
/-! DenZN: a dict display of texts and ints -/
namespace Dn
open PySem PySem.Spec PyProof.Rows L2
def dispV (kvs : List (Str × Int)) : List (Key × V) := kvs.map fun kv => (.inr kv.1, .int kv.2)
def dispK (kvs : List (Str × Int)) : List (Key × D) := kvs.map fun kv => (.inr kv.1, .int kv.2)
def dispT (kvs : List (Str × Int)) : List (TE × TE) := kvs.map fun kv => (tC (.str kv.1), tC (.int kv.2))
theorem disp_pairs : ∀ (kvs : List (Str × Int)) (σ : L2.St) (H : Hp) (Q : List (V × V) → Hp → Prop), Q ((dispV kvs).map fun kv => (L2.kV kv.1, kv.2)) H → tPairs (dispT kvs) σ H Q
  | [], _, _, _, h => h
  | kv :: kvs, σ, H, Q, h => disp_pairs kvs σ H (fun ps H3 => Q ((.str kv.1, .int kv.2) :: ps) H3) h
theorem disp_rep {K : PySem.W.Frag} {F : Hp} : ∀ kvs : List (Str × Int), RepK K F (dispV kvs) (dispK kvs)
  | [] => .nil
  | kv :: kvs => .cons (.int _) (disp_rep kvs)
def dispD (kvs : List (Str × Int)) : D := .dict (dkD (dispK kvs))
section
variable {K : PySem.W.Frag} {L : Addr × Addr} {mg : Str → Option Value} {W : WX}
theorem df_disp {kvs : List (Str × Int)} (hm : mergeK [] (dispV kvs) = dispV kvs) (h15 : kvs.length ≤ 15) : DF K L mg W (tDisp (dispT kvs)) (eC (dispD kvs)) := fun F0 H0 F H σ ρ Q E k => by
  intro p hp
  refine disp_pairs kvs σ _ _ ⟨upd_same, dispV kvs, rfl, by unfold dispV; rw [List.length_map]; exact h15, ?_⟩
  rw [upd_upd, hm]
  exact k _ _ _ (Step.new E.st.fh hp) (.dK upd_same (disp_rep kvs) rfl)
end
end Dn

set_option Elab.async false
set_option linter.all false
set_option maxRecDepth 100000
set_option maxHeartbeats 4000000
/-! DenZO: displays and sums of tuples whose object is known, empty ones too -/
namespace Dn
open PySem PySem.Spec PyProof.Rows L2
def tTupK (t : TA) : TE := fun σ H Q => t σ H fun xs H1 => xs.length ≤ sizeLine ∧ ∀ p o, H1 p = none → KtO o → Q (.ref p) (upd H1 p (.frz o (.tup xs)))
theorem pe_tupKn {X : Cx} {es : List Expr} {t : TA} {x1} {pos : Pos} (h : PA X es t) : PE X (.Tuple es x1 pos) (tTupK t) := by
  refine ⟨fun pins s σ H Q I hq => ?_⟩
  refine wpAny_Tuple_spliced (thn (h.run pos pins s σ H _ I hq) fun us s1 ⟨xs, H1, I1, r, z, q⟩ => ⟨by rw [← r.length]; exact z, ?_⟩)
  have hf : H1 s1.heap.objs.size = none := I1.hok.fresh (Nat.le_refl _)
  refine ⟨.ref s1.heap.objs.size, _, I1.laid (t' := s1.toks) (fun b u e => Heap.get?_push_of_some _ e) (Nat.le_refl _) ?_, rfl, q _ { cls := .type "tuple", data := .seq us.toArray } hf ⟨rfl, rfl⟩⟩
  exact ⟨Heap.get?_push_size _ rfl, z, us, r, ⟨_, Heap.get?_push_size _ rfl, rfl, _, rfl⟩⟩
def eTupK (as : ML) : ME := fun ρ => (as ρ).bind fun ds => .ok (ktD ds)
@[simp] theorem eTupK_ap {as : ML} {ρ : Fr} : eTupK as ρ = (as ρ).bind fun ds => .ok (ktD ds) := rfl
section
variable {K : PySem.W.Frag} {L : Addr × Addr} {mg : Str → Option Value} {W : WX} {tas : TA} {as : ML}
theorem df_tupKn {n : Nat} (ha : DAF K L mg W tas as) (hf : fewA as n) (hn : n ≤ 100000 := by decide) : DF K L mg W (tTupK tas) (eTupK as) := fun F0 H0 F H σ ρ Q E p => by
  refine ha F0 H0 F H σ ρ _ E ?_
  cases q : as ρ with
  | ok ds =>
    unfold eTupK at p
    rw [q] at p
    intro F1 H1 xs s1 r1
    refine ⟨lt_line (by rw [r1.length, hf ρ ds q]; exact hn), fun l o hl ho => ?_⟩
    exact WF.newK s1.fh (WF.on s1 p) r1 l o hl ho
  | exc n => unfold eTupK at p; rw [q] at p; exact p
  | stuck => unfold eTupK at p; rw [q] at p; exact p
end
def rCatA (K : PySem.W.Frag) : R2 := fun x y H Q => ∃ a b xs ys, x = .ref a ∧ y = .ref b ∧ SqT K H a xs ∧ SqT K H b ys ∧ (xs = [] → Q y H) ∧ (xs ≠ [] → ys = [] → Q x H) ∧ xs.length + ys.length ≤ sizeLine ∧
  (xs ≠ [] → ys ≠ [] → ∀ p o, H p = none → KtO o → Q (.ref p) (upd H p (.frz o (.tup (xs ++ ys)))))
theorem op_catA {X : Cx} : OpR X (binaryOp .Add) (rCatA X.K) := by
  intro pins s σ H x y v u Q I rx ry h
  obtain ⟨a, b, xs, ys, rfl, rfl, ha, hb, h0, h1, hz, q⟩ := h
  cases rx
  cases ry
  obtain ⟨its, r1, p1, _⟩ := I.tuple ha
  obtain ⟨its2, r2, p2, _⟩ := I.tuple hb
  by_cases c0 : xs = []
  · have n1 : its = [] := r1.nil_iff.mpr c0
    subst n1
    exact cat_tup0 p1 p2 ⟨.ref b, H, I, rfl, h0 c0⟩
  · have n1 : its ≠ [] := fun z => c0 (r1.nil_iff.mp z)
    refine HT.cat_tup p1 p2 n1 (fun z => ⟨.ref a, H, I, rfl, h1 c0 (r2.nil_iff.mp z)⟩) (fun z => ?_) (by rw [← r1.length, ← r2.length]; exact hz)
    have c1 : ys ≠ [] := fun w => z (r2.nil_iff.mpr w)
    have new : ObjOk X.prog X.w (upd H s.heap.objs.size (.frz { cls := .type "tuple", data := .seq (its ++ its2).toArray } (.tup (xs ++ ys)))) (s.heap.push { cls := .type "tuple", data := .seq (its ++ its2).toArray }) s.heap.objs.size (.frz { cls := .type "tuple", data := .seq (its ++ its2).toArray } (.tup (xs ++ ys))) :=
      ⟨Heap.get?_push_size _ rfl, by rw [List.length_append]; exact hz, _, r1.append r2, IsTup.new _ _⟩
    exact ⟨.ref s.heap.objs.size, _, I.laid (t' := s.toks) (fun b ob q => Heap.get?_push_of_some _ q) (Nat.le_refl _) new, rfl, q c0 c1 _ _ (I.hok.fresh (Nat.le_refl _)) ⟨rfl, rfl⟩⟩
theorem kAddA {X : Cx} {K : PySem.W.Frag} (h : X.K = K := by rfl) : OpR X (binaryOp .Add) (rCatA K) := h ▸ op_catA
def tupD? : D → Option (List D)
  | .tuple ds => some ds
  | .dict [(.none, .tuple ds)] => some ds
  | _ => none
theorem tupD_is {K : PySem.W.Frag} {F H : Hp} {v : V} {d : D} {ds : List D} (e : Ex F H) (r : RepB K F H v d) (h : tupD? d = some ds) : ∃ l vs, v = .ref l ∧ SqT K H l vs ∧ RepL K F vs ds ∧ Rep K F v d := by
  unfold tupD? at h
  split at h
  · cases h; exact r.ist e
  · cases h; exact RepB.iktT e r
  · cases h
open Classical in
noncomputable def addKA (x y : D) : Option D := (tupD? x).bind fun a => (tupD? y).bind fun b => if a.length + b.length ≤ sizeLine then some (if a = [] then y else if b = [] then x else ktD (a ++ b)) else none
theorem rd_addA {K : PySem.W.Frag} : R2D K (rCatA K) addKA := by
  intro F H x y d e Q z ex rx ry h k
  unfold addKA at h
  cases ha : tupD? d with
  | none => rw [ha] at h; cases h
  | some a =>
    cases hb : tupD? e with
    | none => rw [ha, hb] at h; cases h
    | some b =>
      rw [ha, hb] at h
      obtain ⟨l, vs, rfl, h1, r1, f1⟩ := tupD_is ex rx ha
      obtain ⟨m, ws, rfl, h2, r2, f2⟩ := tupD_is ex ry hb
      have n1 : vs = [] ↔ a = [] := ⟨fun z => by subst z; cases r1; rfl, fun z => by subst z; cases r1; rfl⟩
      have n2 : ws = [] ↔ b = [] := ⟨fun z => by subst z; cases r2; rfl, fun z => by subst z; cases r2; rfl⟩
      have h : (if a.length + b.length ≤ sizeLine then some (if a = [] then e else if b = [] then d else ktD (a ++ b)) else none) = some z := h
      split at h
      · rename_i hz
        cases h
        refine ⟨l, m, vs, ws, rfl, rfl, h1, h2, fun c0 => ?_, fun c0 c1 => ?_, by rw [r1.length, r2.length]; exact hz, fun c0 c1 p o hp ho => ?_⟩
        · rw [if_pos (n1.mp c0)] at k
          exact k.here ex f2
        · rw [if_neg (fun w => c0 (n1.mpr w)), if_pos (n2.mp c1)] at k
          exact k.here ex f1
        · rw [if_neg (fun w => c0 (n1.mpr w)), if_neg (fun w => c1 (n2.mpr w))] at k
          exact WF.newK ex k (r1.append r2) p o hp ho
      · cases h
@[simp] theorem tupD_t {ds : List D} : tupD? (.tuple ds) = some ds := rfl
@[simp] theorem tupD_k {ds : List D} : tupD? (ktD ds) = some ds := rfl
theorem addKA_ok {x y : D} {a b : List D} (hx : tupD? x = some a) (hy : tupD? y = some b) (h : a.length + b.length ≤ 16777216) : addKA x y = some (if a = [] then y else if b = [] then x else ktD (a ++ b)) := by
  unfold addKA
  rw [hx, hy]
  exact if_pos (show _ ≤ sizeLine from h)
end Dn

set_option Elab.async false
set_option linter.all false
set_option maxRecDepth 100000
set_option maxHeartbeats 4000000
/-! DenZP: list(d.values()) -/
namespace Dn
open PySem PySem.Spec PyProof.Rows L2
def tListVals (te : TE) : TE := fun σ H Q => te σ H fun x H1 => ∃ d, x = .ref d ∧
  ((∃ kvs, Rd H1 d (.dK kvs) ∧ ∀ q, H1 q = none → Q (.ref q) (upd H1 q (.lst (kvs.map fun p => p.2)))) ∨
   (∃ kvs, Rd H1 d (.dT kvs) ∧ ∀ q, H1 q = none → Q (.ref q) (upd H1 q (.lst (kvs.map fun p => p.2)))))
section
variable {X : Cx} {e : Expr} {te : TE} {p apos cpos pos : Pos}
theorem paired_gt {α β : Type} {F : α → β → Prop} : ∀ {xs : List α} {ys : List β}, Paired F xs ys → ∀ {i : Nat} {x : α}, xs[i]? = some x → ∃ y, ys[i]? = some y ∧ F x y
  | _, _, .nil, i, x, h => by cases h
  | _, _, .cons r t, 0, x, h => by
    have e := Option.some.inj h
    subst e
    exact ⟨_, rfl, r⟩
  | _, _, .cons r t, i + 1, x, h => paired_gt t h
/-- a dict that may be read: its entries' values -/
theorem dict_vals {pins : List (Addr × Obj)} {σ : L2.St} {H : Hp} {s : Shared} {d : Addr} (I : Inv X pins σ H s) {us : List V}
    (h : (∃ kvs, Rd H d (.dK kvs) ∧ us = kvs.map fun p => p.2) ∨ (∃ kvs, Rd H d (.dT kvs) ∧ us = kvs.map fun p => p.2)) :
    us.length ≤ sizeLine ∧ (d == sysModules) = false ∧ ∃ es ep, s.heap.DictRaw d es ep ∧ es.size = us.length ∧ ∀ (i : Nat) (hi : i < es.size) (u : V), us[i]? = some u → RelV u es[i].val := by
  rcases h with ⟨kvs, hd, rfl⟩ | ⟨kvs, hd, rfl⟩
  · obtain ⟨z, lo, vs, rk, hdo⟩ := (show ObjOk X.prog X.w H s.heap d (.dK kvs) from hd.ok I.hok)
    obtain ⟨es, ep, raw, sz, hv⟩ := hdo.raw
    have hl : kvs.length = vs.length := Paired.length rk
    refine ⟨by rw [List.length_map]; exact z, lo, es, ep, raw, by rw [List.length_map, sz, hl], fun i hi u hu => ?_⟩
    rw [List.getElem?_map] at hu
    cases hk : kvs[i]? with
    | none => rw [hk] at hu; cases hu
    | some q =>
      rw [hk] at hu
      cases hu
      obtain ⟨u', hu', ru⟩ := kv_get rk (k := q.1) (v := q.2) hk
      obtain ⟨_, e2⟩ := hv i hi _ _ hu'
      rw [e2]
      exact ru
  · obtain ⟨z, hs, ks, pr, o, es, ep, ho, hx, hdt, he, hn⟩ := (show ObjOk X.prog X.w H s.heap d (.dT kvs) from hd.ok I.hok)
    have l1 : es.size = ks.length := size_of_entries he
    have l2 : kvs.length = ks.length := Paired.length pr
    refine ⟨by rw [List.length_map]; exact z, hs, es, ep, ⟨o, ho, hx, hdt⟩, by rw [List.length_map, l1, l2], fun i hi u hu => ?_⟩
    rw [List.getElem?_map] at hu
    cases hk : kvs[i]? with
    | none => rw [hk] at hu; cases hu
    | some q =>
      rw [hk] at hu
      cases hu
      obtain ⟨y, hy, _, _, ry⟩ := paired_gt pr hk
      have qe := entry_at he i
      rw [Array.getElem?_eq_getElem hi, hy] at qe
      have e2 := Option.some.inj qe
      rw [e2]
      exact ry
theorem pe_listVals (hc : X.calm = true) (he : PE X e te) (hg : Gl X "list") (hm : X.mg "list" = none) (hv : bootBuiltins "list" = some (.type "list")) (hbase : attributeBase e "values" X.env (eval e X.env) = eval e X.env := by rfl) (hline : (apos.endLine == cpos.line) = true := by rfl)
    (hs : starEach [.Call (.Attribute e "values" apos) [] [] cpos] X.env = (false, eval (.Call (.Attribute e "values" apos) [] [] cpos) X.env) :: starEach [] X.env := by rfl) :
    PE X (.Call (.Name "list" p) [.Call (.Attribute e "values" apos) [] [] cpos] [] pos) (tListVals te) := by
  refine ⟨fun pins s σ H Q I hq => ?_⟩
  refine wpAny_Call_Name_kw (ld_blt I hg hm hv ?_)
  refine PyProof.Rows.callWith_type1 ?_ hs rfl
  rw [hs]
  show wpAny _ _ (spliced ((false, eval (.Call (.Attribute e "values" apos) [] [] cpos) X.env) :: backTo pos (starEach [] X.env))) _ _ s
  refine Calls.spliced_cons ?_
  refine wpAny_Call_method (T := "dict") (id := "dict.values") hbase rfl hline F.plainAttrs_dict F.slot_dict_values F.type_dict_values (thn (he.run pins s σ H _ I hq) fun u s1 ⟨x, H1, I1, rx, d, ex, q⟩ => ?_)
  subst ex
  obtain rfl : u = Value.ref d := rx
  obtain ⟨us, hus, q⟩ : ∃ us, ((∃ kvs, Rd H1 d (.dK kvs) ∧ us = kvs.map fun p => p.2) ∨ (∃ kvs, Rd H1 d (.dT kvs) ∧ us = kvs.map fun p => p.2)) ∧ ∀ q, H1 q = none → Q (.ref q) (upd H1 q (.lst us)) := by
    rcases q with ⟨kvs, hd, q⟩ | ⟨kvs, hd, q⟩
    · exact ⟨_, .inl ⟨kvs, hd, rfl⟩, q⟩
    · exact ⟨_, .inr ⟨kvs, hd, rfl⟩, q⟩
  obtain ⟨hz, hs0, es, ep, raw, sz, hval⟩ := dict_vals I1 hus
  have I2 : Inv X pins σ H1 { s1 with heap := s1.heap.push { cls := .type "dict_values", data := .fields #[.ref d] } } := I1.kept (t' := s1.toks) fun b ob q => Heap.get?_push_of_some _ q
  obtain ⟨o, ho, hx, _⟩ := id raw
  refine ⟨raw.typeIs, fun a z => by cases z; exact ⟨o, ho, hx.2.1⟩, ?_⟩
  show wpAny _ _ (callWith cpos (.builtin "dict.values") [.ref d] [] []) _ X.xe s1
  refine method_meetsIn F.slot_dict_values F.entry_dict_values rfl (PySem.evalArgs_none ⟨rfl, raw.typeIs, F.args_dict_values_1 _, _, meets_dict_values_raw d hs0, ⟨es, ep, raw⟩, ?_⟩)
  refine Calls.spliced_nil ?_
  refine PySem.W.kdl_call (KdlSrc.rawValues (es := es) (ep := ep) (d := d)) (I1.ok.hd hc) ⟨⟨_, Heap.get?_push_size _ rfl, rfl, rfl⟩, raw.push _⟩ (by omega) fun h' tk acc' c' hk hS hacc => ?_
  have hsz : (s1.heap.push { cls := .type "dict_values", data := .fields #[.ref d] }).objs.size = s1.heap.objs.size + 1 := by simp [Heap.push]
  have hH : H1 (s1.heap.objs.size + 1) = none := I1.hok.fresh (Nat.le_succ _)
  have hH0 : H1 (s1.heap.push { cls := .type "dict_values", data := .fields #[.ref d] }).objs.size = none := by rw [hsz]; exact hH
  refine ⟨.ref _, upd H1 (s1.heap.push { cls := .type "dict_values", data := .fields #[.ref d] }).objs.size (.lst us), I2.laid (t' := tk) hk (Nat.le_refl _) (show ObjOk X.prog X.w _ _ _ (.lst us) from ⟨hz, acc'.toList, c', ?_, ?_⟩), rfl, q _ hH0⟩
  · have el : acc'.toList.length = acc'.size := by simp
    refine vals_of_at (by rw [el, hacc.1, sz]) fun j x w h1 h2 => ?_
    obtain ⟨hi, hw⟩ := hacc.2 j w (by rw [← Array.getElem?_toList]; exact h2)
    rw [hw]
    exact hval j hi x h1
  · rw [Array.toArray_toList]; exact hS
end
/-- list(d.values()) -/
def odVals : OD → Option (List D)
  | .dK kvs => some (kvs.map fun p => p.2)
  | .dT kvs => some (kvs.map fun p => p.2)
  | _ => none
def eLV (a : ME) : ML := fun ρ => (a ρ).bind fun x => (lift (od? x)).bind fun o => lift (odVals o)
@[simp] theorem eLV_ap {a : ME} {ρ : Fr} : eLV a ρ = (a ρ).bind fun x => (lift (od? x)).bind fun o => lift (odVals o) := rfl
@[simp] theorem odVals_K {kvs : List (Key × D)} : odVals (.dK kvs) = some (kvs.map fun p => p.2) := rfl
@[simp] theorem odVals_T {kvs : List (List Key × D)} : odVals (.dT kvs) = some (kvs.map fun p => p.2) := rfl
section
variable {K : PySem.W.Frag} {L : Addr × Addr} {mg : Str → Option Value} {W : WX} {ta : TE} {a : ME} {F H : Hp}
theorem repK_vals : ∀ {xs : List (Key × V)} {ds : List (Key × D)}, RepK K F xs ds → RepL K F (xs.map fun p => p.2) (ds.map fun p => p.2)
  | _, _, .nil => .nil
  | _, _, .cons r t => .cons r (repK_vals t)
theorem repT_vals : ∀ {xs : List (List Key × V)} {ds : List (List Key × D)}, RepT K F xs ds → RepL K F (xs.map fun p => p.2) (ds.map fun p => p.2)
  | _, _, .nil => .nil
  | _, _, .cons r t => .cons r (repT_vals t)
theorem dl_listVals (ha : DE K L mg W ta a) : DL K L mg W (tListVals ta) (eLV a) := fun F0 H0 F H σ ρ Q E p => by
  refine ha F0 H0 F H σ ρ _ E (post_mono (post_bind p) (fun d k F1 H1 x s1 r1 => ?_) fun _ z => z)
  obtain ⟨o, qo, k⟩ := post_lift (post_bind k)
  obtain ⟨l, ho, rfl, hl, ro⟩ := r1.od s1.fh qo
  obtain ⟨ds, ez, k⟩ := post_lift k
  refine ⟨l, rfl, ?_⟩
  cases ro with
  | lst _ => cases ez
  | dK r => cases ez; exact .inl ⟨_, hl, fun q hq => k F1 H1 q _ s1 hq (repK_vals r)⟩
  | dT r => cases ez; exact .inr ⟨_, hl, fun q hq => k F1 H1 q _ s1 hq (repT_vals r)⟩
end
end Dn

set_option Elab.async false
set_option linter.all false
set_option maxRecDepth 100000
set_option maxHeartbeats 4000000
/-! DenZQ: a loop over a display of new lists, each of which the body may change -/
namespace Dn
open PySem PySem.Spec PyProof.Rows L2
section
variable {K : PySem.W.Frag} {L : Addr × Addr} {F0 H0 G F H Fb Hb : Hp} {σ : L2.St} {ρ : Fr}
theorem Env.weak (e : Ex H0 G) (E : Env K L F0 G F H σ ρ) : Env K L F0 H0 F H σ ρ where
  st := ⟨E.st.ff, fun a u q => E.st.hh a u (e a u q), fun a u q1 q2 q3 => E.st.nw a u q1 (e a u q2) q3, E.st.fh⟩
  len := E.len
  sep := E.sep
  sl := fun i t h => by
    have q := E.sl i t h
    cases t with
    | none => trivial
    | err n => exact q
    | val d => exact q
    | own ds =>
      obtain ⟨l, ho, e', f, h0, hl, r⟩ := q
      exact ⟨l, ho, e', f, e.free h0, hl, r⟩
    | pin ds =>
      obtain ⟨e', f, h0, ho, hl, r⟩ := q
      exact ⟨e', f, e.free h0, ho, hl, r⟩
/-- things made since then are kept as they are -/
theorem Env.strong (Eb : Env K L F0 H0 Fb Hb σ ρ) (E : Env K L F0 H0 F H σ ρ) (hG : ∀ a u, G a = some u → H0 a = some u ∨ (Hb a = none ∧ H a = some u ∧ F a = none)) (e : Ex H0 G) : Env K L F0 G F H σ ρ where
  st := ⟨E.st.ff, fun a u q => by
      rcases hG a u q with h | h
      · exact E.st.hh a u h
      · exact h.2.1, fun a u q1 q2 q3 => by
      rcases hG a u q2 with h | h
      · exact E.st.nw a u q1 h q3
      · exact h.2.2, E.st.fh⟩
  len := E.len
  sep := E.sep
  sl := fun i t h => by
    have no : ∀ l ho, H0 l = none → Hb l = some ho → G l = none := fun l ho h1 h2 => by
      cases q : G l with
      | none => rfl
      | some u =>
        rcases hG l u q with z | z
        · rw [h1] at z; cases z
        · rw [h2] at z; cases z.1
    have q := E.sl i t h
    have qb := Eb.sl i t h
    cases t with
    | none => trivial
    | err n => exact q
    | val d => exact q
    | own ds =>
      obtain ⟨l, ho, e', f, h0, hl, r⟩ := q
      obtain ⟨l', ho', e'', f', h0', hl', r'⟩ := qb
      rw [e'] at e''
      cases e''
      exact ⟨l, ho, e', f, no l ho' h0 hl', hl, r⟩
    | pin ds =>
      obtain ⟨e', f, h0, ho, hl, r⟩ := q
      obtain ⟨e'', f', h0', ho', hl', r'⟩ := qb
      exact ⟨e', f, no _ ho' h0 hl', ho, hl, r⟩
/-- one of the kept things becomes a slot's own -/
theorem Env.take (E : Env K L F0 G F H σ ρ) {p : Addr} {vs : List V} {ds : List D} (hG : G p = some (.lst vs)) (f0 : F0 p = none) (r : RepL K F vs ds) (i : Nat) :
    Env K L F0 (fun a => if a = p then none else G a) F H (σ.set i (some (.ref p))) (ρ.set i (.own (.lst ds))) where
  st := ⟨E.st.ff, fun a u q => by
      by_cases z : a = p
      · rw [if_pos z] at q; cases q
      · rw [if_neg z] at q; exact E.st.hh a u q, fun a u q1 q2 q3 => by
      by_cases z : a = p
      · rw [if_pos z] at q2; cases q2
      · rw [if_neg z] at q2; exact E.st.nw a u q1 q2 q3, E.st.fh⟩
  len := by rw [List.length_set, List.length_set]; exact E.len
  sl := fun j s h => by
    have nn : ∀ l, G l = none → (if l = p then none else G l) = none := fun l hl => by split <;> first | rfl | exact hl
    rcases set_get h with ⟨e, es, hl⟩ | ⟨ne, h'⟩
    · subst e; subst es
      rw [List.getElem?_set_self (by rw [E.len]; exact hl)]
      exact ⟨p, .lst vs, rfl, E.st.nw p _ f0 hG (fun _ z => by cases z), if_pos rfl, E.st.hh p _ hG, .lst r⟩
    · rw [List.getElem?_set_ne ne]
      have q := E.sl j s h'
      cases s with
      | none => trivial
      | err n => exact q
      | val d => exact q
      | own ds =>
        obtain ⟨l, ho, e', f, h0, hl, r⟩ := q
        exact ⟨l, ho, e', f, nn l h0, hl, r⟩
      | pin ds =>
        obtain ⟨e', f, h0, ho, hl, r⟩ := q
        exact ⟨e', f, nn _ h0, ho, hl, r⟩
  sep := fun j k l h1 h2 e1 e2 => by
    have no : ∀ {m : Nat}, isOwn ρ[m]? → σ[m]? = some (some (.ref p)) → False := fun {m} hm em => by
      cases q : ownO ρ[m]? with
      | none => unfold isOwn at hm; rw [q] at hm; cases hm
      | some o =>
        obtain ⟨l', ho', el, _, h0, hl, _⟩ := E.ownv q
        rw [el] at em
        cases em
        rw [hG] at h0
        cases h0
    by_cases nj : i = j
    · by_cases nk : i = k
      · exact nj.symm.trans nk
      · subst nj
        rw [List.getElem?_set_ne nk] at h2 e2
        rw [List.getElem?_set] at e1
        simp at e1
        obtain ⟨_, e1⟩ := e1
        subst e1
        exact (no h2 e2).elim
    · rw [List.getElem?_set_ne nj] at h1 e1
      by_cases nk : i = k
      · subst nk
        rw [List.getElem?_set] at e2
        simp at e2
        obtain ⟨_, e2⟩ := e2
        subst e2
        exact (no h1 e1).elim
      · rw [List.getElem?_set_ne nk] at h2 e2
        exact E.sep j k l h1 h2 e1 e2
end
/-! ### new lists as arguments -/
def evL : List ML → Fr → M (List (List D))
  | [], _ => .ok []
  | f :: r, ρ => (f ρ).bind fun ds => (evL r ρ).bind fun t => .ok (ds :: t)
inductive PN (K : PySem.W.Frag) (F Hb H : Hp) : List Addr → List (List V) → List (List D) → Prop
  | nil : PN K F Hb H [] [] []
  | cons {p : Addr} {ps : List Addr} {vs : List V} {vss : List (List V)} {ds : List D} {dss : List (List D)} : Hb p = none → H p = some (.lst vs) → F p = none → p ∉ ps → RepL K F vs ds → PN K F Hb H ps vss dss → PN K F Hb H (p :: ps) (vs :: vss) (ds :: dss)
theorem PN.lower {K : PySem.W.Frag} {F Hb Hc H : Hp} (e : Ex Hb Hc) : ∀ {ps : List Addr} {vss : List (List V)} {dss : List (List D)}, PN K F Hc H ps vss dss → PN K F Hb H ps vss dss
  | _, _, _, .nil => .nil
  | _, _, _, .cons a b c d r t => .cons (e.free a) b c d r (PN.lower e t)
theorem PN.notin {K : PySem.W.Frag} {F Hc H : Hp} {p : Addr} {u : HO} (h : Hc p = some u) : ∀ {ps : List Addr} {vss : List (List V)} {dss : List (List D)}, PN K F Hc H ps vss dss → p ∉ ps
  | _, _, _, .nil => List.not_mem_nil
  | _, _, _, .cons a _ _ _ _ t => fun z => by
    rcases List.mem_cons.mp z with z | z
    · subst z; rw [a] at h; cases h
    · exact PN.notin h t z
theorem PN.len {K : PySem.W.Frag} {F Hc H : Hp} : ∀ {ps : List Addr} {vss : List (List V)} {dss : List (List D)}, PN K F Hc H ps vss dss → ps.length = dss.length
  | _, _, _, .nil => rfl
  | _, _, _, .cons _ _ _ _ _ t => congrArg (· + 1) (PN.len t)
theorem PN.at {K : PySem.W.Frag} {F Hc H : Hp} : ∀ {ps : List Addr} {vss : List (List V)} {dss : List (List D)}, PN K F Hc H ps vss dss → ∀ {i : Nat} {p : Addr}, ps[i]? = some p → ∃ vs ds, dss[i]? = some ds ∧ Hc p = none ∧ H p = some (.lst vs) ∧ F p = none ∧ RepL K F vs ds ∧ ∀ j, i < j → ps[j]? ≠ some p
  | _, _, _, .cons a b c d r t, 0, p, h => by
    simp at h
    subst h
    refine ⟨_, _, rfl, a, b, c, r, fun j hj z => ?_⟩
    obtain ⟨j', rfl⟩ : ∃ j', j = j' + 1 := ⟨j - 1, by omega⟩
    rw [List.getElem?_cons_succ] at z
    exact d (List.mem_of_getElem? z)
  | _, _, _, .cons a b c d r t, i + 1, p, h => by
    rw [List.getElem?_cons_succ] at h
    obtain ⟨vs, ds, e1, e2, e3, e4, e5, e6⟩ := PN.at t h
    refine ⟨vs, ds, by rw [List.getElem?_cons_succ]; exact e1, e2, e3, e4, e5, fun j hj z => ?_⟩
    obtain ⟨j', rfl⟩ : ∃ j', j = j' + 1 := ⟨j - 1, by omega⟩
    rw [List.getElem?_cons_succ] at z
    exact e6 j' (by omega) z
section
variable {K : PySem.W.Frag} {L : Addr × Addr} {mg : Str → Option Value} {W : WX} {te : TE} {ta : TA} {f : ML} {fs : List ML} {t : TS} {g : MS}
def DAN (K : PySem.W.Frag) (L : Addr × Addr) (mg : Str → Option Value) (W : WX) (t : TA) (fs : List ML) : Prop := ∀ F0 H0 F H σ ρ (Q : List V → Hp → Prop), Env K L F0 H0 F H σ ρ →
  post (evL fs ρ) (fun dss => ∀ F' H' ps vss, Step F H F' H' → PN K F' H H' ps vss dss → Q (ps.map V.ref) H') (WE' mg W F H σ) → t σ H Q
theorem dan_nil : DAN K L mg W tNil [] := fun F0 H0 F H σ ρ Q E p => p F H [] [] (Step.refl E.st.fh) .nil
theorem dan_cons (he : DL K L mg W te f) (hr : DAN K L mg W ta fs) : DAN K L mg W (tCons te ta) (f :: fs) := fun F0 H0 F H σ ρ Q E p => by
  have p : post ((f ρ).bind fun ds => (evL fs ρ).bind fun t => .ok (ds :: t)) _ _ := p
  refine he F0 H0 F H σ ρ _ E (post_mono (post_bind p) (fun ds k F1 H1 q vs s n r => ?_) fun _ z => z)
  have e1 : Ex F1 (upd H1 q (.lst vs)) := s.fh.trans (Ex.new n)
  have s1 : Step F H F1 (upd H1 q (.lst vs)) := s.trans (Step.new0 s.fh n)
  refine hr F0 H0 F1 (upd H1 q (.lst vs)) σ ρ _ (E.step s1) (post_mono (post_bind k) (fun dss k2 F2 H2 ps vss s2 pn => ?_) fun _ z => WE'.on s1 z)
  have k2 : ∀ F' H' ps' vss', Step F H F' H' → PN K F' H H' ps' vss' (ds :: dss) → Q (ps'.map V.ref) H' := k2
  refine k2 F2 H2 (q :: ps) (vs :: vss) (s1.trans s2) (.cons (s.hh.free n) (s2.hh q _ upd_same) (s2.nw q _ (s.fh.free n) upd_same (fun _ z => by cases z)) (PN.notin (u := .lst vs) upd_same pn) (r.mono s2.ff) (pn.lower s1.hh))
def loopL (g : List D → Fr → Out) : List (List D) → Fr → Out
  | [], ρ => .nx ρ
  | d :: ds, ρ => match g d ρ with
    | .nx ρ' => loopL g ds ρ'
    | .cont ρ' => loopL g ds ρ'
    | .brk ρ' => .nx ρ'
    | o => o
def ownB (i : Nat) (g : MS) : List D → Fr → Out := fun ds ρ => g (ρ.set i (.own (.lst ds)))
def sForN (fs : List ML) (i : Nat) (g : MS) : MS := fun ρ => Out.of (evL fs ρ) ρ fun dss => loopL (ownB i g) dss ρ
@[simp] theorem sForN_ap {i : Nat} {ρ : Fr} : sForN fs i g ρ = Out.of (evL fs ρ) ρ fun dss => loopL (ownB i g) dss ρ := rfl
@[simp] theorem evL_nil {ρ : Fr} : evL [] ρ = .ok [] := rfl
@[simp] theorem evL_cons {ρ : Fr} : evL (f :: fs) ρ = (f ρ).bind fun ds => (evL fs ρ).bind fun t => .ok (ds :: t) := rfl
theorem WO.weak {F0 H0 G F : Hp} {D : Ends} {o : Out} (e : Ex H0 G) (w : WO K mg W L F0 H0 F D o) : WO K mg W L F0 G F D o := by
  cases o with
  | nx ρ => exact fun F' H' σ' a E => w F' H' σ' a (E.weak e)
  | brk ρ => exact fun F' H' σ' a E => w F' H' σ' a (E.weak e)
  | cont ρ => exact fun F' H' σ' a E => w F' H' σ' a (E.weak e)
  | ret d ρ => exact fun F' H' σ' v a E r => w F' H' σ' v a (E.weak e) r
  | retL ds ρ => exact fun F' H1 σ' p vs a E n r => w F' H1 σ' p vs a (E.weak e) n r
  | exc n ρ => exact fun F' H' σ' a E => w F' H' σ' a (E.weak e)
  | stuck => exact w
theorem ds_forN {i : Nat} (ha : DAN K L mg W ta fs) (hn : fs.length ≤ 30) (hb : DS K L mg W t g) : DS K L mg W (tFor (iSq K (tLst ta)) (gName i) t) (sForN fs i g) := fun F0 H0 F H σ ρ D E w => by
  have lenF : ∀ (fs : List ML) ρ dss, evL fs ρ = .ok dss → dss.length = fs.length := fun fs => by
    induction fs with
    | nil => intro ρ dss h; cases h; rfl
    | cons f fs ih =>
      intro ρ dss h
      have h : (f ρ).bind (fun ds => (evL fs ρ).bind fun t => .ok (ds :: t)) = .ok dss := h
      cases q : f ρ with
      | ok ds =>
        rw [q] at h
        have h : (evL fs ρ).bind (fun t => .ok (ds :: t)) = .ok dss := h
        cases q2 : evL fs ρ with
        | ok t => rw [q2] at h; cases h; exact congrArg (· + 1) (ih ρ t q2)
        | exc n => rw [q2] at h; cases h
        | stuck => rw [q2] at h; cases h
      | exc n => rw [q] at h; cases h
      | stuck => rw [q] at h; cases h
  refine ha F0 H0 F H σ ρ _ E ?_
  have w : WO K mg W L F0 H0 F D (Out.of (evL fs ρ) ρ fun dss => loopL (ownB i g) dss ρ) := w
  have po := WO.of E w
  revert po
  cases qe : evL fs ρ with
  | stuck => exact fun po => po
  | exc n => exact fun po => po
  | ok dss =>
    intro po
    have hl := lenF fs ρ dss qe
    intro F1 H1 ps vss s pn
    have po : WO K mg W L F0 H0 F D (loopL (ownB i g) dss ρ) := po
    refine ⟨by rw [List.length_map, pn.len, hl]; exact Nat.le_trans hn (by decide), fun p0 hp0 => ?_⟩
    refine ⟨p0, ps.map V.ref, rfl, .inl ⟨.of upd_same, ?_⟩⟩
    have hF1 : F1 p0 = none := s.fh.free hp0
    have s' : Step F H F1 (upd H1 p0 (.lst (ps.map V.ref))) := s.trans (Step.new0 s.fh hp0)
    have hG0 : ∃ G, Ex H0 G ∧ G p0 = some (.lst (ps.map V.ref)) ∧ (∀ (j : Nat) p, ps[j]? = some p → 0 ≤ j → ∃ vs, G p = some (.lst vs) ∧ H1 p = some (.lst vs)) ∧ Env K L F0 G F1 (upd H1 p0 (.lst (ps.map V.ref))) σ ρ := by
      refine ⟨fun a => if a = p0 ∨ a ∈ ps then upd H1 p0 (.lst (ps.map V.ref)) a else H0 a, fun a u q => ?_, ?_, fun j p hp _ => ?_, ?_⟩
      · show (if _ then _ else _) = _
        split
        · rename_i z
          rcases z with z | z
          · subst z
            exact absurd (E.st.hh _ _ q) (by rw [s.hh.free hp0]; simp)
          · obtain ⟨k, hk⟩ := List.getElem?_of_mem z
            obtain ⟨_, _, _, e2, _⟩ := pn.at hk
            exact absurd (E.st.hh _ _ q) (by rw [e2]; simp)
        · exact q
      · show (if _ then _ else _) = _
        rw [if_pos (.inl rfl), upd_same]
      · obtain ⟨vs, ds, _, e2, e3, _⟩ := pn.at hp
        refine ⟨vs, ?_, e3⟩
        show (if _ then _ else _) = _
        rw [if_pos (.inr (List.mem_of_getElem? hp)), upd_ne (ne_of_none e3 hp0)]
        exact e3
      · refine Env.strong E (E.step s') (fun a u q => ?_) (fun a u q => ?_)
        · by_cases z : a = p0 ∨ a ∈ ps
          · have q : (if a = p0 ∨ a ∈ ps then upd H1 p0 (.lst (ps.map V.ref)) a else H0 a) = some u := q
            rw [if_pos z] at q
            refine .inr ⟨?_, q, ?_⟩
            · rcases z with z | z
              · subst z; exact s.hh.free hp0
              · obtain ⟨k, hk⟩ := List.getElem?_of_mem z
                obtain ⟨_, _, _, e2, _⟩ := pn.at hk
                exact e2
            · rcases z with z | z
              · subst z; exact hF1
              · obtain ⟨k, hk⟩ := List.getElem?_of_mem z
                obtain ⟨_, _, _, _, _, e4, _⟩ := pn.at hk
                exact e4
          · have q : (if a = p0 ∨ a ∈ ps then upd H1 p0 (.lst (ps.map V.ref)) a else H0 a) = some u := q
            rw [if_neg z] at q
            exact .inl q
        · show (if _ then _ else _) = _
          split
          · rename_i z
            rcases z with z | z
            · subst z
              exact absurd (E.st.hh _ _ q) (by rw [s.hh.free hp0]; simp)
            · obtain ⟨k, hk⟩ := List.getElem?_of_mem z
              obtain ⟨_, _, _, e2, _⟩ := pn.at hk
              exact absurd (E.st.hh _ _ q) (by rw [e2]; simp)
          · exact q
    obtain ⟨G0, g1, g2, g3, g4⟩ := hG0
    have f0 : ∀ p, H1 p = none ∨ (∃ k, ps[k]? = some p) → F0 p = none := fun p hp => by
      have hF : F p = none := by
        rcases hp with hp | ⟨k, hk⟩
        · exact E.st.fh.free (s.hh.free hp)
        · obtain ⟨_, _, _, e2, _⟩ := pn.at hk
          exact E.st.fh.free e2
      exact E.st.ff.free hF
    refine for_it walk_list (fun j σ H => ∃ G F ρ, Ex H0 G ∧ Ex F1 F ∧ G p0 = some (.lst (ps.map V.ref)) ∧ (∀ (k : Nat) p, ps[k]? = some p → j ≤ k → ∃ vs, G p = some (.lst vs) ∧ H1 p = some (.lst vs)) ∧ Env K L F0 G F H σ ρ ∧ WO K mg W L F0 H0 F D (loopL (ownB i g) (dss.drop j) ρ))
      ⟨G0, F1, ρ, g1, Ex.refl _, g2, g3, g4, by rw [List.drop_zero]; exact WO.mono s.ff po⟩
      (fun j σ H _ ⟨G, F, ρ, _, _, h3, _, E', _⟩ => .of (E'.st.hh _ _ h3)) ?_ ?_
    · rintro j x σ2 H2 H3 hlt ⟨G, F2, ρ2, h1, h2, h3, h4, E2, w2⟩ ⟨rfl, hx⟩
      rw [List.getElem?_map] at hx
      obtain ⟨p, hp, rfl⟩ := Option.map_eq_some_iff.mp hx
      obtain ⟨vs, ds, e1, e2, e3, e4, e5, e6⟩ := pn.at hp
      obtain ⟨vs', hGp, hHp⟩ := h4 j p hp (Nat.le_refl _)
      rw [e3] at hHp
      cases hHp
      have ed : dss.drop j = ds :: dss.drop (j + 1) := by
        obtain ⟨z1, z2⟩ := List.getElem?_eq_some_iff.mp e1
        rw [List.drop_eq_getElem_cons z1, z2]
      rw [ed] at w2
      have E3 := E2.take hGp (f0 p (.inr ⟨j, hp⟩)) (e5.mono h2) i
      have hp00 : H0 p = none := by
        cases q : H0 p with
        | none => rfl
        | some u => exact absurd (E.st.hh _ _ q) (by rw [e2]; simp)
      have x1 : Ex H0 (fun a => if a = p then none else G a) := fun a u q => by
        show (if _ then _ else _) = _
        rw [if_neg (fun z => by subst z; rw [hp00] at q; cases q)]
        exact h1 a u q
      have x3 : (fun a => if a = p then none else G a) p0 = some (.lst (ps.map V.ref)) := by
        show (if _ then _ else _) = _
        rw [if_neg (fun z => by subst z; rw [hp0] at e3; cases e3)]
        exact h3
      have x4 : ∀ (k : Nat) p', ps[k]? = some p' → j + 1 ≤ k → ∃ vs, (fun a => if a = p then none else G a) p' = some (.lst vs) ∧ H1 p' = some (.lst vs) := fun k p' hk hjk => by
        obtain ⟨vs', y1, y2⟩ := h4 k p' hk (by omega)
        refine ⟨vs', ?_, y2⟩
        show (if _ then _ else _) = _
        rw [if_neg (fun z => by subst z; exact e6 k (by omega) hk)]
        exact y1
      show t _ (σ2.set i (some (.ref p))) H3
      refine hb F0 _ F2 H3 _ _ _ E3 ?_
      have w3 : WO K mg W L F0 H0 F2 D (match g (ρ2.set i (.own (.lst ds))) with
        | .nx ρ' => loopL (ownB i g) (dss.drop (j + 1)) ρ'
        | .cont ρ' => loopL (ownB i g) (dss.drop (j + 1)) ρ'
        | .brk ρ' => .nx ρ'
        | o => o) := w2
      cases qq : g (ρ2.set i (.own (.lst ds))) with
      | nx ρ4 => rw [qq] at w3; exact fun F4 H4 σ4 e4 E4 => ⟨_, F4, ρ4, x1, h2.trans e4, x3, x4, E4, WO.mono e4 w3⟩
      | cont ρ4 => rw [qq] at w3; exact fun F4 H4 σ4 e4 E4 => ⟨_, F4, ρ4, x1, h2.trans e4, x3, x4, E4, WO.mono e4 w3⟩
      | brk ρ4 => rw [qq] at w3; exact WO.weak (o := .nx ρ4) x1 w3
      | ret d ρ => rw [qq] at w3; exact WO.weak (o := .ret d ρ) x1 w3
      | retL ds ρ => rw [qq] at w3; exact WO.weak (o := .retL ds ρ) x1 w3
      | exc n ρ => rw [qq] at w3; exact WO.weak (o := .exc n ρ) x1 w3
      | stuck => rw [qq] at w3; exact w3
    · rintro σ2 H2 ⟨G, F2, ρ2, h1, h2, h3, h4, E2, w2⟩
      rw [List.length_map, pn.len, List.drop_length] at w2
      exact w2 F2 H2 σ2 (Ex.refl _) (E2.weak h1)
end
end Dn

set_option Elab.async false
set_option linter.all false
set_option maxRecDepth 100000
set_option maxHeartbeats 4000000
/-! DenZR: tuple(reversed(x)), x a list or a tuple -/
namespace Dn
open PySem PySem.Spec PyProof.Rows L2
theorem nolen_rt : typeLookup (.type "reversed") "__len__" = pure none := by rw [typeLookup_type, builtinLookup_eq_fast]; kernel_rfl
theorem hint_rt : typeLookup (.type "reversed") "__length_hint__" = pure (some (.builtin "reversed.__length_hint__")) := by rw [typeLookup_type, builtinLookup_eq_fast]; kernel_rfl
theorem slot_rt_hint : Slot "reversed" "__length_hint__" "reversed.__length_hint__" :=
  .of (owner := "reversed") (n := "__length_hint__") (by rw [typeLookup_type, builtinLookup_eq_fast]; kernel_rfl) (by decide +kernel) (by decide +kernel) (by decide +kernel)
    (by first | exact .inl (by decide +kernel) | exact .inr (by decide +kernel)) (by rw [isSubtype_type]; kernel_rfl)
theorem entry_rt_hint : entryFor table "reversed.__length_hint__" = some Builtin.«reversed.__length_hint__» := entryFor_of_tree (by kernel_rfl)
theorem args_rt_hint (a : Value) : argsOk "reversed.__length_hint__" ⟨[a], []⟩ := by
  unfold argsOk; rw [signature?_of (id := "reversed.__length_hint__") (n := ['_', '_', 't', 'n', 'i', 'h', '_', 'h', 't', 'g', 'n', 'e', 'l', '_', '_']) (o := ['d', 'e', 's', 'r', 'e', 'v', 'e', 'r']) (by kernel_rfl) RT.owner_rt]; kernel_rfl
theorem bind_hint (self : Value) : bindSpecial (.builtin "reversed.__length_hint__") self = pure (.builtin "reversed.__length_hint__", [self]) := by
  unfold bindSpecial
  rfl
section
variable {prog : Program} {w : World} {A : Around} {E : Value → Shared → Prop} {s : Shared}
theorem call_rt_hint {it t : Addr} {items : Array Value} {Q : Value → Shared → Prop} (hit : RT.IsRt s.heap it t ((items.size : Int) - 1)) (ht : IsTup s.heap t items) (hsz : items.size ≤ sizeLine)
    (h : ∀ tk u, Q (.int (items.size : Int) u) { s with toks := tk }) : wpAny (model prog w) A (call (.builtin "reversed.__length_hint__") [.ref it]) Q E s := by
  obtain ⟨o, ho, hc, hd⟩ := id hit
  have hn := line63
  refine wpAny_call_entry slot_rt_hint hit.typeIs entry_rt_hint ?_ (args_rt_hint _)
  unfold Builtin.«reversed.__length_hint__»
  refine wpAny_bind (wpAny_of_eq (a := Value.ref it) rfl ?_)
  try dsimp only
  refine wpAny_bind (wpAny_field ho hd (x := .ref t) rfl ?_)
  try dsimp only
  try rw [if_neg (by decide)]
  try dsimp only
  refine wpAny_bind (len_tuple ht (by omega) ?_)
  refine wpAny_bind (wpAny_of_eq (a := some ((items.size : Nat) : Int)) rfl ?_)
  try dsimp only
  refine wpAny_bind (wpAny_field (s := { s with toks := s.toks + 1 + 1 }) ho hd (x := rawInt ((items.size : Int) - 1)) rfl ?_)
  show wpAny _ _ (if (items.size : Int) < ((items.size : Int) - 1) + 1 then _ else _) _ _ _
  rw [if_neg (by omega)]
  refine wpAny_ret_mkInt ?_
  rw [show ((items.size : Int) - 1) + 1 = (items.size : Int) by omega]
  exact h _ _
theorem hint_rev {it t : Addr} {items : Array Value} {Q : Bool → Shared → Prop} (hit : RT.IsRt s.heap it t ((items.size : Int) - 1)) (ht : IsTup s.heap t items) (hsz : items.size ≤ sizeLine)
    (h : ∀ b tk, Q b { s with toks := tk }) : wpAny (model prog w) A (Builtin.List.listLengthHint (.ref it)) Q E s := by
  have hT := hit.typeIs
  have hn := line63
  unfold Builtin.List.listLengthHint
  refine wpAny_bind (wpAny_specialOf hT nolen_rt ?_)
  try dsimp only
  show wpAny _ _ (specialOf (Value.ref it) (Str.ofString "__length_hint__") >>= _) _ _ _
  refine wpAny_bind (wpAny_specialOf hT hint_rt ?_)
  generalize hid : ("reversed.__length_hint__" : String) = id0
  wp_delta
  rw [show splitId id0 = some ("reversed", "__length_hint__") from by subst hid; decide +kernel]
  subst hid
  refine wpAny_bind (wpAny_isInstance (b := true) hT (by rw [isSubtype_type]; kernel_rfl) ?_)
  rw [if_neg (by decide)]
  rw [if_neg (by decide +kernel)]
  refine wpAny_bind (wpAny_rule ?_)
  refine wpAny_bind (wpAny_of_eq (bind_hint _) ?_)
  try dsimp only
  refine wpAny_bind (wpAny_attempt (call_rt_hint hit ht hsz fun tk u => ?_))
  have z0 : 0 ≤ ((items.size : Nat) : Int) := Int.natCast_nonneg _
  have z1 : ((items.size : Nat) : Int) ≤ 16777216 := by rw [sizeLine_eq] at hsz; omega
  generalize ((items.size : Nat) : Int) = z at z0 z1
  have f1 : Builtin.List.listFitsIndex z = true := by
    unfold Builtin.List.listFitsIndex
    rw [Bool.and_eq_true, decide_eq_true_eq, decide_eq_true_eq]
    exact ⟨Int.le_trans (by decide) z0, Int.lt_of_le_of_lt z1 (by decide)⟩
  have f2 : Builtin.List.listTooLong z.toNat = false := by
    unfold Builtin.List.listTooLong
    rw [sizeLine_eq]
    exact decide_eq_false (by omega)
  have f3 : ¬ z < 0 := by omega
  show wpAny _ _ (asInt? (Value.int z u) >>= _) _ _ _
  rw [show asInt? (Value.int z u) = pure (some z) from rfl]
  refine wpAny_bind (wpAny_pure ?_)
  try dsimp only
  rw [if_neg (by rw [f1]; decide)]
  try dsimp only
  rw [if_neg f3]
  try dsimp only
  rw [if_neg (by rw [f2]; exact Bool.false_ne_true)]
  exact wpAny_pure (h _ _)
theorem tup_at {h h' : Heap} {t : Addr} {items : Array Value} (x : IsTup h t items) (e : ∀ o, h.get? t = some o → h'.get? t = some o) : IsTup h' t items := let ⟨o, ho, r⟩ := x; ⟨o, e _ ho, r⟩
theorem Walks.tupRev {A : Around} (hh : A.handled = none) (I t : Addr) (hne : t ≠ I) (items : Array Value) (hsz : items.size ≤ sizeLine) :
    Walks prog w A I [I, t] [I] items.size (fun i v => items[items.size - 1 - i]? = some v) (fun i h => i ≤ items.size ∧ RT.IsRt h I t ((items.size : Int) - 1 - (i : Int)) ∧ IsTup h t items) where
  sub := fun b hb => by simp at hb; simp [hb]
  frame := fun _ _ _ x hk => ⟨x.1, x.2.1.at fun o e => hk I (by simp) o e, tup_at x.2.2 fun o e => hk t (by simp) o e⟩
  item := fun i s Q E hi x hQ => by
    have e : (items.size : Int) - 1 - (i : Int) = ((items.size - 1 - i : Nat) : Int) := by omega
    have hit := x.2.1
    rw [e] at hit
    have hx : items[items.size - 1 - i]? = some (items[items.size - 1 - i]'(by omega)) := Array.getElem?_eq_getElem (by omega)
    refine RT.next_rt_item hit x.2.2 hx hsz fun h' hit' hs' => ?_
    have e2 : ((items.size - 1 - i : Nat) : Int) - 1 = (items.size : Int) - 1 - ((i + 1 : Nat) : Int) := by omega
    rw [e2] at hit'
    exact hQ _ h' (s.toks + 1) hx ⟨hi, hit', tup_at x.2.2 fun o eo => (hs'.2 t hne).trans eo⟩ fun b o hb eo => hs'.extBut b o (fun h => hb (by simp [h])) eo
  done := fun s Q E x hQ => by
    have e : (items.size : Int) - 1 - (items.size : Int) = -1 := by omega
    have hit := x.2.1
    rw [e] at hit
    exact RT.next_rt_end hh hit fun h' he' => hQ h' s.toks fun b o hb eo => he' b o (fun h => hb (by simp [h])) eo
  self := fun _ _ _ _ x hQ => RT.iter_rt x.2.1 hQ
theorem collect_rt {it l : Addr} {items : Array Value} {Q : List Value → Shared → Prop} (hh : A.handled = none) (hit : RT.IsRt s.heap it l ((items.size : Int) - 1)) (hl : IsTup s.heap l items) (hne : l ≠ it) (hn : items.size ≤ sizeLine)
    (hQ : ∀ (h' : Heap) (tk : Nat) (acc : Array Value), (∀ b o, b ≠ it → s.heap.get? b = some o → h'.get? b = some o) → ItemsOf (fun i v => items[items.size - 1 - i]? = some v) acc items.size → Q acc.toList { s with heap := h', toks := tk }) :
    wpAny (model prog w) A (collect (.ref it)) Q E s := by
  have W := (Walks.tupRev (prog := prog) (w := w) (A := A.in1) hh it l hne items hn).toS
  obtain ⟨oi, hoi, _⟩ := id hit
  obtain ⟨ol, hol, _⟩ := id hl
  have hSi : s.heap.objs.size ≠ it := Nat.ne_of_gt (Heap.lt_size hoi)
  have hSl : s.heap.objs.size ≠ l := Nat.ne_of_gt (Heap.lt_size hol)
  have hSf : s.heap.objs.size ∉ [it, l] := by simp only [List.mem_cons, List.not_mem_nil, or_false, not_or]; exact ⟨hSi, hSl⟩
  unfold collect
  refine wpAny_bind (wpAny_runValue (codeAny_builtin F.entry_proto_collect ?_))
  rw [Around.under_plainId F.plain_proto_collect _]
  show wpAny _ A.in1 (newList [] >>= fun l' => again (.builtin "list.__iadd__" ⟨[l', .ref it], []⟩)) _ _ s
  refine wpAny_bind (wpAny_newObj_type ?_)
  refine wpAny_pure ⟨plainId_quiet F.plain_list_iadd _, codeAny_builtin F.entry_list_iadd ?_⟩
  rw [Around.under_plainId F.plain_list_iadd _]
  have hS₁ : (s.heap.push { cls := .type "list", data := .seq ([] : List Value).toArray }).get? s.heap.objs.size = some { cls := .type "list", data := .seq ([] : List Value).toArray } := Heap.get?_push_size _ rfl
  have hit1 : RT.IsRt (s.heap.push { cls := .type "list", data := .seq ([] : List Value).toArray }) it l ((items.size : Int) - 1) := hit.at fun o e => Heap.get?_push_of_some _ e
  have hl1 : IsTup (s.heap.push { cls := .type "list", data := .seq ([] : List Value).toArray }) l items := tup_at hl fun o e => Heap.get?_push_of_some _ e
  have hT : ({ s with heap := s.heap.push { cls := .type "list", data := .seq ([] : List Value).toArray } } : Shared).TypeIs (.ref it) "reversed" := RT.IsRt.typeIs (s := { s with heap := s.heap.push { cls := .type "list", data := .seq ([] : List Value).toArray } }) hit1
  have h1 : Builtin.List.listSameRef (.ref s.heap.objs.size) (.ref it) = false := by simp [Builtin.List.listSameRef, hSi]
  have e0 : ((items.size : Nat) : Int) - 1 - ((0 : Nat) : Int) = (items.size : Int) - 1 := by omega
  show wpAny _ A.in1 (Builtin.List.listExtendWith (.ref s.heap.objs.size) (.ref it) (.ref s.heap.objs.size)) _ _ _
  unfold Builtin.List.listExtendWith
  refine wpAny_bind (wpAny_typeOf hT ?_)
  rw [if_neg (by rw [h1]; decide)]
  refine wpAny_bind (RT.iter_rt (s := { s with heap := s.heap.push { cls := .type "list", data := .seq ([] : List Value).toArray } }) hit1 ?_)
  refine wpAny_bind (wpAny_holding ?_)
  refine hint_rev (s := { s with heap := s.heap.push { cls := .type "list", data := .seq ([] : List Value).toArray } }) hit1 hl1 hn fun b tk => ?_
  have fin : ∀ (h : Heap) (c₁ : Nat), RT.IsRt h it l ((items.size : Int) - 1) → IsTup h l items → (∀ b o, b ≠ it → s.heap.get? b = some o → h.get? b = some o) → h.get? s.heap.objs.size = some { cls := .type "list", data := .seq #[] c₁ } →
      ∀ (s' : Shared) (acc' : Array Value) (c' : Nat), Moved (s.heap.objs.size :: [it]) (fun a b => b = a) { s with heap := h, toks := tk } s' → s'.heap.get? s.heap.objs.size = some { cls := .type "list", dict := none, data := .seq acc' c', slots := #[] } → ItemsOf (fun i v => items[items.size - 1 - i]? = some v) acc' items.size →
      wpAny (model prog w) A (do
        let __do_lift ← load s.heap.objs.size
        match __do_lift.data with
          | Data.seq xs epoch => pure xs.toList
          | x => unsupported "internal:collect") Q E s' := by
    intro h c₁ g1 g2 g3 g4 s' acc' c' hm hS' hacc
    refine wpAny_bind (wpAny_load hS' ?_)
    refine wpAny_pure ?_
    rw [Moved.eq_with hm]
    refine hQ s'.heap s'.toks acc' (fun b o hb e => hm.heap b o (fun hmem => ?_) (g3 b o hb e)) hacc
    rcases List.mem_cons.mp hmem with e' | hmem
    · exact absurd (Heap.lt_size e) (by rw [e']; exact Nat.lt_irrefl _)
    · exact hb (List.mem_singleton.mp hmem)
  refine wpAny_ite_split (fun _ => ?_) (fun _ => ?_)
  · refine wpAny_bind (wpAny_rule ?_)
    refine wpAny_bind ?_
    show wpAny _ _ (updateSeq s.heap.objs.size (·.push .none) >>= fun _ => updateSeq s.heap.objs.size (·.pop)) _ _ _
    refine wpAny_bind (wpAny_updateSeq hS₁ rfl ?_)
    have hS₂ := Heap.get?_update_self (Obj.mapSeq (·.push Value.none)) hS₁ rfl
    refine wpAny_updateSeq (hz := by seq_fits) hS₂ rfl ?_
    have hS₃ := Heap.get?_update_self (Obj.mapSeq (·.pop)) hS₂ rfl
    have oth : ∀ b o, b ≠ s.heap.objs.size → (s.heap.push { cls := .type "list", data := .seq ([] : List Value).toArray }).get? b = some o → (((s.heap.push { cls := .type "list", data := .seq ([] : List Value).toArray }).update s.heap.objs.size (Obj.mapSeq (·.push Value.none))).update s.heap.objs.size (Obj.mapSeq (·.pop))).get? b = some o := fun b o hb e =>
      (Heap.get?_update_other _ _ (Ne.symm hb)).trans ((Heap.get?_update_other _ _ (Ne.symm hb)).trans e)
    have hit3 := hit1.at fun o e => oth it o (Ne.symm hSi) e
    have hl3 := tup_at hl1 fun o e => oth l o (Ne.symm hSl) e
    refine wpAny_pure ⟨plainId_quiet F.plain_extend_loop _, codeAny_extend_loopS W hn _ hSf _ items.size 0 _ _ _ rfl (Nat.zero_le _) ⟨Nat.zero_le _, by rw [e0]; exact hit3, hl3⟩ hS₃ (ItemsOf.nil _) fun s' acc' c' hm hS' hacc => ?_⟩
    exact fin _ _ hit3 hl3 (fun b o hb e => oth b o (Nat.ne_of_lt (Heap.lt_size e)) (Heap.get?_push_of_some _ e)) hS₃ s' acc' c' hm hS' hacc
  · refine wpAny_pure ⟨plainId_quiet F.plain_extend_loop _, codeAny_extend_loopS W hn _ hSf _ items.size 0 _ _ _ rfl (Nat.zero_le _) ⟨Nat.zero_le _, by rw [e0]; exact hit1, hl1⟩ hS₁ (ItemsOf.nil _) fun s' acc' c' hm hS' hacc => ?_⟩
    exact fin _ _ hit1 hl1 (fun b o hb e => Heap.get?_push_of_some _ e) hS₁ s' acc' c' hm hS' hacc
theorem code_tuple_new_rt {it l : Addr} {items : Array Value} {Q₁ : Value → Shared → Prop} (hh : A.handled = none) (hit : RT.IsRt s.heap it l ((items.size : Int) - 1)) (hl : IsTup s.heap l items) (hne : l ≠ it) (hn : items.size ≤ sizeLine)
    (h : ∀ (h' : Heap) (tk : Nat) (acc : Array Value), (∀ b o, b ≠ it → s.heap.get? b = some o → h'.get? b = some o) → ItemsOf (fun i v => items[items.size - 1 - i]? = some v) acc items.size →
      Q₁ (.ref h'.objs.size) { s with heap := h'.push { cls := .type "tuple", data := .seq acc }, toks := tk }) :
    codeAny (model prog w) A (.call (.builtin "tuple.__new__") ⟨[.type "tuple", .ref it], []⟩) (wants Q₁ E) s := by
  refine codeAny_of_tree ?_
  show wpAny _ A.in1 (do checkBuiltinCall "tuple.__new__" ⟨[.type "tuple", .ref it], []⟩; again (.builtin "tuple.__new__" ⟨[.type "tuple", .ref it], []⟩)) _ _ s
  refine wpAny_bind (wpAny_of_eq (F.newCall_tuple_1 _) (wpAny_pure ⟨plainId_quiet F.plain_tuple_new _, codeAny_builtin F.entry_tuple_new ?_⟩))
  rw [Around.under_plainId F.plain_tuple_new _]
  have hsub := sub_tuple_self
  have hinit := init_tuple_lookup
  have hmh := madeHere_tuple
  have hTI : s.TypeIs (.ref it) "reversed" := hit.typeIs
  have hh1 : A.in1.handled = none := hh
  wp_walk using wpAny_typeOf hTI, collect_rt (A := A.in1) hh1 hit hl hne hn
  intro h' tk acc hk hacc
  show wpAny _ _ (Builtin.Tuple.tupleExact acc.toList.toArray >>= fun v => ret v) _ _ _
  unfold Builtin.Tuple.tupleExact
  refine wpAny_bind (wpAny_newObj_type ?_ (by show acc.toList.toArray.size ≤ sizeLine; simp only [Array.toArray_toList]; rw [hacc.1]; exact hn))
  refine wpAny_pure ?_
  have e : acc.toList.toArray = acc := by simp
  rw [e]
  exact h h' tk acc hk hacc
theorem call_tuple_rt {it l : Addr} {items : Array Value} {Q : Value → Shared → Prop} (hh : A.handled = none) (hit : RT.IsRt s.heap it l ((items.size : Int) - 1)) (hl : IsTup s.heap l items) (hne : l ≠ it) (hn : items.size ≤ sizeLine)
    (hQ : ∀ (h' : Heap) (tk : Nat) (acc : Array Value), (∀ b o, b ≠ it → s.heap.get? b = some o → h'.get? b = some o) → ItemsOf (fun i v => items[items.size - 1 - i]? = some v) acc items.size →
      Q (.ref h'.objs.size) { s with heap := h'.push { cls := .type "tuple", data := .seq acc }, toks := tk }) :
    wpAny (model prog w) A (call (.type "tuple") [.ref it]) Q E s := by
  refine callType_codes (Q₁ := fun obj s₁ => s₁.TypeIs obj "tuple" ∧ Q obj s₁) F.called_tuple (F.typeCall_tuple_1 _) F.entry_object_init
    (code_tuple_new_rt (A := A.in1) hh hit hl hne hn fun h' tk acc hk hacc => ⟨⟨_, Heap.get?_push_size _ rfl, rfl⟩, hQ h' tk acc hk hacc⟩) fun obj s₁ h₁ => ?_
  exact ⟨h₁.1, F.args_object_init_2 obj _, object_init_meets F.called_tuple.init.lookup F.called_tuple.made (by decide) prog w A.in1 _ s₁ ⟨h₁.1, rfl, h₁.2⟩⟩
end
/-- tuple(reversed(x)), x a list or a tuple: a new tuple -/
def tTupRevA (K : PySem.W.Frag) (te : TE) : TE := fun σ H Q => te σ H fun v H1 => ∃ (a : Addr) (xs : List V), v = .ref a ∧ (SqL K H1 a xs ∨ SqT K H1 a xs) ∧ ∀ q, H1 q = none → Q (.ref q) (upd H1 q (.tup xs.reverse))
section
variable {X : Cx}
theorem pe_tupRevA {e : Expr} {te : TE} {p p2 pos pos2 : Pos} {K : PySem.W.Frag} (hc : X.calm = true) (hg : Gl X "tuple") (hm : X.mg "tuple" = none) (hg2 : Gl X "reversed") (hm2 : X.mg "reversed" = none) (he : PE X e te) (hK : X.K = K := by rfl)
    (hs : starEach [e] X.env = (false, eval e X.env) :: starEach [] X.env := by rfl)
    (hs2 : starEach [.Call (.Name "reversed" p2) [e] [] pos2] X.env = (false, eval (.Call (.Name "reversed" p2) [e] [] pos2) X.env) :: starEach [] X.env := by rfl) :
    PE X (.Call (.Name "tuple" p) [.Call (.Name "reversed" p2) [e] [] pos2] [] pos) (tTupRevA K te) := by
  subst hK
  refine ⟨fun pins s σ H Q I h => ?_⟩
  refine Call_ (ld_blt I hg hm boot_tuple (PyProof.Rows.callWith_type1 (args_cons (Call_ (ld_blt I hg2 hm2 PyProof.Rows.boot_reversed (PyProof.Rows.callWith_type1 (args_cons (thn (he.run pins s σ H _ I h) fun u s1 ⟨v, H1, I1, r1, q1⟩ => args_nil ?_) hs) hs rfl))) hs2) hs2 rfl))
  obtain ⟨a, xs, ev, hq, q⟩ := q1
  subst ev
  obtain rfl : u = Value.ref a := r1
  rcases hq with hq | hq
  · obtain ⟨its, rv, p', hz⟩ := I1.list hq
    refine call_reversed_list p'.isList (args_nil ?_)
    have k0 : ∀ b o, s1.heap.get? b = some o → (s1.heap.push (revObj a ((its.toArray.size : Int) - 1))).get? b = some o := fun b o e => Heap.get?_push_of_some _ e
    have I2 : Inv X pins σ H1 { s1 with heap := s1.heap.push (revObj a ((its.toArray.size : Int) - 1)) } := I1.kept (t' := s1.toks) k0
    obtain ⟨f0, f1, f2, f3, f4, f5⟩ := I1.fpOk (H' := H1) (b := s1.heap.objs.size) (Nat.le_refl _) (I1.hok.fresh (Nat.le_refl _))
    have hl := p'.isList
    obtain ⟨ol, hol, _⟩ := id hl
    have hne : a ≠ s1.heap.objs.size := Nat.ne_of_lt (Heap.lt_size hol)
    have hn : its.toArray.size ≤ sizeLine := by rw [List.size_toArray, ← rv.length]; exact hz
    refine RT.call_tuple_rev (s := { s1 with heap := s1.heap.push (revObj a ((its.toArray.size : Int) - 1)) }) (I1.ok.hd hc) ⟨_, Heap.get?_push_size _ rfl, rfl, rfl⟩ (hl.push _) hne hn fun h' tk acc hk hi => ?_
    have I3 : Inv X pins σ H1 { s1 with heap := h', toks := tk } := I2.turned (t' := tk) (fun b o hb e => hk b o hb e) f0 f1 f3 f4 f5
    refine ⟨.ref h'.objs.size, upd H1 h'.objs.size (.tup xs.reverse), I3.laid (t' := tk) (fun c o e => Heap.get?_push_of_some _ e) (Nat.le_refl _) (show ObjOk X.prog X.w _ _ _ (.tup xs.reverse) from ⟨by rw [List.length_reverse]; exact hz, acc.toList, RT.vals_rev rv hi, ?_⟩), rfl, q _ (I3.hok.fresh (Nat.le_refl _))⟩
    rw [Array.toArray_toList]
    exact IsTup.new _ _
  · obtain ⟨its, rv, p', hz⟩ := I1.tuple hq
    have hn63 := line63
    refine RT.call_reversed_tup p' (fun A E Q k => len_tuple p' (by simp only [List.size_toArray]; rw [← rv.length]; omega) k) (args_nil ?_)
    have k0 : ∀ b o, s1.heap.get? b = some o → (s1.heap.push (RT.rtObj a ((its.toArray.size : Int) - 1))).get? b = some o := fun b o e => Heap.get?_push_of_some _ e
    have I2 : Inv X pins σ H1 { s1 with heap := s1.heap.push (RT.rtObj a ((its.toArray.size : Int) - 1)), toks := s1.toks + 1 + 1 } := I1.kept (t' := s1.toks + 1 + 1) k0
    obtain ⟨f0, f1, f2, f3, f4, f5⟩ := I1.fpOk (H' := H1) (b := s1.heap.objs.size) (Nat.le_refl _) (I1.hok.fresh (Nat.le_refl _))
    obtain ⟨ol, hol, _⟩ := id p'
    have hne : a ≠ s1.heap.objs.size := Nat.ne_of_lt (Heap.lt_size hol)
    have hn : its.toArray.size ≤ sizeLine := by rw [List.size_toArray, ← rv.length]; exact hz
    refine call_tuple_rt (s := { s1 with heap := s1.heap.push (RT.rtObj a ((its.toArray.size : Int) - 1)), toks := s1.toks + 1 + 1 }) (I1.ok.hd hc) ⟨_, Heap.get?_push_size _ rfl, rfl, rfl⟩ (tup_at p' fun o e => Heap.get?_push_of_some _ e) hne hn fun h' tk acc hk hi => ?_
    have I3 : Inv X pins σ H1 { s1 with heap := h', toks := tk } := I2.turned (t' := tk) (fun b o hb e => hk b o hb e) f0 f1 f3 f4 f5
    refine ⟨.ref h'.objs.size, upd H1 h'.objs.size (.tup xs.reverse), I3.laid (t' := tk) (fun c o e => Heap.get?_push_of_some _ e) (Nat.le_refl _) (show ObjOk X.prog X.w _ _ _ (.tup xs.reverse) from ⟨by rw [List.length_reverse]; exact hz, acc.toList, RT.vals_rev rv hi, ?_⟩), rfl, q _ (I3.hok.fresh (Nat.le_refl _))⟩
    rw [Array.toArray_toList]
    exact IsTup.new _ _
/-- tuple(reversed(x)) -/
def trD : D → Option D
  | .list ds => some (.tuple ds.reverse)
  | .tuple ds => some (.tuple ds.reverse)
  | _ => none
def eTR (a : ME) : ME := fun ρ => (a ρ).bind fun d => lift (trD d)
@[simp] theorem eTR_ap {a : ME} {ρ : Fr} : eTR a ρ = (a ρ).bind fun d => lift (trD d) := rfl
@[simp] theorem trD_l {ds : List D} : trD (.list ds) = some (.tuple ds.reverse) := rfl
@[simp] theorem trD_t {ds : List D} : trD (.tuple ds) = some (.tuple ds.reverse) := rfl
variable {K : PySem.W.Frag} {L : Addr × Addr} {mg : Str → Option Value} {W : WX} {ta : TE} {a : ME}
theorem df_tupRev (ha : DE K L mg W ta a) : DF K L mg W (tTupRevA K ta) (eTR a) := fun F0 H0 F H σ ρ Q E p => by
  refine ha F0 H0 F H σ ρ _ E (post_mono (post_bind p) (fun d k F1 H1 x s1 r1 => ?_) fun _ z => z)
  obtain ⟨z, ez, k⟩ := post_lift k
  unfold trD at ez
  split at ez
  · cases ez
    obtain ⟨l, vs, rfl, h, r⟩ := r1.isl s1.fh
    exact ⟨l, vs, rfl, .inl (.of h), fun q hq => WF.newT s1.fh (WF.on s1 k) r.reverse q hq⟩
  · cases ez
    obtain ⟨l, vs, rfl, h, r, _⟩ := r1.ist s1.fh
    exact ⟨l, vs, rfl, .inr h, fun q hq => WF.newT s1.fh (WF.on s1 k) r.reverse q hq⟩
  · cases ez
end
end Dn

set_option Elab.async false
set_option linter.all false
set_option maxRecDepth 100000
set_option maxHeartbeats 4000000
/-! DenZS: tests that call a def which changes a list handed in; such defs that call themselves -/
namespace Dn
open PySem PySem.Spec PyProof.Rows L2
section
variable {K : PySem.W.Frag} {L : Addr × Addr} {mg : Str → Option Value} {W : WX} {F0 H0 F H : Hp} {σ : L2.St} {ρ : Fr} {t u : TS} {g h : MS} {uu : TT} {uf : MT}
def sNotM (i : Nat) (f : List D → M (List D × D)) (as : ML) (g h : MS) : MS := sCallM i f as fun d ρ => Out.of (toB d) ρ fun b => if b = true then h ρ else g ρ
def sNotMO (i : Nat) (f : List D → M (List D × D)) (as : ML) (uf : MT) (g h : MS) : MS := sCallM i f as fun d ρ => Out.of (toB d) ρ fun b => if b = true then sIf uf g h ρ else g ρ
theorem toB_rep {F1 : Hp} {v : V} {d : D} {b : Bool} (r : Rep K F1 v d) (h : toB d = .ok b) : v = .bl b := by
  unfold toB at h
  split at h
  · cases h
    cases r
    rfl
  · cases h
theorem of_toB {Dd : Ends} {d : D} {ρ : Fr} {k : Bool → Out} (w : WO K mg W L F0 H0 F Dd (Out.of (toB d) ρ k)) : ∃ b, toB d = .ok b ∧ WO K mg W L F0 H0 F Dd (k b) := by
  cases q : toB d with
  | ok b => rw [q] at w; exact ⟨b, rfl, w⟩
  | exc n =>
    exfalso
    unfold toB at q
    split at q <;> cases q
  | stuck => rw [q] at w; exact w.elim
theorem ds_ifNotM {i j : Nat} {f : List D → M (List D × D)} {tas : TA} {as : ML} (ha : DAJ K L mg W i j tas as) (h1 : DS K L mg W t g) (h2 : DS K L mg W u h) : DS K L mg W (tIfS (tNot (tB (tCallS (spM K mg j f) (WE W) tas))) t u) (sNotM i f as g h) := fun F0 H0 F H σ ρ Dd E w =>
  callM_core ha E w fun d F1 H1 v ρ1 e w1 E1 r => by
    obtain ⟨b, hb, w2⟩ := of_toB w1
    refine ⟨b, toB_rep r hb, ?_⟩
    cases b with
    | true => exact iteF (h2 F0 H0 F1 H1 σ ρ1 Dd E1 w2)
    | false => exact iteT (h1 F0 H0 F1 H1 σ ρ1 Dd E1 w2)
theorem ds_ifNotMO {i j : Nat} {f : List D → M (List D × D)} {tas : TA} {as : ML} (ha : DAJ K L mg W i j tas as) (hu : DT K L mg W uu uf) (h1 : DS K L mg W t g) (h2 : DS K L mg W u h) : DS K L mg W (tIfS (tOr (tNot (tB (tCallS (spM K mg j f) (WE W) tas))) uu) t u) (sNotMO i f as uf g h) := fun F0 H0 F H σ ρ Dd E w =>
  callM_core ha E w fun d F1 H1 v ρ1 e w1 E1 r => by
    obtain ⟨b, hb, w2⟩ := of_toB w1
    refine ⟨b, toB_rep r hb, ?_⟩
    cases b with
    | true => exact iteF (ds_if hu h1 h2 F0 H0 F1 H1 σ ρ1 Dd E1 w2)
    | false => exact iteT (iteT (h1 F0 H0 F1 H1 σ ρ1 Dd E1 w2))
@[simp] theorem sNotM_ap {i : Nat} {f : List D → M (List D × D)} {as : ML} : sNotM i f as g h ρ = sCallM i f as (fun d ρ => Out.of (toB d) ρ fun b => if b = true then h ρ else g ρ) ρ := rfl
@[simp] theorem sNotMO_ap {i : Nat} {f : List D → M (List D × D)} {as : ML} : sNotMO i f as uf g h ρ = sCallM i f as (fun d ρ => Out.of (toB d) ρ fun b => if b = true then sIf uf g h ρ else g ρ) ρ := rfl
end
section
variable {P : Program} {w : World} {K : PySem.W.Frag} {mg : Str → Option Value} {base : Heap}
theorem fn_stuckM {x : Str} {st : Stmt} {ps : List Str} {k j : Nat} (Df : DefAt K mg x st)
    (hb : ∀ (kV doc pm : Value) (an : Option Addr) (cdv ct : Value) (us : List Value), us.length = ps.length → bindArgs (PySem.W.fnOf x x (defArgs st) (defBody st) (defScope st) .none kV doc pm an cdv ct) ⟨us, []⟩ = pure (ps.zip us)) :
    FnAtM P w K mg base x ps k j (fun _ => .stuck) := by
  obtain ⟨f, fd, hm, F⟩ := Df
  have no : ∀ vs H Q E, ¬ spM K mg j (fun _ => .stuck) vs H Q E := fun vs H Q E h => by
    obtain ⟨F, ds, l, ws, _, _, _, _, p⟩ := h
    exact p
  exact ⟨f, fd, hm, F.kp, F.binds hb, ⟨fun vs H Q E h => (no vs H Q E h).elim, fun A outer s H args us vs Q E hr e b v h => (no vs H Q E h).elim⟩⟩
end
end Dn

set_option Elab.async false
set_option linter.all false
set_option maxRecDepth 100000
set_option maxHeartbeats 4000000
/-! DenZT: a call that hands in nothing -/
namespace Dn
open PySem PySem.Spec PyProof.Rows L2
section
variable {X : Cx} {CX : CXT} {k : Nat} {f : Addr} {fd : FuncData} {ps : List Str} {sp : Sp} {E : L2.St → XK} {x : Str} {p pos : Pos}
theorem pe_callS0 (F : FnOk X.prog X.w X.K X.mg X.base CX k f fd ps sp) (hr : Room k X.A) (hg : Gl X x) (hm : X.mg x = some (.ref f)) (hk : PySem.W.keepIn X.K (.ref f) = true) (hb : Binds X.K fd ps []) (hx : ∀ σ, PassesAt CX X σ (E σ))
    (hdb : (x == ("__debug__" : Str)) = false := by decide) : PE X (.Call (.Name x p) [] [] pos) (tCallS sp E tNil) := by
  refine ⟨fun pins s σ H Q I h => ?_⟩
  refine wpAny_Call_Name_kw (ld_glob I hg hm ?_ hdb)
  exact PySem.W.callWith_K0 I.kIn hk (run_fnS (us := []) (vs := []) F hr hb (hx σ) I .nil h)
end
end Dn

set_option Elab.async false
set_option linter.all false
set_option maxRecDepth 100000
set_option maxHeartbeats 4000000
/-! DenZU: == of data 180 deep; what is never reached -/
namespace Dn
open PySem PySem.Spec PyProof.Rows L2
/-! ### == of deep data -/
def shX (d : D) : Bool := d.canLay0 && decide (d.depth ≤ 180)
theorem shX_lay {d : D} (h : shX d = true) : d.canLay0 = true := (Bool.and_eq_true_iff.mp h).1
theorem shX_dep {d : D} (h : shX d = true) : d.depth ≤ 180 := of_decide_eq_true (Bool.and_eq_true_iff.mp h).2
theorem room_x {A : Around} {da db : D} (h : shX da = true) (hu : A.units + 190 < cLine) : A.units + min da.depth db.depth < cLine := by
  have h1 := shX_dep h
  have h2 : min da.depth db.depth ≤ da.depth := Nat.min_le_left _ _
  omega
def rEqX (K : PySem.W.Frag) : R2 := fun x y H Q => ∃ d e, Dp K H x d ∧ Dp K H y e ∧ shX d = true ∧ shX e = true ∧ Q (.bl (PyData.eqv d e)) H
section
variable {X : Cx} {K : PySem.W.Frag}
theorem op_eqX (hu : X.A.units + 190 < cLine) : OpR X (compareOp .Eq) (rEqX X.K) := by
  intro pins s σ H x y v u Q I rx ry h
  obtain ⟨d, e, hd, he, sd, se, q⟩ := h
  obtain ⟨as, r1⟩ := Dp.reads I d x v hd rx
  obtain ⟨bs, r2⟩ := Dp.reads I e y u he ry
  exact SeqAt.compareEq_reads r1 r2 (shX_lay sd) (shX_lay se) (room_x sd hu) ⟨.bl _, H, I, rfl, q⟩
theorem kEqX (hu : X.A.units + 190 < cLine) (h : X.K = K := by rfl) : OpR X (compareOp .Eq) (rEqX K) := h ▸ op_eqX hu
end
theorem hu190 {A : Around} {k : Nat} (h : Room k A) : A.units + 190 < cLine := by have := h.un; omega
def eqXD (d e : D) : Option D := if shX d && shX e then some (.bool (PyData.eqv d e)) else none
section
variable {K : PySem.W.Frag}
theorem rd_eqX : R2D K (rEqX K) eqXD := by
  intro F H x y d e Q z ex rx ry h k
  unfold eqXD at h
  split at h
  · rename_i c
    rw [Bool.and_eq_true] at c
    cases h
    exact ⟨d, e, (rx.now ex).dp (shX_lay c.1), (ry.now ex).dp (shX_lay c.2), c.1, c.2, k.here ex (.bl _)⟩
  · cases h
end
/-! ### what is never reached -/
section
variable {X : Cx} {e : Expr} {st : Stmt} {ss : List Stmt} {es : List Expr}
theorem pe_any : PE X e (fun _ _ _ => False) := ⟨fun _ _ _ _ _ _ h => h.elim⟩
theorem pt_any : PT X e (fun _ _ _ => False) := ⟨fun _ _ _ _ _ _ h => h.elim⟩
theorem pa_any : PA X es (fun _ _ _ => False) := ⟨fun _ _ _ _ _ _ _ h => h.elim⟩
theorem ps_any : PS X st (fun _ _ _ => False) := ⟨fun _ _ _ _ _ _ h => h.elim⟩
theorem pss_any : PSs X ss (fun _ _ _ => False) := ⟨fun _ _ _ _ _ _ h => h.elim⟩
end
def eStk : ME := fun _ => .stuck
def sStk : MS := fun _ => .stuck
@[simp] theorem eStk_ap {ρ : Fr} : eStk ρ = .stuck := rfl
@[simp] theorem sStk_ap {ρ : Fr} : sStk ρ = .stuck := rfl
section
variable {K : PySem.W.Frag} {L : Addr × Addr} {mg : Str → Option Value} {W : WX}
theorem df_stk : DF K L mg W (fun _ _ _ => False) eStk := fun _ _ _ _ _ _ _ _ p => p.elim
theorem ds_stk : DS K L mg W (fun _ _ _ => False) sStk := fun _ _ _ _ _ _ _ _ w => w.elim
end
end Dn

set_option Elab.async false
set_option linter.all false
set_option maxRecDepth 100000
set_option maxHeartbeats 4000000
/-! Ln: lines of things, plain -/
namespace Dn
open PySem L2
def idx0 (n : Nat) : List Int := (List.range n).map fun i : Nat => (i : Int)
theorem idx0_len (n : Nat) : (idx0 n).length = n := by unfold idx0; simp
theorem idx0_mem {n : Nat} {x : Int} : x ∈ idx0 n ↔ 0 ≤ x ∧ x < n := by
  unfold idx0
  rw [List.mem_map]
  constructor
  · rintro ⟨i, hi, rfl⟩
    rw [List.mem_range] at hi
    omega
  · rintro ⟨h0, h1⟩
    exact ⟨x.toNat, by rw [List.mem_range]; omega, by omega⟩
theorem idx0_nodup (n : Nat) : (idx0 n).Nodup := by
  unfold idx0
  rw [List.Nodup, List.pairwise_map]
  exact List.Pairwise.imp (fun {a b} h => by omega) (List.pairwise_lt_range (n := n))
theorem idx0_sorted (n : Nat) : (idx0 n).Pairwise (· ≤ ·) := by
  unfold idx0
  rw [List.pairwise_map]
  exact List.Pairwise.imp (fun {a b} h => by omega) (List.pairwise_lt_range (n := n))
theorem idx0_rng (n : Nat) : rngL 0 (n : Int) = (idx0 n).map PyData.int := by
  unfold rngL idx0
  rw [List.map_map, show ((n : Int) - 0).toNat = n by omega]
  refine List.map_congr_left fun i _ => ?_
  show PyData.int (0 + (i : Int)) = PyData.int (i : Int)
  rw [Int.zero_add]
theorem idx0_succ (n : Nat) : idx0 (n + 1) = idx0 n ++ [(n : Int)] := by
  unfold idx0
  rw [List.range_succ, List.map_append]
  rfl
/-- a line: each thing once -/
def Line (ns : List Int) : Prop := ns.Perm (idx0 ns.length)
theorem line_sort {ns : List Int} (h : Line ns) : sortI ns = idx0 ns.length :=
  List.Perm.eq_of_pairwise (le := (· ≤ ·)) (fun a b _ _ h1 h2 => Int.le_antisymm h1 h2) (sortI_sorted ns) (idx0_sorted _) ((sortI_perm ns).trans h)
theorem line_of_sort {ns : List Int} (h : sortI ns = idx0 ns.length) : Line ns := by
  unfold Line
  rw [← h]
  exact (sortI_perm ns).symm
theorem line_ins {ns : List Int} (h : Line ns) (s : Nat) : Line (ns.take s ++ [(ns.length : Int)] ++ ns.drop s) := by
  unfold Line
  have e : (ns.take s ++ [(ns.length : Int)] ++ ns.drop s).length = ns.length + 1 := by
    simp only [List.length_append, List.length_take, List.length_drop, List.length_singleton]
    omega
  rw [e, idx0_succ]
  refine List.Perm.trans ?_ ((List.perm_append_comm (l₁ := [(ns.length : Int)])).trans (h.append_right _))
  rw [List.append_assoc, List.singleton_append]
  refine List.perm_middle.trans ?_
  rw [List.take_append_drop]
  rfl
theorem line_perm {ns ms : List Int} (h : Line ns) (p : ms.Perm ns) : Line ms := by
  unfold Line
  rw [p.length_eq]
  exact p.trans h
/-- the pieces of a line at four places -/
theorem pieces {l : List Int} {a b c d : Nat} (h1 : a < b) (h2 : b ≤ c) (h3 : c < d) (h4 : d ≤ l.length) :
    ∃ A B C D E : List Int, l = A ++ (B ++ (C ++ (D ++ E))) ∧ A.length = a ∧ a + B.length = b ∧ b + C.length = c ∧ c + D.length = d := by
  refine ⟨l.take a, (l.drop a).take (b - a), (l.drop b).take (c - b), (l.drop c).take (d - c), l.drop d, ?_, ?_, ?_, ?_, ?_⟩
  · rw [show l.drop d = (l.drop c).drop (d - c) by rw [List.drop_drop]; congr 1; omega, List.take_append_drop,
      show l.drop c = (l.drop b).drop (c - b) by rw [List.drop_drop]; congr 1; omega, List.take_append_drop,
      show l.drop b = (l.drop a).drop (b - a) by rw [List.drop_drop]; congr 1; omega, List.take_append_drop, List.take_append_drop]
  · rw [List.length_take]; omega
  · rw [List.length_take, List.length_drop]; omega
  · rw [List.length_take, List.length_drop]; omega
  · rw [List.length_take, List.length_drop]; omega
section
variable {α : Type} {A B C D E : List α}
theorem cut_to (f : α → PyData) (a : Nat) (h : A.length = a) : cutL ((A ++ B).map f) none (some (a : Int)) = A.map f := by
  rw [cutL_to, List.map_append, ← h]
  exact List.take_left' (List.length_map ..)
theorem cut_from (f : α → PyData) (a : Nat) (h : A.length = a) : cutL ((A ++ B).map f) (some (a : Int)) none = B.map f := by
  rw [cutL_from, List.map_append, ← h]
  exact List.drop_left' (List.length_map ..)
theorem cut_mid (f : α → PyData) (a b : Nat) (h : A.length = a) (h2 : a + B.length = b) : cutL ((A ++ (B ++ C)).map f) (some (a : Int)) (some (b : Int)) = B.map f := by
  rw [cutL_both, List.map_append, ← h, List.drop_left' (List.length_map ..), List.map_append]
  exact List.take_left' (by rw [List.length_map]; omega)
end
/-- a list all of whose places have been read is a line's cut -/
theorem get_pieces {A B C : List Int} {j : Nat} (h : A.length ≤ j) (h2 : j < A.length + B.length) : (A ++ (B ++ C))[j]? = B[j - A.length]? := by
  rw [List.getElem?_append_right h, List.getElem?_append_left (by omega)]
end Dn

set_option Elab.async false
set_option linter.all false
set_option maxRecDepth 100000
set_option maxHeartbeats 4000000
/-! Sh: stretches shared, plain -/
namespace Dn
open PySem L2
theorem idx0_add (a b : Nat) : idx0 (a + b) = idx0 a ++ (idx0 b).map (· + (a : Int)) := by
  unfold idx0
  rw [List.range_add, List.map_append, List.map_map, List.map_map]
  congr 1
  refine List.map_congr_left fun i _ => ?_
  show ((a + i : Nat) : Int) = (i : Int) + a
  omega
theorem line_join {l r : List Int} (L : Line l) (R : Line r) : Line (l ++ r.map (· + (l.length : Int))) := by
  unfold Line at *
  rw [List.length_append, List.length_map, idx0_add]
  exact L.append (R.map _)
theorem line_join' {l r : List Int} (L : Line l) (R : Line r) : Line (l.map (· + (r.length : Int)) ++ r) := by
  refine line_perm (line_join R L) ?_
  exact List.perm_append_comm
section
variable {t : Nat} {r : Nat → Int} {a b c d : Nat}
/-- what lies between lies within -/
def Cv (t : Nat) (r : Nat → Int) (a c : Nat) : Prop := a < c ∧ c ≤ t ∧ ∀ i j p, a ≤ i → i < c → a ≤ j → j < c → p < t → r i ≤ r p → r p ≤ r j → a ≤ p ∧ p < c
theorem cv_mid (h1 : Cv t r a c) (h2 : Cv t r b d) (ab : a < b) (bc : b < c) (cd : c < d) : Cv t r b c :=
  ⟨bc, h1.2.1, fun i j p i1 i2 j1 j2 pt q1 q2 => by
    have x := h1.2.2 i j p (by omega) (by omega) (by omega) (by omega) pt q1 q2
    have y := h2.2.2 i j p (by omega) (by omega) (by omega) (by omega) pt q1 q2
    omega⟩
theorem cv_all (h1 : Cv t r a c) (h2 : Cv t r b d) (ab : a < b) (bc : b < c) (cd : c < d) : Cv t r a d := by
  have dt := h2.2.1
  refine ⟨by omega, dt, fun i j p i1 i2 j1 j2 pt q1 q2 => ?_⟩
  have f1 : ∀ i j, a ≤ i → i < c → a ≤ j → j < c → r i ≤ r p → r p ≤ r j → a ≤ p ∧ p < d := fun i j i1 i2 j1 j2 q1 q2 => by
    have := h1.2.2 i j p i1 i2 j1 j2 pt q1 q2; omega
  have f2 : ∀ i j, b ≤ i → i < d → b ≤ j → j < d → r i ≤ r p → r p ≤ r j → a ≤ p ∧ p < d := fun i j i1 i2 j1 j2 q1 q2 => by
    have := h2.2.2 i j p i1 i2 j1 j2 pt q1 q2; omega
  by_cases ib : i < c
  · by_cases jb : j < c
    · exact f1 i j i1 ib j1 jb q1 q2
    · by_cases m : r p ≤ r b
      · exact f1 i b i1 ib (by omega) (by omega) q1 m
      · exact f2 b j (by omega) (by omega) (by omega) j2 (by omega) q2
  · by_cases jb : b ≤ j
    · exact f2 i j (by omega) i2 jb j2 q1 q2
    · by_cases m : r p ≤ r b
      · exact f2 i b (by omega) i2 (by omega) (by omega) q1 m
      · exact f1 b j (by omega) (by omega) j1 (by omega) (by omega) q2
theorem cv_left (h1 : Cv t r a c) (h2 : Cv t r b d) (ab : a < b) (bc : b < c) (cd : c < d) : Cv t r a b := by
  have dt := h2.2.1
  refine ⟨ab, by omega, fun i j p i1 i2 j1 j2 pt q1 q2 => ?_⟩
  have x := h1.2.2 i j p (by omega) (by omega) (by omega) (by omega) pt q1 q2
  refine ⟨x.1, Nat.lt_of_not_le fun pb => ?_⟩
  by_cases m1 : r c ≤ r i
  · have := h2.2.2 c p i (by omega) (by omega) (by omega) (by omega) (by omega) m1 q1; omega
  by_cases m2 : r j ≤ r c
  · have := h2.2.2 p c j (by omega) (by omega) (by omega) (by omega) (by omega) q2 m2; omega
  have := h1.2.2 i j c (by omega) (by omega) (by omega) (by omega) (by omega) (by omega) (by omega)
  omega
theorem cv_right (h1 : Cv t r a c) (h2 : Cv t r b d) (ab : a < b) (bc : b < c) (cd : c < d) : Cv t r c d := by
  have dt := h2.2.1
  refine ⟨cd, by omega, fun i j p i1 i2 j1 j2 pt q1 q2 => ?_⟩
  have x := h2.2.2 i j p (by omega) (by omega) (by omega) (by omega) pt q1 q2
  refine ⟨Nat.le_of_not_lt fun pc => ?_, x.2⟩
  by_cases m1 : r a ≤ r i
  · have := h1.2.2 a p i (by omega) (by omega) (by omega) (by omega) (by omega) m1 q1; omega
  by_cases m2 : r j ≤ r a
  · have := h1.2.2 p a j (by omega) (by omega) (by omega) (by omega) (by omega) q2 m2; omega
  have := h2.2.2 i j a (by omega) (by omega) (by omega) (by omega) (by omega) (by omega) (by omega)
  omega
/-- the least and the greatest of k + 1 from a on -/
def lo (r : Nat → Int) (a : Nat) : Nat → Int
  | 0 => r a
  | k + 1 => min (lo r a k) (r (a + (k + 1)))
def hi (r : Nat → Int) (a : Nat) : Nat → Int
  | 0 => r a
  | k + 1 => max (hi r a k) (r (a + (k + 1)))
theorem lo_le : ∀ (k i : Nat), i ≤ k → lo r a k ≤ r (a + i)
  | 0, i, h => by rw [show i = 0 by omega]; exact Int.le_refl _
  | k + 1, i, h => by
    unfold lo
    by_cases e : i = k + 1
    · subst e; omega
    · have := lo_le k i (by omega); omega
theorem le_hi : ∀ (k i : Nat), i ≤ k → r (a + i) ≤ hi r a k
  | 0, i, h => by rw [show i = 0 by omega]; exact Int.le_refl _
  | k + 1, i, h => by
    unfold hi
    by_cases e : i = k + 1
    · subst e; omega
    · have := le_hi k i (by omega); omega
theorem lo_at : ∀ k : Nat, ∃ i, i ≤ k ∧ lo r a k = r (a + i)
  | 0 => ⟨0, Nat.le_refl _, rfl⟩
  | k + 1 => by
    obtain ⟨i, hi, e⟩ := lo_at k
    unfold lo
    by_cases c : lo r a k ≤ r (a + (k + 1))
    · exact ⟨i, by omega, by omega⟩
    · exact ⟨k + 1, by omega, by omega⟩
theorem hi_at : ∀ k : Nat, ∃ i, i ≤ k ∧ hi r a k = r (a + i)
  | 0 => ⟨0, Nat.le_refl _, rfl⟩
  | k + 1 => by
    obtain ⟨i, h, e⟩ := hi_at k
    unfold hi
    by_cases c : r (a + (k + 1)) ≤ hi r a k
    · exact ⟨i, by omega, by omega⟩
    · exact ⟨k + 1, by omega, by omega⟩
theorem nd_len {α : Type} [DecidableEq α] : ∀ (l xs : List α), l.Nodup → (∀ a ∈ l, a ∈ xs) → l.length ≤ xs.length
  | [], xs, _, _ => Nat.zero_le _
  | a :: l, xs, nd, hs => by
    rw [List.nodup_cons] at nd
    have ha := hs a List.mem_cons_self
    have p := (List.perm_cons_erase ha).length_eq
    have := nd_len l (xs.erase a) nd.2 (fun b hb => (List.mem_erase_of_ne (fun z : b = a => nd.1 (z ▸ hb))).mpr (hs b (List.mem_cons_of_mem _ hb)))
    rw [List.length_cons] at p ⊢
    omega
/-- a row of ranks -/
structure Rk (t : Nat) (r : Nat → Int) : Prop where
  inj : ∀ i j, i < t → j < t → r i = r j → i = j
  rng : ∀ i, i < t → 0 ≤ r i ∧ r i < t
  sur : ∀ v : Int, 0 ≤ v → v < t → ∃ i, i < t ∧ r i = v
theorem cv_iff (R : Rk t r) {k : Nat} (h : a + k < t) : hi r a k - lo r a k = k ↔ Cv t r a (a + k + 1) := by
  have slice : ((List.range (k + 1)).map fun i => r (a + i)).Nodup := by
    rw [List.Nodup, List.pairwise_map]
    refine (List.pairwise_lt_range (n := k + 1)).imp_of_mem fun {x y} hx hy hxy z => ?_
    rw [List.mem_range] at hx hy
    have := R.inj _ _ (by omega) (by omega) z
    omega
  have L := le_hi (r := r) (a := a) k
  have M := lo_le (r := r) (a := a) k
  have lh : lo r a k ≤ hi r a k := Int.le_trans (M 0 (Nat.zero_le _)) (L 0 (Nat.zero_le _))
  have iv : ∀ v : Int, lo r a k ≤ v → v ≤ hi r a k → v ∈ (List.range (hi r a k - lo r a k + 1).toNat).map fun i : Nat => lo r a k + (i : Int) := fun v h1 h2 =>
    List.mem_map.mpr ⟨(v - lo r a k).toNat, List.mem_range.mpr (by omega), by omega⟩
  constructor
  · intro e
    refine ⟨by omega, by omega, fun i j p i1 i2 j1 j2 pt q1 q2 => ?_⟩
    by_cases c : a ≤ p ∧ p < a + k + 1
    · exact c
    · exfalso
      have nd : (r p :: (List.range (k + 1)).map fun i => r (a + i)).Nodup := by
        rw [List.nodup_cons]
        refine ⟨fun hm => ?_, slice⟩
        obtain ⟨x, hx, ex⟩ := List.mem_map.mp hm
        rw [List.mem_range] at hx
        have := R.inj _ _ (by omega) pt ex
        omega
      have hi' := M (i - a) (by omega)
      have hj' := L (j - a) (by omega)
      rw [show a + (i - a) = i by omega] at hi'
      rw [show a + (j - a) = j by omega] at hj'
      have := nd_len _ _ nd (fun v hv => by
        rcases List.mem_cons.mp hv with rfl | hv
        · exact iv _ (by omega) (by omega)
        · obtain ⟨x, hx, rfl⟩ := List.mem_map.mp hv
          rw [List.mem_range] at hx
          exact iv _ (M x (by omega)) (L x (by omega)))
      simp only [List.length_cons, List.length_map, List.length_range] at this
      omega
  · intro C
    have up := nd_len _ _ slice (fun v hv => by
      obtain ⟨x, hx, rfl⟩ := List.mem_map.mp hv
      rw [List.mem_range] at hx
      exact iv _ (M x (by omega)) (L x (by omega)))
    have nd2 : ((List.range (hi r a k - lo r a k + 1).toNat).map fun i : Nat => lo r a k + (i : Int)).Nodup := by
      rw [List.Nodup, List.pairwise_map]
      exact (List.pairwise_lt_range (n := (hi r a k - lo r a k + 1).toNat)).imp fun {x y} h => by omega
    obtain ⟨i, i1, i2⟩ := lo_at (r := r) (a := a) k
    obtain ⟨j, j1, j2⟩ := hi_at (r := r) (a := a) k
    have ri := R.rng (a + i) (by omega)
    have rj := R.rng (a + j) (by omega)
    have dn := nd_len _ ((List.range (k + 1)).map fun i => r (a + i)) nd2 (fun v hv => by
      obtain ⟨x, hx, rfl⟩ := List.mem_map.mp hv
      rw [List.mem_range] at hx
      obtain ⟨p, pt, pe⟩ := R.sur (lo r a k + (x : Int)) (by omega) (by omega)
      have := C.2.2 (a + i) (a + j) p (by omega) (by omega) (by omega) (by omega) pt (by omega) (by omega)
      exact List.mem_map.mpr ⟨p - a, List.mem_range.mpr (by omega), by rw [show a + (p - a) = p by omega]; exact pe⟩)
    simp only [List.length_map, List.length_range] at up dn
    omega
/-- the pairs told -/
def shL (t : Nat) (r : Nat → Int) : List (Nat × Nat) := (List.range t).flatMap fun a => ((List.range (t - a)).filter fun k => decide (hi r a k - lo r a k = k)).map fun k => (a, a + k + 1)
theorem shL_mem (R : Rk t r) : (a, c) ∈ shL t r ↔ Cv t r a c := by
  unfold shL
  rw [List.mem_flatMap]
  constructor
  · rintro ⟨x, hx, h⟩
    rw [List.mem_range] at hx
    obtain ⟨k, hk, e⟩ := List.mem_map.mp h
    rw [List.mem_filter, List.mem_range] at hk
    cases e
    exact (cv_iff R (by omega)).mp (of_decide_eq_true hk.2)
  · intro C
    have c1 := C.1
    have c2 := C.2.1
    refine ⟨a, List.mem_range.mpr (by omega), List.mem_map.mpr ⟨c - a - 1, ?_, by rw [show a + (c - a - 1) + 1 = c by omega]⟩⟩
    rw [List.mem_filter, List.mem_range]
    refine ⟨by omega, decide_eq_true ((cv_iff R (by omega)).mpr ?_)⟩
    rw [show a + (c - a - 1) + 1 = c by omega]
    exact C
theorem line_rk {l : List Int} (L : Line l) : Rk l.length fun i => l.getD i 0 := by
  have nd := L.nodup_iff.mpr (idx0_nodup _)
  have g : ∀ i (h : i < l.length), l.getD i 0 = l[i] := fun i h => by rw [List.getD_eq_getElem?_getD, List.getElem?_eq_getElem h]; rfl
  refine ⟨fun i j hi hj e => ?_, fun i hi => ?_, fun v h0 h1 => ?_⟩
  · show i = j
    have e : l.getD i 0 = l.getD j 0 := e
    rw [g i hi, g j hj] at e
    exact (List.getElem_inj nd).mp e
  · show 0 ≤ l.getD i 0 ∧ l.getD i 0 < l.length
    rw [g i hi]
    exact idx0_mem.mp (L.mem_iff.mp (List.getElem_mem hi))
  · have := L.mem_iff.mpr (idx0_mem.mpr ⟨h0, h1⟩)
    obtain ⟨i, hi, e⟩ := List.mem_iff_getElem.mp this
    exact ⟨i, hi, (g i hi).trans e⟩
end
end Dn

set_option Elab.async false
set_option linter.all false
set_option maxRecDepth 100000
set_option maxHeartbeats 4000000
/-! Kp: turns that keep stretches, plain -/
namespace Dn
open PySem L2
def Ov (p s : Nat × Nat) : Prop := (p.1 < s.1 ∧ s.1 < p.2 ∧ p.2 < s.2) ∨ (s.1 < p.1 ∧ p.1 < s.2 ∧ s.2 < p.2)
instance (p s : Nat × Nat) : Decidable (Ov p s) := by unfold Ov; exact inferInstance
def NoOv (E : List (Nat × Nat)) (p : Nat × Nat) : Prop := ∀ s ∈ E, ¬ Ov p s
instance (E : List (Nat × Nat)) (p : Nat × Nat) : Decidable (NoOv E p) := by unfold NoOv; exact inferInstance
/-- the turns (first, last) that overlap none -/
def keepL (t : Nat) (E : List (Nat × Nat)) : List (Nat × Nat) := (List.range t).flatMap fun a => ((List.range (t - a)).filter fun k => decide (NoOv E (a, a + k + 1))).map fun k => (a, a + k)
def overF (c : Nat → Int) (s : Nat × Nat) : Nat → Int := fun p => if s.1 < p ∧ p < s.2 then min (c p) (s.2 : Int) else c p
def backF (c : Nat → Int) (s : Nat × Nat) : Nat → Int := fun p => if s.1 < p ∧ p < s.2 then max (c p) (s.1 : Int) else c p
theorem over_lt : ∀ (E : List (Nat × Nat)) (c : Nat → Int) (p : Nat) (x : Int), x < (E.foldl overF c) p ↔ x < c p ∧ ∀ s ∈ E, s.1 < p → p < s.2 → x < (s.2 : Int)
  | [], c, p, x => by simp
  | s :: E, c, p, x => by
    rw [List.foldl_cons, over_lt E (overF c s) p x]
    unfold overF
    constructor
    · rintro ⟨h1, h2⟩
      split at h1
      · refine ⟨by omega, fun u hu a b => ?_⟩
        rcases List.mem_cons.mp hu with rfl | hu
        · omega
        · exact h2 u hu a b
      · rename_i hc
        refine ⟨h1, fun u hu a b => ?_⟩
        rcases List.mem_cons.mp hu with rfl | hu
        · exact absurd ⟨a, b⟩ hc
        · exact h2 u hu a b
    · rintro ⟨h1, h2⟩
      refine ⟨?_, fun u hu => h2 u (List.mem_cons_of_mem _ hu)⟩
      split
      · rename_i hc
        have := h2 s List.mem_cons_self hc.1 hc.2
        omega
      · exact h1
theorem back_le : ∀ (E : List (Nat × Nat)) (c : Nat → Int) (p : Nat) (x : Int), (E.foldl backF c) p ≤ x ↔ c p ≤ x ∧ ∀ s ∈ E, s.1 < p → p < s.2 → (s.1 : Int) ≤ x
  | [], c, p, x => by simp
  | s :: E, c, p, x => by
    rw [List.foldl_cons, back_le E (backF c s) p x]
    unfold backF
    constructor
    · rintro ⟨h1, h2⟩
      split at h1
      · refine ⟨by omega, fun u hu a b => ?_⟩
        rcases List.mem_cons.mp hu with rfl | hu
        · omega
        · exact h2 u hu a b
      · rename_i hc
        refine ⟨h1, fun u hu a b => ?_⟩
        rcases List.mem_cons.mp hu with rfl | hu
        · exact absurd ⟨a, b⟩ hc
        · exact h2 u hu a b
    · rintro ⟨h1, h2⟩
      refine ⟨?_, fun u hu => h2 u (List.mem_cons_of_mem _ hu)⟩
      split
      · rename_i hc
        have := h2 s List.mem_cons_self hc.1 hc.2
        omega
      · exact h1
theorem keep_iff {t a k : Nat} (h : a + k < t) (E : List (Nat × Nat)) : (((a + k : Nat) : Int) < (E.foldl overF fun _ => (t : Int) + 1) a ∧ (E.foldl backF fun _ => -1) (a + k + 1) ≤ (a : Int)) ↔ NoOv E (a, a + k + 1) := by
  rw [over_lt, back_le]
  unfold NoOv Ov
  constructor
  · rintro ⟨⟨_, h1⟩, ⟨_, h2⟩⟩ s hs
    rintro (⟨u, v, w⟩ | ⟨u, v, w⟩)
    · have := h2 s hs (by show s.1 < a + k + 1; exact v) (by show a + k + 1 < s.2; exact w)
      have u : a < s.1 := u
      omega
    · have := h1 s hs u v
      have w : s.2 < a + k + 1 := w
      omega
  · intro h0
    refine ⟨⟨by omega, fun s hs u v => ?_⟩, ⟨by omega, fun s hs u v => ?_⟩⟩
    · apply Int.not_le.mp
      intro z
      exact h0 s hs (.inr ⟨u, v, by show s.2 < a + k + 1; omega⟩)
    · apply Int.not_lt.mp
      intro z
      exact h0 s hs (.inl ⟨by show a < s.1; omega, u, v⟩)
def tabI (n : Nat) (c : Nat → Int) : List Int := (List.range n).map c
theorem tabI_len {n : Nat} {c : Nat → Int} : (tabI n c).length = n := by unfold tabI; simp
theorem tabI_get {n : Nat} {c : Nat → Int} {i : Nat} (h : i < n) : (tabI n c)[i]? = some (c i) := by unfold tabI; simp [h]
theorem tabI_set {n : Nat} {c : Nat → Int} (i : Nat) (v : Int) : (tabI n c).set i v = tabI n fun j => if j = i then v else c j := by
  refine List.ext_getElem? fun j => ?_
  by_cases hj : j < n
  · rw [tabI_get hj]
    by_cases e : i = j
    · subst e
      rw [List.getElem?_set_self (by rw [tabI_len]; exact hj), if_pos rfl]
    · rw [List.getElem?_set_ne e, tabI_get hj, if_neg (fun z => e z.symm)]
  · rw [List.getElem?_eq_none (by rw [List.length_set, tabI_len]; omega), List.getElem?_eq_none (by rw [tabI_len]; omega)]
theorem tabI_congr {n : Nat} {c d : Nat → Int} (h : ∀ i, i < n → c i = d i) : tabI n c = tabI n d := by
  unfold tabI
  exact List.map_congr_left fun i hi => h i (List.mem_range.mp hi)
end Dn

set_option Elab.async false
set_option linter.all false
set_option maxRecDepth 100000
set_option maxHeartbeats 4000000
/-! Lam: the strong stretches, plain; a family none of which overlap is small -/
namespace Dn
open PySem L2
/-- those of a list that overlap none of it -/
def strL (E : List (Nat × Nat)) : List (Nat × Nat) := E.filter fun s => decide (NoOv E s)
theorem strL_mem {E : List (Nat × Nat)} {s : Nat × Nat} : s ∈ strL E ↔ s ∈ E ∧ NoOv E s := by
  unfold strL; rw [List.mem_filter, decide_eq_true_eq]
/-- the greatest end below b of a stretch of the family that begins at a -/
def lastE (F : List (Nat × Nat)) (a b : Nat) : Nat := F.foldl (fun m s => if s.1 = a ∧ s.2 < b ∧ m < s.2 then s.2 else m) 0
theorem lastE_ge : ∀ (F : List (Nat × Nat)) (a b m : Nat), m ≤ F.foldl (fun m s => if s.1 = a ∧ s.2 < b ∧ m < s.2 then s.2 else m) m ∧ ∀ s ∈ F, s.1 = a → s.2 < b → s.2 ≤ F.foldl (fun m s => if s.1 = a ∧ s.2 < b ∧ m < s.2 then s.2 else m) m
  | [], a, b, m => ⟨Nat.le_refl _, fun s h => by cases h⟩
  | s :: F, a, b, m => by
    rw [List.foldl_cons]
    obtain ⟨h1, h2⟩ := lastE_ge F a b (if s.1 = a ∧ s.2 < b ∧ m < s.2 then s.2 else m)
    have hm : m ≤ (if s.1 = a ∧ s.2 < b ∧ m < s.2 then s.2 else m) ∧ (s.1 = a → s.2 < b → s.2 ≤ (if s.1 = a ∧ s.2 < b ∧ m < s.2 then s.2 else m)) := by
      split
      · exact ⟨by omega, fun _ _ => by omega⟩
      · exact ⟨by omega, fun _ _ => by omega⟩
    generalize (if s.1 = a ∧ s.2 < b ∧ m < s.2 then s.2 else m) = w at *
    refine ⟨Nat.le_trans hm.1 h1, fun u hu e1 e2 => ?_⟩
    rcases List.mem_cons.mp hu with rfl | hu
    · exact Nat.le_trans (hm.2 e1 e2) h1
    · exact h2 u hu e1 e2
theorem lastE_mem : ∀ (F : List (Nat × Nat)) (a b m : Nat), F.foldl (fun m s => if s.1 = a ∧ s.2 < b ∧ m < s.2 then s.2 else m) m = m ∨ ((a, F.foldl (fun m s => if s.1 = a ∧ s.2 < b ∧ m < s.2 then s.2 else m) m) ∈ F ∧ F.foldl (fun m s => if s.1 = a ∧ s.2 < b ∧ m < s.2 then s.2 else m) m < b)
  | [], a, b, m => .inl rfl
  | s :: F, a, b, m => by
    rw [List.foldl_cons]
    rcases lastE_mem F a b (if s.1 = a ∧ s.2 < b ∧ m < s.2 then s.2 else m) with h | ⟨h1, h2⟩
    · rw [h]
      split
      · rename_i c
        refine .inr ⟨?_, c.2.1⟩
        obtain ⟨x, y⟩ := s
        obtain ⟨c1, c2, c3⟩ := c
        subst c1
        exact List.mem_cons_self
      · exact .inl rfl
    · exact .inr ⟨List.mem_cons_of_mem _ h1, h2⟩
/-- a family of stretches of t things, each one once, none of which overlap, with the single things -/
theorem lam_len {t : Nat} {F : List (Nat × Nat)} (ht : 0 < t) (nd : F.Nodup) (st : ∀ s ∈ F, s.1 < s.2 ∧ s.2 ≤ t) (no : ∀ s ∈ F, NoOv F s) (one : ∀ a, a < t → (a, a + 1) ∈ F) : F.length ≤ 2 * t - 1 := by
  have key : ∀ s ∈ F, s.1 + 1 < s.2 → (s.1, lastE F s.1 s.2) ∈ F ∧ s.1 < lastE F s.1 s.2 ∧ lastE F s.1 s.2 < s.2 := fun s hs h => by
    have g := (lastE_ge F s.1 s.2 0).2 (s.1, s.1 + 1) (one s.1 (by have := st s hs; omega)) rfl h
    rcases lastE_mem F s.1 s.2 0 with e | e
    · rw [e] at g
      exact absurd g (by show ¬ (s.1 + 1 ≤ 0); omega)
    · exact ⟨e.1, by unfold lastE; exact Nat.lt_of_lt_of_le (Nat.lt_succ_self _) g, e.2⟩
  let c : Nat × Nat → Nat := fun s => if s.2 = s.1 + 1 then s.1 else t + lastE F s.1 s.2 - 1
  have inj : ∀ s ∈ F, ∀ u ∈ F, c s = c u → s = u := fun s hs u hu e => by
    have e : (if s.2 = s.1 + 1 then s.1 else t + lastE F s.1 s.2 - 1) = if u.2 = u.1 + 1 then u.1 else t + lastE F u.1 u.2 - 1 := e
    have ss := st s hs
    have uu := st u hu
    by_cases a : s.2 = s.1 + 1
    · rw [if_pos a] at e
      by_cases b : u.2 = u.1 + 1
      · rw [if_pos b] at e
        exact Prod.ext e (by omega)
      · rw [if_neg b] at e
        have := key u hu (by omega)
        omega
    · rw [if_neg a] at e
      have ks := key s hs (by omega)
      by_cases b : u.2 = u.1 + 1
      · rw [if_pos b] at e
        omega
      · rw [if_neg b] at e
        have ku := key u hu (by omega)
        have el : lastE F s.1 s.2 = lastE F u.1 u.2 := by omega
        have n1 : ¬ Ov s u := no s hs u hu
        have n2 : ¬ Ov (s.1, lastE F s.1 s.2) u := no _ ks.1 u hu
        have n3 : ¬ Ov (u.1, lastE F u.1 u.2) s := no _ ku.1 s hs
        have g1 := (lastE_ge F s.1 s.2 0).2 u hu
        have g2 := (lastE_ge F u.1 u.2 0).2 s hs
        have g1 : u.1 = s.1 → u.2 < s.2 → u.2 ≤ lastE F s.1 s.2 := g1
        have g2 : s.1 = u.1 → s.2 < u.2 → s.2 ≤ lastE F u.1 u.2 := g2
        unfold Ov at n1 n2 n3
        simp only at n2 n3
        rw [← el] at ku n3 g2
        generalize lastE F s.1 s.2 = w at *
        exact Prod.ext (by omega) (by omega)
  have h := nd_len (F.map c) (List.range (2 * t - 1)) (by
    rw [List.Nodup, List.pairwise_map]
    exact List.Pairwise.imp_of_mem (fun ha hb ne e => ne (inj _ ha _ hb e)) nd) fun x hx => by
      obtain ⟨s, hs, rfl⟩ := List.mem_map.mp hx
      rw [List.mem_range]
      show (if s.2 = s.1 + 1 then s.1 else t + lastE F s.1 s.2 - 1) < _
      have ss := st s hs
      split
      · omega
      · have := key s hs (by omega)
        omega
  rw [List.length_map, List.length_range] at h
  exact h
section
variable {t : Nat} {r : Nat → Int}
theorem cv_one (K : Rk t r) {a : Nat} (h : a < t) : Cv t r a (a + 1) := ⟨by omega, by omega, fun i j p i1 i2 j1 j2 pt q1 q2 => by
  have e1 : i = a := by omega
  have e2 : j = a := by omega
  rw [e1] at q1
  rw [e2] at q2
  have := K.inj p a pt h (by omega)
  omega⟩
theorem cv_whole (h : 0 < t) : Cv t r 0 t := ⟨h, Nat.le_refl _, fun i j p i1 i2 j1 j2 pt q1 q2 => ⟨by omega, pt⟩⟩
theorem shL_st (K : Rk t r) {s : Nat × Nat} (h : s ∈ shL t r) : s.1 < s.2 ∧ s.2 ≤ t := by
  obtain ⟨a, c⟩ := s
  have := (shL_mem K).mp h
  exact ⟨this.1, this.2.1⟩
theorem noOv_one {E : List (Nat × Nat)} {a : Nat} : NoOv E (a, a + 1) := fun s _ h => by
  unfold Ov at h; simp only at h; omega
theorem noOv_whole (K : Rk t r) : NoOv (shL t r) (0, t) := fun s hs h => by
  have := shL_st K hs
  unfold Ov at h; simp only at h; omega
theorem shL_nd : (shL t r).Nodup := by
  unfold shL
  rw [List.Nodup, List.pairwise_flatMap]
  refine ⟨fun a _ => ?_, ?_⟩
  · rw [List.pairwise_map]
    exact List.Pairwise.imp (fun h e => h (by have := congrArg Prod.snd e; simp only at this; omega)) ((List.nodup_range (n := t - a)).filter _)
  · refine List.Pairwise.imp (fun {a b} h x hx y hy e => ?_) (List.nodup_range (n := t))
    obtain ⟨_, _, rfl⟩ := List.mem_map.mp hx
    obtain ⟨_, _, rfl⟩ := List.mem_map.mp hy
    exact h (congrArg Prod.fst e)
theorem str_len (K : Rk t r) (ht : 0 < t) : (strL (shL t r)).length ≤ 2 * t - 1 := by
  refine lam_len ht (shL_nd.filter _) (fun s hs => shL_st K (strL_mem.mp hs).1) (fun s hs u hu => (strL_mem.mp hs).2 u (strL_mem.mp hu).1) fun a ha => strL_mem.mpr ⟨(shL_mem K).mpr (cv_one K ha), noOv_one⟩
end
end Dn

set_option Elab.async false
set_option linter.all false
set_option maxRecDepth 100000
set_option maxHeartbeats 4000000
/-! Nt: nests, plain: the greatest parts within a stretch, their uniqueness, turned about -/
namespace Dn
open PySem L2
def Wi (s u : Nat × Nat) : Prop := s.1 ≤ u.1 ∧ u.2 ≤ s.2
instance (s u : Nat × Nat) : Decidable (Wi s u) := by unfold Wi; infer_instance
/-- a family of stretches none of which overlap, with the single ones of s, and s -/
structure Fam (E : List (Nat × Nat)) (s : Nat × Nat) : Prop where
  st : ∀ u ∈ E, u.1 < u.2
  no : ∀ u ∈ E, ∀ v ∈ E, ¬ Ov u v
  one : ∀ i, s.1 ≤ i → i < s.2 → (i, i + 1) ∈ E
  me : s ∈ E
def bstF (s : Nat × Nat) (p : Nat) (m : Nat) (u : Nat × Nat) : Nat := if u.1 = p ∧ u ≠ s ∧ m < u.2 ∧ u.2 ≤ s.2 then u.2 else m
/-- the end of the greatest one but s that begins at p -/
def bst (E : List (Nat × Nat)) (s : Nat × Nat) (p : Nat) : Nat := E.foldl (bstF s p) (p + 1)
theorem bst_ge (s : Nat × Nat) (p : Nat) : ∀ (E : List (Nat × Nat)) (m : Nat), m ≤ E.foldl (bstF s p) m ∧ ∀ u ∈ E, u.1 = p → u ≠ s → u.2 ≤ s.2 → u.2 ≤ E.foldl (bstF s p) m
  | [], m => ⟨Nat.le_refl _, fun u h => by cases h⟩
  | v :: E, m => by
    rw [List.foldl_cons]
    obtain ⟨h1, h2⟩ := bst_ge s p E (bstF s p m v)
    have hm : m ≤ bstF s p m v ∧ (v.1 = p → v ≠ s → v.2 ≤ s.2 → v.2 ≤ bstF s p m v) := by
      unfold bstF
      split
      · exact ⟨by omega, fun _ _ _ => Nat.le_refl _⟩
      · rename_i c
        refine ⟨Nat.le_refl _, fun a b d => ?_⟩
        rcases Nat.lt_or_ge m v.2 with z | z
        · exact absurd ⟨a, b, z, d⟩ c
        · exact z
    refine ⟨Nat.le_trans hm.1 h1, fun u hu a b c => ?_⟩
    rcases List.mem_cons.mp hu with rfl | hu
    · exact Nat.le_trans (hm.2 a b c) h1
    · exact h2 u hu a b c
theorem bst_mem (s : Nat × Nat) (p : Nat) : ∀ (E : List (Nat × Nat)) (m : Nat), E.foldl (bstF s p) m = m ∨ ((p, E.foldl (bstF s p) m) ∈ E ∧ (p, E.foldl (bstF s p) m) ≠ s ∧ E.foldl (bstF s p) m ≤ s.2)
  | [], m => .inl rfl
  | v :: E, m => by
    rw [List.foldl_cons]
    rcases bst_mem s p E (bstF s p m v) with h | ⟨h1, h2, h3⟩
    · rw [h]
      unfold bstF
      split
      · rename_i c
        obtain ⟨c1, c2, c3, c4⟩ := c
        have e : (p, v.2) = v := Prod.ext c1.symm rfl
        rw [e]
        exact .inr ⟨List.mem_cons_self, c2, c4⟩
      · exact .inl rfl
    · exact .inr ⟨List.mem_cons_of_mem _ h1, h2, h3⟩
/-- a greatest one within s, but s -/
def Mx (E : List (Nat × Nat)) (s u : Nat × Nat) : Prop := u ∈ E ∧ u ≠ s ∧ Wi s u ∧ ∀ v ∈ E, v ≠ s → Wi s v → Wi v u → v = u
/-- stretches that follow one another from a to b -/
def Chn : Nat → Nat → List (Nat × Nat) → Prop
  | a, b, [] => a = b
  | a, b, u :: l => u.1 = a ∧ a < u.2 ∧ Chn u.2 b l
theorem chn_le : ∀ {l : List (Nat × Nat)} {a b : Nat}, Chn a b l → a ≤ b
  | [], a, b, h => Nat.le_of_eq h
  | u :: l, a, b, h => by
    have := chn_le h.2.2
    have := h.2.1
    omega
theorem chn_app : ∀ {l m : List (Nat × Nat)} {a b c : Nat}, Chn a b l → Chn b c m → Chn a c (l ++ m)
  | [], m, a, b, c, h, g => by cases h; exact g
  | u :: l, m, a, b, c, h, g => ⟨h.1, h.2.1, chn_app h.2.2 g⟩
theorem chn_st : ∀ {l : List (Nat × Nat)} {a b : Nat}, Chn a b l → ∀ u ∈ l, a ≤ u.1 ∧ u.1 < u.2 ∧ u.2 ≤ b
  | v :: l, a, b, h, u, hu => by
    have h1 := h.1
    have h2 := h.2.1
    have h3 := chn_le h.2.2
    rcases List.mem_cons.mp hu with e | hu
    · subst e; omega
    · have := chn_st h.2.2 u hu
      omega
theorem chn_pw : ∀ {l : List (Nat × Nat)} {a b : Nat}, Chn a b l → l.Pairwise fun u v => u.2 ≤ v.1
  | [], _, _, _ => .nil
  | u :: l, a, b, h => .cons (fun v hv => (chn_st h.2.2 v hv).1) (chn_pw h.2.2)
theorem chn_uniq {E : List (Nat × Nat)} {s : Nat × Nat} {b : Nat} : ∀ {l m : List (Nat × Nat)} {a : Nat}, Chn a b l → Chn a b m → (∀ u ∈ l, Mx E s u) → (∀ u ∈ m, Mx E s u) → l = m
  | [], [], _, _, _, _, _ => rfl
  | [], v :: m, a, h, g, _, _ => by
    cases h
    have := chn_le g.2.2
    have := g.2.1
    omega
  | u :: l, [], a, h, g, _, _ => by
    cases g
    have := chn_le h.2.2
    have := h.2.1
    omega
  | u :: l, v :: m, a, h, g, hl, hm => by
    have mu := hl u List.mem_cons_self
    have mv := hm v List.mem_cons_self
    have e : u = v := by
      rcases Nat.le_total u.2 v.2 with z | z
      · exact (mu.2.2.2 v mv.1 mv.2.1 mv.2.2.1 ⟨by rw [h.1, g.1]; exact Nat.le_refl _, z⟩).symm
      · exact mv.2.2.2 u mu.1 mu.2.1 mu.2.2.1 ⟨by rw [h.1, g.1]; exact Nat.le_refl _, z⟩
    subst e
    rw [chn_uniq h.2.2 g.2.2 (fun w hw => hl w (List.mem_cons_of_mem _ hw)) fun w hw => hm w (List.mem_cons_of_mem _ hw)]
def partsF (E : List (Nat × Nat)) (s : Nat × Nat) : Nat → Nat → List (Nat × Nat)
  | 0, _ => []
  | k + 1, p => if p < s.2 then (p, bst E s p) :: partsF E s k (bst E s p) else []
section
variable {E : List (Nat × Nat)} {s : Nat × Nat}
theorem bst_at (F : Fam E s) (h2 : s.1 + 1 < s.2) {p : Nat} (p1 : s.1 ≤ p) (p2 : p < s.2) : (p, bst E s p) ∈ E ∧ (p, bst E s p) ≠ s ∧ p < bst E s p ∧ bst E s p ≤ s.2 := by
  have g := (bst_ge s p E (p + 1)).1
  have g' : p + 1 ≤ bst E s p := g
  rcases bst_mem s p E (p + 1) with h | ⟨a, b, c⟩
  · have h' : bst E s p = p + 1 := h
    rw [h']
    refine ⟨F.one p p1 p2, fun z => ?_, by omega, by omega⟩
    rw [← z] at h2
    exact absurd h2 (by show ¬ (p + 1 < p + 1); omega)
  · exact ⟨a, b, by omega, c⟩
theorem parts_of (F : Fam E s) (h2 : s.1 + 1 < s.2) : ∀ (k p : Nat), s.1 ≤ p → p ≤ s.2 → s.2 - p ≤ k → (p = s.1 ∨ ∃ q, Mx E s (q, p)) → Chn p s.2 (partsF E s k p) ∧ ∀ u ∈ partsF E s k p, Mx E s u
  | 0, p, p1, p2, pk, _ => by
    unfold partsF
    exact ⟨by show p = s.2; omega, fun u h => by cases h⟩
  | k + 1, p, p1, p2, pk, pv => by
    unfold partsF
    by_cases c : p < s.2
    · rw [if_pos c]
      obtain ⟨b1, b2, b3, b4⟩ := bst_at F h2 p1 c
      have mx : Mx E s (p, bst E s p) := by
        refine ⟨b1, b2, ⟨p1, b4⟩, fun v hv vs ws wv => ?_⟩
        obtain ⟨w1, w2⟩ := wv
        have w1 : v.1 ≤ p := w1
        have w2 : bst E s p ≤ v.2 := w2
        have same : v.1 = p → v = (p, bst E s p) := fun e => by
          have := (bst_ge s p E (p + 1)).2 v hv e vs ws.2
          have : v.2 ≤ bst E s p := this
          exact Prod.ext e (by show v.2 = bst E s p; omega)
        rcases pv with e | ⟨q, mq⟩
        · exact same (by have := ws.1; omega)
        · rcases Nat.lt_or_ge v.1 p with z | z
          · exfalso
            have hq := F.st _ mq.1
            have hq : q < p := hq
            rcases Nat.lt_or_ge q v.1 with y | y
            · exact F.no _ mq.1 v hv (.inl ⟨y, z, by show p < v.2; omega⟩)
            · have e := mq.2.2.2 v hv vs ws ⟨y, by show p ≤ v.2; omega⟩
              rw [e] at w2
              have w2 : bst E s p ≤ p := w2
              omega
          · exact same (by omega)
      obtain ⟨r1, r2⟩ := parts_of F h2 k (bst E s p) (by omega) b4 (by omega) (.inr ⟨p, mx⟩)
      refine ⟨⟨rfl, b3, r1⟩, fun u hu => ?_⟩
      rcases List.mem_cons.mp hu with e | hu
      · rw [e]; exact mx
      · exact r2 u hu
    · rw [if_neg c]
      exact ⟨by show p = s.2; omega, fun u h => by cases h⟩
end
/-- all parts of a stretch -/
def prt (E : List (Nat × Nat)) (s : Nat × Nat) : List (Nat × Nat) := partsF E s (s.2 - s.1) s.1
theorem prt_of {E : List (Nat × Nat)} {s : Nat × Nat} (F : Fam E s) (h2 : s.1 + 1 < s.2) : Chn s.1 s.2 (prt E s) ∧ ∀ u ∈ prt E s, Mx E s u := parts_of F h2 _ _ (Nat.le_refl _) (by omega) (Nat.le_refl _) (.inl rfl)
/-- the family within a stretch -/
def inn (E : List (Nat × Nat)) (s : Nat × Nat) : List (Nat × Nat) := E.filter fun u => decide (Wi s u)
theorem inn_mem {E : List (Nat × Nat)} {s u : Nat × Nat} : u ∈ inn E s ↔ u ∈ E ∧ Wi s u := by unfold inn; rw [List.mem_filter, decide_eq_true_eq]
theorem inn_fam {E : List (Nat × Nat)} {s u : Nat × Nat} (F : Fam E s) (hu : u ∈ E) (w : Wi s u) : Fam (inn E u) u where
  st := fun v hv => F.st v (inn_mem.mp hv).1
  no := fun v hv w hw => F.no v (inn_mem.mp hv).1 w (inn_mem.mp hw).1
  one := fun i h1 h2 => inn_mem.mpr ⟨F.one i (by have := w.1; omega) (by have := w.2; omega), h1, h2⟩
  me := inn_mem.mpr ⟨hu, Nat.le_refl _, Nat.le_refl _⟩
/-! ### turned about -/
def mS (t : Nat) (u : Nat × Nat) : Nat × Nat := (t - u.2, t - u.1)
theorem mS_mS {t : Nat} {u : Nat × Nat} (h1 : u.1 ≤ t) (h2 : u.2 ≤ t) : mS t (mS t u) = u := by
  unfold mS
  exact Prod.ext (by show t - (t - u.1) = u.1; omega) (by show t - (t - u.2) = u.2; omega)
structure Mir (t : Nat) (E E' : List (Nat × Nat)) : Prop where
  b : ∀ u ∈ E, u.1 < u.2 ∧ u.2 ≤ t
  b' : ∀ u ∈ E', u.1 < u.2 ∧ u.2 ≤ t
  m : ∀ u ∈ E, mS t u ∈ E'
  m' : ∀ u ∈ E', mS t u ∈ E
theorem Mir.symm {t : Nat} {E E' : List (Nat × Nat)} (M : Mir t E E') : Mir t E' E := ⟨M.b', M.b, M.m', M.m⟩
section
variable {t : Nat} {E E' : List (Nat × Nat)} {s u : Nat × Nat}
theorem wi_mir {s u : Nat × Nat} (s1 : s.1 < s.2 ∧ s.2 ≤ t) (u1 : u.1 < u.2 ∧ u.2 ≤ t) (w : Wi s u) : Wi (mS t s) (mS t u) := by
  unfold Wi mS at *
  simp only
  omega
theorem mS_inj {s u : Nat × Nat} (s1 : s.1 < s.2 ∧ s.2 ≤ t) (u1 : u.1 < u.2 ∧ u.2 ≤ t) (e : mS t s = mS t u) : s = u := by
  rw [← mS_mS (t := t) (u := s) (by omega) s1.2, e, mS_mS (by omega) u1.2]
theorem mS_st (u1 : u.1 < u.2 ∧ u.2 ≤ t) : (mS t u).1 < (mS t u).2 ∧ (mS t u).2 ≤ t := by unfold mS; simp only; omega
theorem mx_mir (M : Mir t E E') (hs : s ∈ E) (h : Mx E s u) : Mx E' (mS t s) (mS t u) := by
  obtain ⟨h1, h2, h3, h4⟩ := h
  have su := M.b s hs
  have uu := M.b u h1
  refine ⟨M.m u h1, fun e => h2 (mS_inj uu su e), wi_mir su uu h3, fun v hv vs ws wv => ?_⟩
  have vv := M.b' v hv
  have e := h4 (mS t v) (M.m' v hv) (fun z => vs ?_) ?_ ?_
  · rw [← e, mS_mS (by omega) vv.2]
  · rw [← z, mS_mS (by omega) vv.2]
  · have := wi_mir (mS_st su) vv ws
    rw [mS_mS (by omega) su.2] at this
    exact this
  · have := wi_mir vv (mS_st uu) wv
    rw [mS_mS (by omega) uu.2] at this
    exact this
theorem chn_mir : ∀ {l : List (Nat × Nat)} {a b : Nat}, Chn a b l → b ≤ t → Chn (t - b) (t - a) (l.map (mS t)).reverse
  | [], a, b, h, _ => by cases h; rfl
  | u :: l, a, b, h, hb => by
    have h1 := h.1
    have h2 := h.2.1
    have h3 := chn_le h.2.2
    rw [List.map_cons, List.reverse_cons]
    refine chn_app (chn_mir h.2.2 hb) ⟨rfl, ?_, ?_⟩
    · show t - u.2 < t - u.1
      omega
    · show t - u.1 = t - a
      omega
theorem inn_mir (M : Mir t E E') (hs : s ∈ E) : Mir t (inn E s) (inn E' (mS t s)) where
  b := fun u h => M.b u (inn_mem.mp h).1
  b' := fun u h => M.b' u (inn_mem.mp h).1
  m := fun u h => inn_mem.mpr ⟨M.m u (inn_mem.mp h).1, wi_mir (M.b s hs) (M.b u (inn_mem.mp h).1) (inn_mem.mp h).2⟩
  m' := fun u h => by
    have := wi_mir (mS_st (M.b s hs)) (M.b' u (inn_mem.mp h).1) (inn_mem.mp h).2
    rw [mS_mS (by have := M.b s hs; omega) (M.b s hs).2] at this
    exact inn_mem.mpr ⟨M.m' u (inn_mem.mp h).1, this⟩
theorem fam_mir (M : Mir t E E') (F : Fam E s) : Fam E' (mS t s) where
  st := fun u h => (M.b' u h).1
  no := fun u hu v hv o => by
    have uu := M.b' u hu
    have vv := M.b' v hv
    refine F.no _ (M.m' u hu) _ (M.m' v hv) ?_
    unfold Ov mS at *
    simp only
    omega
  one := fun i h1 h2 => by
    have ss := M.b s F.me
    have h1 : t - s.2 ≤ i := h1
    have h2 : i < t - s.1 := h2
    have := M.m _ (F.one (t - 1 - i) (by omega) (by omega))
    have e : mS t (t - 1 - i, t - 1 - i + 1) = (i, i + 1) := Prod.ext (by show t - (t - 1 - i + 1) = i; omega) (by show t - (t - 1 - i) = i + 1; omega)
    rw [e] at this
    exact this
  me := M.m s F.me
theorem prt_mir (M : Mir t E E') (F : Fam E s) (h2 : s.1 + 1 < s.2) : prt E' (mS t s) = ((prt E s).map (mS t)).reverse := by
  have ss := M.b s F.me
  obtain ⟨c1, m1⟩ := prt_of F h2
  obtain ⟨c2, m2⟩ := prt_of (fam_mir M F) (by show t - s.2 + 1 < t - s.1; omega)
  refine chn_uniq c2 (chn_mir c1 ss.2) m2 fun u hu => ?_
  obtain ⟨v, hv, rfl⟩ := List.mem_map.mp (List.mem_reverse.mp hu)
  exact mx_mir M F.me (m1 v hv)
end
/-! ### how the parts stand -/
def lwL (r : Nat → Int) (L : List (Nat × Nat)) : List Int := L.map fun u => lo r u.1 (u.2 - u.1 - 1)
def kindB (l : List Int) : Nat := if l = sortI l then 0 else if l = (sortI l).reverse then 1 else 2
theorem sortI_of_sorted {l : List Int} (h : l.Pairwise (· ≤ ·)) : sortI l = l := List.Perm.eq_of_pairwise (le := (· ≤ ·)) (fun a b _ _ h1 h2 => Int.le_antisymm h1 h2) (sortI_sorted _) h (sortI_perm l)
theorem sortI_rev (l : List Int) : sortI l.reverse = sortI l := List.Perm.eq_of_pairwise (le := (· ≤ ·)) (fun a b _ _ h1 h2 => Int.le_antisymm h1 h2) (sortI_sorted _) (sortI_sorted _) ((sortI_perm _).trans ((List.reverse_perm l).trans (sortI_perm l).symm))
/-- turned about, what rises falls -/
theorem kind_rev {l : List Int} (nd : l.Nodup) (h2 : 2 ≤ l.length) : kindB l.reverse = if kindB l = 0 then 1 else if kindB l = 1 then 0 else 2 := by
  have two : ¬ (l = sortI l ∧ l = (sortI l).reverse) := fun ⟨a, b⟩ => by
    rw [← a] at b
    match l, nd, h2 with
    | x :: y :: m, nd, _ =>
      have s := sortI_sorted (x :: y :: m)
      rw [← a] at s
      have sr := sortI_sorted (x :: y :: m)
      rw [← a] at sr
      have s2 : (x :: y :: m).reverse.Pairwise (· ≤ ·) := b ▸ s
      rw [List.pairwise_reverse] at s2
      have e1 := (List.pairwise_cons.mp s).1 y List.mem_cons_self
      have e2 := (List.pairwise_cons.mp s2).1 y List.mem_cons_self
      exact (List.nodup_cons.mp nd).1 (by rw [Int.le_antisymm e1 e2]; exact List.mem_cons_self)
  unfold kindB
  rw [sortI_rev]
  have i1 : l.reverse = sortI l ↔ l = (sortI l).reverse := ⟨fun z => by rw [← z, List.reverse_reverse], fun z => by conv => lhs; rw [z]; rw [List.reverse_reverse]⟩
  have i2 : l.reverse = (sortI l).reverse ↔ l = sortI l := List.reverse_inj
  by_cases c1 : l = sortI l
  · have c2 : ¬ l = (sortI l).reverse := fun z => two ⟨c1, z⟩
    rw [if_neg (fun z => c2 (i1.mp z)), if_pos (i2.mpr c1), if_pos c1]
    rfl
  · by_cases c2 : l = (sortI l).reverse
    · rw [if_pos (i1.mpr c2), if_neg c1, if_pos c2]
      rfl
    · rw [if_neg (fun z => c2 (i1.mp z)), if_neg (fun z => c1 (i2.mp z)), if_neg c1, if_neg c2]
      rfl
/-- the least of a stretch turned about -/
theorem lo_mir {r q : Nat → Int} {t : Nat} (hq : ∀ i, i < t → q i = r (t - 1 - i)) {a b : Nat} (h : a < b) (hb : b ≤ t) : lo q (t - b) (b - a - 1) = lo r a (b - a - 1) := by
  obtain ⟨i, i1, i2⟩ := lo_at (r := q) (a := t - b) (b - a - 1)
  obtain ⟨j, j1, j2⟩ := lo_at (r := r) (a := a) (b - a - 1)
  have l1 := lo_le (r := q) (a := t - b) (b - a - 1) (b - a - 1 - j) (by omega)
  have l2 := lo_le (r := r) (a := a) (b - a - 1) (b - a - 1 - i) (by omega)
  rw [hq _ (by omega), show t - 1 - (t - b + (b - a - 1 - j)) = a + j by omega] at l1
  rw [hq _ (by omega), show t - 1 - (t - b + i) = a + (b - a - 1 - i) by omega] at i2
  omega
theorem lw_mir {r q : Nat → Int} {t : Nat} (hq : ∀ i, i < t → q i = r (t - 1 - i)) {L : List (Nat × Nat)} (hL : ∀ u ∈ L, u.1 < u.2 ∧ u.2 ≤ t) : lwL q (L.map (mS t)).reverse = (lwL r L).reverse := by
  unfold lwL
  rw [List.map_reverse, List.map_map]
  congr 1
  refine List.map_congr_left fun u hu => ?_
  have := hL u hu
  show lo q (t - u.2) (t - u.1 - (t - u.2) - 1) = _
  rw [show t - u.1 - (t - u.2) - 1 = u.2 - u.1 - 1 by omega]
  exact lo_mir hq this.1 this.2
theorem lw_nd {r : Nat → Int} {t : Nat} (K : Rk t r) {a b : Nat} {L : List (Nat × Nat)} (h : Chn a b L) (hb : b ≤ t) : (lwL r L).Nodup := by
  unfold lwL
  refine List.pairwise_map.mpr (List.Pairwise.imp_of_mem (fun {u v} hu hv z e => ?_) (chn_pw h))
  have su := chn_st h u hu
  have sv := chn_st h v hv
  obtain ⟨i, i1, i2⟩ := lo_at (r := r) (a := u.1) (u.2 - u.1 - 1)
  obtain ⟨j, j1, j2⟩ := lo_at (r := r) (a := v.1) (v.2 - v.1 - 1)
  rw [i2, j2] at e
  have := K.inj _ _ (by omega) (by omega) e
  omega
/-- shared stretches turned about -/
theorem cv_mir {r q : Nat → Int} {t : Nat} (hq : ∀ i, i < t → q i = r (t - 1 - i)) {a c : Nat} (h : Cv t r a c) : Cv t q (t - c) (t - a) := by
  obtain ⟨h1, h2, h3⟩ := h
  refine ⟨by omega, by omega, fun i j p i1 i2 j1 j2 hp q1 q2 => ?_⟩
  rw [hq i (by omega), hq p hp] at q1
  rw [hq p hp, hq j (by omega)] at q2
  have := h3 (t - 1 - i) (t - 1 - j) (t - 1 - p) (by omega) (by omega) (by omega) (by omega) (by omega) q1 q2
  omega
theorem str_mir {r q : Nat → Int} {t : Nat} (K : Rk t r) (Q : Rk t q) (hq : ∀ i, i < t → q i = r (t - 1 - i)) : Mir t (strL (shL t r)) (strL (shL t q)) := by
  have hr : ∀ i, i < t → r i = q (t - 1 - i) := fun i hi => by rw [hq _ (by omega), show t - 1 - (t - 1 - i) = i by omega]
  have one : ∀ {r q : Nat → Int}, Rk t r → Rk t q → (∀ i, i < t → q i = r (t - 1 - i)) → (∀ i, i < t → r i = q (t - 1 - i)) → ∀ u ∈ strL (shL t r), mS t u ∈ strL (shL t q) := fun {r q} K Q hq hr u hu => by
    obtain ⟨h1, h2⟩ := strL_mem.mp hu
    obtain ⟨a, c⟩ := u
    have C := (shL_mem K).mp h1
    refine strL_mem.mpr ⟨(shL_mem Q).mpr (cv_mir hq C), fun v hv o => ?_⟩
    obtain ⟨d, e⟩ := v
    have D := (shL_mem Q).mp hv
    refine h2 (t - e, t - d) ((shL_mem K).mpr (cv_mir hr D)) ?_
    have c1 := C.1
    have c2 := C.2.1
    have d1 := D.1
    have d2 := D.2.1
    unfold Ov mS at *
    simp only at *
    omega
  exact ⟨fun u h => shL_st K (strL_mem.mp h).1, fun u h => shL_st Q (strL_mem.mp h).1, one K Q hq hr, one Q K hr hq⟩
theorem str_fam {r : Nat → Int} {t : Nat} (K : Rk t r) (ht : 0 < t) : Fam (strL (shL t r)) (0, t) where
  st := fun u h => (shL_st K (strL_mem.mp h).1).1
  no := fun u hu v hv => (strL_mem.mp hu).2 v (strL_mem.mp hv).1
  one := fun i _ h => strL_mem.mpr ⟨(shL_mem K).mpr (cv_one K h), noOv_one⟩
  me := strL_mem.mpr ⟨(shL_mem K).mpr (cv_whole ht), noOv_whole K⟩
end Dn

set_option Elab.async false
set_option linter.all false
set_option maxRecDepth 100000
set_option maxHeartbeats 4000000
/-! Nw: tight nests and crossing fours, plain -/
namespace Dn
open PySem L2
/-- four ranks that cross -/
def CrQ (x y z w : Int) : Prop := (z < x ∧ x < w ∧ w < y) ∨ (y < w ∧ w < x ∧ x < z)
instance (x y z w : Int) : Decidable (CrQ x y z w) := by unfold CrQ; infer_instance
def XQ (n : Nat) (f : Nat → Int) : Prop := ∃ a b c d, a < b ∧ b < c ∧ c < d ∧ d < n ∧ CrQ (f a) (f b) (f c) (f d)
theorem xq_neg {n : Nat} {f : Nat → Int} (h : XQ n fun i => -f i) : XQ n f := by
  obtain ⟨a, b, c, d, h1, h2, h3, h4, h5⟩ := h
  refine ⟨a, b, c, d, h1, h2, h3, h4, ?_⟩
  have h5 : CrQ (-f a) (-f b) (-f c) (-f d) := h5
  unfold CrQ at *
  omega
/-- a place ahead of which all are less than behind -/
def Up (n : Nat) (f : Nat → Int) (k : Nat) : Prop := 0 < k ∧ k < n ∧ ∀ i j, i < k → k ≤ j → j < n → f i < f j
theorem least_of (P : Nat → Prop) : ∀ k, P k → ∃ m, P m ∧ ∀ x, x < m → ¬ P x := fun k => by
  induction k using Nat.strongRecOn with
  | ind k ih =>
    intro hk
    by_cases c : ∃ x, x < k ∧ P x
    · obtain ⟨x, hx, px⟩ := c
      exact ih x hx px
    · exact ⟨k, hk, fun x hx px => c ⟨x, hx, px⟩⟩
/-- what has no crossing four can be cut -/
theorem split_up {n : Nat} {f : Nat → Int} (inj : ∀ i j, i < n + 1 → j < n + 1 → f i = f j → i = j) (h : ¬ XQ (n + 1) f) {k : Nat} (hk : Up n f k) : ∃ k, Up (n + 1) f k ∨ Up (n + 1) (fun i => -f i) k := by
  obtain ⟨k, ⟨k0, k1, k2⟩, km⟩ := least_of (Up n f) k hk
  have ne : ∀ i, i < n → f i ≠ f n := fun i hi e => by have := inj i n (by omega) (by omega) e; omega
  by_cases c1 : ∀ i, i < k → f i < f n
  · refine ⟨k, .inl ⟨k0, by omega, fun i j hi hj hn => ?_⟩⟩
    rcases Nat.lt_or_ge j n with z | z
    · exact k2 i j hi hj z
    · rw [show j = n by omega]; exact c1 i hi
  · by_cases c2 : ∀ i, i < k → f n < f i
    · refine ⟨n, .inr ⟨by omega, by omega, fun i j hi hj hn => ?_⟩⟩
      rw [show j = n by omega]
      show -f i < -f n
      rcases Nat.lt_or_ge i k with z | z
      · have := c2 i z; omega
      · have h1 := c2 0 k0
        have h2 := k2 0 i k0 z hi
        omega
    · exfalso
      obtain ⟨u, hu, hu2⟩ : ∃ i, i < k ∧ f n < f i := by
        refine Classical.byContradiction fun z => c1 fun i hi => ?_
        have := ne i (by omega)
        have : ¬ f n < f i := fun y => z ⟨i, hi, y⟩
        omega
      obtain ⟨v, hv, hv2⟩ : ∃ i, i < k ∧ f i < f n := by
        refine Classical.byContradiction fun z => c2 fun i hi => ?_
        have := ne i (by omega)
        have : ¬ f i < f n := fun y => z ⟨i, hi, y⟩
        omega
      have no : ∀ x y, x < y → y < k → ¬ (f n < f x ∧ f y < f n) := fun x y xy yk hxy => by
        refine h ⟨x, y, k, n, xy, yk, k1, Nat.lt_succ_self _, .inr ⟨hxy.2, hxy.1, k2 x k (by omega) (Nat.le_refl _) k1⟩⟩
      obtain ⟨w, ⟨w1, w2⟩, wm⟩ := least_of (fun i => i < k ∧ f n < f i) u ⟨hu, hu2⟩
      have low : ∀ i, i < w → f i < f n := fun i hi => by
        have := ne i (by omega)
        have : ¬ f n < f i := fun y => wm i hi ⟨by omega, y⟩
        omega
      have high : ∀ i, w ≤ i → i < k → f n < f i := fun i hi ik => by
        rcases Nat.lt_or_ge w i with z | z
        · have := ne i (by omega)
          have : ¬ f i < f n := fun y => no w i z ik ⟨w2, y⟩
          omega
        · rw [show i = w by omega]; exact w2
      have wp : 0 < w := by
        rcases Nat.eq_zero_or_pos w with z | z
        · have := high v (by omega) hv
          omega
        · exact z
      refine km w w1 ⟨wp, by omega, fun i j hi hj hn => ?_⟩
      rcases Nat.lt_or_ge j k with z | z
      · have := low i hi
        have := high j hj z
        omega
      · exact k2 i j (by omega) z hn
theorem split_ex : ∀ (n : Nat) (f : Nat → Int), 2 ≤ n → (∀ i j, i < n → j < n → f i = f j → i = j) → ¬ XQ n f → ∃ k, Up n f k ∨ Up n (fun i => -f i) k
  | 0, _, h, _, _ => absurd h (by omega)
  | 1, _, h, _, _ => absurd h (by omega)
  | 2, f, _, inj, _ => by
    refine ⟨1, ?_⟩
    by_cases z : f 0 < f 1
    · refine .inl ⟨by omega, by omega, fun i j hi hj hn => ?_⟩
      rw [show i = 0 by omega, show j = 1 by omega]; exact z
    · refine .inr ⟨by omega, by omega, fun i j hi hj hn => ?_⟩
      rw [show i = 0 by omega, show j = 1 by omega]
      have : f 0 ≠ f 1 := fun e => by have := inj 0 1 (by omega) (by omega) e; omega
      show -f 0 < -f 1
      omega
  | n + 3, f, _, inj, h => by
    obtain ⟨k, hk⟩ := split_ex (n + 2) f (by omega) (fun i j hi hj => inj i j (by omega) (by omega)) fun z => h (by
      obtain ⟨a, b, c, d, h1, h2, h3, h4, h5⟩ := z
      exact ⟨a, b, c, d, h1, h2, h3, by omega, h5⟩)
    rcases hk with hk | hk
    · exact split_up inj h hk
    · obtain ⟨k', hk'⟩ := split_up (n := n + 2) (f := fun i => -f i) (fun i j hi hj e => inj i j hi hj (by simpa using e)) (fun z => h (xq_neg z)) hk
      refine ⟨k', ?_⟩
      rcases hk' with hk' | hk'
      · exact .inr hk'
      · refine .inl ?_
        simpa using hk'
/-! ### a stretch that can be cut lies in a row of its parts -/
theorem max_below (P : Nat → Prop) {a : Nat} (ha : P a) : ∀ d, a < d → ∃ c, P c ∧ a ≤ c ∧ c < d ∧ ∀ x, c < x → x < d → ¬ P x := fun d => by
  induction d with
  | zero => intro h; omega
  | succ d ih =>
    intro h
    by_cases pd : P d
    · exact ⟨d, pd, by omega, by omega, fun x h1 h2 => by omega⟩
    · rcases Nat.lt_or_ge a d with z | z
      · obtain ⟨c, c1, c2, c3, c4⟩ := ih z
        refine ⟨c, c1, c2, by omega, fun x h1 h2 => ?_⟩
        rcases Nat.lt_or_ge x d with y | y
        · exact c4 x h1 y
        · rw [show x = d by omega]; exact pd
      · exact absurd ha (by rw [show a = d by omega]; exact pd)
theorem min_above (P : Nat → Prop) {b d : Nat} (hb : P b) (h : d < b) : ∃ c, P c ∧ d < c ∧ c ≤ b ∧ ∀ x, d < x → x < c → ¬ P x := by
  obtain ⟨c, ⟨c1, c2⟩, c3⟩ := least_of (fun x => P x ∧ d < x) b ⟨hb, h⟩
  refine ⟨c, c1, c2, ?_, fun x h1 h2 px => c3 x h2 ⟨px, h1⟩⟩
  rcases Nat.lt_or_ge b c with z | z
  · exact absurd ⟨hb, h⟩ (c3 b z)
  · exact z
def Sp (f : Nat → Int) (s : Nat × Nat) (c : Nat) : Prop := s.1 < c ∧ c < s.2 ∧ ∀ i j, s.1 ≤ i → i < c → c ≤ j → j < s.2 → f i < f j
section
variable {t : Nat} {f : Nat → Int} {s : Nat × Nat}
theorem sp_two (C : Cv t f s.1 s.2) {c c' : Nat} (cc : c < c') (h1 : c = s.1 ∨ Sp f s c) (h2 : c' = s.2 ∨ Sp f s c') : Cv t f c c' := by
  obtain ⟨C1, C2, C3⟩ := C
  have lc : s.1 ≤ c := by rcases h1 with e | e; · omega
                          · have := e.1; omega
  have lc' : c' ≤ s.2 := by rcases h2 with e | e; · omega
                            · have := e.2.1; omega
  refine ⟨cc, by omega, fun i j p i1 i2 j1 j2 hp q1 q2 => ?_⟩
  obtain ⟨p1, p2⟩ := C3 i j p (by omega) (by omega) (by omega) (by omega) hp q1 q2
  constructor
  · rcases h1 with e | e
    · omega
    · rcases Nat.lt_or_ge p c with z | z
      · have := e.2.2 p i p1 z i1 (by omega)
        omega
      · exact z
  · rcases h2 with e | e
    · omega
    · rcases Nat.lt_or_ge p c' with z | z
      · exact z
      · have := e.2.2 j p (by omega) j2 z p2
        omega
/-- the strong ones, told by a family of shared ones -/
structure Prt (t : Nat) (f : Nat → Int) (s : Nat × Nat) (L : List (Nat × Nat)) : Prop where
  c : Cv t f s.1 s.2
  ns : ∀ a b, Cv t f a b → ¬ Ov s (a, b)
  ch : Chn s.1 s.2 L
  cu : ∀ u ∈ L, Cv t f u.1 u.2
  nu : ∀ u ∈ L, ∀ a b, Cv t f a b → ¬ Ov u (a, b)
  pr : ∀ u ∈ L, u ≠ s
  mx : ∀ u ∈ L, ∀ a b, Cv t f a b → (∀ x y, Cv t f x y → ¬ Ov (a, b) (x, y)) → (a, b) ≠ s → Wi s (a, b) → Wi (a, b) u → (a, b) = u
theorem sp_part {L : List (Nat × Nat)} (H : Prt t f s L) {u : Nat × Nat} (hu : u ∈ L) {c : Nat} (h : Sp f s c) : ¬ (u.1 < c ∧ c < u.2) := fun ⟨z1, z2⟩ => by
  have su := chn_st H.ch u hu
  have n1 := H.nu u hu s.1 c (sp_two H.c h.1 (.inl rfl) (.inr h))
  have n2 := H.nu u hu c s.2 (sp_two H.c h.2.1 (.inr h) (.inl rfl))
  have e1 : u.1 = s.1 := by
    rcases Nat.lt_or_ge s.1 u.1 with z | z
    · exact absurd (.inr ⟨z, z1, z2⟩) n1
    · omega
  have e2 : u.2 = s.2 := by
    rcases Nat.lt_or_ge u.2 s.2 with z | z
    · exact absurd (.inl ⟨z1, z2, z⟩) n2
    · omega
  exact H.pr u hu (Prod.ext e1 e2)
theorem sp_all {L : List (Nat × Nat)} (H : Prt t f s L) {c0 : Nat} (h0 : Sp f s c0) {u : Nat × Nat} (hu : u ∈ L) (hd : s.1 < u.1) : Sp f s u.1 := by
  have su := chn_st H.ch u hu
  refine Classical.byContradiction fun no => ?_
  obtain ⟨c, c1, c2, c3, c4⟩ := max_below (fun x => x = s.1 ∨ Sp f s x) (.inl rfl) u.1 hd
  obtain ⟨c', d1, d2, d3, d4⟩ := min_above (fun x => x = s.2 ∨ Sp f s x) (b := s.2) (.inl rfl) (show u.1 < s.2 by omega)
  have C := sp_two H.c (by omega) c1 d1
  have in' : u.2 ≤ c' := by
    rcases d1 with e | e
    · omega
    · rcases Nat.lt_or_ge c' u.2 with z | z
      · exact absurd ⟨d2, z⟩ (sp_part H hu e)
      · exact z
  have nes : (c, c') ≠ s := fun e => by
    have e1 : c = s.1 := congrArg Prod.fst e
    have e2 : c' = s.2 := congrArg Prod.snd e
    rcases Nat.lt_trichotomy c0 u.1 with z | z | z
    · exact c4 c0 (by have := h0.1; omega) z (.inr h0)
    · exact no (z ▸ h0)
    · exact d4 c0 z (by have := h0.2.1; omega) (.inr h0)
  have neu : (c, c') ≠ u := fun e => by
    have e1 : c = u.1 := congrArg Prod.fst e
    omega
  have nst : ∃ x y, Cv t f x y ∧ Ov (c, c') (x, y) := Classical.byContradiction fun z => neu (H.mx u hu c c' C (fun x y hx ho => z ⟨x, y, hx, ho⟩) nes ⟨c2, d3⟩ ⟨by show c ≤ u.1; omega, in'⟩)
  obtain ⟨x, y, V, o⟩ := nst
  have nsv := H.ns x y V
  have V1 := V.1
  have no2 : ∀ z, c < z → z < c' → ¬ Sp f s z := fun z z1 z2 hz => by
    rcases Nat.lt_trichotomy z u.1 with w | w | w
    · exact c4 z z1 w (.inr hz)
    · exact no (w ▸ hz)
    · exact d4 z w z2 (.inr hz)
  rcases o with ⟨o1, o2, o3⟩ | ⟨o1, o2, o3⟩
  · have o1 : c < x := o1
    have o2 : x < c' := o2
    have o3 : c' < y := o3
    have ys : y ≤ s.2 := by
      rcases Nat.lt_or_ge s.2 y with z | z
      · exact absurd (.inl ⟨by show s.1 < x; omega, by show x < s.2; omega, z⟩) nsv
      · exact z
    have dS : Sp f s c' := d1.resolve_left (by omega)
    refine no2 x o1 o2 ⟨by omega, by omega, fun i j i1 i2 j1 j2 => ?_⟩
    rcases Nat.lt_or_ge j c' with jc | jc
    · rcases Nat.lt_or_ge i c with ic | ic
      · rcases c1 with e | e
        · omega
        · exact e.2.2 i j i1 ic (by omega) j2
      · refine Classical.byContradiction fun z => ?_
        have lt : f i < f c' := dS.2.2 i c' i1 (by omega) (Nat.le_refl _) (by omega)
        have := V.2.2 j c' i j1 (by omega) (by omega) o3 (by have := H.c.2.1; omega) (by omega) (by omega)
        omega
    · exact dS.2.2 i j i1 (by omega) jc j2
  · have o1 : x < c := o1
    have o2 : c < y := o2
    have o3 : y < c' := o3
    have xs : s.1 ≤ x := by
      rcases Nat.lt_or_ge x s.1 with z | z
      · exact absurd (.inr ⟨z, by show s.1 < y; omega, by show y < s.2; omega⟩) nsv
      · exact z
    have cS : Sp f s c := c1.resolve_left (by omega)
    refine no2 y o2 o3 ⟨by omega, by omega, fun i j i1 i2 j1 j2 => ?_⟩
    rcases Nat.lt_or_ge i c with ic | ic
    · exact cS.2.2 i j i1 ic (by omega) j2
    · rcases Nat.lt_or_ge j c' with jc | jc
      · refine Classical.byContradiction fun z => ?_
        have lt : f (c - 1) < f j := cS.2.2 (c - 1) j (by omega) (by omega) (by omega) j2
        have := V.2.2 (c - 1) i j (by omega) (by omega) (by omega) i2 (by have := H.c.2.1; omega) (by omega) (by omega)
        omega
      · rcases d1 with e | e
        · omega
        · exact e.2.2 i j i1 (by omega) jc j2
def Bef (f : Nat → Int) (u v : Nat × Nat) : Prop := ∀ i j, u.1 ≤ i → i < u.2 → v.1 ≤ j → j < v.2 → f i < f j
theorem row_all {L : List (Nat × Nat)} (H : Prt t f s L) {c0 : Nat} (h0 : Sp f s c0) : L.Pairwise (Bef f) := by
  refine List.Pairwise.imp_of_mem (fun {u v} hu hv uv => ?_) (chn_pw H.ch)
  have su := chn_st H.ch u hu
  have sv := chn_st H.ch v hv
  have S := sp_all H h0 hv (by omega)
  exact fun i j i1 i2 j1 j2 => S.2.2 i j (by omega) (by omega) j1 (by omega)
end
theorem cv_neg {t : Nat} {f : Nat → Int} {a b : Nat} : Cv t (fun i => -f i) a b ↔ Cv t f a b := by
  constructor
  · rintro ⟨h1, h2, h3⟩
    exact ⟨h1, h2, fun i j p i1 i2 j1 j2 hp q1 q2 => h3 j i p j1 j2 i1 i2 hp (by show -f j ≤ -f p; omega) (by show -f p ≤ -f i; omega)⟩
  · rintro ⟨h1, h2, h3⟩
    refine ⟨h1, h2, fun i j p i1 i2 j1 j2 hp q1 q2 => h3 j i p j1 j2 i1 i2 hp ?_ ?_⟩
    · have q2 : -f p ≤ -f j := q2
      omega
    · have q1 : -f i ≤ -f p := q1
      omega
theorem Prt.neg {t : Nat} {f : Nat → Int} {s : Nat × Nat} {L : List (Nat × Nat)} (H : Prt t f s L) : Prt t (fun i => -f i) s L where
  c := cv_neg.mpr H.c
  ns := fun a b h => H.ns a b (cv_neg.mp h)
  ch := H.ch
  cu := fun u hu => cv_neg.mpr (H.cu u hu)
  nu := fun u hu a b h => H.nu u hu a b (cv_neg.mp h)
  pr := H.pr
  mx := fun u hu a b h1 h2 => H.mx u hu a b (cv_neg.mp h1) fun x y hx => h2 x y (cv_neg.mpr hx)
/-- two shared stretches apart: the order of the leasts is the order of all -/
theorem bef_of {t : Nat} {f : Nat → Int} {u v : Nat × Nat} (cu : Cv t f u.1 u.2) (cv : Cv t f v.1 v.2) (ap : u.2 ≤ v.1 ∨ v.2 ≤ u.1) {x y : Nat} (x1 : u.1 ≤ x) (x2 : x < u.2) (y1 : v.1 ≤ y) (y2 : y < v.2) (lt : f x < f y) : Bef f u v := fun i j i1 i2 j1 j2 => by
  refine Classical.byContradiction fun z => ?_
  have hu := cu.2.1
  have hv := cv.2.1
  have hx : f j ≤ f i := by omega
  by_cases w : f x < f j
  · have := cu.2.2 x i j x1 x2 i1 i2 (by omega) (by omega) hx
    omega
  · have := cv.2.2 j y x j1 j2 y1 y2 (by omega) (by omega) (by omega)
    omega
/-- the parts of a stretch whose leasts have no crossing four stand in a row -/
theorem row_of {t : Nat} {r : Nat → Int} (K : Rk t r) {s : Nat × Nat} {L : List (Nat × Nat)} (H : Prt t r s L) (h2 : 2 ≤ L.length) (nx : ¬ XQ L.length fun i => (lwL r L).getD i 0) : L.Pairwise (Bef r) ∨ L.Pairwise (Bef fun i => -r i) := by
  have hs := H.c.2.1
  have nd := lw_nd K H.ch hs
  have ll : (lwL r L).length = L.length := by unfold lwL; rw [List.length_map]
  have gd : ∀ i, (hi : i < L.length) → (lwL r L).getD i 0 = lo r L[i].1 (L[i].2 - L[i].1 - 1) := fun i hi => by
    rw [List.getD_eq_getElem?_getD, List.getElem?_eq_getElem (by rw [ll]; exact hi)]
    show ((L.map fun u => lo r u.1 (u.2 - u.1 - 1))[i]'(by rw [List.length_map]; exact hi)) = _
    exact List.getElem_map ..
  have inj : ∀ i j, i < L.length → j < L.length → (lwL r L).getD i 0 = (lwL r L).getD j 0 → i = j := fun i j hi hj e => by
    rw [List.getD_eq_getElem?_getD, List.getD_eq_getElem?_getD, List.getElem?_eq_getElem (by omega), List.getElem?_eq_getElem (by omega)] at e
    exact (List.getElem_inj nd).mp e
  have pw := chn_pw H.ch
  -- a cut of the leasts is a cut of the stretch
  have cut : ∀ (f g : Nat → Int), ((f = r ∧ g = fun i => (lwL r L).getD i 0) ∨ (f = (fun i => -r i) ∧ g = fun i => -(lwL r L).getD i 0)) → ∀ k, Up L.length g k → ∃ c, Sp f s c := fun f g hf k ⟨k0, k1, k2⟩ => by
    have mk : L[k] ∈ L := List.getElem_mem k1
    have sk := chn_st H.ch _ mk
    have m0 : L[0] ∈ L := List.getElem_mem (by omega)
    have s0 := chn_st H.ch _ m0
    have le0 : L[0].2 ≤ L[k].1 := List.pairwise_iff_getElem.mp pw 0 k (by omega) k1 k0
    refine ⟨L[k].1, by omega, by omega, fun i j i1 i2 j1 j2 => ?_⟩
    -- the part of a place
    have part : ∀ (l : List (Nat × Nat)) (a b x : Nat), Chn a b l → a ≤ x → x < b → ∃ m, ∃ hm : m < l.length, l[m].1 ≤ x ∧ x < l[m].2 := fun l => by
      induction l with
      | nil => intro a b x h h1 h2; cases h; omega
      | cons u l ih =>
        intro a b x h h1 h2
        rcases Nat.lt_or_ge x u.2 with z | z
        · exact ⟨0, by rw [List.length_cons]; omega, by show u.1 ≤ x; have := h.1; omega, z⟩
        · obtain ⟨m, hm, y1, y2⟩ := ih u.2 b x h.2.2 z h2
          exact ⟨m + 1, by rw [List.length_cons]; omega, y1, y2⟩
    obtain ⟨mi, hmi, a1, a2⟩ := part L s.1 s.2 i H.ch i1 (by omega)
    obtain ⟨mj, hmj, b1, b2⟩ := part L s.1 s.2 j H.ch (by omega) j2
    have mik : mi < k := by
      rcases Nat.lt_or_ge mi k with z | z
      · exact z
      · rcases Nat.lt_or_ge k mi with y | y
        · have := List.pairwise_iff_getElem.mp pw k mi k1 hmi y
          omega
        · have e : mi = k := by omega
          subst e
          omega
    have kmj : k ≤ mj := by
      rcases Nat.lt_or_ge mj k with z | z
      · have := List.pairwise_iff_getElem.mp pw mj k hmj k1 z
        omega
      · exact z
    have lt := k2 mi mj mik kmj hmj
    have pij := List.pairwise_iff_getElem.mp pw mi mj hmi hmj (by omega)
    obtain ⟨x, x1, x2⟩ := lo_at (r := r) (a := L[mi].1) (L[mi].2 - L[mi].1 - 1)
    obtain ⟨y, y1, y2⟩ := lo_at (r := r) (a := L[mj].1) (L[mj].2 - L[mj].1 - 1)
    have si := chn_st H.ch _ (List.getElem_mem hmi)
    have sj := chn_st H.ch _ (List.getElem_mem hmj)
    have ci := H.cu _ (List.getElem_mem hmi)
    have cj := H.cu _ (List.getElem_mem hmj)
    rcases hf with ⟨rfl, rfl⟩ | ⟨rfl, rfl⟩
    · have lt : (lwL f L).getD mi 0 < (lwL f L).getD mj 0 := lt
      rw [gd mi hmi, gd mj hmj, x2, y2] at lt
      exact bef_of ci cj (.inl pij) (x := L[mi].1 + x) (y := L[mj].1 + y) (by omega) (by omega) (by omega) (by omega) lt i j a1 a2 b1 b2
    · have lt : -(lwL r L).getD mi 0 < -(lwL r L).getD mj 0 := lt
      rw [gd mi hmi, gd mj hmj, x2, y2] at lt
      exact bef_of (f := fun i => -r i) (cv_neg.mpr ci) (cv_neg.mpr cj) (.inl pij) (x := L[mi].1 + x) (y := L[mj].1 + y) (by omega) (by omega) (by omega) (by omega) lt i j a1 a2 b1 b2
  obtain ⟨k, hk⟩ := split_ex L.length (fun i => (lwL r L).getD i 0) h2 inj nx
  rcases hk with hk | hk
  · obtain ⟨c, hc⟩ := cut r _ (.inl ⟨rfl, rfl⟩) k hk
    exact .inl (row_all H hc)
  · obtain ⟨c, hc⟩ := cut (fun i => -r i) _ (.inr ⟨rfl, rfl⟩) k hk
    exact .inr (row_all H.neg hc)
end Dn

set_option Elab.async false
set_option linter.all false
set_option maxRecDepth 100000
set_option maxHeartbeats 4000000
/-! Nxx: nests of strong stretches: kinds, tight ones and crossing fours -/
namespace Dn
open PySem L2
/-- the family at a stretch is the strong ones within it, and maybe more strong ones -/
def Sub (S E : List (Nat × Nat)) (s : Nat × Nat) : Prop := (∀ u ∈ E, u ∈ S) ∧ ∀ u ∈ S, Wi s u → u ∈ E
theorem Sub.inn {S E : List (Nat × Nat)} {s u : Nat × Nat} (h : Sub S E s) (hu : Wi s u) : Sub S (inn E s) u :=
  ⟨fun v hv => h.1 v (inn_mem.mp hv).1, fun v hv w => by
    have ws : Wi s v := ⟨Nat.le_trans hu.1 w.1, Nat.le_trans w.2 hu.2⟩
    exact inn_mem.mpr ⟨h.2 v hv ws, ws⟩⟩
section
variable {t : Nat} {r : Nat → Int} (K : Rk t r)
include K
theorem prt_prt {E : List (Nat × Nat)} {s : Nat × Nat} (F : Fam E s) (B : Sub (strL (shL t r)) E s) (h2 : s.1 + 1 < s.2) : Prt t r s (prt (inn E s) s) := by
  have FI := inn_fam F F.me ⟨Nat.le_refl _, Nat.le_refl _⟩
  obtain ⟨ch, mx⟩ := prt_of FI h2
  have st : ∀ u ∈ strL (shL t r), Cv t r u.1 u.2 ∧ ∀ a b, Cv t r a b → ¬ Ov u (a, b) := fun u hu => by
    obtain ⟨h1, h2⟩ := strL_mem.mp hu
    exact ⟨(shL_mem K).mp h1, fun a b h => h2 _ ((shL_mem K).mpr h)⟩
  have inS : ∀ u ∈ prt (inn E s) s, u ∈ strL (shL t r) := fun u hu => B.1 u (inn_mem.mp (mx u hu).1).1
  have sS := st s (B.1 s F.me)
  exact ⟨sS.1, sS.2, ch, fun u hu => (st u (inS u hu)).1, fun u hu => (st u (inS u hu)).2, fun u hu => (mx u hu).2.1, fun u hu a b h1 h2 h3 h4 h5 =>
    (mx u hu).2.2.2 (a, b) (inn_mem.mpr ⟨B.2 _ (strL_mem.mpr ⟨(shL_mem K).mpr h1, fun v hv o => h2 v.1 v.2 ((shL_mem K).mp hv) o⟩) h4, h4⟩) h3 h4 h5⟩
end
section
variable {t : Nat} {r : Nat → Int} {s : Nat × Nat} {L : List (Nat × Nat)}
theorem chn_part : ∀ (l : List (Nat × Nat)) (a b x : Nat), Chn a b l → a ≤ x → x < b → ∃ m, ∃ hm : m < l.length, l[m].1 ≤ x ∧ x < l[m].2 := fun l => by
  induction l with
  | nil => intro a b x h h1 h2; cases h; omega
  | cons u l ih =>
    intro a b x h h1 h2
    rcases Nat.lt_or_ge x u.2 with z | z
    · exact ⟨0, by rw [List.length_cons]; omega, by show u.1 ≤ x; have := h.1; omega, z⟩
    · obtain ⟨m, hm, y1, y2⟩ := ih u.2 b x h.2.2 z h2
      exact ⟨m + 1, by rw [List.length_cons]; omega, y1, y2⟩
theorem chn_two (h : Chn s.1 s.2 L) (hp : ∀ u ∈ L, u ≠ s) (hs : s.1 < s.2) : 2 ≤ L.length := by
  match L, h, hp with
  | [], h, _ => exact absurd h (by show ¬ s.1 = s.2; omega)
  | [u], h, hp => exact absurd (Prod.ext h.1 h.2.2 : u = s) (hp u List.mem_cons_self)
  | _ :: _ :: l, _, _ => rw [List.length_cons, List.length_cons]; omega
/-- in a row: two places lie in one part, or rise -/
theorem row_two {f : Nat → Int} (ch : Chn s.1 s.2 L) (pw : L.Pairwise (Bef f)) {x y : Nat} (x1 : s.1 ≤ x) (xy : x < y) (y1 : y < s.2) : (∃ u ∈ L, u.1 ≤ x ∧ y < u.2) ∨ f x < f y := by
  obtain ⟨i, hi, i1, i2⟩ := chn_part L s.1 s.2 x ch x1 (by omega)
  obtain ⟨j, hj, j1, j2⟩ := chn_part L s.1 s.2 y ch (by omega) y1
  rcases Nat.lt_trichotomy i j with z | z | z
  · exact .inr (List.pairwise_iff_getElem.mp pw i j hi hj z x y i1 i2 j1 j2)
  · subst z
    exact .inl ⟨L[i], List.getElem_mem hi, i1, j2⟩
  · have := List.pairwise_iff_getElem.mp (chn_pw ch) j i hj hi z
    omega
theorem part_one (ch : Chn s.1 s.2 L) {u v : Nat × Nat} (hu : u ∈ L) (hv : v ∈ L) {x : Nat} (u1 : u.1 ≤ x) (u2 : x < u.2) (v1 : v.1 ≤ x) (v2 : x < v.2) : u = v := by
  obtain ⟨i, hi, rfl⟩ := List.getElem_of_mem hu
  obtain ⟨j, hj, rfl⟩ := List.getElem_of_mem hv
  rcases Nat.lt_trichotomy i j with z | z | z
  · have := List.pairwise_iff_getElem.mp (chn_pw ch) i j hi hj z
    omega
  · subst z; rfl
  · have := List.pairwise_iff_getElem.mp (chn_pw ch) j i hj hi z
    omega
theorem lw_pw (H : Prt t r s L) (h : (lwL r L).Pairwise (· < ·)) : L.Pairwise (Bef r) := by
  unfold lwL at h
  rw [List.pairwise_map] at h
  refine List.Pairwise.imp_of_mem (fun {u v} hu hv z => ?_) (h.and (chn_pw H.ch))
  obtain ⟨z1, z2⟩ := z
  have su := chn_st H.ch u hu
  have sv := chn_st H.ch v hv
  obtain ⟨x, x1, x2⟩ := lo_at (r := r) (a := u.1) (u.2 - u.1 - 1)
  obtain ⟨y, y1, y2⟩ := lo_at (r := r) (a := v.1) (v.2 - v.1 - 1)
  rw [x2, y2] at z1
  exact bef_of (H.cu u hu) (H.cu v hv) (.inl z2) (x := u.1 + x) (y := v.1 + y) (by omega) (by omega) (by omega) (by omega) z1
theorem lw_pwn (H : Prt t r s L) (h : (lwL r L).Pairwise fun x y => y < x) : L.Pairwise (Bef fun i => -r i) := by
  unfold lwL at h
  rw [List.pairwise_map] at h
  refine List.Pairwise.imp_of_mem (fun {u v} hu hv z => ?_) (h.and (chn_pw H.ch))
  obtain ⟨z1, z2⟩ := z
  have su := chn_st H.ch u hu
  have sv := chn_st H.ch v hv
  obtain ⟨x, x1, x2⟩ := lo_at (r := r) (a := u.1) (u.2 - u.1 - 1)
  obtain ⟨y, y1, y2⟩ := lo_at (r := r) (a := v.1) (v.2 - v.1 - 1)
  rw [x2, y2] at z1
  exact bef_of (f := fun i => -r i) (cv_neg.mpr (H.cu u hu)) (cv_neg.mpr (H.cu v hv)) (.inl z2) (x := u.1 + x) (y := v.1 + y) (by omega) (by omega) (by omega) (by omega) (by show -r (u.1 + x) < -r (v.1 + y); omega)
theorem kind0 (K : Rk t r) (H : Prt t r s L) : kindB (lwL r L) = 0 ↔ L.Pairwise (Bef r) := by
  have nd := lw_nd K H.ch H.c.2.1
  unfold kindB
  constructor
  · intro h
    have e : lwL r L = sortI (lwL r L) := by
      refine Classical.byContradiction fun z => ?_
      rw [if_neg z] at h
      split at h <;> cases h
    have so := sortI_sorted (lwL r L)
    rw [← e] at so
    refine lw_pw H (List.Pairwise.imp (fun {x y} z => ?_) (so.and nd))
    have := z.1
    have := z.2
    omega
  · intro h
    have : lwL r L = sortI (lwL r L) := (sortI_of_sorted (by
      unfold lwL
      refine List.pairwise_map.mpr (List.Pairwise.imp_of_mem (fun {u v} hu hv z => ?_) h)
      have su := chn_st H.ch u hu
      have sv := chn_st H.ch v hv
      obtain ⟨x, x1, x2⟩ := lo_at (r := r) (a := u.1) (u.2 - u.1 - 1)
      obtain ⟨y, y1, y2⟩ := lo_at (r := r) (a := v.1) (v.2 - v.1 - 1)
      rw [x2, y2]
      exact Int.le_of_lt (z _ _ (by omega) (by omega) (by omega) (by omega)))).symm
    rw [if_pos this]
theorem kind1 (K : Rk t r) (H : Prt t r s L) (h2 : 2 ≤ L.length) : kindB (lwL r L) = 1 ↔ L.Pairwise (Bef fun i => -r i) := by
  have nd := lw_nd K H.ch H.c.2.1
  unfold kindB
  constructor
  · intro h
    have e : lwL r L = (sortI (lwL r L)).reverse := by
      refine Classical.byContradiction fun z => ?_
      rw [if_neg z] at h
      split at h <;> cases h
    have so := sortI_sorted (lwL r L)
    rw [← List.pairwise_reverse, ← e] at so
    refine lw_pwn H (List.Pairwise.imp (fun {x y} z => ?_) (so.and nd))
    have := z.1
    have := z.2
    omega
  · intro h
    have pd : (lwL r L).Pairwise fun x y => y < x := by
      unfold lwL
      refine List.pairwise_map.mpr (List.Pairwise.imp_of_mem (fun {u v} hu hv z => ?_) h)
      have su := chn_st H.ch u hu
      have sv := chn_st H.ch v hv
      obtain ⟨x, x1, x2⟩ := lo_at (r := r) (a := u.1) (u.2 - u.1 - 1)
      obtain ⟨y, y1, y2⟩ := lo_at (r := r) (a := v.1) (v.2 - v.1 - 1)
      rw [x2, y2]
      have : -r (u.1 + x) < -r (v.1 + y) := z _ _ (by omega) (by omega) (by omega) (by omega)
      omega
    have e : lwL r L = (sortI (lwL r L)).reverse := by
      have : sortI (lwL r L) = (lwL r L).reverse := by
        rw [← sortI_rev]
        refine sortI_of_sorted ?_
        rw [List.pairwise_reverse]
        exact pd.imp fun h => Int.le_of_lt h
      rw [this, List.reverse_reverse]
    have ne : ¬ lwL r L = sortI (lwL r L) := fun z => by
      have so := sortI_sorted (lwL r L)
      rw [← z] at so
      have ll : 2 ≤ (lwL r L).length := by unfold lwL; rw [List.length_map]; exact h2
      have a := List.pairwise_iff_getElem.mp so 0 1 (by omega) (by omega) (by omega)
      have b := List.pairwise_iff_getElem.mp pd 0 1 (by omega) (by omega) (by omega)
      omega
    rw [if_neg ne, if_pos e]
def XS (r : Nat → Int) (s : Nat × Nat) : Prop := ∃ a b c d, s.1 ≤ a ∧ a < b ∧ b < c ∧ c < d ∧ d < s.2 ∧ CrQ (r a) (r b) (r c) (r d)
/-- leasts that cross are crossing places -/
theorem low_cross (H : Prt t r s L) (h : XQ L.length fun i => (lwL r L).getD i 0) : XS r s := by
  obtain ⟨a, b, c, d, ab, bc, cd, dl, x⟩ := h
  have pw := chn_pw H.ch
  have at' : ∀ i, (hi : i < L.length) → ∃ p, L[i].1 ≤ p ∧ p < L[i].2 ∧ (lwL r L).getD i 0 = r p := fun i hi => by
    have si := chn_st H.ch _ (List.getElem_mem hi)
    obtain ⟨x, x1, x2⟩ := lo_at (r := r) (a := L[i].1) (L[i].2 - L[i].1 - 1)
    refine ⟨L[i].1 + x, by omega, by omega, ?_⟩
    rw [← x2, List.getD_eq_getElem?_getD, List.getElem?_eq_getElem (by unfold lwL; rw [List.length_map]; exact hi)]
    show ((L.map fun u => lo r u.1 (u.2 - u.1 - 1))[i]'(by rw [List.length_map]; exact hi)) = _
    exact List.getElem_map ..
  obtain ⟨pa, a1, a2, a3⟩ := at' a (by omega)
  obtain ⟨pb, b1, b2, b3⟩ := at' b (by omega)
  obtain ⟨pc, c1, c2, c3⟩ := at' c (by omega)
  obtain ⟨pd, d1, d2, d3⟩ := at' d dl
  have h1 := List.pairwise_iff_getElem.mp pw a b (by omega) (by omega) ab
  have h2 := List.pairwise_iff_getElem.mp pw b c (by omega) (by omega) bc
  have h3 := List.pairwise_iff_getElem.mp pw c d (by omega) dl cd
  have sa := chn_st H.ch _ (List.getElem_mem (show a < L.length by omega))
  have sd := chn_st H.ch _ (List.getElem_mem dl)
  have x : CrQ ((lwL r L).getD a 0) ((lwL r L).getD b 0) ((lwL r L).getD c 0) ((lwL r L).getD d 0) := x
  rw [a3, b3, c3, d3] at x
  exact ⟨pa, pb, pc, pd, by omega, by omega, by omega, by omega, by omega, x⟩
/-- in a row, crossing places lie in one part -/
theorem row_cross (ch : Chn s.1 s.2 L) (pw : L.Pairwise (Bef r) ∨ L.Pairwise (Bef fun i => -r i)) (h : XS r s) : ∃ u ∈ L, XS r u := by
  obtain ⟨a, b, c, d, h1, h2, h3, h4, h5, h6⟩ := h
  rcases pw with pw | pw
  · rcases h6 with ⟨x1, x2, x3⟩ | ⟨x1, x2, x3⟩
    · obtain ⟨u, hu, u1, u2⟩ := (row_two ch pw h1 (show a < c by omega) (by omega)).resolve_right (by omega)
      obtain ⟨v, hv, v1, v2⟩ := (row_two ch pw (show s.1 ≤ b by omega) (show b < d by omega) h5).resolve_right (by omega)
      have e := part_one ch hu hv (x := b) (by omega) (by omega) v1 (by omega)
      subst e
      exact ⟨u, hu, a, b, c, d, u1, h2, h3, h4, v2, .inl ⟨x1, x2, x3⟩⟩
    · obtain ⟨w, hw, w1, w2⟩ := (row_two ch pw h1 (show a < d by omega) h5).resolve_right (by omega)
      exact ⟨w, hw, a, b, c, d, w1, h2, h3, h4, w2, .inr ⟨x1, x2, x3⟩⟩
  · rcases h6 with ⟨x1, x2, x3⟩ | ⟨x1, x2, x3⟩
    · obtain ⟨w, hw, w1, w2⟩ := (row_two ch pw h1 (show a < d by omega) h5).resolve_right (by show ¬ -r a < -r d; omega)
      exact ⟨w, hw, a, b, c, d, w1, h2, h3, h4, w2, .inl ⟨x1, x2, x3⟩⟩
    · obtain ⟨u, hu, u1, u2⟩ := (row_two ch pw h1 (show a < c by omega) (by omega)).resolve_right (by show ¬ -r a < -r c; omega)
      obtain ⟨v, hv, v1, v2⟩ := (row_two ch pw (show s.1 ≤ b by omega) (show b < d by omega) h5).resolve_right (by show ¬ -r b < -r d; omega)
      have e := part_one ch hu hv (x := b) (by omega) (by omega) v1 (by omega)
      subst e
      exact ⟨u, hu, a, b, c, d, u1, h2, h3, h4, v2, .inr ⟨x1, x2, x3⟩⟩
end
/-- is there a tight nest -/
def tightB (r : Nat → Int) : Nat → List (Nat × Nat) → Nat × Nat → Bool
  | 0, _, _ => false
  | m + 1, E, s => if s.2 - s.1 = 1 then false else decide (kindB (lwL r (prt (inn E s) s)) = 2) || (prt (inn E s) s).any (tightB r m (inn E s))
theorem tight_iff {t : Nat} {r : Nat → Int} (K : Rk t r) : ∀ (m : Nat) (E : List (Nat × Nat)) (s : Nat × Nat), Fam E s → Sub (strL (shL t r)) E s → s.2 - s.1 ≤ m → (tightB r m E s = true ↔ XS r s)
  | 0, E, s, F, _, h => by
    have := F.st s F.me
    omega
  | m + 1, E, s, F, B, h => by
    have st := F.st s F.me
    by_cases c : s.2 - s.1 = 1
    · have e : tightB r (m + 1) E s = false := if_pos c
      rw [e]
      constructor
      · intro z; cases z
      · rintro ⟨a, b, c, d, h1, h2, h3, h4, h5, _⟩
        omega
    · have e : tightB r (m + 1) E s = (decide (kindB (lwL r (prt (inn E s) s)) = 2) || (prt (inn E s) s).any (tightB r m (inn E s))) := if_neg c
      rw [e, Bool.or_eq_true, decide_eq_true_eq, List.any_eq_true]
      have H := prt_prt K F B (by omega)
      have FI := inn_fam F F.me ⟨Nat.le_refl _, Nat.le_refl _⟩
      obtain ⟨ch, mx⟩ := prt_of FI (by omega)
      have two := chn_two H.ch H.pr st
      have ih : ∀ u ∈ prt (inn E s) s, (tightB r m (inn E s) u = true ↔ XS r u) := fun u hu => by
        have su := chn_st ch u hu
        have mu := mx u hu
        refine tight_iff K m (inn E s) u ⟨FI.st, FI.no, fun i h1 h2 => FI.one i (by omega) (by omega), mu.1⟩ (B.inn mu.2.2.1) ?_
        have : ¬ (u.1 = s.1 ∧ u.2 = s.2) := fun z => mu.2.1 (Prod.ext z.1 z.2)
        omega
      constructor
      · rintro (h | ⟨u, hu, h⟩)
        · refine low_cross H (Classical.byContradiction fun z => ?_)
          rcases row_of K H two z with w | w
          · have := (kind0 K H).mpr w
            omega
          · have := (kind1 K H two).mpr w
            omega
        · obtain ⟨a, b, c, d, h1, h2, h3, h4, h5, h6⟩ := (ih u hu).mp h
          have su := chn_st ch u hu
          exact ⟨a, b, c, d, by omega, h2, h3, h4, by omega, h6⟩
      · intro h
        by_cases k2 : kindB (lwL r (prt (inn E s) s)) = 2
        · exact .inl k2
        · refine .inr ?_
          have k3 : kindB (lwL r (prt (inn E s) s)) = 0 ∨ kindB (lwL r (prt (inn E s) s)) = 1 := by
            unfold kindB at *
            split
            · exact .inl rfl
            · split
              · exact .inr rfl
              · rename_i z1 z2
                rw [if_neg z1, if_neg z2] at k2
                exact absurd rfl k2
          have pw : (prt (inn E s) s).Pairwise (Bef r) ∨ (prt (inn E s) s).Pairwise (Bef fun i => -r i) := by
            rcases k3 with z | z
            · exact .inl ((kind0 K H).mp z)
            · exact .inr ((kind1 K H two).mp z)
          obtain ⟨u, hu, x⟩ := row_cross ch pw h
          exact ⟨u, hu, (ih u hu).mpr x⟩
end Dn

set_option Elab.async false
set_option linter.all false
set_option maxRecDepth 100000
set_option maxHeartbeats 4000000
/-! Nn: all nests of a nest; greatest of parts; no part of a row is a row of the same kind, plain -/
namespace Dn
open PySem L2
/-- all stretches of the nest, by fuel -/
def nodF : Nat → List (Nat × Nat) → Nat × Nat → List (Nat × Nat)
  | 0, _, _ => []
  | m + 1, E, s => s :: (if s.2 - s.1 = 1 then [] else (prt (inn E s) s).flatMap (nodF m (inn E s)))
theorem fam_in {E : List (Nat × Nat)} {s u : Nat × Nat} (F : Fam E s) (hu : Mx (inn E s) s u) : Fam (inn E s) u :=
  have FI := inn_fam F F.me ⟨Nat.le_refl _, Nat.le_refl _⟩
  ⟨FI.st, FI.no, fun i h1 h2 => FI.one i (by have := hu.2.2.1.1; omega) (by have := hu.2.2.1.2; omega), hu.1⟩
theorem mx_less {E : List (Nat × Nat)} {s u : Nat × Nat} (h : Mx E s u) (hu : u.1 < u.2) : u.2 - u.1 < s.2 - s.1 := by
  obtain ⟨h1, h2, ⟨w1, w2⟩, _⟩ := h
  have : ¬ (u.1 = s.1 ∧ u.2 = s.2) := fun z => h2 (Prod.ext z.1 z.2)
  omega
theorem nod_wi : ∀ (m : Nat) (E : List (Nat × Nat)) (s : Nat × Nat), Fam E s → ∀ u ∈ nodF m E s, u ∈ E ∧ Wi s u
  | 0, _, _, _, u, h => by cases h
  | m + 1, E, s, F, u, h => by
    rcases List.mem_cons.mp h with e | h
    · subst e; exact ⟨F.me, Nat.le_refl _, Nat.le_refl _⟩
    · have st := F.st s F.me
      by_cases c : s.2 - s.1 = 1
      · rw [if_pos c] at h; cases h
      · rw [if_neg c] at h
        have FI := inn_fam F F.me ⟨Nat.le_refl _, Nat.le_refl _⟩
        obtain ⟨ch, mx⟩ := prt_of FI (by omega)
        obtain ⟨v, hv, hu⟩ := List.mem_flatMap.mp h
        obtain ⟨h1, h2⟩ := nod_wi m _ v (fam_in F (mx v hv)) u hu
        exact ⟨(inn_mem.mp h1).1, (inn_mem.mp h1).2⟩
theorem nod_mem : ∀ (m : Nat) (E : List (Nat × Nat)) (s : Nat × Nat), Fam E s → s.2 - s.1 ≤ m → ∀ u ∈ E, Wi s u → u ∈ nodF m E s
  | 0, E, s, F, h, _, _, _ => by
    have := F.st s F.me
    omega
  | m + 1, E, s, F, h, u, hu, w => by
    have st := F.st s F.me
    have su := F.st u hu
    obtain ⟨w1, w2⟩ := w
    by_cases e : u = s
    · rw [e]; exact List.mem_cons_self
    · refine List.mem_cons_of_mem _ ?_
      by_cases c : s.2 - s.1 = 1
      · exact absurd (Prod.ext (by omega) (by omega)) e
      · rw [if_neg c]
        have FI := inn_fam F F.me ⟨Nat.le_refl _, Nat.le_refl _⟩
        obtain ⟨ch, mx⟩ := prt_of FI (by omega)
        obtain ⟨j, hj, j1, j2⟩ := chn_part _ _ _ u.1 ch w1 (by omega)
        have hv := List.getElem_mem hj
        generalize (prt (inn E s) s)[j] = v at *
        have ui : u ∈ inn E s := inn_mem.mpr ⟨hu, w1, w2⟩
        have vu : Wi v u := by
          rcases Nat.lt_or_ge v.2 u.2 with z | z
          · exfalso
            rcases Nat.lt_or_ge v.1 u.1 with y | y
            · exact FI.no v (mx v hv).1 u ui (.inl ⟨y, j2, z⟩)
            · have e2 := (mx v hv).2.2.2 u ui e ⟨w1, w2⟩ ⟨y, by omega⟩
              rw [e2] at z
              omega
          · exact ⟨j1, z⟩
        exact List.mem_flatMap.mpr ⟨v, hv, nod_mem m _ v (fam_in F (mx v hv)) (by have := mx_less (mx v hv) (chn_st ch v hv).2.1; omega) u ui vu⟩
theorem nod_nd : ∀ (m : Nat) (E : List (Nat × Nat)) (s : Nat × Nat), Fam E s → (nodF m E s).Nodup
  | 0, _, _, _ => .nil
  | m + 1, E, s, F => by
    have st := F.st s F.me
    show (s :: (if s.2 - s.1 = 1 then [] else (prt (inn E s) s).flatMap (nodF m (inn E s)))).Nodup
    by_cases c : s.2 - s.1 = 1
    · rw [if_pos c]; simp
    · rw [if_neg c]
      have FI := inn_fam F F.me ⟨Nat.le_refl _, Nat.le_refl _⟩
      obtain ⟨ch, mx⟩ := prt_of FI (by omega)
      refine List.nodup_cons.mpr ⟨fun h => ?_, ?_⟩
      · obtain ⟨v, hv, hu⟩ := List.mem_flatMap.mp h
        have w := (nod_wi m _ v (fam_in F (mx v hv)) s hu).2
        have := mx_less (mx v hv) (chn_st ch v hv).2.1
        have := w.1
        have := w.2
        omega
      · rw [List.Nodup, List.pairwise_flatMap]
        refine ⟨fun v hv => nod_nd m _ v (fam_in F (mx v hv)), List.Pairwise.imp_of_mem (fun {v w} hv hw h x hx y hy e => ?_) (chn_pw ch)⟩
        subst e
        have a := nod_wi m _ v (fam_in F (mx v hv)) x hx
        have b := nod_wi m _ w (fam_in F (mx w hw)) x hy
        have sx := FI.st x a.1
        have := a.2.2
        have := b.2.1
        omega
theorem nod_perm {m : Nat} {E : List (Nat × Nat)} {s : Nat × Nat} (F : Fam E s) (h : s.2 - s.1 ≤ m) (nd : E.Nodup) (w : ∀ u ∈ E, Wi s u) : E.Perm (nodF m E s) :=
  (List.perm_ext_iff_of_nodup nd (nod_nd m E s F)).mpr fun u => ⟨fun hu => nod_mem m E s F h u hu (w u hu), fun hu => (nod_wi m E s F u hu).1⟩
theorem nod_len {m : Nat} {E : List (Nat × Nat)} {s : Nat × Nat} (F : Fam E s) : (nodF m E s).length ≤ E.length := nd_len _ _ (nod_nd m E s F) fun u hu => (nod_wi m E s F u hu).1
/-! ### the greatest of the parts -/
def hwL (r : Nat → Int) (L : List (Nat × Nat)) : List Int := L.map fun u => hi r u.1 (u.2 - u.1 - 1)
section
variable {t : Nat} {r : Nat → Int} {s : Nat × Nat} {L : List (Nat × Nat)}
theorem up_all {n : Nat} {f : Nat → Int} (h : ∀ k, k + 1 < n → f k < f (k + 1)) : ∀ j i, i < j → j < n → f i < f j
  | 0, i, h1, _ => by omega
  | j + 1, i, h1, h2 => by
    have := h j h2
    rcases Nat.lt_or_ge i j with z | z
    · have := up_all h j i z (by omega)
      omega
    · rw [show i = j by omega]; exact this
theorem lw_at {i : Nat} (hi' : i < L.length) : (lwL r L).getD i 0 = lo r L[i].1 (L[i].2 - L[i].1 - 1) := by
  rw [List.getD_eq_getElem?_getD, List.getElem?_eq_getElem (by unfold lwL; rw [List.length_map]; exact hi')]
  show ((L.map fun u => lo r u.1 (u.2 - u.1 - 1))[i]'(by rw [List.length_map]; exact hi')) = _
  exact List.getElem_map ..
theorem hw_at {i : Nat} (hi' : i < L.length) : (hwL r L).getD i 0 = hi r L[i].1 (L[i].2 - L[i].1 - 1) := by
  rw [List.getD_eq_getElem?_getD, List.getElem?_eq_getElem (by unfold hwL; rw [List.length_map]; exact hi')]
  show ((L.map fun u => hi r u.1 (u.2 - u.1 - 1))[i]'(by rw [List.length_map]; exact hi')) = _
  exact List.getElem_map ..
theorem lo_hi (a k : Nat) : lo r a k ≤ hi r a k := Int.le_trans (lo_le (r := r) (a := a) k 0 (Nat.zero_le _)) (le_hi (r := r) (a := a) k 0 (Nat.zero_le _))
/-- all greatest below the next least: in a row -/
theorem up_iff (H : Prt t r s L) : (∀ k, k + 1 < L.length → (hwL r L).getD k 0 < (lwL r L).getD (k + 1) 0) ↔ L.Pairwise (Bef r) := by
  have st := fun k (hk : k < L.length) => chn_st H.ch _ (List.getElem_mem hk)
  constructor
  · intro h
    have a := up_all (f := fun k => (lwL r L).getD k 0) (n := L.length) (fun k hk => by
      have := h k hk
      rw [hw_at (by omega)] at this
      show (lwL r L).getD k 0 < _
      rw [lw_at (show k < L.length by omega)]
      exact Int.lt_of_le_of_lt (lo_hi _ _) this)
    refine lw_pw H ?_
    rw [List.pairwise_iff_getElem]
    intro i j hi' hj ij
    have ll : (lwL r L).length = L.length := by unfold lwL; rw [List.length_map]
    have := a j i ij (by omega)
    have this : (lwL r L).getD i 0 < (lwL r L).getD j 0 := this
    rw [List.getD_eq_getElem?_getD, List.getD_eq_getElem?_getD, List.getElem?_eq_getElem hi', List.getElem?_eq_getElem hj] at this
    exact this
  · intro pw k hk
    rw [hw_at (by omega), lw_at hk]
    have s1 := st k (by omega)
    have s2 := st (k + 1) hk
    obtain ⟨i, i1, i2⟩ := hi_at (r := r) (a := L[k].1) (L[k].2 - L[k].1 - 1)
    obtain ⟨j, j1, j2⟩ := lo_at (r := r) (a := L[k + 1].1) (L[k + 1].2 - L[k + 1].1 - 1)
    rw [i2, j2]
    exact List.pairwise_iff_getElem.mp pw k (k + 1) (by omega) hk (by omega) _ _ (by omega) (by omega) (by omega) (by omega)
theorem down_iff (H : Prt t r s L) : (∀ k, k + 1 < L.length → (hwL r L).getD (k + 1) 0 < (lwL r L).getD k 0) ↔ L.Pairwise (Bef fun i => -r i) := by
  have st := fun k (hk : k < L.length) => chn_st H.ch _ (List.getElem_mem hk)
  constructor
  · intro h
    have a := up_all (f := fun k => -(lwL r L).getD k 0) (n := L.length) (fun k hk => by
      have := h k hk
      rw [hw_at hk] at this
      show -(lwL r L).getD k 0 < -(lwL r L).getD (k + 1) 0
      rw [lw_at (show k + 1 < L.length by omega)]
      have := lo_hi (r := r) L[k + 1].1 (L[k + 1].2 - L[k + 1].1 - 1)
      omega)
    refine lw_pwn H ?_
    rw [List.pairwise_iff_getElem]
    intro i j hi' hj ij
    have ll : (lwL r L).length = L.length := by unfold lwL; rw [List.length_map]
    have := a j i ij (by omega)
    have this : -(lwL r L).getD i 0 < -(lwL r L).getD j 0 := this
    rw [List.getD_eq_getElem?_getD, List.getD_eq_getElem?_getD, List.getElem?_eq_getElem hi', List.getElem?_eq_getElem hj] at this
    have this : -(lwL r L)[i] < -(lwL r L)[j] := this
    omega
  · intro pw k hk
    rw [hw_at hk, lw_at (by omega)]
    have s1 := st k (by omega)
    have s2 := st (k + 1) hk
    obtain ⟨i, i1, i2⟩ := hi_at (r := r) (a := L[k + 1].1) (L[k + 1].2 - L[k + 1].1 - 1)
    obtain ⟨j, j1, j2⟩ := lo_at (r := r) (a := L[k].1) (L[k].2 - L[k].1 - 1)
    rw [i2, j2]
    have := List.pairwise_iff_getElem.mp pw k (k + 1) (by omega) hk (by omega) (L[k].1 + j) (L[k + 1].1 + i) (by omega) (by omega) (by omega) (by omega)
    have this : -r (L[k].1 + j) < -r (L[k + 1].1 + i) := this
    omega
/-- no part of a row is a row of the same kind -/
theorem no_row {f : Nat → Int} {u : Nat × Nat} {L' : List (Nat × Nat)} (H : Prt t f s L) (pw : L.Pairwise (Bef f)) (hu : u ∈ L) (H' : Prt t f u L') (pw' : L'.Pairwise (Bef f)) (h2 : 2 ≤ L'.length) : False := by
  match L', H', pw', h2 with
  | v :: w :: l, H', pw', _ =>
    have su := chn_st H.ch u hu
    have c1 : v.1 = u.1 := H'.ch.1
    have c2 : u.1 < v.2 := H'.ch.2.1
    have c3 : w.1 = v.2 := H'.ch.2.2.1
    have c4 : v.2 < w.2 := H'.ch.2.2.2.1
    have sw := chn_st H'.ch w (List.mem_cons_of_mem _ List.mem_cons_self)
    have sp : Sp f s w.1 := by
      refine ⟨by omega, by omega, fun i j i1 i2 j1 j2 => ?_⟩
      rcases row_two H.ch pw i1 (show i < j by omega) j2 with ⟨x, hx, x1, x2⟩ | z
      · have e := part_one H.ch hx hu (x := w.1) (by omega) (by omega) (by omega) (by omega)
        subst e
        rcases row_two H'.ch pw' x1 (show i < j by omega) x2 with ⟨y, hy, y1, y2⟩ | z
        · have e := part_one H'.ch hy (List.mem_cons_of_mem _ List.mem_cons_self) (x := w.1) (by omega) (by omega) (Nat.le_refl _) (by omega)
          subst e
          omega
        · exact z
      · exact z
    exact sp_part H hu sp ⟨by omega, by omega⟩
/-- what is neither straight nor turned has four parts or more -/
theorem tight_four (K : Rk t r) (H : Prt t r s L) (h2 : 2 ≤ L.length) (h : kindB (lwL r L) = 2) : 4 ≤ L.length := by
  refine Classical.byContradiction fun z => ?_
  rcases row_of K H h2 (fun ⟨a, b, c, d, h1, h2, h3, h4, _⟩ => by omega) with p | p
  · have := (kind0 K H).mpr p
    omega
  · have := (kind1 K H h2).mpr p
    omega
/-- kinds of a nest and of its part -/
theorem kind_part (K : Rk t r) {u : Nat × Nat} {L' : List (Nat × Nat)} (H : Prt t r s L) (h2 : 2 ≤ L.length) (hu : u ∈ L) (H' : Prt t r u L') (h2' : 2 ≤ L'.length) (e : kindB (lwL r L') = kindB (lwL r L)) : kindB (lwL r L') = 2 := by
  have le : ∀ l, kindB l = 0 ∨ kindB l = 1 ∨ kindB l = 2 := fun l => by
    unfold kindB
    split
    · exact .inl rfl
    · split
      · exact .inr (.inl rfl)
      · exact .inr (.inr rfl)
  rcases le (lwL r L') with z | z | z
  · exact (no_row H ((kind0 K H).mp (e ▸ z)) hu H' ((kind0 K H').mp z) h2').elim
  · exact (no_row H.neg ((kind1 K H h2).mp (e ▸ z)) hu H'.neg ((kind1 K H' h2').mp z) h2').elim
  · exact z
end
/-! ### the strong ones are ascending -/
def LtP2 (u v : Nat × Nat) : Prop := u.1 < v.1 ∨ (u.1 = v.1 ∧ u.2 < v.2)
theorem shL_srt {t : Nat} {r : Nat → Int} : (shL t r).Pairwise LtP2 := by
  unfold shL
  rw [List.pairwise_flatMap]
  refine ⟨fun a _ => ?_, ?_⟩
  · rw [List.pairwise_map]
    exact List.Pairwise.imp (fun {x y} h => .inr ⟨rfl, by show a + x + 1 < a + y + 1; omega⟩) ((List.pairwise_lt_range (n := t - a)).filter _)
  · refine List.Pairwise.imp (fun {a b} h x hx y hy => ?_) (List.pairwise_lt_range (n := t))
    obtain ⟨_, _, rfl⟩ := List.mem_map.mp hx
    obtain ⟨_, _, rfl⟩ := List.mem_map.mp hy
    exact .inl h
theorem strL_srt {t : Nat} {r : Nat → Int} : (strL (shL t r)).Pairwise LtP2 := shL_srt.filter _
end Dn

set_option Elab.async false
set_option linter.all false
set_option maxRecDepth 100000
set_option maxHeartbeats 4000000
/-! Ga: all shared stretches of a nest, plain -/
namespace Dn
open PySem L2
section
variable {t : Nat} {r : Nat → Int} {s : Nat × Nat} {L : List (Nat × Nat)}
/-- a shared one within: in one part, or from one part to another -/
theorem sh_class (H : Prt t r s L) {u : Nat × Nat} (cu : Cv t r u.1 u.2) (w : Wi s u) : (∃ p ∈ L, Wi p u) ∨ ∃ i j, i < j ∧ ∃ (hi : i < L.length) (hj : j < L.length), u = (L[i].1, L[j].2) := by
  obtain ⟨w1, w2⟩ := w
  have hu := cu.1
  obtain ⟨i, hi, i1, i2⟩ := chn_part L s.1 s.2 u.1 H.ch w1 (by omega)
  obtain ⟨j, hj, j1, j2⟩ := chn_part L s.1 s.2 (u.2 - 1) H.ch (by omega) (by omega)
  have ni := H.nu _ (List.getElem_mem hi) u.1 u.2 cu
  have nj := H.nu _ (List.getElem_mem hj) u.1 u.2 cu
  rcases Nat.lt_or_ge L[i].2 u.2 with z | z
  · right
    have ij : i < j := by
      rcases Nat.lt_trichotomy i j with y | y | y
      · exact y
      · subst y; omega
      · have := List.pairwise_iff_getElem.mp (chn_pw H.ch) j i hj hi y; omega
    have pij := List.pairwise_iff_getElem.mp (chn_pw H.ch) i j hi hj ij
    refine ⟨i, j, ij, hi, hj, Prod.ext ?_ ?_⟩
    · show u.1 = L[i].1
      unfold Ov at ni; simp only at ni; omega
    · show u.2 = L[j].2
      unfold Ov at nj; simp only at nj; omega
  · exact .inl ⟨L[i], List.getElem_mem hi, i1, z⟩
theorem row_union (H : Prt t r s L) (pw : L.Pairwise (Bef r)) {i j : Nat} (ij : i < j) (hi : i < L.length) (hj : j < L.length) : Cv t r L[i].1 L[j].2 := by
  have si := chn_st H.ch _ (List.getElem_mem hi)
  have sj := chn_st H.ch _ (List.getElem_mem hj)
  have pij := List.pairwise_iff_getElem.mp (chn_pw H.ch) i j hi hj ij
  have hs := H.c.2.1
  refine ⟨by omega, by omega, fun a b p a1 a2 b1 b2 pt q1 q2 => ?_⟩
  obtain ⟨p1, p2⟩ := H.c.2.2 a b p (by omega) (by omega) (by omega) (by omega) pt q1 q2
  constructor
  · rcases Nat.lt_or_ge p L[i].1 with z | z
    · rcases row_two H.ch pw p1 (show p < a by omega) (by omega) with ⟨u, hu, u1, u2⟩ | y
      · have e := part_one H.ch hu (List.getElem_mem hi) (x := L[i].1) (by omega) (by omega) (Nat.le_refl _) (by omega)
        rw [e] at u1
        omega
      · omega
    · exact z
  · rcases Nat.lt_or_ge p L[j].2 with z | z
    · exact z
    · rcases row_two H.ch pw (show s.1 ≤ b by omega) (show b < p by omega) p2 with ⟨u, hu, u1, u2⟩ | y
      · have e := part_one H.ch hu (List.getElem_mem hj) (x := L[j].2 - 1) (by omega) (by omega) (by omega) (by omega)
        rw [e] at u2
        omega
      · omega
theorem cut_two (K : Rk t r) {a b : Nat} (A : Cv t r s.1 b) (B : Cv t r a s.2) (h1 : s.1 < a) (h2 : a < b) (h3 : b < s.2) : Sp r s a ∨ Sp (fun i => -r i) s a := by
  have l := cv_left A B h1 h2 h3
  have bt := B.2.1
  by_cases z : r s.1 < r a
  · have := bef_of (u := (s.1, a)) (v := (a, s.2)) l B (.inl (Nat.le_refl _)) (x := s.1) (y := a) (Nat.le_refl _) h1 (Nat.le_refl _) (by show a < s.2; omega) z
    exact .inl ⟨h1, by omega, fun i j i1 i2 j1 j2 => this i j i1 i2 j1 j2⟩
  · have ne : r s.1 ≠ r a := fun e => by
      have := K.inj s.1 a (by omega) (by omega) e
      omega
    have := bef_of (f := fun i => -r i) (u := (s.1, a)) (v := (a, s.2)) (cv_neg.mpr l) (cv_neg.mpr B) (.inl (Nat.le_refl _)) (x := s.1) (y := a) (Nat.le_refl _) h1 (Nat.le_refl _) (by show a < s.2; omega) (by show -r s.1 < -r a; omega)
    exact .inr ⟨h1, by omega, fun i j i1 i2 j1 j2 => this i j i1 i2 j1 j2⟩
theorem cut_of (K : Rk t r) (H : Prt t r s L) : ∀ (n : Nat) (u : Nat × Nat), Cv t r u.1 u.2 → Wi s u → u ≠ s → (¬ ∃ p ∈ L, Wi p u) → (s.2 - s.1) - (u.2 - u.1) ≤ n → ∃ c, Sp r s c ∨ Sp (fun i => -r i) s c := by
  intro n
  induction n with
  | zero =>
    intro u cu w ne no hn
    exfalso
    have := cu.1
    have := H.c.1
    exact ne (Prod.ext (by have := w.1; have := w.2; omega) (by have := w.1; have := w.2; omega))
  | succ n ih =>
    intro u cu w ne no hn
    have h1 := cu.1
    obtain ⟨w1, w2⟩ := w
    have ex : ∃ x y, Cv t r x y ∧ Ov u (x, y) := by
      refine Classical.byContradiction fun z => ?_
      rcases sh_class H cu ⟨w1, w2⟩ with h | ⟨i, j, ij, hi, hj, e⟩
      · exact no h
      · have si := chn_st H.ch _ (List.getElem_mem hi)
        have sj := chn_st H.ch _ (List.getElem_mem hj)
        have pij := List.pairwise_iff_getElem.mp (chn_pw H.ch) i j hi hj ij
        have e1 : u.1 = L[i].1 := by rw [e]
        have e2 : u.2 = L[j].2 := by rw [e]
        have := H.mx L[i] (List.getElem_mem hi) u.1 u.2 cu (fun x y hx ho => z ⟨x, y, hx, ho⟩) ne ⟨w1, w2⟩ ⟨by omega, by omega⟩
        have this : u = L[i] := this
        exact no ⟨L[i], List.getElem_mem hi, by rw [this]; exact ⟨Nat.le_refl _, Nat.le_refl _⟩⟩
    obtain ⟨x, y, V, o⟩ := ex
    have nsv := H.ns x y V
    have bigger : ∀ v : Nat × Nat, Cv t r v.1 v.2 → Wi s v → v ≠ s → v.1 ≤ u.1 → u.2 ≤ v.2 → u.2 - u.1 < v.2 - v.1 → ∃ c, Sp r s c ∨ Sp (fun i => -r i) s c := fun v cv wv nv v1 v2 lt => by
      refine ih v cv wv nv (fun ⟨p, hp, pw⟩ => no ⟨p, hp, by have := pw.1; omega, by have := pw.2; omega⟩) (by have := wv.1; have := wv.2; omega)
    rcases o with ⟨o1, o2, o3⟩ | ⟨o1, o2, o3⟩
    · have o1 : u.1 < x := o1
      have o2 : x < u.2 := o2
      have o3 : u.2 < y := o3
      have ys : y ≤ s.2 := by
        rcases Nat.lt_or_ge s.2 y with z | z
        · exact absurd (.inl ⟨by show s.1 < x; omega, by show x < s.2; omega, z⟩) nsv
        · exact z
      by_cases e : (u.1, y) = s
      · have e1 : u.1 = s.1 := by rw [← e]
        have e2 : y = s.2 := by rw [← e]
        exact ⟨x, cut_two K (b := u.2) (e1 ▸ cu) (e2 ▸ V) (by omega) o2 (by omega)⟩
      · exact bigger (u.1, y) (cv_all cu V o1 o2 o3) ⟨w1, ys⟩ e (Nat.le_refl _) (by show u.2 ≤ y; omega) (by show u.2 - u.1 < y - u.1; omega)
    · have o1 : x < u.1 := o1
      have o2 : u.1 < y := o2
      have o3 : y < u.2 := o3
      have xs : s.1 ≤ x := by
        rcases Nat.lt_or_ge x s.1 with z | z
        · exact absurd (.inr ⟨z, by show s.1 < y; omega, by show y < s.2; omega⟩) nsv
        · exact z
      by_cases e : (x, u.2) = s
      · have e1 : x = s.1 := by rw [← e]
        have e2 : u.2 = s.2 := by rw [← e]
        exact ⟨u.1, cut_two K (b := y) (e1 ▸ V) (e2 ▸ cu) (by omega) o2 (by omega)⟩
      · exact bigger (x, u.2) (cv_all V cu o1 o2 o3) ⟨xs, w2⟩ e (by show x ≤ u.1; omega) (Nat.le_refl _) (by show u.2 - u.1 < u.2 - x; omega)
/-- within a tight one, all shared ones lie in parts -/
theorem tight_in (K : Rk t r) (H : Prt t r s L) (h2 : 2 ≤ L.length) (k2 : kindB (lwL r L) = 2) {u : Nat × Nat} (cu : Cv t r u.1 u.2) (w : Wi s u) (ne : u ≠ s) : ∃ p ∈ L, Wi p u := by
  refine Classical.byContradiction fun z => ?_
  obtain ⟨c, hc | hc⟩ := cut_of K H _ u cu w ne z (Nat.le_refl _)
  · have := (kind0 K H).mpr (row_all H hc)
    omega
  · have := (kind1 K H h2).mpr (row_all H.neg hc)
    omega
theorem kind_le (l : List Int) : kindB l ≤ 2 := by
  unfold kindB
  split
  · omega
  · split <;> omega
theorem lin_union (K : Rk t r) (H : Prt t r s L) (h2 : 2 ≤ L.length) (k2 : kindB (lwL r L) ≠ 2) {i j : Nat} (ij : i < j) (hi : i < L.length) (hj : j < L.length) : Cv t r L[i].1 L[j].2 := by
  have := kind_le (lwL r L)
  by_cases k : kindB (lwL r L) = 0
  · exact row_union H ((kind0 K H).mp k) ij hi hj
  · exact cv_neg.mp (row_union H.neg ((kind1 K H h2).mp (by omega)) ij hi hj)
end
/-! ### all of them, in the order of the program -/
def prsF (L : List (Nat × Nat)) : List (Nat × Nat) := (List.range L.length).flatMap fun i => ((List.range (L.length - (i + 1))).filter fun k => decide (k + 2 < L.length)).map fun k => ((L.getD i (0, 0)).1, (L.getD (i + 1 + k) (0, 0)).2)
theorem getD_at {α : Type} {L : List α} {d : α} {i : Nat} (h : i < L.length) : L.getD i d = L[i] := by
  rw [List.getD_eq_getElem?_getD, List.getElem?_eq_getElem h]; rfl
theorem prs_mem {L : List (Nat × Nat)} {u : Nat × Nat} : u ∈ prsF L ↔ ∃ i j, i < j ∧ j - i + 1 < L.length ∧ ∃ (hi : i < L.length) (hj : j < L.length), u = (L[i].1, L[j].2) := by
  unfold prsF
  rw [List.mem_flatMap]
  constructor
  · rintro ⟨i, hi, h⟩
    obtain ⟨k, hk, rfl⟩ := List.mem_map.mp h
    rw [List.mem_filter, List.mem_range, decide_eq_true_eq] at hk
    rw [List.mem_range] at hi
    refine ⟨i, i + 1 + k, by omega, by omega, hi, by omega, ?_⟩
    rw [getD_at hi, getD_at (show i + 1 + k < L.length by omega)]
  · rintro ⟨i, j, ij, h, hi, hj, rfl⟩
    refine ⟨i, List.mem_range.mpr hi, List.mem_map.mpr ⟨j - (i + 1), ?_, ?_⟩⟩
    · rw [List.mem_filter, List.mem_range, decide_eq_true_eq]
      exact ⟨by omega, by omega⟩
    · rw [show i + 1 + (j - (i + 1)) = j by omega, getD_at hi, getD_at hj]
theorem prs_nd {L : List (Nat × Nat)} {a b : Nat} (ch : Chn a b L) : (prsF L).Nodup := by
  have pw := chn_pw ch
  have st := fun i (hi : i < L.length) => chn_st ch _ (List.getElem_mem hi)
  have lt1 : ∀ i j, i < j → (hi : i < L.length) → (hj : j < L.length) → L[i].1 < L[j].1 ∧ L[i].2 < L[j].2 := fun i j ij hi hj => by
    have := List.pairwise_iff_getElem.mp pw i j hi hj ij
    have := st i hi
    have := st j hj
    omega
  unfold prsF
  rw [List.Nodup, List.pairwise_flatMap]
  refine ⟨fun i hi => ?_, List.Pairwise.imp_of_mem (fun {i j} hi hj ij x hx y hy e => ?_) (List.pairwise_lt_range (n := L.length))⟩
  · rw [List.mem_range] at hi
    rw [List.pairwise_map]
    refine List.Pairwise.imp_of_mem (fun {k l} hk hl kl e => ?_) ((List.pairwise_lt_range (n := L.length - (i + 1))).filter _)
    have hk := List.mem_range.mp (List.mem_filter.mp hk).1
    have hl := List.mem_range.mp (List.mem_filter.mp hl).1
    have e2 := congrArg Prod.snd e
    have e2 : (L.getD (i + 1 + k) (0, 0)).2 = (L.getD (i + 1 + l) (0, 0)).2 := e2
    rw [getD_at (show i + 1 + k < L.length by omega), getD_at (show i + 1 + l < L.length by omega)] at e2
    have := (lt1 (i + 1 + k) (i + 1 + l) (by omega) (by omega) (by omega)).2
    omega
  · rw [List.mem_range] at hi hj
    obtain ⟨k, hk, rfl⟩ := List.mem_map.mp hx
    obtain ⟨l, hl, rfl⟩ := List.mem_map.mp hy
    have e1 := congrArg Prod.fst e
    have e1 : (L.getD i (0, 0)).1 = (L.getD j (0, 0)).1 := e1
    rw [getD_at hi, getD_at hj] at e1
    have := (lt1 i j ij hi hj).1
    omega
def gathF (r : Nat → Int) : Nat → List (Nat × Nat) → Nat × Nat → List (Nat × Nat)
  | 0, _, _ => []
  | m + 1, E, s => s :: (if s.2 - s.1 = 1 then [] else (prt (inn E s) s).flatMap (gathF r m (inn E s)) ++ if kindB (lwL r (prt (inn E s) s)) = 2 then [] else prsF (prt (inn E s) s))
theorem sub_in {t : Nat} {r : Nat → Int} {E : List (Nat × Nat)} {s u : Nat × Nat} (B : Sub (strL (shL t r)) E s) (w : Wi s u) : Sub (strL (shL t r)) (inn E s) u := B.inn w
theorem gath_mem {t : Nat} {r : Nat → Int} (K : Rk t r) : ∀ (m : Nat) (E : List (Nat × Nat)) (s : Nat × Nat), Fam E s → Sub (strL (shL t r)) E s → s.2 - s.1 ≤ m → ∀ u, u ∈ gathF r m E s ↔ Cv t r u.1 u.2 ∧ Wi s u
  | 0, E, s, F, _, h, u => by
    have := F.st s F.me
    omega
  | m + 1, E, s, F, B, h, u => by
    have st := F.st s F.me
    have cs : Cv t r s.1 s.2 := (shL_mem K).mp (strL_mem.mp (B.1 s F.me)).1
    have hd : u = s → (Cv t r u.1 u.2 ∧ Wi s u) := fun e => by subst e; exact ⟨cs, Nat.le_refl _, Nat.le_refl _⟩
    by_cases c : s.2 - s.1 = 1
    · have e : gathF r (m + 1) E s = [s] := by show s :: (if s.2 - s.1 = 1 then [] else _) = _; rw [if_pos c]
      rw [e, List.mem_singleton]
      refine ⟨hd, fun ⟨cu, w1, w2⟩ => ?_⟩
      have := cu.1
      exact Prod.ext (by omega) (by omega)
    · have e : gathF r (m + 1) E s = s :: ((prt (inn E s) s).flatMap (gathF r m (inn E s)) ++ if kindB (lwL r (prt (inn E s) s)) = 2 then [] else prsF (prt (inn E s) s)) := by
        show s :: (if s.2 - s.1 = 1 then [] else _) = _; rw [if_neg c]
      rw [e, List.mem_cons, List.mem_append, List.mem_flatMap]
      have H := prt_prt K F B (by omega)
      have FI := inn_fam F F.me ⟨Nat.le_refl _, Nat.le_refl _⟩
      obtain ⟨ch, mx⟩ := prt_of FI (by omega)
      have two := chn_two H.ch H.pr st
      have ih : ∀ p ∈ prt (inn E s) s, ∀ u, (u ∈ gathF r m (inn E s) p ↔ Cv t r u.1 u.2 ∧ Wi p u) := fun p hp u =>
        gath_mem K m _ p (fam_in F (mx p hp)) (B.inn (mx p hp).2.2.1) (by have := mx_less (mx p hp) (chn_st ch p hp).2.1; omega) u
      constructor
      · rintro (h | ⟨p, hp, h⟩ | h)
        · exact hd h
        · obtain ⟨h1, h2⟩ := (ih p hp u).mp h
          have w := (mx p hp).2.2.1
          exact ⟨h1, Nat.le_trans w.1 h2.1, Nat.le_trans h2.2 w.2⟩
        · split at h
          · cases h
          · rename_i k2
            obtain ⟨i, j, ij, _, hi, hj, rfl⟩ := prs_mem.mp h
            have si := chn_st ch _ (List.getElem_mem hi)
            have sj := chn_st ch _ (List.getElem_mem hj)
            exact ⟨lin_union K H two k2 ij hi hj, si.1, sj.2.2⟩
      · rintro ⟨cu, w⟩
        by_cases es : u = s
        · exact .inl es
        · right
          rcases sh_class H cu w with ⟨p, hp, wp⟩ | ⟨i, j, ij, hi, hj, e⟩
          · exact .inl ⟨p, hp, (ih p hp u).mpr ⟨cu, wp⟩⟩
          · by_cases k2 : kindB (lwL r (prt (inn E s) s)) = 2
            · obtain ⟨p, hp, wp⟩ := tight_in K H two k2 cu w es
              exact .inl ⟨p, hp, (ih p hp u).mpr ⟨cu, wp⟩⟩
            · refine .inr ?_
              rw [if_neg k2]
              refine prs_mem.mpr ⟨i, j, ij, ?_, hi, hj, e⟩
              refine Classical.byContradiction fun z => es ?_
              have i0 : i = 0 := by omega
              have jn : j = (prt (inn E s) s).length - 1 := by omega
              have h0 : (prt (inn E s) s)[i].1 = s.1 := by
                obtain ⟨a, ha, a1, a2⟩ := chn_part _ _ _ s.1 ch (Nat.le_refl _) st
                have sa := chn_st ch _ (List.getElem_mem ha)
                rcases Nat.lt_or_ge i a with y | y
                · have := List.pairwise_iff_getElem.mp (chn_pw ch) i a hi ha y
                  have := chn_st ch _ (List.getElem_mem hi)
                  omega
                · have e : i = a := by omega
                  subst e
                  omega
              have hn : (prt (inn E s) s)[j].2 = s.2 := by
                obtain ⟨a, ha, a1, a2⟩ := chn_part _ _ _ (s.2 - 1) ch (by omega) (by omega)
                have sa := chn_st ch _ (List.getElem_mem ha)
                rcases Nat.lt_or_ge a j with y | y
                · have := List.pairwise_iff_getElem.mp (chn_pw ch) a j ha hj y
                  have := chn_st ch _ (List.getElem_mem hj)
                  omega
                · have e : j = a := by omega
                  subst e
                  omega
              rw [e]
              exact Prod.ext h0 hn
theorem gath_nd {t : Nat} {r : Nat → Int} (K : Rk t r) : ∀ (m : Nat) (E : List (Nat × Nat)) (s : Nat × Nat), Fam E s → Sub (strL (shL t r)) E s → s.2 - s.1 ≤ m → (gathF r m E s).Nodup
  | 0, _, _, _, _, _ => .nil
  | m + 1, E, s, F, B, h => by
    have st := F.st s F.me
    by_cases c : s.2 - s.1 = 1
    · have e : gathF r (m + 1) E s = [s] := by show s :: (if s.2 - s.1 = 1 then [] else _) = _; rw [if_pos c]
      rw [e]; simp
    · have e : gathF r (m + 1) E s = s :: ((prt (inn E s) s).flatMap (gathF r m (inn E s)) ++ if kindB (lwL r (prt (inn E s) s)) = 2 then [] else prsF (prt (inn E s) s)) := by
        show s :: (if s.2 - s.1 = 1 then [] else _) = _; rw [if_neg c]
      rw [e]
      have H := prt_prt K F B (by omega)
      have FI := inn_fam F F.me ⟨Nat.le_refl _, Nat.le_refl _⟩
      obtain ⟨ch, mx⟩ := prt_of FI (by omega)
      have two := chn_two H.ch H.pr st
      have le : ∀ p ∈ prt (inn E s) s, p.2 - p.1 ≤ m := fun p hp => by have := mx_less (mx p hp) (chn_st ch p hp).2.1; omega
      have mem : ∀ p ∈ prt (inn E s) s, ∀ u, (u ∈ gathF r m (inn E s) p ↔ Cv t r u.1 u.2 ∧ Wi p u) := fun p hp u =>
        gath_mem K m _ p (fam_in F (mx p hp)) (B.inn (mx p hp).2.2.1) (le p hp) u
      have pu : ∀ u, u ∈ (if kindB (lwL r (prt (inn E s) s)) = 2 then [] else prsF (prt (inn E s) s)) → u ∈ prsF (prt (inn E s) s) := fun u hu => by
        split at hu
        · cases hu
        · exact hu
      refine List.nodup_cons.mpr ⟨fun hs => ?_, List.nodup_append.mpr ⟨?_, ?_, ?_⟩⟩
      · rcases List.mem_append.mp hs with hs | hs
        · obtain ⟨p, hp, hs⟩ := List.mem_flatMap.mp hs
          have w := ((mem p hp s).mp hs).2
          have := mx_less (mx p hp) (chn_st ch p hp).2.1
          have := w.1
          have := w.2
          omega
        · obtain ⟨i, j, ij, hn, hi, hj, e⟩ := prs_mem.mp (pu _ hs)
          have e1 : s.1 = (prt (inn E s) s)[i].1 := by conv => lhs; rw [e]
          have e2 : s.2 = (prt (inn E s) s)[j].2 := by conv => lhs; rw [e]
          by_cases i0 : i = 0
          · have := List.pairwise_iff_getElem.mp (chn_pw ch) j (j + 1) hj (by omega) (by omega)
            have := chn_st ch _ (List.getElem_mem (show j + 1 < (prt (inn E s) s).length by omega))
            omega
          · have := List.pairwise_iff_getElem.mp (chn_pw ch) 0 i (by omega) hi (by omega)
            have := chn_st ch _ (List.getElem_mem (show 0 < (prt (inn E s) s).length by omega))
            omega
      · rw [List.Nodup, List.pairwise_flatMap]
        refine ⟨fun p hp => gath_nd K m _ p (fam_in F (mx p hp)) (B.inn (mx p hp).2.2.1) (le p hp), List.Pairwise.imp_of_mem (fun {v w} hv hw h x hx y hy e => ?_) (chn_pw ch)⟩
        subst e
        have a := (mem v hv x).mp hx
        have b := (mem w hw x).mp hy
        have := a.1.1
        have := a.2.2
        have := b.2.1
        omega
      · split
        · exact .nil
        · exact prs_nd ch
      · intro x hx y hy e
        subst e
        obtain ⟨p, hp, hx⟩ := List.mem_flatMap.mp hx
        have w := ((mem p hp x).mp hx).2
        obtain ⟨i, j, ij, hn, hi, hj, e⟩ := prs_mem.mp (pu _ hy)
        have e1 : x.1 = (prt (inn E s) s)[i].1 := by conv => lhs; rw [e]
        have e2 : x.2 = (prt (inn E s) s)[j].2 := by conv => lhs; rw [e]
        have pij := List.pairwise_iff_getElem.mp (chn_pw ch) i j hi hj ij
        have si := chn_st ch _ (List.getElem_mem hi)
        have sj := chn_st ch _ (List.getElem_mem hj)
        have w1 := w.1
        have w2 := w.2
        have ei := part_one ch hp (List.getElem_mem hi) (x := (prt (inn E s) s)[i].1) (by omega) (by omega) (Nat.le_refl _) (by omega)
        have ej := part_one ch hp (List.getElem_mem hj) (x := (prt (inn E s) s)[j].2 - 1) (by omega) (by omega) (by omega) (by omega)
        rw [ei] at ej
        rw [ej] at pij
        omega
/-- all of the whole: the shared ones -/
theorem gath_perm {t : Nat} {r : Nat → Int} (K : Rk t r) (h0 : 0 < t) {m : Nat} (h : t ≤ m) : (shL t r).Perm (gathF r m (strL (shL t r)) (0, t)) := by
  have F := str_fam K h0
  have B : Sub (strL (shL t r)) (strL (shL t r)) (0, t) := ⟨fun u h => h, fun u h _ => h⟩
  refine (List.perm_ext_iff_of_nodup shL_nd (gath_nd K m _ _ F B (by show t - 0 ≤ m; omega))).mpr fun u => ?_
  rw [gath_mem K m _ _ F B (by show t - 0 ≤ m; omega) u]
  constructor
  · intro hu
    obtain ⟨a, b⟩ := u
    have := (shL_mem K).mp hu
    exact ⟨this, Nat.zero_le _, this.2.1⟩
  · rintro ⟨h1, _⟩
    obtain ⟨a, b⟩ := u
    exact (shL_mem K).mpr h1
end Dn

set_option Elab.async false
set_option linter.all false
set_option maxRecDepth 100000
set_option maxHeartbeats 4000000
/-! Lk: a line as data: a tuple, its object known or not -/
namespace Dn
open PySem L2
/-- a pair of places as data -/
def npD (t : Nat × Nat) : D := .tuple [.int (t.1 : Int), .int (t.2 : Int)]
inductive LnD (ms : List Int) : D → Prop
  | t : LnD ms (.tuple (ms.map .int))
  | k : LnD ms (ktD (ms.map .int))
section
variable {ms : List Int} {d : D}
theorem LnD.len (h : LnD ms d) : lenD [d] = some (.int (ms.length : Int)) := by
  cases h
  · rw [lenD_t, List.length_map]
  · rw [lenD_k, List.length_map]
theorem LnD.srt (h : LnD ms d) : sortUD [d] = some ((sortI ms).map .int) := by
  cases h
  · exact sortUD_t
  · exact sortUD_k
theorem LnD.items (h : LnD ms d) : itemsD d = .ok (ms.map .int) := by
  cases h <;> rfl
theorem LnD.enum (h : LnD ms d) : enumM [d] = .ok (enumL (ms.map .int)) := by
  rw [enumM_one, h.items]; rfl
theorem LnD.ix (h : LnD ms d) {i v : Int} (h0 : 0 ≤ i) (e : ms[i.toNat]? = some v) : ixD d (.int i) = some (.int v) := by
  cases h
  · exact ixD_it h0 e
  · exact ixD_it h0 e
theorem LnD.list (h : LnD ms d) : listD [d] = some (ms.map .int) := by
  cases h <;> rfl
end
/-- the place of a thing in a line -/
theorem placeI_nd {z : Int} : ∀ {ns : List Int} {j : Nat}, ns.Nodup → ns[j]? = some z → placeI z ns = some j
  | [], j, _, h => by simp at h
  | n :: ns, j, nd, h => by
    unfold placeI
    cases j with
    | zero => rw [if_pos (by simpa using h)]
    | succ j =>
      have h : ns[j]? = some z := by simpa using h
      have ne : ¬ n = z := fun e => (List.nodup_cons.mp nd).1 (e ▸ List.mem_of_getElem? h)
      rw [if_neg ne, placeI_nd (List.nodup_cons.mp nd).2 h]
      rfl
theorem addD_kt {a b : List D} (h : a.length + b.length ≤ 16777216) (hb : b ≠ []) : addD (ktD a) (.tuple b) = some (.tuple (a ++ b)) := by
  have e : addD (ktD a) (.tuple b) = if a.length + b.length ≤ sizeLine then some (if b = [] ∧ a ≠ [] then ktD a else .tuple (a ++ b)) else none := by
    cases a <;> rfl
  rw [e, if_pos (show _ ≤ sizeLine from h), if_neg (fun z => hb z.1)]
end Dn

-- printed by wip/gen/gen.py
set_option Elab.async false
set_option linter.all false
set_option maxRecDepth 100000
set_option maxHeartbeats 4000000
namespace Lw
open PySem PySem.Spec PyProof.Rows L2 Dn
def topS (i : Nat) : Stmt := PySem.Challenge.pw_claspwork_k71_whole_nest_tells_all.main.body.getD i (.Pass ⟨0, 0, 0, 0⟩)
structure Txt (K : PySem.W.Frag) (mg : Str → Option Value) : Prop where
  b_bool : mg "bool" = none
  b_enumerate : mg "enumerate" = none
  b_int : mg "int" = none
  b_isinstance : mg "isinstance" = none
  b_len : mg "len" = none
  b_list : mg "list" = none
  b_max : mg "max" = none
  b_min : mg "min" = none
  b_range : mg "range" = none
  b_sorted : mg "sorted" = none
  b_sum : mg "sum" = none
  b_tuple : mg "tuple" = none
  e_BadRow : ∃ C, ExcAt K mg "BadRow" C [.type "ValueError", .type "Exception", .type "BaseException", .type "object"]
  e_NoSuch : ∃ C, ExcAt K mg "NoSuch" C [.type "ValueError", .type "Exception", .type "BaseException", .type "object"]
  e_Unlike : ∃ C, ExcAt K mg "Unlike" C [.type "ValueError", .type "Exception", .type "BaseException", .type "object"]
  c_MOST_THINGS : ∃ t, mg "MOST_THINGS" = some (.int 60 t)
/-! ### _law_cell_at -/
abbrev s__law_cell_at : Stmt := topS 24
abbrev N__law_cell_at : List Str := ["script", "k"]
abbrev P__law_cell_at : List Str := ["script", "k"]
theorem sc__law_cell_at : FnScope N__law_cell_at P__law_cell_at (defScope s__law_cell_at) := ⟨rfl, rfl, rfl, by decide +kernel, rfl, by decide +kernel, by decide +kernel⟩
noncomputable def g__law_cell_at : MS :=
 (sSeq (sIf (tE (e2 ltD (eVarF 1) (eB lenD (aCons (eVarF 0) aNil)))) (sRet (e2 ixD (eVarF 0) (eVarF 1))) sNext)
 (sRet (eC (.int 0))))
noncomputable def f__law_cell_at : List D → M D := mFn 2 2 g__law_cell_at
section
variable {P : Program} {w : World} {K : PySem.W.Frag} {mg : Str → Option Value} {base : Heap}
theorem ok__law_cell_at (T : Txt K mg) (dd : DefAt K mg "_law_cell_at" s__law_cell_at)  : FnAt P w K mg base "_law_cell_at" P__law_cell_at 1 f__law_cell_at := by
  refine fn_at (N := N__law_cell_at) (g := g__law_cell_at) dd sc__law_cell_at (fun _ _ _ _ _ _ us hl => match us, hl with | [_, _], _ => rfl) ?_
  intro f cdv A outer s H E hr
  refine ⟨_, (pss_cons (ps_if (pt_cmpR op_lt (pv 1) (pe_callB (kLen (K := K)) (by rfl) T.b_len boot_len (pa_cons (pv 0) pa_nil)) (nomark _)) (pss_one (ps_ret (pe_ix (kIx (K := K)) (pv 0) (pv 1) (fun _ _ => rfl)))) pss_nil)
     (pss_one (ps_ret pe_int))), ?_⟩
  exact fun L => (ds_seq (ds_if (dt_test (DF.e (df_op rd_cmp (DF.e (df_var (i := 1))) (DF.e (df_B rc_len (da_cons (DF.e (df_var (i := 0))) da_nil)))))) (ds_ret (df_op rd_ix (DF.e (df_var (i := 0))) (DF.e (df_var (i := 1))))) ds_next)
     (ds_ret (df_int (i := 0))))
end
/-! ### _law_things -/
abbrev s__law_things : Stmt := topS 26
abbrev N__law_things : List Str := ["script", "most", "number"]
abbrev P__law_things : List Str := ["script", "most"]
theorem sc__law_things : FnScope N__law_things P__law_things (defScope s__law_things) := ⟨rfl, rfl, rfl, by decide +kernel, rfl, by decide +kernel, by decide +kernel⟩
noncomputable def g__law_things : MS :=
 (sSeq (sAsg (gN 2) (eCall f__law_cell_at (aCons (eVarF 0) (aCons (eC (.int 0)) aNil))))
 (sSeq (sIf (tE (e2 eqD (e2 modD (eVarF 2) (eC (.int 3))) (eC (.int 0)))) (sRet (eB minD (aCons (eVarF 1) (aCons (e2 divD (eB maxD (aCons (eC (.int 0)) (aCons (e2 subD (eB lenD (aCons (eVarF 0) aNil)) (eC (.int 6))) aNil))) (eC (.int 2))) aNil)))) sNext)
 (sSeq (sIf (tE (e2 eqD (e2 modD (eVarF 2) (eC (.int 8))) (eC (.int 1)))) (sRet (e2 modD (e2 addD (e2 divD (eVarF 2) (eC (.int 24))) (eC (.int 9))) (e2 addD (eVarF 1) (eC (.int 1))))) sNext)
 (sRet (e2 modD (e2 addD (e2 divD (eVarF 2) (eC (.int 3))) (eC (.int 2))) (eB minD (aCons (eC (.int 8)) (aCons (e2 addD (eVarF 1) (eC (.int 1))) aNil))))))))
noncomputable def f__law_things : List D → M D := mFn 2 3 g__law_things
section
variable {P : Program} {w : World} {K : PySem.W.Frag} {mg : Str → Option Value} {base : Heap}
theorem ok__law_things (T : Txt K mg) (dd : DefAt K mg "_law_things" s__law_things) (c__law_cell_at : FnAt P w K mg base "_law_cell_at" P__law_cell_at 1 f__law_cell_at) : FnAt P w K mg base "_law_things" P__law_things 2 f__law_things := by
  obtain ⟨a__law_cell_at, fd__law_cell_at, m__law_cell_at, kp__law_cell_at, b__law_cell_at, G__law_cell_at⟩ := c__law_cell_at
  refine fn_at (N := N__law_things) (g := g__law_things) dd sc__law_things (fun _ _ _ _ _ _ us hl => match us, hl with | [_, _], _ => rfl) ?_
  intro f cdv A outer s H E hr
  refine ⟨_, (pss_cons (ps_set (i := 2) sc__law_things.nd rfl (Or.inl rfl) (pe_callS G__law_cell_at (hr.mono (by decide)) (by rfl) m__law_cell_at kp__law_cell_at b__law_cell_at (fun σ => passAt (takes_of rfl rfl rfl rfl) σ) (pa_cons (pv 0) (pa_cons pe_int pa_nil))))
     (pss_cons (ps_if (pt_cmpR (kEq (K := K) (hu64 hr)) (pe_op op_mod (pv 2) pe_int) pe_int (nomark _)) (pss_one (ps_ret (pe_callB (kMin (K := K) rfl) (by rfl) T.b_min boot_min (pa_cons (pv 1) (pa_cons (pe_op op_fdivW (pe_callB (kMax (K := K) rfl) (by rfl) T.b_max boot_max (pa_cons pe_int (pa_cons (pe_op op_sub (pe_callB (kLen (K := K)) (by rfl) T.b_len boot_len (pa_cons (pv 0) pa_nil)) pe_int) pa_nil))) pe_int) pa_nil))))) pss_nil)
     (pss_cons (ps_if (pt_cmpR (kEq (K := K) (hu64 hr)) (pe_op op_mod (pv 2) pe_int) pe_int (nomark _)) (pss_one (ps_ret (pe_op op_mod (pe_op (kAdd (K := K)) (pe_op op_fdivW (pv 2) pe_int) pe_int) (pe_op (kAdd (K := K)) (pv 1) pe_int)))) pss_nil)
     (pss_one (ps_ret (pe_op op_mod (pe_op (kAdd (K := K)) (pe_op op_fdivW (pv 2) pe_int) pe_int) (pe_callB (kMin (K := K) rfl) (by rfl) T.b_min boot_min (pa_cons pe_int (pa_cons (pe_op (kAdd (K := K)) (pv 1) pe_int) pa_nil))))))))), ?_⟩
  exact fun L => (ds_seq (ds_asg (df_call (daf_cons (df_var (i := 0)) (daf_cons (df_int (i := 0)) daf_nil))) (dg_name (i := 2)))
     (ds_seq (ds_if (dt_test (DF.e (df_op rd_eq (DF.e (df_op rd_mod (DF.e (df_var (i := 2))) (DF.e (df_int (i := 3))))) (DF.e (df_int (i := 0)))))) (ds_ret (df_B rc_min (da_cons (DF.e (df_var (i := 1))) (da_cons (DF.e (df_op rd_div (DF.e (df_B rc_max (da_cons (DF.e (df_int (i := 0))) (da_cons (DF.e (df_op rd_sub (DF.e (df_B rc_len (da_cons (DF.e (df_var (i := 0))) da_nil))) (DF.e (df_int (i := 6))))) da_nil)))) (DF.e (df_int (i := 2))))) da_nil)))) ds_next)
     (ds_seq (ds_if (dt_test (DF.e (df_op rd_eq (DF.e (df_op rd_mod (DF.e (df_var (i := 2))) (DF.e (df_int (i := 8))))) (DF.e (df_int (i := 1)))))) (ds_ret (df_op rd_mod (DF.e (df_op rd_add (DF.e (df_op rd_div (DF.e (df_var (i := 2))) (DF.e (df_int (i := 24))))) (DF.e (df_int (i := 9))))) (DF.e (df_op rd_add (DF.e (df_var (i := 1))) (DF.e (df_int (i := 1))))))) ds_next)
     (ds_ret (df_op rd_mod (DF.e (df_op rd_add (DF.e (df_op rd_div (DF.e (df_var (i := 2))) (DF.e (df_int (i := 3))))) (DF.e (df_int (i := 2))))) (DF.e (df_B rc_min (da_cons (DF.e (df_int (i := 8))) (da_cons (DF.e (df_op rd_add (DF.e (df_var (i := 1))) (DF.e (df_int (i := 1))))) da_nil)))))))))
end
/-! ### _law_mixed -/
abbrev s__law_mixed : Stmt := topS 25
abbrev N__law_mixed : List Str := ["number", "k", "turn"]
abbrev P__law_mixed : List Str := ["number", "k"]
theorem sc__law_mixed : FnScope N__law_mixed P__law_mixed (defScope s__law_mixed) := ⟨rfl, rfl, rfl, by decide +kernel, rfl, by decide +kernel, by decide +kernel⟩
noncomputable def g__law_mixed : MS :=
 (sSeq (sAsg (gN 2) (e2 modD (e2 addD (e2 addD (e2 addD (e2 modD (eVarF 0) (eC (.int 2147483647))) (e2 mulD (e2 mulD (eC (.int 69621)) (eVarF 1)) (eVarF 1))) (e2 mulD (eC (.int 40692)) (eVarF 1))) (eC (.int 1))) (eC (.int 2147483647))))
 (sSeq (sAsg (gN 2) (e2 modD (e2 mulD (eVarF 2) (eC (.int 48271))) (eC (.int 2147483647))))
 (sRet (e2 modD (e2 mulD (eVarF 2) (eVarF 2)) (eC (.int 2147483647))))))
noncomputable def f__law_mixed : List D → M D := mFn 2 3 g__law_mixed
section
variable {P : Program} {w : World} {K : PySem.W.Frag} {mg : Str → Option Value} {base : Heap}
theorem ok__law_mixed (T : Txt K mg) (dd : DefAt K mg "_law_mixed" s__law_mixed)  : FnAt P w K mg base "_law_mixed" P__law_mixed 1 f__law_mixed := by
  refine fn_at (N := N__law_mixed) (g := g__law_mixed) dd sc__law_mixed (fun _ _ _ _ _ _ us hl => match us, hl with | [_, _], _ => rfl) ?_
  intro f cdv A outer s H E hr
  refine ⟨_, (pss_cons (ps_set (i := 2) sc__law_mixed.nd rfl (Or.inl rfl) (pe_op op_mod (pe_op (kAdd (K := K)) (pe_op (kAdd (K := K)) (pe_op (kAdd (K := K)) (pe_op op_mod (pv 0) pe_int) (pe_op op_mulU (pe_op op_mulU pe_int (pv 1)) (pv 1))) (pe_op op_mulU pe_int (pv 1))) pe_int) pe_int))
     (pss_cons (ps_set (i := 2) sc__law_mixed.nd rfl (Or.inl rfl) (pe_op op_mod (pe_op op_mulU (pv 2) pe_int) pe_int))
     (pss_one (ps_ret (pe_op op_mod (pe_op op_mulU (pv 2) (pv 2)) pe_int))))), ?_⟩
  exact fun L => (ds_seq (ds_asg (df_op rd_mod (DF.e (df_op rd_add (DF.e (df_op rd_add (DF.e (df_op rd_add (DF.e (df_op rd_mod (DF.e (df_var (i := 0))) (DF.e (df_int (i := 2147483647))))) (DF.e (df_op rd_mul (DF.e (df_op rd_mul (DF.e (df_int (i := 69621))) (DF.e (df_var (i := 1))))) (DF.e (df_var (i := 1))))))) (DF.e (df_op rd_mul (DF.e (df_int (i := 40692))) (DF.e (df_var (i := 1))))))) (DF.e (df_int (i := 1))))) (DF.e (df_int (i := 2147483647)))) (dg_name (i := 2)))
     (ds_seq (ds_asg (df_op rd_mod (DF.e (df_op rd_mul (DF.e (df_var (i := 2))) (DF.e (df_int (i := 48271))))) (DF.e (df_int (i := 2147483647)))) (dg_name (i := 2)))
     (ds_ret (df_op rd_mod (DF.e (df_op rd_mul (DF.e (df_var (i := 2))) (DF.e (df_var (i := 2))))) (DF.e (df_int (i := 2147483647)))))))
end
/-! ### _law_drawn -/
abbrev s__law_drawn : Stmt := topS 27
abbrev N__law_drawn : List Str := ["script", "things", "side", "line", "k", "place", "number"]
abbrev P__law_drawn : List Str := ["script", "things", "side"]
theorem sc__law_drawn : FnScope N__law_drawn P__law_drawn (defScope s__law_drawn) := ⟨rfl, rfl, rfl, by decide +kernel, rfl, by decide +kernel, by decide +kernel⟩
noncomputable def b1__law_drawn : MS :=
 (sSeq (sAsg (gN 5) (e2 addD (e2 addD (eC (.int 6)) (e2 mulD (eC (.int 2)) (eVarF 4))) (eVarF 2)))
 (sSeq (sAsg (gN 6) (eCall f__law_mixed (aCons (eCall f__law_cell_at (aCons (eVarF 0) (aCons (e2 addD (eC (.int 1)) (eVarF 2)) aNil))) (aCons (eVarF 4) aNil))))
 (sSeq (sIf (tE (e2 ltD (eVarF 5) (eB lenD (aCons (eVarF 0) aNil)))) (sAsg (gN 6) (e2 ixD (eVarF 0) (eVarF 5))) sNext)
 (sMut 3 insM (aCons (e2 modD (eVarF 6) (e2 addD (eVarF 4) (eC (.int 1)))) (aCons (eVarF 4) aNil))))))
noncomputable def g__law_drawn : MS :=
 (sSeq (sAsgL 3 aNil)
 (sSeq (sFor (iR1 (aCons (eVarF 1) aNil)) (gN 4) b1__law_drawn)
 (sFrz 3 (sRet (eB tupKD (aCons (eVarF 3) aNil))))))
noncomputable def f__law_drawn : List D → M D := mFn 3 7 g__law_drawn
section
variable {P : Program} {w : World} {K : PySem.W.Frag} {mg : Str → Option Value} {base : Heap}
theorem ok__law_drawn (T : Txt K mg) (dd : DefAt K mg "_law_drawn" s__law_drawn) (c__law_cell_at : FnAt P w K mg base "_law_cell_at" P__law_cell_at 1 f__law_cell_at) (c__law_mixed : FnAt P w K mg base "_law_mixed" P__law_mixed 1 f__law_mixed) : FnAt P w K mg base "_law_drawn" P__law_drawn 2 f__law_drawn := by
  obtain ⟨a__law_cell_at, fd__law_cell_at, m__law_cell_at, kp__law_cell_at, b__law_cell_at, G__law_cell_at⟩ := c__law_cell_at
  obtain ⟨a__law_mixed, fd__law_mixed, m__law_mixed, kp__law_mixed, b__law_mixed, G__law_mixed⟩ := c__law_mixed
  refine fn_at (N := N__law_drawn) (g := g__law_drawn) dd sc__law_drawn (fun _ _ _ _ _ _ us hl => match us, hl with | [_, _, _], _ => rfl) ?_
  intro f cdv A outer s H E hr
  refine ⟨_, (pss_cons (ps_set (i := 3) sc__law_drawn.nd rfl (Or.inl rfl) (pe_lst pa_nil))
     (pss_cons (ps_for (passes_of rfl) rfl (pi_range1 (by rfl) T.b_range (pa_cons (pv 1) pa_nil)) (pg_name (i := 4) sc__law_drawn.nd rfl (Or.inl rfl)) (pss_cons (ps_set (i := 5) sc__law_drawn.nd rfl (Or.inl rfl) (pe_op (kAdd (K := K)) (pe_op (kAdd (K := K)) pe_int (pe_op op_mulU pe_int (pv 4))) (pv 2)))
     (pss_cons (ps_set (i := 6) sc__law_drawn.nd rfl (Or.inl rfl) (pe_callS G__law_mixed (hr.mono (by decide)) (by rfl) m__law_mixed kp__law_mixed b__law_mixed (fun σ => passAt (takes_of rfl rfl rfl rfl) σ) (pa_cons (pe_callS G__law_cell_at (hr.mono (by decide)) (by rfl) m__law_cell_at kp__law_cell_at b__law_cell_at (fun σ => passAt (takes_of rfl rfl rfl rfl) σ) (pa_cons (pv 0) (pa_cons (pe_op (kAdd (K := K)) pe_int (pv 2)) pa_nil))) (pa_cons (pv 4) pa_nil))))
     (pss_cons (ps_if (pt_cmpR op_lt (pv 5) (pe_callB (kLen (K := K)) (by rfl) T.b_len boot_len (pa_cons (pv 0) pa_nil)) (nomark _)) (pss_one (ps_set (i := 6) sc__law_drawn.nd rfl (Or.inl rfl) (pe_ix (kIx (K := K)) (pv 0) (pv 5) (fun _ _ => rfl)))) pss_nil)
     (pss_one (ps_expr (bmK (K := K) (pe_bm PySem.F.plainAttrs_list PySem.F.slot_list_insert PySem.F.type_list_insert mt_insert (pv 3) (pa_cons (pe_op op_mod (pv 6) (pe_op (kAdd (K := K)) (pv 4) pe_int)) (pa_cons (pv 4) pa_nil))))))))))
     (pss_one (ps_ret (pe_callTy (kTupK (K := K)) (by rfl) T.b_tuple boot_tuple (pa_cons (pv 3) pa_nil)))))), ?_⟩
  exact fun L => (ds_seq (ds_asgL (i := 3) (dl_lst daf_nil few_nil))
     (ds_seq (ds_for (di_rng1 (da_cons (DF.e (df_var (i := 1))) da_nil)) (dg_name (i := 4)) (ds_seq (ds_asg (df_op rd_add (DF.e (df_op rd_add (DF.e (df_int (i := 6))) (DF.e (df_op rd_mul (DF.e (df_int (i := 2))) (DF.e (df_var (i := 4))))))) (DF.e (df_var (i := 2)))) (dg_name (i := 5)))
     (ds_seq (ds_asg (df_call (daf_cons (df_call (daf_cons (df_var (i := 0)) (daf_cons (df_op rd_add (DF.e (df_int (i := 1))) (DF.e (df_var (i := 2)))) daf_nil))) (daf_cons (df_var (i := 4)) daf_nil))) (dg_name (i := 6)))
     (ds_seq (ds_if (dt_test (DF.e (df_op rd_cmp (DF.e (df_var (i := 5))) (DF.e (df_B rc_len (da_cons (DF.e (df_var (i := 0))) da_nil)))))) (ds_asg (df_op rd_ix (DF.e (df_var (i := 0))) (DF.e (df_var (i := 5)))) (dg_name (i := 6))) ds_next)
     (ds_mut (i := 3) rm_insert (daf_cons (df_op rd_mod (DF.e (df_var (i := 6))) (DF.e (df_op rd_add (DF.e (df_var (i := 4))) (DF.e (df_int (i := 1)))))) (daf_cons (df_var (i := 4)) daf_nil)))))))
     (ds_frz (i := 3) (ds_ret (df_B rc_tupK (da_cons (DF.e (df_var (i := 3))) da_nil))))))
end
/-! ### _law_joined -/
abbrev s__law_joined : Stmt := topS 28
abbrev N__law_joined : List Str := ["left", "right", "turned_way", "thing"]
abbrev P__law_joined : List Str := ["left", "right", "turned_way"]
theorem sc__law_joined : FnScope N__law_joined P__law_joined (defScope s__law_joined) := ⟨rfl, rfl, rfl, by decide +kernel, rfl, by decide +kernel, by decide +kernel⟩
noncomputable def g__law_joined : MS :=
 (sSeq (sIf (tE (eVarF 2)) (sRet (e2 addD (eL (eLc (iE (eVarF 0)) (gN 3) tYesF (e2 addD (eVarF 3) (eB lenD (aCons (eVarF 1) aNil))) [3])) (eVarF 1))) sNext)
 (sRet (e2 addD (eVarF 0) (eL (eLc (iE (eVarF 1)) (gN 3) tYesF (e2 addD (eVarF 3) (eB lenD (aCons (eVarF 0) aNil))) [3])))))
noncomputable def f__law_joined : List D → M D := mFn 3 4 g__law_joined
section
variable {P : Program} {w : World} {K : PySem.W.Frag} {mg : Str → Option Value} {base : Heap}
theorem ok__law_joined (T : Txt K mg) (dd : DefAt K mg "_law_joined" s__law_joined)  : FnAt P w K mg base "_law_joined" P__law_joined 1 f__law_joined := by
  refine fn_at (N := N__law_joined) (g := g__law_joined) dd sc__law_joined (fun _ _ _ _ _ _ us hl => match us, hl with | [_, _, _], _ => rfl) ?_
  intro f cdv A outer s H E hr
  refine ⟨_, (pss_cons (ps_if (pt_val (pv 2)) (pss_one (ps_ret (pe_op (kAdd (K := K)) (pe_lc (own := [("thing", 3)]) (by rfl) sc__law_joined.nd (pi_sqK (K := K) (pv 0)) (blkOk_by (own := [("thing", 3)]) (N := N__law_joined) (sc := defScope s__law_joined) (by decide +kernel)) (fun _ _ _ _ _ => (pg_name (i := 3) sc__law_joined.nd rfl (Or.inl rfl))) (fun _ _ _ _ _ => pts_nil) (fun _ _ _ _ _ => (pe_op (kAdd (K := K)) (pv 3) (pe_callB (kLen (K := K)) (by rfl) T.b_len boot_len (pa_cons (pv 1) pa_nil))))) (pv 1)))) pss_nil)
     (pss_one (ps_ret (pe_op (kAdd (K := K)) (pv 0) (pe_lc (own := [("thing", 3)]) (by rfl) sc__law_joined.nd (pi_sqK (K := K) (pv 1)) (blkOk_by (own := [("thing", 3)]) (N := N__law_joined) (sc := defScope s__law_joined) (by decide +kernel)) (fun _ _ _ _ _ => (pg_name (i := 3) sc__law_joined.nd rfl (Or.inl rfl))) (fun _ _ _ _ _ => pts_nil) (fun _ _ _ _ _ => (pe_op (kAdd (K := K)) (pv 3) (pe_callB (kLen (K := K)) (by rfl) T.b_len boot_len (pa_cons (pv 0) pa_nil))))))))), ?_⟩
  exact fun L => (ds_seq (ds_if (dt_B (DF.e (df_var (i := 2)))) (ds_ret (df_op rd_add (DF.e (DL.fz (dl_lc (vs := [3]) (dib_sq (DF.e (df_var (i := 0)))) (dg_name (i := 3)) (by decide) dt_yes (df_op rd_add (DF.e (df_var (i := 3))) (DF.e (df_B rc_len (da_cons (DF.e (df_var (i := 1))) da_nil))))))) (DF.e (df_var (i := 1))))) ds_next)
     (ds_ret (df_op rd_add (DF.e (df_var (i := 0))) (DF.e (DL.fz (dl_lc (vs := [3]) (dib_sq (DF.e (df_var (i := 1)))) (dg_name (i := 3)) (by decide) dt_yes (df_op rd_add (DF.e (df_var (i := 3))) (DF.e (df_B rc_len (da_cons (DF.e (df_var (i := 0))) da_nil))))))))))
end
/-! ### _law_nested -/
abbrev s__law_nested : Stmt := topS 29
abbrev N__law_nested : List Str := ["script", "things", "blocks", "k", "number", "place", "one"]
abbrev P__law_nested : List Str := ["script", "things"]
theorem sc__law_nested : FnScope N__law_nested P__law_nested (defScope s__law_nested) := ⟨rfl, rfl, rfl, by decide +kernel, rfl, by decide +kernel, by decide +kernel⟩
noncomputable def b1__law_nested : MS :=
 (sSeq (sAsg (gN 4) (eCall f__law_mixed (aCons (eCall f__law_cell_at (aCons (eVarF 0) (aCons (eC (.int 2)) aNil))) (aCons (eVarF 3) aNil))))
 (sSeq (sIf (tE (e2 ltD (e2 addD (eC (.int 6)) (eVarF 3)) (eB lenD (aCons (eVarF 0) aNil)))) (sAsg (gN 4) (e2 ixD (eVarF 0) (e2 addD (eC (.int 6)) (eVarF 3)))) sNext)
 (sSeq (sAsg (gN 5) (e2 modD (e2 divD (eVarF 4) (eC (.int 2))) (e2 subD (eB lenD (aCons (eVarF 2) aNil)) (eC (.int 1)))))
 (sSeq (sAsg (gN 6) (eCall f__law_joined (aCons (e2 ixD (eVarF 2) (eVarF 5)) (aCons (e2 ixD (eVarF 2) (e2 addD (eVarF 5) (eC (.int 1)))) (aCons (e2 eqD (e2 modD (eVarF 4) (eC (.int 2))) (eC (.int 1))) aNil)))))
 (sSeq (sAsg (gN 2) (e2 addD (e2 addD (eSl slD (eVarF 2) oNone (oSome (eVarF 5))) (eL (aCons (eVarF 6) aNil))) (eSl slD (eVarF 2) (oSome (e2 addD (eVarF 5) (eC (.int 2)))) oNone)))
 (sAsg (gN 3) (e2 addD (eVarF 3) (eC (.int 1)))))))))
noncomputable def g__law_nested : MS :=
 (sSeq (sAsg (gN 2) (eL (eLc (iR1 (aCons (eVarF 1) aNil)) (gN 3) tYesF (eL (aCons (eC (.int 0)) aNil)) [3])))
 (sSeq (sAsg (gN 3) (eC (.int 0)))
 (sSeq (sWhile (tE (e2 gtD (eB lenD (aCons (eVarF 2) aNil)) (eC (.int 1)))) b1__law_nested)
 (sSeq (sIf (tE (e2 eqD (eVarF 1) (eC (.int 0)))) (sRet (eTup aNil)) sNext)
 (sRet (eB tupleD (aCons (e2 ixD (eVarF 2) (eC (.int 0))) aNil)))))))
noncomputable def f__law_nested : List D → M D := mFn 2 7 g__law_nested
section
variable {P : Program} {w : World} {K : PySem.W.Frag} {mg : Str → Option Value} {base : Heap}
theorem ok__law_nested (T : Txt K mg) (dd : DefAt K mg "_law_nested" s__law_nested) (c__law_cell_at : FnAt P w K mg base "_law_cell_at" P__law_cell_at 1 f__law_cell_at) (c__law_joined : FnAt P w K mg base "_law_joined" P__law_joined 1 f__law_joined) (c__law_mixed : FnAt P w K mg base "_law_mixed" P__law_mixed 1 f__law_mixed) : FnAt P w K mg base "_law_nested" P__law_nested 2 f__law_nested := by
  obtain ⟨a__law_cell_at, fd__law_cell_at, m__law_cell_at, kp__law_cell_at, b__law_cell_at, G__law_cell_at⟩ := c__law_cell_at
  obtain ⟨a__law_joined, fd__law_joined, m__law_joined, kp__law_joined, b__law_joined, G__law_joined⟩ := c__law_joined
  obtain ⟨a__law_mixed, fd__law_mixed, m__law_mixed, kp__law_mixed, b__law_mixed, G__law_mixed⟩ := c__law_mixed
  refine fn_at (N := N__law_nested) (g := g__law_nested) dd sc__law_nested (fun _ _ _ _ _ _ us hl => match us, hl with | [_, _], _ => rfl) ?_
  intro f cdv A outer s H E hr
  refine ⟨_, (pss_cons (ps_setLc (i := 2) (own := [("k", 3)]) (by rfl) sc__law_nested.nd rfl rfl (sw_true rfl rfl rfl (by decide +kernel)) (pi_range1 (by rfl) T.b_range (pa_cons (pv 1) pa_nil)) (blkOk_by (own := [("k", 3)]) (N := N__law_nested) (sc := defScope s__law_nested) (by decide +kernel)) (fun _ _ _ _ _ => (pg_name (i := 3) sc__law_nested.nd rfl (Or.inl rfl))) (fun _ _ _ _ _ => pts_nil) (fun _ _ _ _ _ => (pe_lst (pa_cons pe_int pa_nil))))
     (pss_cons (ps_set (i := 3) sc__law_nested.nd rfl (Or.inl rfl) pe_int)
     (pss_cons (ps_while (passes_of rfl) (pt_cmpR op_gt (pe_callB (kLen (K := K)) (by rfl) T.b_len boot_len (pa_cons (pv 2) pa_nil)) pe_int (nomark _)) (pss_cons (ps_set (i := 4) sc__law_nested.nd rfl (Or.inl rfl) (pe_callS G__law_mixed (hr.mono (by decide)) (by rfl) m__law_mixed kp__law_mixed b__law_mixed (fun σ => passAt (takes_of rfl rfl rfl rfl) σ) (pa_cons (pe_callS G__law_cell_at (hr.mono (by decide)) (by rfl) m__law_cell_at kp__law_cell_at b__law_cell_at (fun σ => passAt (takes_of rfl rfl rfl rfl) σ) (pa_cons (pv 0) (pa_cons pe_int pa_nil))) (pa_cons (pv 3) pa_nil))))
     (pss_cons (ps_if (pt_cmpR op_lt (pe_op (kAdd (K := K)) pe_int (pv 3)) (pe_callB (kLen (K := K)) (by rfl) T.b_len boot_len (pa_cons (pv 0) pa_nil)) (nomark _)) (pss_one (ps_set (i := 4) sc__law_nested.nd rfl (Or.inl rfl) (pe_ix (kIx (K := K)) (pv 0) (pe_op (kAdd (K := K)) pe_int (pv 3)) (fun _ _ => rfl)))) pss_nil)
     (pss_cons (ps_set (i := 5) sc__law_nested.nd rfl (Or.inl rfl) (pe_op op_mod (pe_op op_fdivW (pv 4) pe_int) (pe_op op_sub (pe_callB (kLen (K := K)) (by rfl) T.b_len boot_len (pa_cons (pv 2) pa_nil)) pe_int)))
     (pss_cons (ps_set (i := 6) sc__law_nested.nd rfl (Or.inl rfl) (pe_callS G__law_joined (hr.mono (by decide)) (by rfl) m__law_joined kp__law_joined b__law_joined (fun σ => passAt (takes_of rfl rfl rfl rfl) σ) (pa_cons (pe_ix (kIx (K := K)) (pv 2) (pv 5) (fun _ _ => rfl)) (pa_cons (pe_ix (kIx (K := K)) (pv 2) (pe_op (kAdd (K := K)) (pv 5) pe_int) (fun _ _ => rfl)) (pa_cons (pe_cmpR (kEq (K := K) (hu64 hr)) (pe_op op_mod (pv 4) pe_int) pe_int (nomark _)) pa_nil)))))
     (pss_cons (ps_set (i := 2) sc__law_nested.nd rfl (Or.inl rfl) (pe_op (kAdd (K := K)) (pe_op (kAdd (K := K)) (pe_slice (kSl (K := K)) (pv 2) po_none (po_some (pv 5))) (pe_lst (pa_cons (pv 6) pa_nil))) (pe_slice (kSl (K := K)) (pv 2) (po_some (pe_op (kAdd (K := K)) (pv 5) pe_int)) po_none)))
     (pss_one (ps_set (i := 3) sc__law_nested.nd rfl (Or.inl rfl) (pe_op (kAdd (K := K)) (pv 3) pe_int)))))))))
     (pss_cons (ps_if (pt_cmpR (kEq (K := K) (hu64 hr)) (pv 1) pe_int (nomark _)) (pss_one (ps_ret (pe_tup pa_nil))) pss_nil)
     (pss_one (ps_ret (pe_callTy (kTuple (K := K)) (by rfl) T.b_tuple boot_tuple (pa_cons (pe_ix (kIx (K := K)) (pv 2) pe_int (fun _ _ => rfl)) pa_nil)))))))), ?_⟩
  exact fun L => (ds_seq (ds_asg (DL.fz (dl_lc (vs := [3]) (di_b (di_rng1 (da_cons (DF.e (df_var (i := 1))) da_nil))) (dg_name (i := 3)) (by decide) dt_yes (DL.fz (dl_lst (daf_cons (df_int (i := 0)) daf_nil) (few_cons few_nil))))) (dg_name (i := 2)))
     (ds_seq (ds_asg (df_int (i := 0)) (dg_name (i := 3)))
     (ds_seq (ds_while (dt_test (DF.e (df_op rd_cmp (DF.e (df_B rc_len (da_cons (DF.e (df_var (i := 2))) da_nil))) (DF.e (df_int (i := 1)))))) (ds_seq (ds_asg (df_call (daf_cons (df_call (daf_cons (df_var (i := 0)) (daf_cons (df_int (i := 2)) daf_nil))) (daf_cons (df_var (i := 3)) daf_nil))) (dg_name (i := 4)))
     (ds_seq (ds_if (dt_test (DF.e (df_op rd_cmp (DF.e (df_op rd_add (DF.e (df_int (i := 6))) (DF.e (df_var (i := 3))))) (DF.e (df_B rc_len (da_cons (DF.e (df_var (i := 0))) da_nil)))))) (ds_asg (df_op rd_ix (DF.e (df_var (i := 0))) (DF.e (df_op rd_add (DF.e (df_int (i := 6))) (DF.e (df_var (i := 3)))))) (dg_name (i := 4))) ds_next)
     (ds_seq (ds_asg (df_op rd_mod (DF.e (df_op rd_div (DF.e (df_var (i := 4))) (DF.e (df_int (i := 2))))) (DF.e (df_op rd_sub (DF.e (df_B rc_len (da_cons (DF.e (df_var (i := 2))) da_nil))) (DF.e (df_int (i := 1)))))) (dg_name (i := 5)))
     (ds_seq (ds_asg (df_call (daf_cons (df_op rd_ix (DF.e (df_var (i := 2))) (DF.e (df_var (i := 5)))) (daf_cons (df_op rd_ix (DF.e (df_var (i := 2))) (DF.e (df_op rd_add (DF.e (df_var (i := 5))) (DF.e (df_int (i := 1)))))) (daf_cons (df_op rd_eq (DF.e (df_op rd_mod (DF.e (df_var (i := 4))) (DF.e (df_int (i := 2))))) (DF.e (df_int (i := 1)))) daf_nil)))) (dg_name (i := 6)))
     (ds_seq (ds_asg (df_op rd_add (DF.e (df_op rd_add (DF.e (df_sl rs_sl (DF.e (df_var (i := 2))) do_none (do_some (DF.e (df_var (i := 5)))))) (DF.e (DL.fz (dl_lst (daf_cons (df_var (i := 6)) daf_nil) (few_cons few_nil)))))) (DF.e (df_sl rs_sl (DF.e (df_var (i := 2))) (do_some (DF.e (df_op rd_add (DF.e (df_var (i := 5))) (DF.e (df_int (i := 2)))))) do_none))) (dg_name (i := 2)))
     (ds_asg (df_op rd_add (DF.e (df_var (i := 3))) (DF.e (df_int (i := 1)))) (dg_name (i := 3)))))))))
     (ds_seq (ds_if (dt_test (DF.e (df_op rd_eq (DF.e (df_var (i := 1))) (DF.e (df_int (i := 0)))))) (ds_ret (df_tup daf_nil few_nil)) ds_next)
     (ds_ret (df_B rc_tuple (da_cons (DF.e (df_op rd_ix (DF.e (df_var (i := 2))) (DF.e (df_int (i := 0))))) da_nil)))))))
end
/-! ### _law_pair_of_lines -/
abbrev s__law_pair_of_lines : Stmt := topS 30
abbrev N__law_pair_of_lines : List Str := ["script", "most", "things", "other", "ranks", "rank"]
abbrev P__law_pair_of_lines : List Str := ["script", "most"]
theorem sc__law_pair_of_lines : FnScope N__law_pair_of_lines P__law_pair_of_lines (defScope s__law_pair_of_lines) := ⟨rfl, rfl, rfl, by decide +kernel, rfl, by decide +kernel, by decide +kernel⟩
noncomputable def g__law_pair_of_lines : MS :=
 (sSeq (sAsg (gN 2) (eCall f__law_things (aCons (eVarF 0) (aCons (eVarF 1) aNil))))
 (sSeq (sAsg (gN 3) (eCall f__law_drawn (aCons (eVarF 0) (aCons (eVarF 2) (aCons (eC (.int 1)) aNil)))))
 (sSeq (sIf (tE (e2 eqD (e2 modD (eCall f__law_cell_at (aCons (eVarF 0) (aCons (eC (.int 3)) aNil))) (eC (.int 3))) (eC (.int 0)))) (sAsg (gN 3) (eTLK (eRg1 (eVarF 2)))) sNext)
 (sSeq (sAsg (gN 4) (eCall f__law_drawn (aCons (eVarF 0) (aCons (eVarF 2) (aCons (eC (.int 0)) aNil)))))
 (sSeq (sIf (tE (e2 eqD (e2 modD (e2 divD (eCall f__law_cell_at (aCons (eVarF 0) (aCons (eC (.int 3)) aNil))) (eC (.int 3))) (eC (.int 2))) (eC (.int 0)))) (sAsg (gN 4) (eCall f__law_nested (aCons (eVarF 0) (aCons (eVarF 2) aNil)))) sNext)
 (sRet (eTup (aCons (eB tupleD (aCons (eL (eLc (iE (eVarF 4)) (gN 5) tYesF (e2 ixD (eVarF 3) (eVarF 5)) [5])) aNil)) (aCons (eVarF 3) aNil)))))))))
noncomputable def f__law_pair_of_lines : List D → M D := mFn 2 6 g__law_pair_of_lines
section
variable {P : Program} {w : World} {K : PySem.W.Frag} {mg : Str → Option Value} {base : Heap}
theorem ok__law_pair_of_lines (T : Txt K mg) (dd : DefAt K mg "_law_pair_of_lines" s__law_pair_of_lines) (c__law_cell_at : FnAt P w K mg base "_law_cell_at" P__law_cell_at 1 f__law_cell_at) (c__law_drawn : FnAt P w K mg base "_law_drawn" P__law_drawn 2 f__law_drawn) (c__law_nested : FnAt P w K mg base "_law_nested" P__law_nested 2 f__law_nested) (c__law_things : FnAt P w K mg base "_law_things" P__law_things 2 f__law_things) : FnAt P w K mg base "_law_pair_of_lines" P__law_pair_of_lines 3 f__law_pair_of_lines := by
  obtain ⟨a__law_cell_at, fd__law_cell_at, m__law_cell_at, kp__law_cell_at, b__law_cell_at, G__law_cell_at⟩ := c__law_cell_at
  obtain ⟨a__law_drawn, fd__law_drawn, m__law_drawn, kp__law_drawn, b__law_drawn, G__law_drawn⟩ := c__law_drawn
  obtain ⟨a__law_nested, fd__law_nested, m__law_nested, kp__law_nested, b__law_nested, G__law_nested⟩ := c__law_nested
  obtain ⟨a__law_things, fd__law_things, m__law_things, kp__law_things, b__law_things, G__law_things⟩ := c__law_things
  refine fn_at (N := N__law_pair_of_lines) (g := g__law_pair_of_lines) dd sc__law_pair_of_lines (fun _ _ _ _ _ _ us hl => match us, hl with | [_, _], _ => rfl) ?_
  intro f cdv A outer s H E hr
  refine ⟨_, (pss_cons (ps_set (i := 2) sc__law_pair_of_lines.nd rfl (Or.inl rfl) (pe_callS G__law_things (hr.mono (by decide)) (by rfl) m__law_things kp__law_things b__law_things (fun σ => passAt (takes_of rfl rfl rfl rfl) σ) (pa_cons (pv 0) (pa_cons (pv 1) pa_nil))))
     (pss_cons (ps_set (i := 3) sc__law_pair_of_lines.nd rfl (Or.inr rfl) (pe_callS G__law_drawn (hr.mono (by decide)) (by rfl) m__law_drawn kp__law_drawn b__law_drawn (fun σ => passAt (takes_of rfl rfl rfl rfl) σ) (pa_cons (pv 0) (pa_cons (pv 2) (pa_cons pe_int pa_nil)))))
     (pss_cons (ps_if (pt_cmpR (kEq (K := K) (hu64 hr)) (pe_op op_mod (pe_callS G__law_cell_at (hr.mono (by decide)) (by rfl) m__law_cell_at kp__law_cell_at b__law_cell_at (fun σ => passAt (takes_of rfl rfl rfl rfl) σ) (pa_cons (pv 0) (pa_cons pe_int pa_nil))) pe_int) pe_int (nomark _)) (pss_one (ps_set (i := 3) sc__law_pair_of_lines.nd rfl (Or.inr rfl) (pe_tupRgK rfl (by rfl) T.b_tuple (prg_1 (by rfl) T.b_range (pv 2))))) pss_nil)
     (pss_cons (ps_set (i := 4) sc__law_pair_of_lines.nd rfl (Or.inl rfl) (pe_callS G__law_drawn (hr.mono (by decide)) (by rfl) m__law_drawn kp__law_drawn b__law_drawn (fun σ => passAt (takes_of rfl rfl rfl rfl) σ) (pa_cons (pv 0) (pa_cons (pv 2) (pa_cons pe_int pa_nil)))))
     (pss_cons (ps_if (pt_cmpR (kEq (K := K) (hu64 hr)) (pe_op op_mod (pe_op op_fdivW (pe_callS G__law_cell_at (hr.mono (by decide)) (by rfl) m__law_cell_at kp__law_cell_at b__law_cell_at (fun σ => passAt (takes_of rfl rfl rfl rfl) σ) (pa_cons (pv 0) (pa_cons pe_int pa_nil))) pe_int) pe_int) pe_int (nomark _)) (pss_one (ps_set (i := 4) sc__law_pair_of_lines.nd rfl (Or.inl rfl) (pe_callS G__law_nested (hr.mono (by decide)) (by rfl) m__law_nested kp__law_nested b__law_nested (fun σ => passAt (takes_of rfl rfl rfl rfl) σ) (pa_cons (pv 0) (pa_cons (pv 2) pa_nil))))) pss_nil)
     (pss_one (ps_ret (pe_tup (pa_cons (pe_callTy (kTuple (K := K)) (by rfl) T.b_tuple boot_tuple (pa_cons (pe_lc (own := [("rank", 5)]) (by rfl) sc__law_pair_of_lines.nd (pi_sqK (K := K) (pv 4)) (blkOk_by (own := [("rank", 5)]) (N := N__law_pair_of_lines) (sc := defScope s__law_pair_of_lines) (by decide +kernel)) (fun _ _ _ _ _ => (pg_name (i := 5) sc__law_pair_of_lines.nd rfl (Or.inl rfl))) (fun _ _ _ _ _ => pts_nil) (fun _ _ _ _ _ => (pe_ix (kIx (K := K)) (pv 3) (pv 5) (fun _ _ => rfl)))) pa_nil)) (pa_cons (pv 3) pa_nil)))))))))), ?_⟩
  exact fun L => (ds_seq (ds_asg (df_call (daf_cons (df_var (i := 0)) (daf_cons (df_var (i := 1)) daf_nil))) (dg_name (i := 2)))
     (ds_seq (ds_asg (df_call (daf_cons (df_var (i := 0)) (daf_cons (df_var (i := 2)) (daf_cons (df_int (i := 1)) daf_nil)))) (dg_name (i := 3)))
     (ds_seq (ds_if (dt_test (DF.e (df_op rd_eq (DF.e (df_op rd_mod (DF.e (df_call (daf_cons (df_var (i := 0)) (daf_cons (df_int (i := 3)) daf_nil)))) (DF.e (df_int (i := 3))))) (DF.e (df_int (i := 0)))))) (ds_asg (df_trgK1 (DF.e (df_var (i := 2)))) (dg_name (i := 3))) ds_next)
     (ds_seq (ds_asg (df_call (daf_cons (df_var (i := 0)) (daf_cons (df_var (i := 2)) (daf_cons (df_int (i := 0)) daf_nil)))) (dg_name (i := 4)))
     (ds_seq (ds_if (dt_test (DF.e (df_op rd_eq (DF.e (df_op rd_mod (DF.e (df_op rd_div (DF.e (df_call (daf_cons (df_var (i := 0)) (daf_cons (df_int (i := 3)) daf_nil)))) (DF.e (df_int (i := 3))))) (DF.e (df_int (i := 2))))) (DF.e (df_int (i := 0)))))) (ds_asg (df_call (daf_cons (df_var (i := 0)) (daf_cons (df_var (i := 2)) daf_nil))) (dg_name (i := 4))) ds_next)
     (ds_ret (df_tup (daf_cons (df_B rc_tuple (da_cons (DF.e (DL.fz (dl_lc (vs := [5]) (dib_sq (DF.e (df_var (i := 4)))) (dg_name (i := 5)) (by decide) dt_yes (df_op rd_ix (DF.e (df_var (i := 3))) (DF.e (df_var (i := 5))))))) da_nil)) (daf_cons (df_var (i := 3)) daf_nil)) (few_cons (few_cons few_nil)))))))))
end
/-! ### look_at_line -/
abbrev s_look_at_line : Stmt := topS 7
abbrev N_look_at_line : List Str := ["line"]
abbrev P_look_at_line : List Str := ["line"]
theorem sc_look_at_line : FnScope N_look_at_line P_look_at_line (defScope s_look_at_line) := ⟨rfl, rfl, rfl, by decide +kernel, rfl, by decide +kernel, by decide +kernel⟩
noncomputable def g_look_at_line : MS :=
 (sIf (tO (tE (e2 gtD (eB lenD (aCons (eVarF 0) aNil)) (eC (.int 60)))) (tE (e2 neD (eL (eBL sortUD (aCons (eVarF 0) aNil))) (eL (eRg1 (eB lenD (aCons (eVarF 0) aNil))))))) (sRaise "BadRow") sNext)
noncomputable def f_look_at_line : List D → M D := mFn 1 1 g_look_at_line
section
variable {P : Program} {w : World} {K : PySem.W.Frag} {mg : Str → Option Value} {base : Heap}
theorem ok_look_at_line (T : Txt K mg) (dd : DefAt K mg "look_at_line" s_look_at_line)  : FnAt P w K mg base "look_at_line" P_look_at_line 1 f_look_at_line := by
  obtain ⟨tc_MOST_THINGS, gc_MOST_THINGS⟩ := T.c_MOST_THINGS
  obtain ⟨C_BadRow, X_BadRow⟩ := T.e_BadRow
  refine fn_at (N := N_look_at_line) (g := g_look_at_line) dd sc_look_at_line (fun _ _ _ _ _ _ us hl => match us, hl with | [_], _ => rfl) ?_
  intro f cdv A outer s H E hr
  refine ⟨_, (pss_one (ps_if (PW.pt (pw_or (pt_cmpR op_gt (pe_callB (kLen (K := K)) (by rfl) T.b_len boot_len (pa_cons (pv 0) pa_nil)) (pe_glob (v := .int 60) (by rfl) gc_MOST_THINGS ⟨_, rfl⟩) (nomark _)) (pw_or1 (pt_cmpR (kNe (K := K) (hu64 hr)) (pe_callB (kSortU (K := K)) (by rfl) T.b_sorted boot_sorted (pa_cons (pv 0) pa_nil)) (pe_listRg rfl (by rfl) T.b_list (prg_1 (by rfl) T.b_range (pe_callB (kLen (K := K)) (by rfl) T.b_len boot_len (pa_cons (pv 0) pa_nil)))) (nomark _))))) (pss_one (ps_raise rfl (takes_of rfl rfl rfl rfl) (pmk_own PySem.F.excBase_ValueError X_BadRow.e X_BadRow.g X_BadRow.k (raises_own X_BadRow.b X_BadRow.t) (by exact rfl)))) pss_nil)), ?_⟩
  exact fun L => (ds_if (dt_or (dt_test (DF.e (df_op rd_cmp (DF.e (df_B rc_len (da_cons (DF.e (df_var (i := 0))) da_nil))) (DF.e (df_int (i := 60)))))) (dt_test (DF.e (df_op rd_ne (DF.e (DL.fz (dl_B rc_sortU (da_cons (DF.e (df_var (i := 0))) da_nil)))) (DF.e (DL.fz (dl_rg1 (DF.e (df_B rc_len (da_cons (DF.e (df_var (i := 0))) da_nil)))))))))) (ds_raise X_BadRow.g) ds_next)
end
/-! ### look_at_lines -/
abbrev s_look_at_lines : Stmt := topS 8
abbrev N_look_at_lines : List Str := ["one", "other"]
abbrev P_look_at_lines : List Str := ["one", "other"]
theorem sc_look_at_lines : FnScope N_look_at_lines P_look_at_lines (defScope s_look_at_lines) := ⟨rfl, rfl, rfl, by decide +kernel, rfl, by decide +kernel, by decide +kernel⟩
noncomputable def g_look_at_lines : MS :=
 (sSeq (sExpr (eCall f_look_at_line (aCons (eVarF 0) aNil)))
 (sSeq (sExpr (eCall f_look_at_line (aCons (eVarF 1) aNil)))
 (sIf (tE (e2 neD (eB lenD (aCons (eVarF 0) aNil)) (eB lenD (aCons (eVarF 1) aNil)))) (sRaise "Unlike") sNext)))
noncomputable def f_look_at_lines : List D → M D := mFn 2 2 g_look_at_lines
section
variable {P : Program} {w : World} {K : PySem.W.Frag} {mg : Str → Option Value} {base : Heap}
theorem ok_look_at_lines (T : Txt K mg) (dd : DefAt K mg "look_at_lines" s_look_at_lines) (c_look_at_line : FnAt P w K mg base "look_at_line" P_look_at_line 1 f_look_at_line) : FnAt P w K mg base "look_at_lines" P_look_at_lines 2 f_look_at_lines := by
  obtain ⟨a_look_at_line, fd_look_at_line, m_look_at_line, kp_look_at_line, b_look_at_line, G_look_at_line⟩ := c_look_at_line
  obtain ⟨C_Unlike, X_Unlike⟩ := T.e_Unlike
  refine fn_at (N := N_look_at_lines) (g := g_look_at_lines) dd sc_look_at_lines (fun _ _ _ _ _ _ us hl => match us, hl with | [_, _], _ => rfl) ?_
  intro f cdv A outer s H E hr
  refine ⟨_, (pss_cons (ps_expr (pe_callS G_look_at_line (hr.mono (by decide)) (by rfl) m_look_at_line kp_look_at_line b_look_at_line (fun σ => passAt (takes_of rfl rfl rfl rfl) σ) (pa_cons (pv 0) pa_nil)))
     (pss_cons (ps_expr (pe_callS G_look_at_line (hr.mono (by decide)) (by rfl) m_look_at_line kp_look_at_line b_look_at_line (fun σ => passAt (takes_of rfl rfl rfl rfl) σ) (pa_cons (pv 1) pa_nil)))
     (pss_one (ps_if (pt_cmpR (kNe (K := K) (hu64 hr)) (pe_callB (kLen (K := K)) (by rfl) T.b_len boot_len (pa_cons (pv 0) pa_nil)) (pe_callB (kLen (K := K)) (by rfl) T.b_len boot_len (pa_cons (pv 1) pa_nil)) (nomark _)) (pss_one (ps_raise rfl (takes_of rfl rfl rfl rfl) (pmk_own PySem.F.excBase_ValueError X_Unlike.e X_Unlike.g X_Unlike.k (raises_own X_Unlike.b X_Unlike.t) (by exact rfl)))) pss_nil)))), ?_⟩
  exact fun L => (ds_seq (ds_expr (DF.e (df_call (daf_cons (df_var (i := 0)) daf_nil))))
     (ds_seq (ds_expr (DF.e (df_call (daf_cons (df_var (i := 1)) daf_nil))))
     (ds_if (dt_test (DF.e (df_op rd_ne (DF.e (df_B rc_len (da_cons (DF.e (df_var (i := 0))) da_nil))) (DF.e (df_B rc_len (da_cons (DF.e (df_var (i := 1))) da_nil)))))) (ds_raise X_Unlike.g) ds_next)))
end
/-! ### places_in -/
abbrev s_places_in : Stmt := topS 10
abbrev N_places_in : List Str := ["one", "other", "where", "place", "thing"]
abbrev P_places_in : List Str := ["one", "other"]
theorem sc_places_in : FnScope N_places_in P_places_in (defScope s_places_in) := ⟨rfl, rfl, rfl, by decide +kernel, rfl, by decide +kernel, by decide +kernel⟩
noncomputable def b1_places_in : MS :=
 (sSet 2 (eVarF 4) (eVarF 3))
noncomputable def g_places_in : MS :=
 (sSeq (sAsgL 2 (e2L repD (eL (aCons (eC (.int 0)) aNil)) (eB lenD (aCons (eVarF 1) aNil))))
 (sSeq (sFor (iEn (aCons (eVarF 1) aNil)) (gT (gC (gN 3) (gC (gN 4) gNil'))) b1_places_in)
 (sFrz 2 (sRet (eL (eLc (iE (eVarF 0)) (gN 4) tYesF (e2 ixD (eVarF 2) (eVarF 4)) [4]))))))
noncomputable def f_places_in : List D → M D := mFn 2 5 g_places_in
section
variable {P : Program} {w : World} {K : PySem.W.Frag} {mg : Str → Option Value} {base : Heap}
theorem ok_places_in (T : Txt K mg) (dd : DefAt K mg "places_in" s_places_in)  : FnAt P w K mg base "places_in" P_places_in 1 f_places_in := by
  refine fn_at (N := N_places_in) (g := g_places_in) dd sc_places_in (fun _ _ _ _ _ _ us hl => match us, hl with | [_, _], _ => rfl) ?_
  intro f cdv A outer s H E hr
  refine ⟨_, (pss_cons (ps_set (i := 2) sc_places_in.nd rfl (Or.inr rfl) (pe_op op_mulU (pe_lst (pa_cons pe_int pa_nil)) (pe_callB (kLen (K := K)) (by rfl) T.b_len boot_len (pa_cons (pv 1) pa_nil))))
     (pss_cons (ps_for (passes_of rfl) rfl (pi_enumK (K := K) (by rfl) T.b_enumerate (pa_cons (pv 1) pa_nil)) (pg_tupK (K := K) (n := 2) rfl (pgs_cons (pg_name (i := 3) sc_places_in.nd rfl (Or.inl rfl)) (pgs_cons (pg_name (i := 4) sc_places_in.nd rfl (Or.inl rfl)) pgs_nil))) (pss_one (ps_asg (pv 3) (pg_sub (pv 2) (pv 4) set_list))))
     (pss_one (ps_ret (pe_lc (own := [("thing", 4)]) (by rfl) sc_places_in.nd (pi_sqK (K := K) (pv 0)) (blkOk_by (own := [("thing", 4)]) (N := N_places_in) (sc := defScope s_places_in) (by decide +kernel)) (fun _ _ _ _ _ => (pg_name (i := 4) sc_places_in.nd rfl (Or.inl rfl))) (fun _ _ _ _ _ => pts_nil) (fun _ _ _ _ _ => (pe_ix (kIx (K := K)) (pv 2) (pv 4) (fun _ _ => rfl)))))))), ?_⟩
  exact fun L => (ds_seq (ds_asgL (i := 2) (dl_op rl_mul (DF.e (DL.fz (dl_lst (daf_cons (df_int (i := 0)) daf_nil) (few_cons few_nil)))) (DF.e (df_B rc_len (da_cons (DF.e (df_var (i := 1))) da_nil)))))
     (ds_seq (ds_for (di_enum (daf_cons (df_var (i := 1)) daf_nil)) (dg_tup (dgs_cons (dg_name (i := 3)) (dgs_cons (dg_name (i := 4)) dgs_nil)) (gC_len (gC_len (fun _ _ _ h => gnil_len h)))) (ds_set (i := 2) (df_var (i := 3)) (DF.e (df_var (i := 4)))))
     (ds_frz (i := 2) (ds_ret (DL.fz (dl_lc (vs := [4]) (dib_sq (DF.e (df_var (i := 0)))) (dg_name (i := 4)) (by decide) dt_yes (df_op rd_ix (DF.e (df_var (i := 2))) (DF.e (df_var (i := 4))))))))))
end
/-! ### parts_within -/
abbrev s_parts_within : Stmt := topS 16
abbrev N_parts_within : List Str := ["stretch", "strong", "found", "place", "best", "other"]
abbrev P_parts_within : List Str := ["stretch", "strong"]
theorem sc_parts_within : FnScope N_parts_within P_parts_within (defScope s_parts_within) := ⟨rfl, rfl, rfl, by decide +kernel, rfl, by decide +kernel, by decide +kernel⟩
noncomputable def b1_parts_within : MS :=
 (sIf (tA (tE (e2 eqD (e2 ixD (eVarF 5) (eC (.int 0))) (eVarF 3))) (tA (tE (e2 neD (eVarF 5) (eVarF 0))) (tE (eCh ltD leD (e2 ixD (eVarF 4) (eC (.int 1))) (e2 ixD (eVarF 5) (eC (.int 1))) (e2 ixD (eVarF 0) (eC (.int 1))))))) (sAsg (gN 4) (eVarF 5)) sNext)
noncomputable def b2_parts_within : MS :=
 (sSeq (sAsg (gN 4) (eTup (aCons (eVarF 3) (aCons (e2 addD (eVarF 3) (eC (.int 1))) aNil))))
 (sSeq (sFor (iE (eVarF 1)) (gN 5) b1_parts_within)
 (sSeq (sMut 2 appM (aCons (eVarF 4) aNil))
 (sAsg (gN 3) (e2 ixD (eVarF 4) (eC (.int 1)))))))
noncomputable def g_parts_within : MS :=
 (sSeq (sAsgL 2 aNil)
 (sSeq (sAsg (gN 3) (e2 ixD (eVarF 0) (eC (.int 0))))
 (sSeq (sWhile (tE (e2 ltD (eVarF 3) (e2 ixD (eVarF 0) (eC (.int 1))))) b2_parts_within)
 (sFrz 2 (sRet (eVarF 2))))))
noncomputable def f_parts_within : List D → M D := mFn 2 6 g_parts_within
section
variable {P : Program} {w : World} {K : PySem.W.Frag} {mg : Str → Option Value} {base : Heap}
theorem ok_parts_within (T : Txt K mg) (dd : DefAt K mg "parts_within" s_parts_within)  : FnAt P w K mg base "parts_within" P_parts_within 1 f_parts_within := by
  refine fn_at (N := N_parts_within) (g := g_parts_within) dd sc_parts_within (fun _ _ _ _ _ _ us hl => match us, hl with | [_, _], _ => rfl) ?_
  intro f cdv A outer s H E hr
  refine ⟨_, (pss_cons (ps_set (i := 2) sc_parts_within.nd rfl (Or.inl rfl) (pe_lst pa_nil))
     (pss_cons (ps_set (i := 3) sc_parts_within.nd rfl (Or.inl rfl) (pe_ix (kIx (K := K)) (pv 0) pe_int (fun _ _ => rfl)))
     (pss_cons (ps_while (passes_of rfl) (pt_cmpR op_lt (pv 3) (pe_ix (kIx (K := K)) (pv 0) pe_int (fun _ _ => rfl)) (nomark _)) (pss_cons (ps_set (i := 4) sc_parts_within.nd rfl (Or.inl rfl) (pe_tup (pa_cons (pv 3) (pa_cons (pe_op (kAdd (K := K)) (pv 3) pe_int) pa_nil))))
     (pss_cons (ps_for (passes_of rfl) rfl (pi_sqK (K := K) (pv 1)) (pg_name (i := 5) sc_parts_within.nd rfl (Or.inl rfl)) (pss_one (ps_if (PW.pt (pw_and (pt_cmpR (kEq (K := K) (hu64 hr)) (pe_ix (kIx (K := K)) (pv 5) pe_int (fun _ _ => rfl)) (pv 3) (nomark _)) (pw_and (pt_cmpR (kNe (K := K) (hu64 hr)) (pv 5) (pv 0) (nomark _)) (pw_and1 (pt_chain op_lt op_le (pe_ix (kIx (K := K)) (pv 4) pe_int (fun _ _ => rfl)) (pe_ix (kIx (K := K)) (pv 5) pe_int (fun _ _ => rfl)) (pe_ix (kIx (K := K)) (pv 0) pe_int (fun _ _ => rfl))))))) (pss_one (ps_set (i := 4) sc_parts_within.nd rfl (Or.inl rfl) (pv 5))) pss_nil)))
     (pss_cons (ps_expr (bmK (K := K) (pe_bm PySem.F.plainAttrs_list PySem.F.slot_list_append PySem.F.type_list_append mt_append (pv 2) (pa_cons (pv 4) pa_nil))))
     (pss_one (ps_set (i := 3) sc_parts_within.nd rfl (Or.inl rfl) (pe_ix (kIx (K := K)) (pv 4) pe_int (fun _ _ => rfl))))))))
     (pss_one (ps_ret (pv 2)))))), ?_⟩
  exact fun L => (ds_seq (ds_asgL (i := 2) (dl_lst daf_nil few_nil))
     (ds_seq (ds_asg (df_op rd_ix (DF.e (df_var (i := 0))) (DF.e (df_int (i := 0)))) (dg_name (i := 3)))
     (ds_seq (ds_while (dt_test (DF.e (df_op rd_cmp (DF.e (df_var (i := 3))) (DF.e (df_op rd_ix (DF.e (df_var (i := 0))) (DF.e (df_int (i := 1)))))))) (ds_seq (ds_asg (df_tup (daf_cons (df_var (i := 3)) (daf_cons (df_op rd_add (DF.e (df_var (i := 3))) (DF.e (df_int (i := 1)))) daf_nil)) (few_cons (few_cons few_nil))) (dg_name (i := 4)))
     (ds_seq (ds_for (di_sq (df_var (i := 1))) (dg_name (i := 5)) (ds_if (dt_and (dt_test (DF.e (df_op rd_eq (DF.e (df_op rd_ix (DF.e (df_var (i := 5))) (DF.e (df_int (i := 0))))) (DF.e (df_var (i := 3)))))) (dt_and (dt_test (DF.e (df_op rd_ne (DF.e (df_var (i := 5))) (DF.e (df_var (i := 0)))))) (dt_test (de_chain rd_cmp rd_cmp (DF.e (df_op rd_ix (DF.e (df_var (i := 4))) (DF.e (df_int (i := 1))))) (DF.e (df_op rd_ix (DF.e (df_var (i := 5))) (DF.e (df_int (i := 1))))) (DF.e (df_op rd_ix (DF.e (df_var (i := 0))) (DF.e (df_int (i := 1))))))))) (ds_asg (df_var (i := 5)) (dg_name (i := 4))) ds_next))
     (ds_seq (ds_mut (i := 2) rm_append (daf_cons (df_var (i := 4)) daf_nil))
     (ds_asg (df_op rd_ix (DF.e (df_var (i := 4))) (DF.e (df_int (i := 1)))) (dg_name (i := 3)))))))
     (ds_frz (i := 2) (ds_ret (df_var (i := 2)))))))
end
/-! ### kind_of_parts -/
abbrev s_kind_of_parts : Stmt := topS 17
abbrev N_kind_of_parts : List Str := ["there", "parts", "lows", "part"]
abbrev P_kind_of_parts : List Str := ["there", "parts"]
theorem sc_kind_of_parts : FnScope N_kind_of_parts P_kind_of_parts (defScope s_kind_of_parts) := ⟨rfl, rfl, rfl, by decide +kernel, rfl, by decide +kernel, by decide +kernel⟩
noncomputable def g_kind_of_parts : MS :=
 (sSeq (sAsg (gN 2) (eL (eLc (iE (eVarF 1)) (gN 3) tYesF (eB minUD (aCons (eSl slD (eVarF 0) (oSome (e2 ixD (eVarF 3) (eC (.int 0)))) (oSome (e2 ixD (eVarF 3) (eC (.int 1))))) aNil)) [3])))
 (sSeq (sIf (tE (e2 eqD (eVarF 2) (eL (eBL sortUD (aCons (eVarF 2) aNil))))) (sRet (eC (.str ("straight" : Str)))) sNext)
 (sSeq (sIf (tE (e2 eqD (eVarF 2) (eL (eBL sortRevD (aCons (eVarF 2) aNil))))) (sRet (eC (.str ("turned" : Str)))) sNext)
 (sRet (eC (.str ("tight" : Str)))))))
noncomputable def f_kind_of_parts : List D → M D := mFn 2 4 g_kind_of_parts
section
variable {P : Program} {w : World} {K : PySem.W.Frag} {mg : Str → Option Value} {base : Heap}
theorem ok_kind_of_parts (T : Txt K mg) (dd : DefAt K mg "kind_of_parts" s_kind_of_parts)  : FnAt P w K mg base "kind_of_parts" P_kind_of_parts 1 f_kind_of_parts := by
  refine fn_at (N := N_kind_of_parts) (g := g_kind_of_parts) dd sc_kind_of_parts (fun _ _ _ _ _ _ us hl => match us, hl with | [_, _], _ => rfl) ?_
  intro f cdv A outer s H E hr
  refine ⟨_, (pss_cons (ps_setLc (i := 2) (own := [("part", 3)]) (by rfl) sc_kind_of_parts.nd rfl rfl (sw_true rfl rfl rfl (by decide +kernel)) (pi_sqK (K := K) (pv 1)) (blkOk_by (own := [("part", 3)]) (N := N_kind_of_parts) (sc := defScope s_kind_of_parts) (by decide +kernel)) (fun _ _ _ _ _ => (pg_name (i := 3) sc_kind_of_parts.nd rfl (Or.inl rfl))) (fun _ _ _ _ _ => pts_nil) (fun _ _ _ _ _ => (pe_callB (kMinU (K := K) rfl (hu65 hr)) (by rfl) T.b_min boot_min (pa_cons (pe_slice (kSl (K := K)) (pv 0) (po_some (pe_ix (kIx (K := K)) (pv 3) pe_int (fun _ _ => rfl))) (po_some (pe_ix (kIx (K := K)) (pv 3) pe_int (fun _ _ => rfl)))) pa_nil))))
     (pss_cons (ps_if (pt_cmpR (kEq (K := K) (hu64 hr)) (pv 2) (pe_callB (kSortU (K := K)) (by rfl) T.b_sorted boot_sorted (pa_cons (pv 2) pa_nil)) (nomark _)) (pss_one (ps_ret pe_str)) pss_nil)
     (pss_cons (ps_if (pt_cmpR (kEq (K := K) (hu64 hr)) (pv 2) (pe_callBK (kSortRev (K := K)) (by rfl) T.b_sorted boot_sorted (pa_cons (pv 2) pa_nil) (pk_cons pe_bl pk_nil)) (nomark _)) (pss_one (ps_ret pe_str)) pss_nil)
     (pss_one (ps_ret pe_str))))), ?_⟩
  exact fun L => (ds_seq (ds_asg (DL.fz (dl_lc (vs := [3]) (dib_sq (DF.e (df_var (i := 1)))) (dg_name (i := 3)) (by decide) dt_yes (df_B rc_minU (da_cons (DF.e (df_sl rs_sl (DF.e (df_var (i := 0))) (do_some (DF.e (df_op rd_ix (DF.e (df_var (i := 3))) (DF.e (df_int (i := 0)))))) (do_some (DF.e (df_op rd_ix (DF.e (df_var (i := 3))) (DF.e (df_int (i := 1)))))))) da_nil)))) (dg_name (i := 2)))
     (ds_seq (ds_if (dt_test (DF.e (df_op rd_eq (DF.e (df_var (i := 2))) (DF.e (DL.fz (dl_B rc_sortU (da_cons (DF.e (df_var (i := 2))) da_nil))))))) (ds_ret (df_str (x := ("straight" : Str)))) ds_next)
     (ds_seq (ds_if (dt_test (DF.e (df_op rd_eq (DF.e (df_var (i := 2))) (DF.e (DL.fz (dl_sortRev (da_cons (DF.e (df_var (i := 2))) da_nil))))))) (ds_ret (df_str (x := ("turned" : Str)))) ds_next)
     (ds_ret (df_str (x := ("tight" : Str)))))))
end
/-! ### nest_at -/
abbrev s_nest_at : Stmt := topS 18
abbrev N_nest_at : List Str := ["there", "stretch", "strong", "inner", "parts", "nests", "other", "part"]
abbrev P_nest_at : List Str := ["there", "stretch", "strong"]
theorem sc_nest_at : FnScope N_nest_at P_nest_at (defScope s_nest_at) := ⟨rfl, rfl, rfl, by decide +kernel, rfl, by decide +kernel, by decide +kernel⟩
noncomputable def g_nest_at (self : List D → M D) : MS :=
 (sSeq (sIf (tE (e2 eqD (e2 subD (e2 ixD (eVarF 1) (eC (.int 1))) (e2 ixD (eVarF 1) (eC (.int 0)))) (eC (.int 1)))) (sRet (eTup (aCons (eC (.str ("one" : Str))) (aCons (e2 ixD (eVarF 1) (eC (.int 0))) (aCons (e2 ixD (eVarF 1) (eC (.int 1))) (aCons (eTup aNil) aNil)))))) sNext)
 (sSeq (sAsg (gN 3) (eL (eLc (iE (eVarF 2)) (gN 6) (tA (tE (e2 leD (e2 ixD (eVarF 1) (eC (.int 0))) (e2 ixD (eVarF 6) (eC (.int 0))))) (tE (e2 leD (e2 ixD (eVarF 6) (eC (.int 1))) (e2 ixD (eVarF 1) (eC (.int 1)))))) (eVarF 6) [6])))
 (sSeq (sAsg (gN 4) (eCall f_parts_within (aCons (eVarF 1) (aCons (eVarF 3) aNil))))
 (sSeq (sAsg (gN 5) (eL (eLc (iE (eVarF 4)) (gN 7) tYesF (eCall self (aCons (eVarF 0) (aCons (eVarF 7) (aCons (eVarF 3) aNil)))) [7])))
 (sRet (eTup (aCons (eCall f_kind_of_parts (aCons (eVarF 0) (aCons (eVarF 4) aNil))) (aCons (e2 ixD (eVarF 1) (eC (.int 0))) (aCons (e2 ixD (eVarF 1) (eC (.int 1))) (aCons (eB tupleD (aCons (eVarF 5) aNil)) aNil))))))))))
noncomputable def F_nest_at : Nat → List D → M D
  | 0 => fun _ => .stuck
  | m + 1 => mFn 3 8 (g_nest_at (F_nest_at m))
noncomputable def f_nest_at : List D → M D := F_nest_at 50
section
variable {P : Program} {w : World} {K : PySem.W.Frag} {mg : Str → Option Value} {base : Heap}
theorem okr_nest_at (T : Txt K mg) (dd : DefAt K mg "nest_at" s_nest_at) (c_kind_of_parts : FnAt P w K mg base "kind_of_parts" P_kind_of_parts 1 f_kind_of_parts) (c_parts_within : FnAt P w K mg base "parts_within" P_parts_within 1 f_parts_within) : ∀ m : Nat, FnAt P w K mg base "nest_at" P_nest_at (1 + m) (F_nest_at m)
  | 0 => fn_stuck dd (fun _ _ _ _ _ _ us hl => match us, hl with | [_, _, _], _ => rfl)
  | m + 1 => by
    have c_nest_at := okr_nest_at T dd c_kind_of_parts c_parts_within m
    obtain ⟨a_nest_at, fd_nest_at, m_nest_at, kp_nest_at, b_nest_at, G_nest_at⟩ := c_nest_at
    obtain ⟨a_kind_of_parts, fd_kind_of_parts, m_kind_of_parts, kp_kind_of_parts, b_kind_of_parts, G_kind_of_parts⟩ := c_kind_of_parts
    obtain ⟨a_parts_within, fd_parts_within, m_parts_within, kp_parts_within, b_parts_within, G_parts_within⟩ := c_parts_within
    show FnAt P w K mg base "nest_at" P_nest_at ((1 + m) + 1) (mFn 3 8 (g_nest_at (F_nest_at m)))
    refine fn_at (N := N_nest_at) (g := g_nest_at (F_nest_at m)) dd sc_nest_at (fun _ _ _ _ _ _ us hl => match us, hl with | [_, _, _], _ => rfl) ?_
    intro f cdv A outer s H E hr
    refine ⟨_, (pss_cons (ps_if (pt_cmpR (kEq (K := K) (hu64 hr)) (pe_op op_sub (pe_ix (kIx (K := K)) (pv 1) pe_int (fun _ _ => rfl)) (pe_ix (kIx (K := K)) (pv 1) pe_int (fun _ _ => rfl))) pe_int (nomark _)) (pss_one (ps_ret (pe_tup (pa_cons pe_str (pa_cons (pe_ix (kIx (K := K)) (pv 1) pe_int (fun _ _ => rfl)) (pa_cons (pe_ix (kIx (K := K)) (pv 1) pe_int (fun _ _ => rfl)) (pa_cons (pe_tup pa_nil) pa_nil))))))) pss_nil)
       (pss_cons (ps_set (i := 3) sc_nest_at.nd rfl (Or.inr rfl) (pe_lc (own := [("other", 6)]) (by rfl) sc_nest_at.nd (pi_sqK (K := K) (pv 2)) (blkOk_by (own := [("other", 6)]) (N := N_nest_at) (sc := defScope s_nest_at) (by decide +kernel)) (fun _ _ _ _ _ => (pg_name (i := 6) sc_nest_at.nd rfl (Or.inl rfl))) (fun _ _ _ _ _ => (pts_one (PW.pt (pw_and (pt_cmpR op_le (pe_ix (kIx (K := K)) (pv 1) pe_int (fun _ _ => rfl)) (pe_ix (kIx (K := K)) (pv 6) pe_int (fun _ _ => rfl)) (nomark _)) (pw_and1 (pt_cmpR op_le (pe_ix (kIx (K := K)) (pv 6) pe_int (fun _ _ => rfl)) (pe_ix (kIx (K := K)) (pv 1) pe_int (fun _ _ => rfl)) (nomark _))))))) (fun _ _ _ _ _ => (pv 6))))
       (pss_cons (ps_set (i := 4) sc_nest_at.nd rfl (Or.inl rfl) (pe_callS G_parts_within (hr.mono (by omega)) (by rfl) m_parts_within kp_parts_within b_parts_within (fun σ => passAt (takes_of rfl rfl rfl rfl) σ) (pa_cons (pv 1) (pa_cons (pv 3) pa_nil))))
       (pss_cons (ps_setLc (i := 5) (own := [("part", 7)]) (by rfl) sc_nest_at.nd rfl rfl (sw_true rfl rfl rfl (by decide +kernel)) (pi_sqK (K := K) (pv 4)) (blkOk_by (own := [("part", 7)]) (N := N_nest_at) (sc := defScope s_nest_at) (by decide +kernel)) (fun _ _ _ _ _ => (pg_name (i := 7) sc_nest_at.nd rfl (Or.inl rfl))) (fun _ _ _ _ _ => pts_nil) (fun _ _ _ _ _ => (pe_callS G_nest_at (hr.mono (by omega)) (by rfl) m_nest_at kp_nest_at b_nest_at (fun σ => passAt takes0 σ) (pa_cons (pv 0) (pa_cons (pv 7) (pa_cons (pv 3) pa_nil))))))
       (pss_one (ps_ret (pe_tup (pa_cons (pe_callS G_kind_of_parts (hr.mono (by omega)) (by rfl) m_kind_of_parts kp_kind_of_parts b_kind_of_parts (fun σ => passAt (takes_of rfl rfl rfl rfl) σ) (pa_cons (pv 0) (pa_cons (pv 4) pa_nil))) (pa_cons (pe_ix (kIx (K := K)) (pv 1) pe_int (fun _ _ => rfl)) (pa_cons (pe_ix (kIx (K := K)) (pv 1) pe_int (fun _ _ => rfl)) (pa_cons (pe_callTy (kTuple (K := K)) (by rfl) T.b_tuple boot_tuple (pa_cons (pv 5) pa_nil)) pa_nil))))))))))), ?_⟩
    exact fun L => (ds_seq (ds_if (dt_test (DF.e (df_op rd_eq (DF.e (df_op rd_sub (DF.e (df_op rd_ix (DF.e (df_var (i := 1))) (DF.e (df_int (i := 1))))) (DF.e (df_op rd_ix (DF.e (df_var (i := 1))) (DF.e (df_int (i := 0))))))) (DF.e (df_int (i := 1)))))) (ds_ret (df_tup (daf_cons (df_str (x := ("one" : Str))) (daf_cons (df_op rd_ix (DF.e (df_var (i := 1))) (DF.e (df_int (i := 0)))) (daf_cons (df_op rd_ix (DF.e (df_var (i := 1))) (DF.e (df_int (i := 1)))) (daf_cons (df_tup daf_nil few_nil) daf_nil)))) (few_cons (few_cons (few_cons (few_cons few_nil)))))) ds_next)
       (ds_seq (ds_asg (DL.fz (dl_lc (vs := [6]) (dib_sq (DF.e (df_var (i := 2)))) (dg_name (i := 6)) (by decide) (dt_and (dt_test (DF.e (df_op rd_cmp (DF.e (df_op rd_ix (DF.e (df_var (i := 1))) (DF.e (df_int (i := 0))))) (DF.e (df_op rd_ix (DF.e (df_var (i := 6))) (DF.e (df_int (i := 0)))))))) (dt_test (DF.e (df_op rd_cmp (DF.e (df_op rd_ix (DF.e (df_var (i := 6))) (DF.e (df_int (i := 1))))) (DF.e (df_op rd_ix (DF.e (df_var (i := 1))) (DF.e (df_int (i := 1))))))))) (df_var (i := 6)))) (dg_name (i := 3)))
       (ds_seq (ds_asg (df_call (daf_cons (df_var (i := 1)) (daf_cons (df_var (i := 3)) daf_nil))) (dg_name (i := 4)))
       (ds_seq (ds_asg (DL.fz (dl_lc (vs := [7]) (dib_sq (DF.e (df_var (i := 4)))) (dg_name (i := 7)) (by decide) dt_yes (df_call (daf_cons (df_var (i := 0)) (daf_cons (df_var (i := 7)) (daf_cons (df_var (i := 3)) daf_nil)))))) (dg_name (i := 5)))
       (ds_ret (df_tup (daf_cons (df_call (daf_cons (df_var (i := 0)) (daf_cons (df_var (i := 4)) daf_nil))) (daf_cons (df_op rd_ix (DF.e (df_var (i := 1))) (DF.e (df_int (i := 0)))) (daf_cons (df_op rd_ix (DF.e (df_var (i := 1))) (DF.e (df_int (i := 1)))) (daf_cons (df_B rc_tuple (da_cons (DF.e (df_var (i := 5))) da_nil)) daf_nil)))) (few_cons (few_cons (few_cons (few_cons few_nil))))))))))
theorem ok_nest_at (T : Txt K mg) (dd : DefAt K mg "nest_at" s_nest_at) (c_kind_of_parts : FnAt P w K mg base "kind_of_parts" P_kind_of_parts 1 f_kind_of_parts) (c_parts_within : FnAt P w K mg base "parts_within" P_parts_within 1 f_parts_within) : FnAt P w K mg base "nest_at" P_nest_at 51 f_nest_at := okr_nest_at T dd c_kind_of_parts c_parts_within 50
end
/-! ### shared_by -/
abbrev s_shared_by : Stmt := topS 11
abbrev N_shared_by : List Str := ["there", "found", "first", "low", "high", "last"]
abbrev P_shared_by : List Str := ["there"]
theorem sc_shared_by : FnScope N_shared_by P_shared_by (defScope s_shared_by) := ⟨rfl, rfl, rfl, by decide +kernel, rfl, by decide +kernel, by decide +kernel⟩
noncomputable def b1_shared_by : MS :=
 (sSeq (sAsg (gN 3) (eB minD (aCons (eVarF 3) (aCons (e2 ixD (eVarF 0) (eVarF 5)) aNil))))
 (sSeq (sAsg (gN 4) (eB maxD (aCons (eVarF 4) (aCons (e2 ixD (eVarF 0) (eVarF 5)) aNil))))
 (sIf (tE (e2 eqD (e2 subD (eVarF 4) (eVarF 3)) (e2 subD (eVarF 5) (eVarF 2)))) (sMut 1 appM (aCons (eTup (aCons (eVarF 2) (aCons (e2 addD (eVarF 5) (eC (.int 1))) aNil))) aNil)) sNext)))
noncomputable def b2_shared_by : MS :=
 (sSeq (sAsg (gN 3) (e2 ixD (eVarF 0) (eVarF 2)))
 (sSeq (sAsg (gN 4) (eVarF 3))
 (sFor (iR2 (aCons (eVarF 2) (aCons (eB lenD (aCons (eVarF 0) aNil)) aNil))) (gN 5) b1_shared_by)))
noncomputable def g_shared_by : MS :=
 (sSeq (sAsgL 1 aNil)
 (sSeq (sFor (iR1 (aCons (eB lenD (aCons (eVarF 0) aNil)) aNil)) (gN 2) b2_shared_by)
 (sFrz 1 (sRet (eVarF 1)))))
noncomputable def f_shared_by : List D → M D := mFn 1 6 g_shared_by
section
variable {P : Program} {w : World} {K : PySem.W.Frag} {mg : Str → Option Value} {base : Heap}
theorem ok_shared_by (T : Txt K mg) (dd : DefAt K mg "shared_by" s_shared_by)  : FnAt P w K mg base "shared_by" P_shared_by 1 f_shared_by := by
  refine fn_at (N := N_shared_by) (g := g_shared_by) dd sc_shared_by (fun _ _ _ _ _ _ us hl => match us, hl with | [_], _ => rfl) ?_
  intro f cdv A outer s H E hr
  refine ⟨_, (pss_cons (ps_set (i := 1) sc_shared_by.nd rfl (Or.inl rfl) (pe_lst pa_nil))
     (pss_cons (ps_for (passes_of rfl) rfl (pi_range1 (by rfl) T.b_range (pa_cons (pe_callB (kLen (K := K)) (by rfl) T.b_len boot_len (pa_cons (pv 0) pa_nil)) pa_nil)) (pg_name (i := 2) sc_shared_by.nd rfl (Or.inl rfl)) (pss_cons (ps_set (i := 3) sc_shared_by.nd rfl (Or.inl rfl) (pe_ix (kIx (K := K)) (pv 0) (pv 2) (fun _ _ => rfl)))
     (pss_cons (ps_set (i := 4) sc_shared_by.nd rfl (Or.inl rfl) (pv 3))
     (pss_one (ps_for (passes_of rfl) rfl (pi_range2 (by rfl) T.b_range (pa_cons (pv 2) (pa_cons (pe_callB (kLen (K := K)) (by rfl) T.b_len boot_len (pa_cons (pv 0) pa_nil)) pa_nil))) (pg_name (i := 5) sc_shared_by.nd rfl (Or.inl rfl)) (pss_cons (ps_set (i := 3) sc_shared_by.nd rfl (Or.inl rfl) (pe_callB (kMin (K := K) rfl) (by rfl) T.b_min boot_min (pa_cons (pv 3) (pa_cons (pe_ix (kIx (K := K)) (pv 0) (pv 5) (fun _ _ => rfl)) pa_nil))))
     (pss_cons (ps_set (i := 4) sc_shared_by.nd rfl (Or.inl rfl) (pe_callB (kMax (K := K) rfl) (by rfl) T.b_max boot_max (pa_cons (pv 4) (pa_cons (pe_ix (kIx (K := K)) (pv 0) (pv 5) (fun _ _ => rfl)) pa_nil))))
     (pss_one (ps_if (pt_cmpR (kEq (K := K) (hu64 hr)) (pe_op op_sub (pv 4) (pv 3)) (pe_op op_sub (pv 5) (pv 2)) (nomark _)) (pss_one (ps_expr (bmK (K := K) (pe_bm PySem.F.plainAttrs_list PySem.F.slot_list_append PySem.F.type_list_append mt_append (pv 1) (pa_cons (pe_tup (pa_cons (pv 2) (pa_cons (pe_op (kAdd (K := K)) (pv 5) pe_int) pa_nil))) pa_nil))))) pss_nil)))))))))
     (pss_one (ps_ret (pv 1))))), ?_⟩
  exact fun L => (ds_seq (ds_asgL (i := 1) (dl_lst daf_nil few_nil))
     (ds_seq (ds_for (di_rng1 (da_cons (DF.e (df_B rc_len (da_cons (DF.e (df_var (i := 0))) da_nil))) da_nil)) (dg_name (i := 2)) (ds_seq (ds_asg (df_op rd_ix (DF.e (df_var (i := 0))) (DF.e (df_var (i := 2)))) (dg_name (i := 3)))
     (ds_seq (ds_asg (df_var (i := 3)) (dg_name (i := 4)))
     (ds_for (di_rng2 (da_cons (DF.e (df_var (i := 2))) (da_cons (DF.e (df_B rc_len (da_cons (DF.e (df_var (i := 0))) da_nil))) da_nil))) (dg_name (i := 5)) (ds_seq (ds_asg (df_B rc_min (da_cons (DF.e (df_var (i := 3))) (da_cons (DF.e (df_op rd_ix (DF.e (df_var (i := 0))) (DF.e (df_var (i := 5))))) da_nil))) (dg_name (i := 3)))
     (ds_seq (ds_asg (df_B rc_max (da_cons (DF.e (df_var (i := 4))) (da_cons (DF.e (df_op rd_ix (DF.e (df_var (i := 0))) (DF.e (df_var (i := 5))))) da_nil))) (dg_name (i := 4)))
     (ds_if (dt_test (DF.e (df_op rd_eq (DF.e (df_op rd_sub (DF.e (df_var (i := 4))) (DF.e (df_var (i := 3))))) (DF.e (df_op rd_sub (DF.e (df_var (i := 5))) (DF.e (df_var (i := 2)))))))) (ds_mut (i := 1) rm_append (daf_cons (df_tup (daf_cons (df_var (i := 2)) (daf_cons (df_op rd_add (DF.e (df_var (i := 5))) (DF.e (df_int (i := 1)))) daf_nil)) (few_cons (few_cons few_nil))) daf_nil)) ds_next)))))))
     (ds_frz (i := 1) (ds_ret (df_var (i := 1))))))
end
/-! ### reach_over -/
abbrev s_reach_over : Stmt := topS 13
abbrev N_reach_over : List Str := ["stretches", "many", "found", "first", "behind", "place"]
abbrev P_reach_over : List Str := ["stretches", "many"]
theorem sc_reach_over : FnScope N_reach_over P_reach_over (defScope s_reach_over) := ⟨rfl, rfl, rfl, by decide +kernel, rfl, by decide +kernel, by decide +kernel⟩
noncomputable def b1_reach_over : MS :=
 (sSet 2 (eVarF 5) (eB minD (aCons (e2 ixD (eVar 2) (eVarF 5)) (aCons (eVarF 4) aNil))))
noncomputable def b2_reach_over : MS :=
 (sFor (iR2 (aCons (e2 addD (eVarF 3) (eC (.int 1))) (aCons (eVarF 4) aNil))) (gN 5) b1_reach_over)
noncomputable def g_reach_over : MS :=
 (sSeq (sAsgL 2 (e2L repD (eL (aCons (e2 addD (eVarF 1) (eC (.int 1))) aNil)) (e2 addD (eVarF 1) (eC (.int 1)))))
 (sSeq (sFor (iE (eVarF 0)) (gT (gC (gN 3) (gC (gN 4) gNil'))) b2_reach_over)
 (sFrz 2 (sRet (eVarF 2)))))
noncomputable def f_reach_over : List D → M D := mFn 2 6 g_reach_over
section
variable {P : Program} {w : World} {K : PySem.W.Frag} {mg : Str → Option Value} {base : Heap}
theorem ok_reach_over (T : Txt K mg) (dd : DefAt K mg "reach_over" s_reach_over)  : FnAt P w K mg base "reach_over" P_reach_over 1 f_reach_over := by
  refine fn_at (N := N_reach_over) (g := g_reach_over) dd sc_reach_over (fun _ _ _ _ _ _ us hl => match us, hl with | [_, _], _ => rfl) ?_
  intro f cdv A outer s H E hr
  refine ⟨_, (pss_cons (ps_set (i := 2) sc_reach_over.nd rfl (Or.inl rfl) (pe_op op_mulU (pe_lst (pa_cons (pe_op (kAdd (K := K)) (pv 1) pe_int) pa_nil)) (pe_op (kAdd (K := K)) (pv 1) pe_int)))
     (pss_cons (ps_for (passes_of rfl) rfl (pi_sqK (K := K) (pv 0)) (pg_tupK (K := K) (n := 2) rfl (pgs_cons (pg_name (i := 3) sc_reach_over.nd rfl (Or.inl rfl)) (pgs_cons (pg_name (i := 4) sc_reach_over.nd rfl (Or.inl rfl)) pgs_nil))) (pss_one (ps_for (passes_of rfl) rfl (pi_range2 (by rfl) T.b_range (pa_cons (pe_op (kAdd (K := K)) (pv 3) pe_int) (pa_cons (pv 4) pa_nil))) (pg_name (i := 5) sc_reach_over.nd rfl (Or.inl rfl)) (pss_one (ps_asg (pe_callB (kMin (K := K) rfl) (by rfl) T.b_min boot_min (pa_cons (pe_ix (kIx (K := K)) (pv 2) (pv 5) (fun _ _ => rfl)) (pa_cons (pv 4) pa_nil))) (pg_sub (pv 2) (pv 5) set_list))))))
     (pss_one (ps_ret (pv 2))))), ?_⟩
  exact fun L => (ds_seq (ds_asgL (i := 2) (dl_op rl_mul (DF.e (DL.fz (dl_lst (daf_cons (df_op rd_add (DF.e (df_var (i := 1))) (DF.e (df_int (i := 1)))) daf_nil) (few_cons few_nil)))) (DF.e (df_op rd_add (DF.e (df_var (i := 1))) (DF.e (df_int (i := 1)))))))
     (ds_seq (ds_for (di_sq (df_var (i := 0))) (dg_tup (dgs_cons (dg_name (i := 3)) (dgs_cons (dg_name (i := 4)) dgs_nil)) (gC_len (gC_len (fun _ _ _ h => gnil_len h)))) (ds_for (di_rng2 (da_cons (DF.e (df_op rd_add (DF.e (df_var (i := 3))) (DF.e (df_int (i := 1))))) (da_cons (DF.e (df_var (i := 4))) da_nil))) (dg_name (i := 5)) (ds_set (i := 2) (df_B rc_min (da_cons (DF.e (df_op rd_ix (de_var (i := 2)) (DF.e (df_var (i := 5))))) (da_cons (DF.e (df_var (i := 4))) da_nil))) (DF.e (df_var (i := 5))))))
     (ds_frz (i := 2) (ds_ret (df_var (i := 2))))))
end
/-! ### reach_back -/
abbrev s_reach_back : Stmt := topS 14
abbrev N_reach_back : List Str := ["stretches", "many", "found", "first", "behind", "place"]
abbrev P_reach_back : List Str := ["stretches", "many"]
theorem sc_reach_back : FnScope N_reach_back P_reach_back (defScope s_reach_back) := ⟨rfl, rfl, rfl, by decide +kernel, rfl, by decide +kernel, by decide +kernel⟩
noncomputable def b1_reach_back : MS :=
 (sSet 2 (eVarF 5) (eB maxD (aCons (e2 ixD (eVar 2) (eVarF 5)) (aCons (eVarF 3) aNil))))
noncomputable def b2_reach_back : MS :=
 (sFor (iR2 (aCons (e2 addD (eVarF 3) (eC (.int 1))) (aCons (eVarF 4) aNil))) (gN 5) b1_reach_back)
noncomputable def g_reach_back : MS :=
 (sSeq (sAsgL 2 (e2L repD (eL (aCons (e1 negD (eC (.int 1))) aNil)) (e2 addD (eVarF 1) (eC (.int 1)))))
 (sSeq (sFor (iE (eVarF 0)) (gT (gC (gN 3) (gC (gN 4) gNil'))) b2_reach_back)
 (sFrz 2 (sRet (eVarF 2)))))
noncomputable def f_reach_back : List D → M D := mFn 2 6 g_reach_back
section
variable {P : Program} {w : World} {K : PySem.W.Frag} {mg : Str → Option Value} {base : Heap}
theorem ok_reach_back (T : Txt K mg) (dd : DefAt K mg "reach_back" s_reach_back)  : FnAt P w K mg base "reach_back" P_reach_back 1 f_reach_back := by
  refine fn_at (N := N_reach_back) (g := g_reach_back) dd sc_reach_back (fun _ _ _ _ _ _ us hl => match us, hl with | [_, _], _ => rfl) ?_
  intro f cdv A outer s H E hr
  refine ⟨_, (pss_cons (ps_set (i := 2) sc_reach_back.nd rfl (Or.inl rfl) (pe_op op_mulU (pe_lst (pa_cons (pe_un un_neg pe_int) pa_nil)) (pe_op (kAdd (K := K)) (pv 1) pe_int)))
     (pss_cons (ps_for (passes_of rfl) rfl (pi_sqK (K := K) (pv 0)) (pg_tupK (K := K) (n := 2) rfl (pgs_cons (pg_name (i := 3) sc_reach_back.nd rfl (Or.inl rfl)) (pgs_cons (pg_name (i := 4) sc_reach_back.nd rfl (Or.inl rfl)) pgs_nil))) (pss_one (ps_for (passes_of rfl) rfl (pi_range2 (by rfl) T.b_range (pa_cons (pe_op (kAdd (K := K)) (pv 3) pe_int) (pa_cons (pv 4) pa_nil))) (pg_name (i := 5) sc_reach_back.nd rfl (Or.inl rfl)) (pss_one (ps_asg (pe_callB (kMax (K := K) rfl) (by rfl) T.b_max boot_max (pa_cons (pe_ix (kIx (K := K)) (pv 2) (pv 5) (fun _ _ => rfl)) (pa_cons (pv 3) pa_nil))) (pg_sub (pv 2) (pv 5) set_list))))))
     (pss_one (ps_ret (pv 2))))), ?_⟩
  exact fun L => (ds_seq (ds_asgL (i := 2) (dl_op rl_mul (DF.e (DL.fz (dl_lst (daf_cons (df_un rd_neg (DF.e (df_int (i := 1)))) daf_nil) (few_cons few_nil)))) (DF.e (df_op rd_add (DF.e (df_var (i := 1))) (DF.e (df_int (i := 1)))))))
     (ds_seq (ds_for (di_sq (df_var (i := 0))) (dg_tup (dgs_cons (dg_name (i := 3)) (dgs_cons (dg_name (i := 4)) dgs_nil)) (gC_len (gC_len (fun _ _ _ h => gnil_len h)))) (ds_for (di_rng2 (da_cons (DF.e (df_op rd_add (DF.e (df_var (i := 3))) (DF.e (df_int (i := 1))))) (da_cons (DF.e (df_var (i := 4))) da_nil))) (dg_name (i := 5)) (ds_set (i := 2) (df_B rc_max (da_cons (DF.e (df_op rd_ix (de_var (i := 2)) (DF.e (df_var (i := 5))))) (da_cons (DF.e (df_var (i := 3))) da_nil))) (DF.e (df_var (i := 5))))))
     (ds_frz (i := 2) (ds_ret (df_var (i := 2))))))
end
/-! ### strong_by -/
abbrev s_strong_by : Stmt := topS 15
abbrev N_strong_by : List Str := ["there", "stretches", "over", "back", "found", "first", "behind"]
abbrev P_strong_by : List Str := ["there"]
theorem sc_strong_by : FnScope N_strong_by P_strong_by (defScope s_strong_by) := ⟨rfl, rfl, rfl, by decide +kernel, rfl, by decide +kernel, by decide +kernel⟩
noncomputable def b1_strong_by : MS :=
 (sIf (tA (tE (e2 geD (e2 ixD (eVarF 2) (eVarF 5)) (eVarF 6))) (tE (e2 leD (e2 ixD (eVarF 3) (eVarF 6)) (eVarF 5)))) (sMut 4 appM (aCons (eTup (aCons (eVarF 5) (aCons (eVarF 6) aNil))) aNil)) sNext)
noncomputable def g_strong_by : MS :=
 (sSeq (sAsg (gN 1) (eCall f_shared_by (aCons (eVarF 0) aNil)))
 (sSeq (sAsg (gN 2) (eCall f_reach_over (aCons (eVarF 1) (aCons (eB lenD (aCons (eVarF 0) aNil)) aNil))))
 (sSeq (sAsg (gN 3) (eCall f_reach_back (aCons (eVarF 1) (aCons (eB lenD (aCons (eVarF 0) aNil)) aNil))))
 (sSeq (sAsgL 4 aNil)
 (sSeq (sFor (iE (eVarF 1)) (gT (gC (gN 5) (gC (gN 6) gNil'))) b1_strong_by)
 (sFrz 4 (sRet (eVarF 4))))))))
noncomputable def f_strong_by : List D → M D := mFn 1 7 g_strong_by
section
variable {P : Program} {w : World} {K : PySem.W.Frag} {mg : Str → Option Value} {base : Heap}
theorem ok_strong_by (T : Txt K mg) (dd : DefAt K mg "strong_by" s_strong_by) (c_reach_back : FnAt P w K mg base "reach_back" P_reach_back 1 f_reach_back) (c_reach_over : FnAt P w K mg base "reach_over" P_reach_over 1 f_reach_over) (c_shared_by : FnAt P w K mg base "shared_by" P_shared_by 1 f_shared_by) : FnAt P w K mg base "strong_by" P_strong_by 2 f_strong_by := by
  obtain ⟨a_reach_back, fd_reach_back, m_reach_back, kp_reach_back, b_reach_back, G_reach_back⟩ := c_reach_back
  obtain ⟨a_reach_over, fd_reach_over, m_reach_over, kp_reach_over, b_reach_over, G_reach_over⟩ := c_reach_over
  obtain ⟨a_shared_by, fd_shared_by, m_shared_by, kp_shared_by, b_shared_by, G_shared_by⟩ := c_shared_by
  refine fn_at (N := N_strong_by) (g := g_strong_by) dd sc_strong_by (fun _ _ _ _ _ _ us hl => match us, hl with | [_], _ => rfl) ?_
  intro f cdv A outer s H E hr
  refine ⟨_, (pss_cons (ps_set (i := 1) sc_strong_by.nd rfl (Or.inl rfl) (pe_callS G_shared_by (hr.mono (by decide)) (by rfl) m_shared_by kp_shared_by b_shared_by (fun σ => passAt (takes_of rfl rfl rfl rfl) σ) (pa_cons (pv 0) pa_nil)))
     (pss_cons (ps_set (i := 2) sc_strong_by.nd rfl (Or.inl rfl) (pe_callS G_reach_over (hr.mono (by decide)) (by rfl) m_reach_over kp_reach_over b_reach_over (fun σ => passAt (takes_of rfl rfl rfl rfl) σ) (pa_cons (pv 1) (pa_cons (pe_callB (kLen (K := K)) (by rfl) T.b_len boot_len (pa_cons (pv 0) pa_nil)) pa_nil))))
     (pss_cons (ps_set (i := 3) sc_strong_by.nd rfl (Or.inl rfl) (pe_callS G_reach_back (hr.mono (by decide)) (by rfl) m_reach_back kp_reach_back b_reach_back (fun σ => passAt (takes_of rfl rfl rfl rfl) σ) (pa_cons (pv 1) (pa_cons (pe_callB (kLen (K := K)) (by rfl) T.b_len boot_len (pa_cons (pv 0) pa_nil)) pa_nil))))
     (pss_cons (ps_set (i := 4) sc_strong_by.nd rfl (Or.inl rfl) (pe_lst pa_nil))
     (pss_cons (ps_for (passes_of rfl) rfl (pi_sqK (K := K) (pv 1)) (pg_tupK (K := K) (n := 2) rfl (pgs_cons (pg_name (i := 5) sc_strong_by.nd rfl (Or.inl rfl)) (pgs_cons (pg_name (i := 6) sc_strong_by.nd rfl (Or.inl rfl)) pgs_nil))) (pss_one (ps_if (PW.pt (pw_and (pt_cmpR op_ge (pe_ix (kIx (K := K)) (pv 2) (pv 5) (fun _ _ => rfl)) (pv 6) (nomark _)) (pw_and1 (pt_cmpR op_le (pe_ix (kIx (K := K)) (pv 3) (pv 6) (fun _ _ => rfl)) (pv 5) (nomark _))))) (pss_one (ps_expr (bmK (K := K) (pe_bm PySem.F.plainAttrs_list PySem.F.slot_list_append PySem.F.type_list_append mt_append (pv 4) (pa_cons (pe_tup (pa_cons (pv 5) (pa_cons (pv 6) pa_nil))) pa_nil))))) pss_nil)))
     (pss_one (ps_ret (pv 4)))))))), ?_⟩
  exact fun L => (ds_seq (ds_asg (df_call (daf_cons (df_var (i := 0)) daf_nil)) (dg_name (i := 1)))
     (ds_seq (ds_asg (df_call (daf_cons (df_var (i := 1)) (daf_cons (df_B rc_len (da_cons (DF.e (df_var (i := 0))) da_nil)) daf_nil))) (dg_name (i := 2)))
     (ds_seq (ds_asg (df_call (daf_cons (df_var (i := 1)) (daf_cons (df_B rc_len (da_cons (DF.e (df_var (i := 0))) da_nil)) daf_nil))) (dg_name (i := 3)))
     (ds_seq (ds_asgL (i := 4) (dl_lst daf_nil few_nil))
     (ds_seq (ds_for (di_sq (df_var (i := 1))) (dg_tup (dgs_cons (dg_name (i := 5)) (dgs_cons (dg_name (i := 6)) dgs_nil)) (gC_len (gC_len (fun _ _ _ h => gnil_len h)))) (ds_if (dt_and (dt_test (DF.e (df_op rd_cmp (DF.e (df_op rd_ix (DF.e (df_var (i := 2))) (DF.e (df_var (i := 5))))) (DF.e (df_var (i := 6)))))) (dt_test (DF.e (df_op rd_cmp (DF.e (df_op rd_ix (DF.e (df_var (i := 3))) (DF.e (df_var (i := 6))))) (DF.e (df_var (i := 5))))))) (ds_mut (i := 4) rm_append (daf_cons (df_tup (daf_cons (df_var (i := 5)) (daf_cons (df_var (i := 6)) daf_nil)) (few_cons (few_cons few_nil))) daf_nil)) ds_next))
     (ds_frz (i := 4) (ds_ret (df_var (i := 4)))))))))
end
/-! ### nest_of -/
abbrev s_nest_of : Stmt := topS 19
abbrev N_nest_of : List Str := ["one", "other", "there"]
abbrev P_nest_of : List Str := ["one", "other"]
theorem sc_nest_of : FnScope N_nest_of P_nest_of (defScope s_nest_of) := ⟨rfl, rfl, rfl, by decide +kernel, rfl, by decide +kernel, by decide +kernel⟩
noncomputable def g_nest_of : MS :=
 (sSeq (sExpr (eCall f_look_at_lines (aCons (eVarF 0) (aCons (eVarF 1) aNil))))
 (sSeq (sIf (tE (e2 eqD (eB lenD (aCons (eVarF 0) aNil)) (eC (.int 0)))) (sRaise "NoSuch") sNext)
 (sSeq (sAsg (gN 2) (eCall f_places_in (aCons (eVarF 0) (aCons (eVarF 1) aNil))))
 (sRet (eCall f_nest_at (aCons (eVarF 2) (aCons (eTup (aCons (eC (.int 0)) (aCons (eB lenD (aCons (eVarF 0) aNil)) aNil))) (aCons (eCall f_strong_by (aCons (eVarF 2) aNil)) aNil))))))))
noncomputable def f_nest_of : List D → M D := mFn 2 3 g_nest_of
section
variable {P : Program} {w : World} {K : PySem.W.Frag} {mg : Str → Option Value} {base : Heap}
theorem ok_nest_of (T : Txt K mg) (dd : DefAt K mg "nest_of" s_nest_of) (c_look_at_lines : FnAt P w K mg base "look_at_lines" P_look_at_lines 2 f_look_at_lines) (c_nest_at : FnAt P w K mg base "nest_at" P_nest_at 51 f_nest_at) (c_places_in : FnAt P w K mg base "places_in" P_places_in 1 f_places_in) (c_strong_by : FnAt P w K mg base "strong_by" P_strong_by 2 f_strong_by) : FnAt P w K mg base "nest_of" P_nest_of 52 f_nest_of := by
  obtain ⟨a_look_at_lines, fd_look_at_lines, m_look_at_lines, kp_look_at_lines, b_look_at_lines, G_look_at_lines⟩ := c_look_at_lines
  obtain ⟨a_nest_at, fd_nest_at, m_nest_at, kp_nest_at, b_nest_at, G_nest_at⟩ := c_nest_at
  obtain ⟨a_places_in, fd_places_in, m_places_in, kp_places_in, b_places_in, G_places_in⟩ := c_places_in
  obtain ⟨a_strong_by, fd_strong_by, m_strong_by, kp_strong_by, b_strong_by, G_strong_by⟩ := c_strong_by
  obtain ⟨C_NoSuch, X_NoSuch⟩ := T.e_NoSuch
  refine fn_at (N := N_nest_of) (g := g_nest_of) dd sc_nest_of (fun _ _ _ _ _ _ us hl => match us, hl with | [_, _], _ => rfl) ?_
  intro f cdv A outer s H E hr
  refine ⟨_, (pss_cons (ps_expr (pe_callS G_look_at_lines (hr.mono (by decide)) (by rfl) m_look_at_lines kp_look_at_lines b_look_at_lines (fun σ => passAt (takes_of rfl rfl rfl rfl) σ) (pa_cons (pv 0) (pa_cons (pv 1) pa_nil))))
     (pss_cons (ps_if (pt_cmpR (kEq (K := K) (hu64 hr)) (pe_callB (kLen (K := K)) (by rfl) T.b_len boot_len (pa_cons (pv 0) pa_nil)) pe_int (nomark _)) (pss_one (ps_raise rfl (takes_of rfl rfl rfl rfl) (pmk_own PySem.F.excBase_ValueError X_NoSuch.e X_NoSuch.g X_NoSuch.k (raises_own X_NoSuch.b X_NoSuch.t) (by exact rfl)))) pss_nil)
     (pss_cons (ps_set (i := 2) sc_nest_of.nd rfl (Or.inl rfl) (pe_callS G_places_in (hr.mono (by decide)) (by rfl) m_places_in kp_places_in b_places_in (fun σ => passAt (takes_of rfl rfl rfl rfl) σ) (pa_cons (pv 0) (pa_cons (pv 1) pa_nil))))
     (pss_one (ps_ret (pe_callS G_nest_at (hr.mono (by decide)) (by rfl) m_nest_at kp_nest_at b_nest_at (fun σ => passAt (takes_of rfl rfl rfl rfl) σ) (pa_cons (pv 2) (pa_cons (pe_tup (pa_cons pe_int (pa_cons (pe_callB (kLen (K := K)) (by rfl) T.b_len boot_len (pa_cons (pv 0) pa_nil)) pa_nil))) (pa_cons (pe_callS G_strong_by (hr.mono (by decide)) (by rfl) m_strong_by kp_strong_by b_strong_by (fun σ => passAt (takes_of rfl rfl rfl rfl) σ) (pa_cons (pv 2) pa_nil)) pa_nil))))))))), ?_⟩
  exact fun L => (ds_seq (ds_expr (DF.e (df_call (daf_cons (df_var (i := 0)) (daf_cons (df_var (i := 1)) daf_nil)))))
     (ds_seq (ds_if (dt_test (DF.e (df_op rd_eq (DF.e (df_B rc_len (da_cons (DF.e (df_var (i := 0))) da_nil))) (DF.e (df_int (i := 0)))))) (ds_raise X_NoSuch.g) ds_next)
     (ds_seq (ds_asg (df_call (daf_cons (df_var (i := 0)) (daf_cons (df_var (i := 1)) daf_nil))) (dg_name (i := 2)))
     (ds_ret (df_call (daf_cons (df_var (i := 2)) (daf_cons (df_tup (daf_cons (df_int (i := 0)) (daf_cons (df_B rc_len (da_cons (DF.e (df_var (i := 0))) da_nil)) daf_nil)) (few_cons (few_cons few_nil))) (daf_cons (df_call (daf_cons (df_var (i := 2)) daf_nil)) daf_nil))))))))
end
/-! ### gather -/
abbrev s_gather : Stmt := topS 20
abbrev N_gather : List Str := ["nest", "found", "part", "kind", "first", "behind", "parts", "begin", "last"]
abbrev P_gather : List Str := ["nest", "found"]
theorem sc_gather : FnScope N_gather P_gather (defScope s_gather) := ⟨rfl, rfl, rfl, by decide +kernel, rfl, by decide +kernel, by decide +kernel⟩
noncomputable def b1M_gather (self : List D → M (List D × D)) : MS :=
 (sCallM 1 self (aCons (eVarF 2) (aCons (eVar 1) aNil)) fun _ ρ => .nx ρ)
noncomputable def b2M_gather (self : List D → M (List D × D)) : MS :=
 (sIf (tE (e2 ltD (e2 addD (e2 subD (eVarF 8) (eVarF 7)) (eC (.int 1))) (eB lenD (aCons (eVarF 6) aNil)))) (sMut 1 appM (aCons (eTup (aCons (e2 ixD (e2 ixD (eVarF 6) (eVarF 7)) (eC (.int 1))) (aCons (e2 ixD (e2 ixD (eVarF 6) (eVarF 8)) (eC (.int 2))) aNil))) aNil)) sNext)
noncomputable def b3M_gather (self : List D → M (List D × D)) : MS :=
 (sFor (iR2 (aCons (e2 addD (eVarF 7) (eC (.int 1))) (aCons (eB lenD (aCons (eVarF 6) aNil)) aNil))) (gN 8) (b2M_gather self))
noncomputable def gM_gather (self : List D → M (List D × D)) : MS :=
 (sSeq (sAsg (gT (gC (gN 3) (gC (gN 4) (gC (gN 5) (gC (gN 6) gNil'))))) (eVarF 0))
 (sSeq (sMut 1 appM (aCons (eTup (aCons (eVarF 4) (aCons (eVarF 5) aNil))) aNil))
 (sSeq (sFor (iE (eVarF 6)) (gN 2) (b1M_gather self))
 (sIf (tO (tE (e2 eqD (eVarF 3) (eC (.str ("straight" : Str))))) (tE (e2 eqD (eVarF 3) (eC (.str ("turned" : Str)))))) (sFor (iR1 (aCons (eB lenD (aCons (eVarF 6) aNil)) aNil)) (gN 7) (b3M_gather self)) sNext))))
noncomputable def FM_gather : Nat → List D → M (List D × D)
  | 0 => fun _ => .stuck
  | m + 1 => mFnM 1 2 9 (gM_gather (FM_gather m))
noncomputable def fM_gather : List D → M (List D × D) := FM_gather 50
section
variable {P : Program} {w : World} {K : PySem.W.Frag} {mg : Str → Option Value} {base : Heap}
theorem okrM_gather (T : Txt K mg) (dd : DefAt K mg "gather" s_gather)  : ∀ m : Nat, FnAtM P w K mg base "gather" P_gather (0 + m) 1 (FM_gather m)
  | 0 => fn_stuckM dd (fun _ _ _ _ _ _ us hl => match us, hl with | [_, _], _ => rfl)
  | m + 1 => by
    have cM_gather := okrM_gather T dd  m
    obtain ⟨aM_gather, fdM_gather, mM_gather, kpM_gather, bM_gather, GM_gather⟩ := cM_gather
    show FnAtM P w K mg base "gather" P_gather ((0 + m) + 1) 1 (mFnM 1 2 9 (gM_gather (FM_gather m)))
    refine fn_atM (N := N_gather) (g := gM_gather (FM_gather m)) dd sc_gather (fun _ _ _ _ _ _ us hl => match us, hl with | [_, _], _ => rfl) ?_
    intro f cdv A outer s H E hr
    refine ⟨_, (pss_cons (ps_asg (pv 0) (pg_tupK (K := K) (n := 4) rfl (pgs_cons (pg_name (i := 3) sc_gather.nd rfl (Or.inl rfl)) (pgs_cons (pg_name (i := 4) sc_gather.nd rfl (Or.inl rfl)) (pgs_cons (pg_name (i := 5) sc_gather.nd rfl (Or.inl rfl)) (pgs_cons (pg_name (i := 6) sc_gather.nd rfl (Or.inl rfl)) pgs_nil))))))
       (pss_cons (ps_expr (bmK (K := K) (pe_bm PySem.F.plainAttrs_list PySem.F.slot_list_append PySem.F.type_list_append mt_append (pv 1) (pa_cons (pe_tup (pa_cons (pv 4) (pa_cons (pv 5) pa_nil))) pa_nil))))
       (pss_cons (ps_for (passes_of rfl) rfl (pi_sqK (K := K) (pv 6)) (pg_name (i := 2) sc_gather.nd rfl (Or.inl rfl)) (pss_one (ps_expr (pe_callS GM_gather (hr.mono (by omega)) (by rfl) mM_gather kpM_gather bM_gather (fun σ => passAt (takes_of rfl rfl rfl rfl) σ) (pa_cons (pv 2) (pa_cons (pv 1) pa_nil))))))
       (pss_one (ps_if (PW.pt (pw_or (pt_cmpR (kEq (K := K) (hu64 hr)) (pv 3) pe_str (nomark _)) (pw_or1 (pt_cmpR (kEq (K := K) (hu64 hr)) (pv 3) pe_str (nomark _))))) (pss_one (ps_for (passes_of rfl) rfl (pi_range1 (by rfl) T.b_range (pa_cons (pe_callB (kLen (K := K)) (by rfl) T.b_len boot_len (pa_cons (pv 6) pa_nil)) pa_nil)) (pg_name (i := 7) sc_gather.nd rfl (Or.inl rfl)) (pss_one (ps_for (passes_of rfl) rfl (pi_range2 (by rfl) T.b_range (pa_cons (pe_op (kAdd (K := K)) (pv 7) pe_int) (pa_cons (pe_callB (kLen (K := K)) (by rfl) T.b_len boot_len (pa_cons (pv 6) pa_nil)) pa_nil))) (pg_name (i := 8) sc_gather.nd rfl (Or.inl rfl)) (pss_one (ps_if (pt_cmpR op_lt (pe_op (kAdd (K := K)) (pe_op op_sub (pv 8) (pv 7)) pe_int) (pe_callB (kLen (K := K)) (by rfl) T.b_len boot_len (pa_cons (pv 6) pa_nil)) (nomark _)) (pss_one (ps_expr (bmK (K := K) (pe_bm PySem.F.plainAttrs_list PySem.F.slot_list_append PySem.F.type_list_append mt_append (pv 1) (pa_cons (pe_tup (pa_cons (pe_ix (kIx (K := K)) (pe_ix (kIx (K := K)) (pv 6) (pv 7) (fun _ _ => rfl)) pe_int (fun _ _ => rfl)) (pa_cons (pe_ix (kIx (K := K)) (pe_ix (kIx (K := K)) (pv 6) (pv 8) (fun _ _ => rfl)) pe_int (fun _ _ => rfl)) pa_nil))) pa_nil))))) pss_nil)))))) pss_nil))))), ?_⟩
    exact fun L => (ds_seq (ds_asg (df_var (i := 0)) (dg_tup (dgs_cons (dg_name (i := 3)) (dgs_cons (dg_name (i := 4)) (dgs_cons (dg_name (i := 5)) (dgs_cons (dg_name (i := 6)) dgs_nil)))) (gC_len (gC_len (gC_len (gC_len (fun _ _ _ h => gnil_len h)))))))
       (ds_seq (ds_mut (i := 1) rm_append (daf_cons (df_tup (daf_cons (df_var (i := 4)) (daf_cons (df_var (i := 5)) daf_nil)) (few_cons (few_cons few_nil))) daf_nil))
       (ds_seq (ds_for (di_sq (df_var (i := 6))) (dg_name (i := 2)) (ds_callM (daj_next (df_var (i := 2)) (daj_here (i := 1) daf_nil))))
       (ds_if (dt_or (dt_test (DF.e (df_op rd_eq (DF.e (df_var (i := 3))) (DF.e (df_str (x := ("straight" : Str))))))) (dt_test (DF.e (df_op rd_eq (DF.e (df_var (i := 3))) (DF.e (df_str (x := ("turned" : Str)))))))) (ds_for (di_rng1 (da_cons (DF.e (df_B rc_len (da_cons (DF.e (df_var (i := 6))) da_nil))) da_nil)) (dg_name (i := 7)) (ds_for (di_rng2 (da_cons (DF.e (df_op rd_add (DF.e (df_var (i := 7))) (DF.e (df_int (i := 1))))) (da_cons (DF.e (df_B rc_len (da_cons (DF.e (df_var (i := 6))) da_nil))) da_nil))) (dg_name (i := 8)) (ds_if (dt_test (DF.e (df_op rd_cmp (DF.e (df_op rd_add (DF.e (df_op rd_sub (DF.e (df_var (i := 8))) (DF.e (df_var (i := 7))))) (DF.e (df_int (i := 1))))) (DF.e (df_B rc_len (da_cons (DF.e (df_var (i := 6))) da_nil)))))) (ds_mut (i := 1) rm_append (daf_cons (df_tup (daf_cons (df_op rd_ix (DF.e (df_op rd_ix (DF.e (df_var (i := 6))) (DF.e (df_var (i := 7))))) (DF.e (df_int (i := 1)))) (daf_cons (df_op rd_ix (DF.e (df_op rd_ix (DF.e (df_var (i := 6))) (DF.e (df_var (i := 8))))) (DF.e (df_int (i := 2)))) daf_nil)) (few_cons (few_cons few_nil))) daf_nil)) ds_next))) ds_next))))
theorem okM_gather (T : Txt K mg) (dd : DefAt K mg "gather" s_gather)  : FnAtM P w K mg base "gather" P_gather 50 1 fM_gather := okrM_gather T dd  50
end
/-! ### stretches_of -/
abbrev s_stretches_of : Stmt := topS 21
abbrev N_stretches_of : List Str := ["nest", "found"]
abbrev P_stretches_of : List Str := ["nest"]
theorem sc_stretches_of : FnScope N_stretches_of P_stretches_of (defScope s_stretches_of) := ⟨rfl, rfl, rfl, by decide +kernel, rfl, by decide +kernel, by decide +kernel⟩
noncomputable def g_stretches_of : MS :=
 (sSeq (sAsgL 1 aNil)
 (sSeq (sCallM 1 fM_gather (aCons (eVarF 0) (aCons (eVar 1) aNil)) fun _ ρ => .nx ρ)
 (sFrz 1 (sRet (eL (eBL sortTD (aCons (eVarF 1) aNil)))))))
noncomputable def f_stretches_of : List D → M D := mFn 1 2 g_stretches_of
section
variable {P : Program} {w : World} {K : PySem.W.Frag} {mg : Str → Option Value} {base : Heap}
theorem ok_stretches_of (T : Txt K mg) (dd : DefAt K mg "stretches_of" s_stretches_of) (cM_gather : FnAtM P w K mg base "gather" P_gather 50 1 fM_gather) : FnAt P w K mg base "stretches_of" P_stretches_of 51 f_stretches_of := by
  obtain ⟨aM_gather, fdM_gather, mM_gather, kpM_gather, bM_gather, GM_gather⟩ := cM_gather
  refine fn_at (N := N_stretches_of) (g := g_stretches_of) dd sc_stretches_of (fun _ _ _ _ _ _ us hl => match us, hl with | [_], _ => rfl) ?_
  intro f cdv A outer s H E hr
  refine ⟨_, (pss_cons (ps_set (i := 1) sc_stretches_of.nd rfl (Or.inl rfl) (pe_lst pa_nil))
     (pss_cons (ps_expr (pe_callS GM_gather (hr.mono (by decide)) (by rfl) mM_gather kpM_gather bM_gather (fun σ => passAt (takes_of rfl rfl rfl rfl) σ) (pa_cons (pv 0) (pa_cons (pv 1) pa_nil))))
     (pss_one (ps_ret (pe_callB (kSortT (K := K)) (by rfl) T.b_sorted boot_sorted (pa_cons (pv 1) pa_nil)))))), ?_⟩
  exact fun L => (ds_seq (ds_asgL (i := 1) (dl_lst daf_nil few_nil))
     (ds_seq (ds_callM (daj_next (df_var (i := 0)) (daj_here (i := 1) daf_nil)))
     (ds_frz (i := 1) (ds_ret (DL.fz (dl_B rc_sortT (da_cons (DF.e (df_var (i := 1))) da_nil)))))))
end
noncomputable def gL_stretches_of : MS :=
 (sSeq (sAsgL 1 aNil)
 (sSeq (sCallM 1 fM_gather (aCons (eVarF 0) (aCons (eVar 1) aNil)) fun _ ρ => .nx ρ)
 (sFrz 1 (sRetL (eBL sortTD (aCons (eVarF 1) aNil))))))
noncomputable def fL_stretches_of : List D → M (List D) := mFnL 1 2 gL_stretches_of
section
variable {P : Program} {w : World} {K : PySem.W.Frag} {mg : Str → Option Value} {base : Heap}
theorem okL_stretches_of (T : Txt K mg) (dd : DefAt K mg "stretches_of" s_stretches_of) (cM_gather : FnAtM P w K mg base "gather" P_gather 50 1 fM_gather) : FnAtL P w K mg base "stretches_of" P_stretches_of 51 fL_stretches_of := by
  obtain ⟨aM_gather, fdM_gather, mM_gather, kpM_gather, bM_gather, GM_gather⟩ := cM_gather
  refine fn_atL (N := N_stretches_of) (g := gL_stretches_of) dd sc_stretches_of (fun _ _ _ _ _ _ us hl => match us, hl with | [_], _ => rfl) ?_
  intro f cdv A outer s H E hr
  refine ⟨_, (pss_cons (ps_set (i := 1) sc_stretches_of.nd rfl (Or.inl rfl) (pe_lst pa_nil))
     (pss_cons (ps_expr (pe_callS GM_gather (hr.mono (by decide)) (by rfl) mM_gather kpM_gather bM_gather (fun σ => passAt (takes_of rfl rfl rfl rfl) σ) (pa_cons (pv 0) (pa_cons (pv 1) pa_nil))))
     (pss_one (ps_ret (pe_callB (kSortT (K := K)) (by rfl) T.b_sorted boot_sorted (pa_cons (pv 1) pa_nil)))))), ?_⟩
  exact fun L => (ds_seq (ds_asgL (i := 1) (dl_lst daf_nil few_nil))
     (ds_seq (ds_callM (daj_next (df_var (i := 0)) (daj_here (i := 1) daf_nil)))
     (ds_frz (i := 1) (ds_retL (dl_B rc_sortT (da_cons (DF.e (df_var (i := 1))) da_nil))))))
end
/-! ### _law_shared -/
abbrev s__law_shared : Stmt := topS 33
abbrev N__law_shared : List Str := ["ranks", "found", "first", "low", "high", "last"]
abbrev P__law_shared : List Str := ["ranks"]
theorem sc__law_shared : FnScope N__law_shared P__law_shared (defScope s__law_shared) := ⟨rfl, rfl, rfl, by decide +kernel, rfl, by decide +kernel, by decide +kernel⟩
noncomputable def b1__law_shared : MS :=
 (sSeq (sAsg (gN 3) (eB minD (aCons (eVarF 3) (aCons (e2 ixD (eVarF 0) (eVarF 5)) aNil))))
 (sSeq (sAsg (gN 4) (eB maxD (aCons (eVarF 4) (aCons (e2 ixD (eVarF 0) (eVarF 5)) aNil))))
 (sIf (tE (e2 eqD (e2 subD (eVarF 4) (eVarF 3)) (e2 subD (eVarF 5) (eVarF 2)))) (sMut 1 appM (aCons (eTup (aCons (eVarF 2) (aCons (e2 addD (eVarF 5) (eC (.int 1))) aNil))) aNil)) sNext)))
noncomputable def b2__law_shared : MS :=
 (sSeq (sAsg (gN 3) (e2 ixD (eVarF 0) (eVarF 2)))
 (sSeq (sAsg (gN 4) (eVarF 3))
 (sFor (iR2 (aCons (eVarF 2) (aCons (eB lenD (aCons (eVarF 0) aNil)) aNil))) (gN 5) b1__law_shared)))
noncomputable def g__law_shared : MS :=
 (sSeq (sAsgL 1 aNil)
 (sSeq (sFor (iR1 (aCons (eB lenD (aCons (eVarF 0) aNil)) aNil)) (gN 2) b2__law_shared)
 (sFrz 1 (sRet (eVarF 1)))))
noncomputable def f__law_shared : List D → M D := mFn 1 6 g__law_shared
section
variable {P : Program} {w : World} {K : PySem.W.Frag} {mg : Str → Option Value} {base : Heap}
theorem ok__law_shared (T : Txt K mg) (dd : DefAt K mg "_law_shared" s__law_shared)  : FnAt P w K mg base "_law_shared" P__law_shared 1 f__law_shared := by
  refine fn_at (N := N__law_shared) (g := g__law_shared) dd sc__law_shared (fun _ _ _ _ _ _ us hl => match us, hl with | [_], _ => rfl) ?_
  intro f cdv A outer s H E hr
  refine ⟨_, (pss_cons (ps_set (i := 1) sc__law_shared.nd rfl (Or.inl rfl) (pe_lst pa_nil))
     (pss_cons (ps_for (passes_of rfl) rfl (pi_range1 (by rfl) T.b_range (pa_cons (pe_callB (kLen (K := K)) (by rfl) T.b_len boot_len (pa_cons (pv 0) pa_nil)) pa_nil)) (pg_name (i := 2) sc__law_shared.nd rfl (Or.inl rfl)) (pss_cons (ps_set (i := 3) sc__law_shared.nd rfl (Or.inl rfl) (pe_ix (kIx (K := K)) (pv 0) (pv 2) (fun _ _ => rfl)))
     (pss_cons (ps_set (i := 4) sc__law_shared.nd rfl (Or.inl rfl) (pv 3))
     (pss_one (ps_for (passes_of rfl) rfl (pi_range2 (by rfl) T.b_range (pa_cons (pv 2) (pa_cons (pe_callB (kLen (K := K)) (by rfl) T.b_len boot_len (pa_cons (pv 0) pa_nil)) pa_nil))) (pg_name (i := 5) sc__law_shared.nd rfl (Or.inl rfl)) (pss_cons (ps_set (i := 3) sc__law_shared.nd rfl (Or.inl rfl) (pe_callB (kMin (K := K) rfl) (by rfl) T.b_min boot_min (pa_cons (pv 3) (pa_cons (pe_ix (kIx (K := K)) (pv 0) (pv 5) (fun _ _ => rfl)) pa_nil))))
     (pss_cons (ps_set (i := 4) sc__law_shared.nd rfl (Or.inl rfl) (pe_callB (kMax (K := K) rfl) (by rfl) T.b_max boot_max (pa_cons (pv 4) (pa_cons (pe_ix (kIx (K := K)) (pv 0) (pv 5) (fun _ _ => rfl)) pa_nil))))
     (pss_one (ps_if (pt_cmpR (kEq (K := K) (hu64 hr)) (pe_op op_sub (pv 4) (pv 3)) (pe_op op_sub (pv 5) (pv 2)) (nomark _)) (pss_one (ps_expr (bmK (K := K) (pe_bm PySem.F.plainAttrs_list PySem.F.slot_list_append PySem.F.type_list_append mt_append (pv 1) (pa_cons (pe_tup (pa_cons (pv 2) (pa_cons (pe_op (kAdd (K := K)) (pv 5) pe_int) pa_nil))) pa_nil))))) pss_nil)))))))))
     (pss_one (ps_ret (pv 1))))), ?_⟩
  exact fun L => (ds_seq (ds_asgL (i := 1) (dl_lst daf_nil few_nil))
     (ds_seq (ds_for (di_rng1 (da_cons (DF.e (df_B rc_len (da_cons (DF.e (df_var (i := 0))) da_nil))) da_nil)) (dg_name (i := 2)) (ds_seq (ds_asg (df_op rd_ix (DF.e (df_var (i := 0))) (DF.e (df_var (i := 2)))) (dg_name (i := 3)))
     (ds_seq (ds_asg (df_var (i := 3)) (dg_name (i := 4)))
     (ds_for (di_rng2 (da_cons (DF.e (df_var (i := 2))) (da_cons (DF.e (df_B rc_len (da_cons (DF.e (df_var (i := 0))) da_nil))) da_nil))) (dg_name (i := 5)) (ds_seq (ds_asg (df_B rc_min (da_cons (DF.e (df_var (i := 3))) (da_cons (DF.e (df_op rd_ix (DF.e (df_var (i := 0))) (DF.e (df_var (i := 5))))) da_nil))) (dg_name (i := 3)))
     (ds_seq (ds_asg (df_B rc_max (da_cons (DF.e (df_var (i := 4))) (da_cons (DF.e (df_op rd_ix (DF.e (df_var (i := 0))) (DF.e (df_var (i := 5))))) da_nil))) (dg_name (i := 4)))
     (ds_if (dt_test (DF.e (df_op rd_eq (DF.e (df_op rd_sub (DF.e (df_var (i := 4))) (DF.e (df_var (i := 3))))) (DF.e (df_op rd_sub (DF.e (df_var (i := 5))) (DF.e (df_var (i := 2)))))))) (ds_mut (i := 1) rm_append (daf_cons (df_tup (daf_cons (df_var (i := 2)) (daf_cons (df_op rd_add (DF.e (df_var (i := 5))) (DF.e (df_int (i := 1)))) daf_nil)) (few_cons (few_cons few_nil))) daf_nil)) ds_next)))))))
     (ds_frz (i := 1) (ds_ret (df_var (i := 1))))))
end
/-! ### stretch_many -/
abbrev s_stretch_many : Stmt := topS 22
abbrev N_stretch_many : List Str := ["nest", "many", "size", "part"]
abbrev P_stretch_many : List Str := ["nest"]
theorem sc_stretch_many : FnScope N_stretch_many P_stretch_many (defScope s_stretch_many) := ⟨rfl, rfl, rfl, by decide +kernel, rfl, by decide +kernel, by decide +kernel⟩
noncomputable def g_stretch_many (self : List D → M D) : MS :=
 (sSeq (sAsg (gN 1) (e2 addD (eC (.int 1)) (eB sumD (aCons (eL (eLc (iE (e2 ixD (eVarF 0) (eC (.int 3)))) (gN 3) tYesF (eCall self (aCons (eVarF 3) aNil)) [3])) aNil))))
 (sSeq (sIf (tO (tE (e2 eqD (e2 ixD (eVarF 0) (eC (.int 0))) (eC (.str ("straight" : Str))))) (tE (e2 eqD (e2 ixD (eVarF 0) (eC (.int 0))) (eC (.str ("turned" : Str)))))) (sSeq (sAsg (gN 2) (eB lenD (aCons (e2 ixD (eVarF 0) (eC (.int 3))) aNil)))
 (sAsg (gN 1) (e2 subD (e2 addD (eVarF 1) (e2 divD (e2 mulD (eVarF 2) (e2 subD (eVarF 2) (eC (.int 1)))) (eC (.int 2)))) (eC (.int 1))))) sNext)
 (sRet (eVarF 1))))
noncomputable def F_stretch_many : Nat → List D → M D
  | 0 => fun _ => .stuck
  | m + 1 => mFn 1 4 (g_stretch_many (F_stretch_many m))
noncomputable def f_stretch_many : List D → M D := F_stretch_many 50
section
variable {P : Program} {w : World} {K : PySem.W.Frag} {mg : Str → Option Value} {base : Heap}
theorem okr_stretch_many (T : Txt K mg) (dd : DefAt K mg "stretch_many" s_stretch_many)  : ∀ m : Nat, FnAt P w K mg base "stretch_many" P_stretch_many (0 + m) (F_stretch_many m)
  | 0 => fn_stuck dd (fun _ _ _ _ _ _ us hl => match us, hl with | [_], _ => rfl)
  | m + 1 => by
    have c_stretch_many := okr_stretch_many T dd  m
    obtain ⟨a_stretch_many, fd_stretch_many, m_stretch_many, kp_stretch_many, b_stretch_many, G_stretch_many⟩ := c_stretch_many
    show FnAt P w K mg base "stretch_many" P_stretch_many ((0 + m) + 1) (mFn 1 4 (g_stretch_many (F_stretch_many m)))
    refine fn_at (N := N_stretch_many) (g := g_stretch_many (F_stretch_many m)) dd sc_stretch_many (fun _ _ _ _ _ _ us hl => match us, hl with | [_], _ => rfl) ?_
    intro f cdv A outer s H E hr
    refine ⟨_, (pss_cons (ps_set (i := 1) sc_stretch_many.nd rfl (Or.inl rfl) (pe_op (kAdd (K := K)) pe_int (pe_callB (kSum (K := K) rfl) (by rfl) T.b_sum boot_sum (pa_cons (pe_lc (own := [("part", 3)]) (by rfl) sc_stretch_many.nd (pi_sqK (K := K) (pe_ix (kIx (K := K)) (pv 0) pe_int (fun _ _ => rfl))) (blkOk_by (own := [("part", 3)]) (N := N_stretch_many) (sc := defScope s_stretch_many) (by decide +kernel)) (fun _ _ _ _ _ => (pg_name (i := 3) sc_stretch_many.nd rfl (Or.inl rfl))) (fun _ _ _ _ _ => pts_nil) (fun _ _ _ _ _ => (pe_callS G_stretch_many (hr.mono (by omega)) (by rfl) m_stretch_many kp_stretch_many b_stretch_many (fun σ => passAt takes0 σ) (pa_cons (pv 3) pa_nil)))) pa_nil))))
       (pss_cons (ps_if (PW.pt (pw_or (pt_cmpR (kEq (K := K) (hu64 hr)) (pe_ix (kIx (K := K)) (pv 0) pe_int (fun _ _ => rfl)) pe_str (nomark _)) (pw_or1 (pt_cmpR (kEq (K := K) (hu64 hr)) (pe_ix (kIx (K := K)) (pv 0) pe_int (fun _ _ => rfl)) pe_str (nomark _))))) (pss_cons (ps_set (i := 2) sc_stretch_many.nd rfl (Or.inl rfl) (pe_callB (kLen (K := K)) (by rfl) T.b_len boot_len (pa_cons (pe_ix (kIx (K := K)) (pv 0) pe_int (fun _ _ => rfl)) pa_nil)))
       (pss_one (ps_set (i := 1) sc_stretch_many.nd rfl (Or.inl rfl) (pe_op op_sub (pe_op (kAdd (K := K)) (pv 1) (pe_op op_fdivW (pe_op op_mulU (pv 2) (pe_op op_sub (pv 2) pe_int)) pe_int)) pe_int)))) pss_nil)
       (pss_one (ps_ret (pv 1))))), ?_⟩
    exact fun L => (ds_seq (ds_asg (df_op rd_add (DF.e (df_int (i := 1))) (DF.e (df_B rc_sum (da_cons (DF.e (DL.fz (dl_lc (vs := [3]) (dib_sq (DF.e (df_op rd_ix (DF.e (df_var (i := 0))) (DF.e (df_int (i := 3)))))) (dg_name (i := 3)) (by decide) dt_yes (df_call (daf_cons (df_var (i := 3)) daf_nil))))) da_nil)))) (dg_name (i := 1)))
       (ds_seq (ds_if (dt_or (dt_test (DF.e (df_op rd_eq (DF.e (df_op rd_ix (DF.e (df_var (i := 0))) (DF.e (df_int (i := 0))))) (DF.e (df_str (x := ("straight" : Str))))))) (dt_test (DF.e (df_op rd_eq (DF.e (df_op rd_ix (DF.e (df_var (i := 0))) (DF.e (df_int (i := 0))))) (DF.e (df_str (x := ("turned" : Str)))))))) (ds_seq (ds_asg (df_B rc_len (da_cons (DF.e (df_op rd_ix (DF.e (df_var (i := 0))) (DF.e (df_int (i := 3))))) da_nil)) (dg_name (i := 2)))
       (ds_asg (df_op rd_sub (DF.e (df_op rd_add (DF.e (df_var (i := 1))) (DF.e (df_op rd_div (DF.e (df_op rd_mul (DF.e (df_var (i := 2))) (DF.e (df_op rd_sub (DF.e (df_var (i := 2))) (DF.e (df_int (i := 1))))))) (DF.e (df_int (i := 2))))))) (DF.e (df_int (i := 1)))) (dg_name (i := 1)))) ds_next)
       (ds_ret (df_var (i := 1)))))
theorem ok_stretch_many (T : Txt K mg) (dd : DefAt K mg "stretch_many" s_stretch_many)  : FnAt P w K mg base "stretch_many" P_stretch_many 50 f_stretch_many := okr_stretch_many T dd  50
end
/-! ### _law_ranks -/
abbrev s__law_ranks : Stmt := topS 32
abbrev N__law_ranks : List Str := ["one", "other", "thing"]
abbrev P__law_ranks : List Str := ["one", "other"]
theorem sc__law_ranks : FnScope N__law_ranks P__law_ranks (defScope s__law_ranks) := ⟨rfl, rfl, rfl, by decide +kernel, rfl, by decide +kernel, by decide +kernel⟩
noncomputable def g__law_ranks : MS :=
 (sRet (eL (eLc (iE (eVarF 0)) (gN 2) tYesF (eMK tupIxD (eVarF 1) (aCons (eVarF 2) aNil)) [2])))
noncomputable def f__law_ranks : List D → M D := mFn 2 3 g__law_ranks
section
variable {P : Program} {w : World} {K : PySem.W.Frag} {mg : Str → Option Value} {base : Heap}
theorem ok__law_ranks (T : Txt K mg) (dd : DefAt K mg "_law_ranks" s__law_ranks)  : FnAt P w K mg base "_law_ranks" P__law_ranks 1 f__law_ranks := by
  refine fn_at (N := N__law_ranks) (g := g__law_ranks) dd sc__law_ranks (fun _ _ _ _ _ _ us hl => match us, hl with | [_, _], _ => rfl) ?_
  intro f cdv A outer s H E hr
  refine ⟨_, (pss_one (ps_ret (pe_lc (own := [("thing", 2)]) (by rfl) sc__law_ranks.nd (pi_sqK (K := K) (pv 0)) (blkOk_by (own := [("thing", 2)]) (N := N__law_ranks) (sc := defScope s__law_ranks) (by decide +kernel)) (fun _ _ _ _ _ => (pg_name (i := 2) sc__law_ranks.nd rfl (Or.inl rfl))) (fun _ _ _ _ _ => pts_nil) (fun _ _ _ _ _ => (pe_tupIx (pv 1) (pa_cons (pv 2) pa_nil)))))), ?_⟩
  exact fun L => (ds_ret (DL.fz (dl_lc (vs := [2]) (dib_sq (DF.e (df_var (i := 0)))) (dg_name (i := 2)) (by decide) dt_yes (df_tupIx (DF.e (df_var (i := 1))) (da_cons (DF.e (df_var (i := 2))) da_nil)))))
end
/-! ### _law_whole -/
abbrev s__law_whole : Stmt := topS 31
abbrev N__law_whole : List Str := ["found"]
abbrev P__law_whole : List Str := ["found"]
theorem sc__law_whole : FnScope N__law_whole P__law_whole (defScope s__law_whole) := ⟨rfl, rfl, rfl, by decide +kernel, rfl, by decide +kernel, by decide +kernel⟩
noncomputable def g__law_whole : MS :=
 (sRet (eBool (eAnd (e1 (isiD "int") (eVarF 0)) (eNot (e1 (isiD "bool") (eVarF 0))))))
noncomputable def f__law_whole : List D → M D := mFn 1 1 g__law_whole
section
variable {P : Program} {w : World} {K : PySem.W.Frag} {mg : Str → Option Value} {base : Heap}
theorem ok__law_whole (T : Txt K mg) (dd : DefAt K mg "_law_whole" s__law_whole)  : FnAt P w K mg base "_law_whole" P__law_whole 1 f__law_whole := by
  refine fn_at (N := N__law_whole) (g := g__law_whole) dd sc__law_whole (fun _ _ _ _ _ _ us hl => match us, hl with | [_], _ => rfl) ?_
  intro f cdv A outer s H E hr
  refine ⟨_, (pss_one (ps_ret (pe_and (pe_callB (kIsi (K := K)) (by rfl) T.b_isinstance boot_isinstance (pa_cons (pv 0) (pa_cons (pe_bltn (v := .ty "int") (by rfl) T.b_int boot_int rfl) pa_nil))) (pe_one (pe_not (pe_callB (kIsi (K := K)) (by rfl) T.b_isinstance boot_isinstance (pa_cons (pv 0) (pa_cons (pe_bltn (v := .ty "bool") (by rfl) T.b_bool boot_bool rfl) pa_nil)))))))), ?_⟩
  exact fun L => (ds_ret (df_ofE_bool (de_and (DF.e (df_isi (T := "int") (DF.e (df_var (i := 0))))) (DF.e (df_not (DF.e (df_isi (T := "bool") (DF.e (df_var (i := 0))))))))))
end
/-! ### _law_pairs -/
abbrev s__law_pairs : Stmt := topS 34
abbrev N__law_pairs : List Str := ["found", "pair"]
abbrev P__law_pairs : List Str := ["found"]
theorem sc__law_pairs : FnScope N__law_pairs P__law_pairs (defScope s__law_pairs) := ⟨rfl, rfl, rfl, by decide +kernel, rfl, by decide +kernel, by decide +kernel⟩
noncomputable def b1__law_pairs : MS :=
 (sIf (tO (tN (tE (e1 (isiD "tuple") (eVarF 1)))) (tO (tE (e2 neD (eB lenD (aCons (eVarF 1) aNil)) (eC (.int 2)))) (tO (tN (tE (eCall f__law_whole (aCons (e2 ixD (eVarF 1) (eC (.int 0))) aNil)))) (tN (tE (eCall f__law_whole (aCons (e2 ixD (eVarF 1) (eC (.int 1))) aNil))))))) (sRet (eC (.bool false))) sNext)
noncomputable def g__law_pairs : MS :=
 (sSeq (sIf (tN (tE (e1 (isiD "list") (eVarF 0)))) (sRet (eC (.bool false))) sNext)
 (sSeq (sFor (iE (eVarF 0)) (gN 1) b1__law_pairs)
 (sRet (eC (.bool true)))))
noncomputable def f__law_pairs : List D → M D := mFn 1 2 g__law_pairs
section
variable {P : Program} {w : World} {K : PySem.W.Frag} {mg : Str → Option Value} {base : Heap}
theorem ok__law_pairs (T : Txt K mg) (dd : DefAt K mg "_law_pairs" s__law_pairs) (c__law_whole : FnAt P w K mg base "_law_whole" P__law_whole 1 f__law_whole) : FnAt P w K mg base "_law_pairs" P__law_pairs 2 f__law_pairs := by
  obtain ⟨a__law_whole, fd__law_whole, m__law_whole, kp__law_whole, b__law_whole, G__law_whole⟩ := c__law_whole
  refine fn_at (N := N__law_pairs) (g := g__law_pairs) dd sc__law_pairs (fun _ _ _ _ _ _ us hl => match us, hl with | [_], _ => rfl) ?_
  intro f cdv A outer s H E hr
  refine ⟨_, (pss_cons (ps_if (pt_not (pt_val (pe_callB (kIsi (K := K)) (by rfl) T.b_isinstance boot_isinstance (pa_cons (pv 0) (pa_cons (pe_bltn (v := .ty "list") (by rfl) T.b_list boot_list rfl) pa_nil))))) (pss_one (ps_ret pe_bl)) pss_nil)
     (pss_cons (ps_for (passes_of rfl) rfl (pi_sqK (K := K) (pv 0)) (pg_name (i := 1) sc__law_pairs.nd rfl (Or.inl rfl)) (pss_one (ps_if (PW.pt (pw_or (pt_not (pt_val (pe_callB (kIsi (K := K)) (by rfl) T.b_isinstance boot_isinstance (pa_cons (pv 1) (pa_cons (pe_bltn (v := .ty "tuple") (by rfl) T.b_tuple boot_tuple rfl) pa_nil))))) (pw_or (pt_cmpR (kNe (K := K) (hu64 hr)) (pe_callB (kLen (K := K)) (by rfl) T.b_len boot_len (pa_cons (pv 1) pa_nil)) pe_int (nomark _)) (pw_or (pt_not (pt_val (pe_callS G__law_whole (hr.mono (by decide)) (by rfl) m__law_whole kp__law_whole b__law_whole (fun σ => passAt (takes_of rfl rfl rfl rfl) σ) (pa_cons (pe_ix (kIx (K := K)) (pv 1) pe_int (fun _ _ => rfl)) pa_nil)))) (pw_or1 (pt_not (pt_val (pe_callS G__law_whole (hr.mono (by decide)) (by rfl) m__law_whole kp__law_whole b__law_whole (fun σ => passAt (takes_of rfl rfl rfl rfl) σ) (pa_cons (pe_ix (kIx (K := K)) (pv 1) pe_int (fun _ _ => rfl)) pa_nil))))))))) (pss_one (ps_ret pe_bl)) pss_nil)))
     (pss_one (ps_ret pe_bl)))), ?_⟩
  exact fun L => (ds_seq (ds_if (dt_not (dt_B (DF.e (df_isi (T := "list") (DF.e (df_var (i := 0))))))) (ds_ret (df_bl (b := false))) ds_next)
     (ds_seq (ds_for (di_sq (df_var (i := 0))) (dg_name (i := 1)) (ds_if (dt_or (dt_not (dt_B (DF.e (df_isi (T := "tuple") (DF.e (df_var (i := 1))))))) (dt_or (dt_test (DF.e (df_op rd_ne (DF.e (df_B rc_len (da_cons (DF.e (df_var (i := 1))) da_nil))) (DF.e (df_int (i := 2)))))) (dt_or (dt_not (dt_B (DF.e (df_call (daf_cons (df_op rd_ix (DF.e (df_var (i := 1))) (DF.e (df_int (i := 0)))) daf_nil))))) (dt_not (dt_B (DF.e (df_call (daf_cons (df_op rd_ix (DF.e (df_var (i := 1))) (DF.e (df_int (i := 1)))) daf_nil)))))))) (ds_ret (df_bl (b := false))) ds_next))
     (ds_ret (df_bl (b := true)))))
end
/-! ### law -/
abbrev s_law : Stmt := topS 35
abbrev N_law : List Str := ["script", "nest", "found", "due", "many", "one", "other"]
abbrev P_law : List Str := ["script"]
theorem sc_law : FnScope N_law P_law (defScope s_law) := ⟨rfl, rfl, rfl, by decide +kernel, rfl, by decide +kernel, by decide +kernel⟩
noncomputable def g_law : MS :=
 (sSeq (sAsg (gT (gC (gN 5) (gC (gN 6) gNil'))) (eCall f__law_pair_of_lines (aCons (eVarF 0) (aCons (eC (.int 40)) aNil))))
 (sSeq (sIf (tE (e2 eqD (eB lenD (aCons (eVarF 5) aNil)) (eC (.int 0)))) (sRet (eC (.bool true))) sNext)
 (sSeq (sAsg (gN 1) (eCall f_nest_of (aCons (eVarF 5) (aCons (eVarF 6) aNil))))
 (sSeq (sAsgL 2 (eCallL fL_stretches_of (aCons (eVarF 1) aNil)))
 (sSeq (sAsg (gN 3) (eCall f__law_shared (aCons (eCall f__law_ranks (aCons (eVarF 5) (aCons (eVarF 6) aNil))) aNil)))
 (sSeq (sAsg (gN 4) (eCall f_stretch_many (aCons (eVarF 1) aNil)))
 (sSeq (sIf (tO (tN (tE (eCallS f__law_pairs (aCons (eVar 2) aNil)))) (tO (tE (e2 neD (eVar 2) (eVarF 3))) (tO (tN (tE (eCall f__law_whole (aCons (eVarF 4) aNil)))) (tE (e2 neD (eVarF 4) (eB lenD (aCons (eVarF 3) aNil))))))) (sRet (eC (.bool false))) sNext)
 (sSeq (sMut 2 clrM aNil)
 (sRet (eBool (eAnd (e2 eqD (eCall f_stretches_of (aCons (eVarF 1) aNil)) (eVarF 3)) (e2 eqXD (eCall f_nest_of (aCons (eVarF 5) (aCons (eVarF 6) aNil))) (eVarF 1)))))))))))))
noncomputable def f_law : List D → M D := mFn 1 7 g_law
section
variable {P : Program} {w : World} {K : PySem.W.Frag} {mg : Str → Option Value} {base : Heap}
theorem ok_law {f : Addr} {fd : FuncData} (T : Txt K mg) (F : Fun K "law" "law" s_law f fd) (cL_stretches_of : FnAtL P w K mg base "stretches_of" P_stretches_of 51 fL_stretches_of) (c__law_pair_of_lines : FnAt P w K mg base "_law_pair_of_lines" P__law_pair_of_lines 3 f__law_pair_of_lines) (c__law_pairs : FnAt P w K mg base "_law_pairs" P__law_pairs 2 f__law_pairs) (c__law_ranks : FnAt P w K mg base "_law_ranks" P__law_ranks 1 f__law_ranks) (c__law_shared : FnAt P w K mg base "_law_shared" P__law_shared 1 f__law_shared) (c__law_whole : FnAt P w K mg base "_law_whole" P__law_whole 1 f__law_whole) (c_nest_of : FnAt P w K mg base "nest_of" P_nest_of 52 f_nest_of) (c_stretch_many : FnAt P w K mg base "stretch_many" P_stretch_many 50 f_stretch_many) (c_stretches_of : FnAt P w K mg base "stretches_of" P_stretches_of 51 f_stretches_of) (hlaw : ∀ ns, Scr ns → f_law [scrD ns] = .ok (.bool true)) : FnOk P w K mg base CX0 53 f fd ["script"] (spLaw K) := by
  obtain ⟨aL_stretches_of, fdL_stretches_of, mL_stretches_of, kpL_stretches_of, bL_stretches_of, GL_stretches_of⟩ := cL_stretches_of
  obtain ⟨a__law_pair_of_lines, fd__law_pair_of_lines, m__law_pair_of_lines, kp__law_pair_of_lines, b__law_pair_of_lines, G__law_pair_of_lines⟩ := c__law_pair_of_lines
  obtain ⟨a__law_pairs, fd__law_pairs, m__law_pairs, kp__law_pairs, b__law_pairs, G__law_pairs⟩ := c__law_pairs
  obtain ⟨a__law_ranks, fd__law_ranks, m__law_ranks, kp__law_ranks, b__law_ranks, G__law_ranks⟩ := c__law_ranks
  obtain ⟨a__law_shared, fd__law_shared, m__law_shared, kp__law_shared, b__law_shared, G__law_shared⟩ := c__law_shared
  obtain ⟨a__law_whole, fd__law_whole, m__law_whole, kp__law_whole, b__law_whole, G__law_whole⟩ := c__law_whole
  obtain ⟨a_nest_of, fd_nest_of, m_nest_of, kp_nest_of, b_nest_of, G_nest_of⟩ := c_nest_of
  obtain ⟨a_stretch_many, fd_stretch_many, m_stretch_many, kp_stretch_many, b_stretch_many, G_stretch_many⟩ := c_stretch_many
  obtain ⟨a_stretches_of, fd_stretches_of, m_stretches_of, kp_stretches_of, b_stretches_of, G_stretches_of⟩ := c_stretches_of
  refine law_at (N := N_law) (g := g_law) sc_law F ?_ hlaw
  intro f cdv A outer s H E hr
  refine ⟨_, (pss_cons (ps_asg (pe_callS G__law_pair_of_lines (hr.mono (by decide)) (by rfl) m__law_pair_of_lines kp__law_pair_of_lines b__law_pair_of_lines (fun σ => passAt takes0 σ) (pa_cons (pv 0) (pa_cons pe_int pa_nil))) (pg_tupK (K := K) (n := 2) rfl (pgs_cons (pg_name (i := 5) sc_law.nd rfl (Or.inl rfl)) (pgs_cons (pg_name (i := 6) sc_law.nd rfl (Or.inl rfl)) pgs_nil))))
     (pss_cons (ps_if (pt_cmpR (kEq (K := K) (hu64 hr)) (pe_callB (kLen (K := K)) (by rfl) T.b_len boot_len (pa_cons (pv 5) pa_nil)) pe_int (nomark _)) (pss_one (ps_ret pe_bl)) pss_nil)
     (pss_cons (ps_set (i := 1) sc_law.nd rfl (Or.inl rfl) (pe_callS G_nest_of (hr.mono (by decide)) (by rfl) m_nest_of kp_nest_of b_nest_of (fun σ => passAt takes0 σ) (pa_cons (pv 5) (pa_cons (pv 6) pa_nil))))
     (pss_cons (ps_set (i := 2) sc_law.nd rfl (Or.inl rfl) (pe_callS GL_stretches_of (hr.mono (by decide)) (by rfl) mL_stretches_of kpL_stretches_of bL_stretches_of (fun σ => passAt takes0 σ) (pa_cons (pv 1) pa_nil)))
     (pss_cons (ps_set (i := 3) sc_law.nd rfl (Or.inl rfl) (pe_callS G__law_shared (hr.mono (by decide)) (by rfl) m__law_shared kp__law_shared b__law_shared (fun σ => passAt takes0 σ) (pa_cons (pe_callS G__law_ranks (hr.mono (by decide)) (by rfl) m__law_ranks kp__law_ranks b__law_ranks (fun σ => passAt takes0 σ) (pa_cons (pv 5) (pa_cons (pv 6) pa_nil))) pa_nil)))
     (pss_cons (ps_set (i := 4) sc_law.nd rfl (Or.inl rfl) (pe_callS G_stretch_many (hr.mono (by decide)) (by rfl) m_stretch_many kp_stretch_many b_stretch_many (fun σ => passAt takes0 σ) (pa_cons (pv 1) pa_nil)))
     (pss_cons (ps_if (PW.pt (pw_or (pt_not (pt_val (pe_callS G__law_pairs (hr.mono (by decide)) (by rfl) m__law_pairs kp__law_pairs b__law_pairs (fun σ => passAt takes0 σ) (pa_cons (pv 2) pa_nil)))) (pw_or (pt_cmpR (kNe (K := K) (hu64 hr)) (pv 2) (pv 3) (nomark _)) (pw_or (pt_not (pt_val (pe_callS G__law_whole (hr.mono (by decide)) (by rfl) m__law_whole kp__law_whole b__law_whole (fun σ => passAt takes0 σ) (pa_cons (pv 4) pa_nil)))) (pw_or1 (pt_cmpR (kNe (K := K) (hu64 hr)) (pv 4) (pe_callB (kLen (K := K)) (by rfl) T.b_len boot_len (pa_cons (pv 3) pa_nil)) (nomark _))))))) (pss_one (ps_ret pe_bl)) pss_nil)
     (pss_cons (ps_expr (bm0K (K := K) (pe_bm0 PySem.F.plainAttrs_list PySem.F.slot_list_clear PySem.F.type_list_clear mt_clear (pv 2))))
     (pss_one (ps_ret (pe_and (pe_cmpR (kEq (K := K) (hu64 hr)) (pe_callS G_stretches_of (hr.mono (by decide)) (by rfl) m_stretches_of kp_stretches_of b_stretches_of (fun σ => passAt takes0 σ) (pa_cons (pv 1) pa_nil)) (pv 3) (nomark _)) (pe_one (pe_cmpR (kEqX (K := K) (hu190 hr)) (pe_callS G_nest_of (hr.mono (by decide)) (by rfl) m_nest_of kp_nest_of b_nest_of (fun σ => passAt takes0 σ) (pa_cons (pv 5) (pa_cons (pv 6) pa_nil))) (pv 1) (nomark _)))))))))))))), ?_⟩
  exact fun L => (ds_seq (ds_asg (df_call (daf_cons (df_var (i := 0)) (daf_cons (df_int (i := 40)) daf_nil))) (dg_tup (dgs_cons (dg_name (i := 5)) (dgs_cons (dg_name (i := 6)) dgs_nil)) (gC_len (gC_len (fun _ _ _ h => gnil_len h)))))
     (ds_seq (ds_if (dt_test (DF.e (df_op rd_eq (DF.e (df_B rc_len (da_cons (DF.e (df_var (i := 5))) da_nil))) (DF.e (df_int (i := 0)))))) (ds_ret (df_bl (b := true))) ds_next)
     (ds_seq (ds_asg (df_call (daf_cons (df_var (i := 5)) (daf_cons (df_var (i := 6)) daf_nil))) (dg_name (i := 1)))
     (ds_seq (ds_asgL (i := 2) (dl_call (daf_cons (df_var (i := 1)) daf_nil)))
     (ds_seq (ds_asg (df_call (daf_cons (df_call (daf_cons (df_var (i := 5)) (daf_cons (df_var (i := 6)) daf_nil))) daf_nil)) (dg_name (i := 3)))
     (ds_seq (ds_asg (df_call (daf_cons (df_var (i := 1)) daf_nil)) (dg_name (i := 4)))
     (ds_seq (ds_if (dt_or (dt_not (dt_B (DF.e (df_callS (da_cons (de_var (i := 2)) da_nil))))) (dt_or (dt_test (DF.e (df_op rd_ne (de_var (i := 2)) (DF.e (df_var (i := 3)))))) (dt_or (dt_not (dt_B (DF.e (df_call (daf_cons (df_var (i := 4)) daf_nil))))) (dt_test (DF.e (df_op rd_ne (DF.e (df_var (i := 4))) (DF.e (df_B rc_len (da_cons (DF.e (df_var (i := 3))) da_nil))))))))) (ds_ret (df_bl (b := false))) ds_next)
     (ds_seq (ds_mut0 (i := 2) rm_clear)
     (ds_ret (df_ofE_bool (de_and (DF.e (df_op rd_eq (DF.e (df_call (daf_cons (df_var (i := 1)) daf_nil))) (DF.e (df_var (i := 3))))) (DF.e (df_op rd_eqX (DF.e (df_call (daf_cons (df_var (i := 5)) (daf_cons (df_var (i := 6)) daf_nil)))) (DF.e (df_var (i := 1))))))))))))))))
end
section
variable {P : Program} {w : World} {K : PySem.W.Frag} {mg : Str → Option Value} {base : Heap}
theorem all_ok {f : Addr} {fd : FuncData} (T : Txt K mg) (d__law_cell_at : DefAt K mg "_law_cell_at" s__law_cell_at) (d__law_things : DefAt K mg "_law_things" s__law_things) (d__law_mixed : DefAt K mg "_law_mixed" s__law_mixed) (d__law_drawn : DefAt K mg "_law_drawn" s__law_drawn) (d__law_joined : DefAt K mg "_law_joined" s__law_joined) (d__law_nested : DefAt K mg "_law_nested" s__law_nested) (d__law_pair_of_lines : DefAt K mg "_law_pair_of_lines" s__law_pair_of_lines) (d_look_at_line : DefAt K mg "look_at_line" s_look_at_line) (d_look_at_lines : DefAt K mg "look_at_lines" s_look_at_lines) (d_places_in : DefAt K mg "places_in" s_places_in) (d_parts_within : DefAt K mg "parts_within" s_parts_within) (d_kind_of_parts : DefAt K mg "kind_of_parts" s_kind_of_parts) (d_nest_at : DefAt K mg "nest_at" s_nest_at) (d_shared_by : DefAt K mg "shared_by" s_shared_by) (d_reach_over : DefAt K mg "reach_over" s_reach_over) (d_reach_back : DefAt K mg "reach_back" s_reach_back) (d_strong_by : DefAt K mg "strong_by" s_strong_by) (d_nest_of : DefAt K mg "nest_of" s_nest_of) (d_gather : DefAt K mg "gather" s_gather) (d_stretches_of : DefAt K mg "stretches_of" s_stretches_of) (d__law_shared : DefAt K mg "_law_shared" s__law_shared) (d_stretch_many : DefAt K mg "stretch_many" s_stretch_many) (d__law_ranks : DefAt K mg "_law_ranks" s__law_ranks) (d__law_whole : DefAt K mg "_law_whole" s__law_whole) (d__law_pairs : DefAt K mg "_law_pairs" s__law_pairs) (F : Fun K "law" "law" s_law f fd) (hlaw : ∀ ns, Scr ns → f_law [scrD ns] = .ok (.bool true)) : FnOk P w K mg base CX0 53 f fd ["script"] (spLaw K) := by
  have c__law_cell_at : FnAt P w K mg base "_law_cell_at" P__law_cell_at 1 f__law_cell_at := ok__law_cell_at T d__law_cell_at 
  have c__law_things : FnAt P w K mg base "_law_things" P__law_things 2 f__law_things := ok__law_things T d__law_things c__law_cell_at
  have c__law_mixed : FnAt P w K mg base "_law_mixed" P__law_mixed 1 f__law_mixed := ok__law_mixed T d__law_mixed 
  have c__law_drawn : FnAt P w K mg base "_law_drawn" P__law_drawn 2 f__law_drawn := ok__law_drawn T d__law_drawn c__law_cell_at c__law_mixed
  have c__law_joined : FnAt P w K mg base "_law_joined" P__law_joined 1 f__law_joined := ok__law_joined T d__law_joined 
  have c__law_nested : FnAt P w K mg base "_law_nested" P__law_nested 2 f__law_nested := ok__law_nested T d__law_nested c__law_cell_at c__law_joined c__law_mixed
  have c__law_pair_of_lines : FnAt P w K mg base "_law_pair_of_lines" P__law_pair_of_lines 3 f__law_pair_of_lines := ok__law_pair_of_lines T d__law_pair_of_lines c__law_cell_at c__law_drawn c__law_nested c__law_things
  have c_look_at_line : FnAt P w K mg base "look_at_line" P_look_at_line 1 f_look_at_line := ok_look_at_line T d_look_at_line 
  have c_look_at_lines : FnAt P w K mg base "look_at_lines" P_look_at_lines 2 f_look_at_lines := ok_look_at_lines T d_look_at_lines c_look_at_line
  have c_places_in : FnAt P w K mg base "places_in" P_places_in 1 f_places_in := ok_places_in T d_places_in 
  have c_parts_within : FnAt P w K mg base "parts_within" P_parts_within 1 f_parts_within := ok_parts_within T d_parts_within 
  have c_kind_of_parts : FnAt P w K mg base "kind_of_parts" P_kind_of_parts 1 f_kind_of_parts := ok_kind_of_parts T d_kind_of_parts 
  have c_nest_at : FnAt P w K mg base "nest_at" P_nest_at 51 f_nest_at := ok_nest_at T d_nest_at c_kind_of_parts c_parts_within
  have c_shared_by : FnAt P w K mg base "shared_by" P_shared_by 1 f_shared_by := ok_shared_by T d_shared_by 
  have c_reach_over : FnAt P w K mg base "reach_over" P_reach_over 1 f_reach_over := ok_reach_over T d_reach_over 
  have c_reach_back : FnAt P w K mg base "reach_back" P_reach_back 1 f_reach_back := ok_reach_back T d_reach_back 
  have c_strong_by : FnAt P w K mg base "strong_by" P_strong_by 2 f_strong_by := ok_strong_by T d_strong_by c_reach_back c_reach_over c_shared_by
  have c_nest_of : FnAt P w K mg base "nest_of" P_nest_of 52 f_nest_of := ok_nest_of T d_nest_of c_look_at_lines c_nest_at c_places_in c_strong_by
  have cM_gather : FnAtM P w K mg base "gather" P_gather 50 1 fM_gather := okM_gather T d_gather 
  have c_stretches_of : FnAt P w K mg base "stretches_of" P_stretches_of 51 f_stretches_of := ok_stretches_of T d_stretches_of cM_gather
  have cL_stretches_of : FnAtL P w K mg base "stretches_of" P_stretches_of 51 fL_stretches_of := okL_stretches_of T d_stretches_of cM_gather
  have c__law_shared : FnAt P w K mg base "_law_shared" P__law_shared 1 f__law_shared := ok__law_shared T d__law_shared 
  have c_stretch_many : FnAt P w K mg base "stretch_many" P_stretch_many 50 f_stretch_many := ok_stretch_many T d_stretch_many 
  have c__law_ranks : FnAt P w K mg base "_law_ranks" P__law_ranks 1 f__law_ranks := ok__law_ranks T d__law_ranks 
  have c__law_whole : FnAt P w K mg base "_law_whole" P__law_whole 1 f__law_whole := ok__law_whole T d__law_whole 
  have c__law_pairs : FnAt P w K mg base "_law_pairs" P__law_pairs 2 f__law_pairs := ok__law_pairs T d__law_pairs c__law_whole
  exact ok_law T F cL_stretches_of c__law_pair_of_lines c__law_pairs c__law_ranks c__law_shared c__law_whole c_nest_of c_stretch_many c_stretches_of hlaw
end
end Lw

set_option Elab.async false
set_option linter.all false
set_option maxRecDepth 100000
set_option maxHeartbeats 4000000
/-! LkA: the lines drawn from the script -/
namespace Lw
open PySem L2 Dn
theorem cell_at_eq (ns : List Int) (k : Nat) : f__law_cell_at [scrD ns, .int k] = .ok (.int (ns[k]?.getD 0)) := by
  by_cases h : k < ns.length
  · have e : ns[k]? = some ns[k] := List.getElem?_eq_getElem h
    have hx : ixD (scrD ns) (.int (k : Int)) = some (.int ns[k]) := ixD_is (by omega) (by simpa using e)
    simp [f__law_cell_at, mFn, g__law_cell_at, start', h, hx, e]
  · have e : ns[k]? = none := List.getElem?_eq_none (by omega)
    simp [f__law_cell_at, mFn, g__law_cell_at, start', h, e]
theorem cell_at_ex (ns : List Int) (i : Int) (h : 0 ≤ i) : ∃ x, f__law_cell_at [scrD ns, .int i] = .ok (.int x) := by
  have := cell_at_eq ns i.toNat
  rw [show ((i.toNat : Nat) : Int) = i by omega] at this
  exact ⟨_, this⟩
theorem mixed_eq (x k : Int) (h0 : 0 ≤ k) (h1 : k ≤ 100000) : ∃ v, f__law_mixed [.int x, .int k] = .ok (.int v) ∧ 0 ≤ v := by
  have m1 : mulD (.int 69621) (.int k) = some (.int (69621 * k)) := mulD_small (by decide)
  have m2 : mulD (.int (69621 * k)) (.int k) = some (.int (69621 * k * k)) := mulD_smallR (by omega)
  have m3 : mulD (.int 40692) (.int k) = some (.int (40692 * k)) := mulD_small (by decide)
  have d1 : ∀ z, modD (.int z) (.int 2147483647) = some (.int (z % 2147483647)) := fun z => modD_pos (by decide)
  have z0 : ∃ z, (x % 2147483647 + 69621 * k * k + 40692 * k + 1) % 2147483647 = z := ⟨_, rfl⟩
  obtain ⟨z, hz⟩ := z0
  have z1 : ∃ w, (z * 48271) % 2147483647 = w := ⟨_, rfl⟩
  obtain ⟨w, hw⟩ := z1
  have b0 : 0 ≤ z := by rw [← hz]; exact Int.emod_nonneg _ (by decide)
  have b1 : z < 2147483647 := by rw [← hz]; exact Int.emod_lt_of_pos _ (by decide)
  have m4 : mulD (.int z) (.int 48271) = some (.int (z * 48271)) := mulD_smallR (by decide)
  have c0 : 0 ≤ w := by rw [← hw]; exact Int.emod_nonneg _ (by decide)
  have c1 : w < 2147483647 := by rw [← hw]; exact Int.emod_lt_of_pos _ (by decide)
  have m5 : mulD (.int w) (.int w) = some (.int (w * w)) := mulD_smallR (by omega)
  refine ⟨w * w % 2147483647, ?_, Int.emod_nonneg _ (by decide)⟩
  simp [f__law_mixed, mFn, g__law_mixed, start', m1, m2, m3, m4, m5, d1, hz, hw, -modD_pos]
theorem things_eq (ns : List Int) (most : Nat) (h : 1 ≤ most) (h2 : most ≤ 1000) : ∃ n : Nat, n ≤ most ∧ f__law_things [scrD ns, .int most] = .ok (.int n) := by
  obtain ⟨x, c0⟩ := cell_at_ex ns 0 (by decide)
  have m3 : modD (.int x) (.int 3) = some (.int (x % 3)) := modD_pos (by decide)
  have m8 : modD (.int x) (.int 8) = some (.int (x % 8)) := modD_pos (by decide)
  by_cases a1 : x % 3 = 0
  · have e : minD [.int (most : Int), .int (max 0 ((ns.length : Int) - 6) / 2)] = some (.int (min (most : Int) (max 0 ((ns.length : Int) - 6) / 2))) := rfl
    have e2 : maxD [.int 0, .int ((ns.length : Int) - 6)] = some (.int (max 0 ((ns.length : Int) - 6))) := rfl
    refine ⟨(min (most : Int) (max 0 ((ns.length : Int) - 6) / 2)).toNat, by omega, ?_⟩
    rw [show (((min (most : Int) (max 0 ((ns.length : Int) - 6) / 2)).toNat : Nat) : Int) = min (most : Int) (max 0 ((ns.length : Int) - 6) / 2) by omega]
    simp [f__law_things, mFn, g__law_things, start', c0, m3, a1, e, e2, -modD_pos]
  by_cases a2 : x % 8 = 1
  · obtain ⟨n, hn, hn2⟩ := nat_mod (c := x / 24 + 9) (m := (most : Int) + 1) (by omega)
    have md : modD (.int (x / 24 + 9)) (.int ((most : Int) + 1)) = some (.int (n : Int)) := by rw [modD_pos (by omega), hn]
    exact ⟨n, by omega, by simp [f__law_things, mFn, g__law_things, start', c0, m3, m8, a1, a2, md, -modD_pos]⟩
  · have e : minD [.int 8, .int ((most : Int) + 1)] = some (.int (min 8 ((most : Int) + 1))) := rfl
    obtain ⟨n, hn, hn2⟩ := nat_mod (c := x / 3 + 2) (m := min 8 ((most : Int) + 1)) (by omega)
    have md : modD (.int (x / 3 + 2)) (.int (min 8 ((most : Int) + 1))) = some (.int (n : Int)) := by rw [modD_pos (by omega), hn]
    exact ⟨n, by omega, by simp [f__law_things, mFn, g__law_things, start', c0, m3, m8, a1, a2, e, md, -modD_pos]⟩
theorem line_turn {ms : List Int} (hr : Line ms) (hl : ms.length ≤ 1000) (ns : List Int) (a : Int) (ha : 0 ≤ a) (s1 s4 s5 s6 : S) : ∃ ms' t5 t6, Line ms' ∧ ms'.length = ms.length + 1 ∧
    forB (gN 4) b1__law_drawn (.int (ms.length : Int)) [.val (scrD ns), s1, .val (.int a), .own (.lst (ms.map .int)), s4, s5, s6] =
      .nx [.val (scrD ns), s1, .val (.int a), .own (.lst (ms'.map .int)), .val (.int (ms.length : Int)), t5, t6] := by
  obtain ⟨x, c⟩ := cell_at_ex ns (1 + a) (by omega)
  obtain ⟨v, mx, _⟩ := mixed_eq x (ms.length : Int) (by omega) (by omega)
  have m1 : mulD (.int 2) (.int (ms.length : Int)) = some (.int (2 * (ms.length : Int))) := mulD_small (by decide)
  have key : ∀ w : Int, ∃ ms', Line ms' ∧ ms'.length = ms.length + 1 ∧ ∃ j : Int, modD (.int w) (.int ((ms.length : Int) + 1)) = some (.int j) ∧ insM (ms.map PyData.int) [.int j, .int (ms.length : Int)] = some (ms'.map PyData.int, .none) := fun w => by
    obtain ⟨s, hs, hs2⟩ := nat_mod (c := w) (m := (ms.length : Int) + 1) (by omega)
    refine ⟨ms.take s ++ [(ms.length : Int)] ++ ms.drop s, line_ins hr s, by simp; omega, (s : Int), by rw [modD_pos (by omega), hs], ?_⟩
    rw [insM_ok (by rw [List.length_map]; omega) (by omega) (by omega), show (s : Int).toNat = s by omega]
    simp
  by_cases pl : 6 + 2 * (ms.length : Int) + a < (ns.length : Int)
  · have hx : ixD (scrD ns) (.int (6 + 2 * (ms.length : Int) + a)) = some (.int (ns.getD (6 + 2 * (ms.length : Int) + a).toNat 0)) := ixD_is (by omega) (by
      rw [List.getD_eq_getElem?_getD, List.getElem?_eq_getElem (by omega)]; rfl)
    generalize ns.getD (6 + 2 * (ms.length : Int) + a).toNat 0 = w at hx
    obtain ⟨ms', h1, h2, j, h3, h4⟩ := key w
    refine ⟨ms', .val (.int (6 + 2 * (ms.length : Int) + a)), .val (.int w), h1, h2, ?_⟩
    simp [b1__law_drawn, c, mx, m1, pl, hx, h3, h4, -modD_pos]
  · obtain ⟨ms', h1, h2, j, h3, h4⟩ := key v
    refine ⟨ms', .val (.int (6 + 2 * (ms.length : Int) + a)), .val (.int v), h1, h2, ?_⟩
    simp [b1__law_drawn, c, mx, m1, pl, h3, h4, -modD_pos]
theorem drawn_eq (ns : List Int) (m : Nat) (hm : m ≤ 1000) (a : Int) (ha : 0 ≤ a) : ∃ ms, Line ms ∧ ms.length = m ∧ f__law_drawn [scrD ns, .int m, .int a] = .ok (ktD (ms.map .int)) := by
  have lp : ∃ ms s4 s5 s6, Line ms ∧ ms.length = m ∧ loopFor (forB (gN 4) b1__law_drawn) (rngL 0 (m : Int)) [.val (scrD ns), .val (.int m), .val (.int a), .own (.lst (([] : List Int).map .int)), .none, .none, .none] = .nx [.val (scrD ns), .val (.int m), .val (.int a), .own (.lst (ms.map .int)), s4, s5, s6] := by
    refine for_inv (Post := fun o => ∃ ms s4 s5 s6, Line ms ∧ ms.length = m ∧ o = .nx [.val (scrD ns), .val (.int m), .val (.int a), .own (.lst (ms.map .int)), s4, s5, s6])
      (fun k ρ => ∃ ms s4 s5 s6, Line ms ∧ ms.length = k ∧ ρ = [.val (scrD ns), .val (.int m), .val (.int a), .own (.lst (ms.map .int)), s4, s5, s6]) ⟨[], _, _, _, List.Perm.refl [], rfl, rfl⟩ ?_ ?_
    · rintro j d ρ hd ⟨ms, s4, s5, s6, R, l, rfl⟩
      obtain ⟨hj, rfl⟩ := rng_get hd
      subst l
      obtain ⟨ms', t5, t6, R', l', t⟩ := line_turn R (by omega) ns a ha (.val (.int m)) s4 s5 s6
      rw [t]
      exact ⟨_, _, _, _, R', l', rfl⟩
    · rintro ρ ⟨ms, s4, s5, s6, R, l, rfl⟩
      rw [rng_len0] at l
      exact ⟨_, _, _, _, R, l, rfl⟩
  obtain ⟨ms, s4, s5, s6, R, l, lp⟩ := lp
  refine ⟨ms, R, l, ?_⟩
  rw [List.map_nil] at lp
  simp [f__law_drawn, mFn, g__law_drawn, start', lp, rngM1_ok (in62 (i := (m : Int)) (by omega)), -forB_ap]
theorem look_ok {ns : List Int} {d : D} (hd : LnD ns d) (h : Line ns) (hl : ns.length ≤ 60) : f_look_at_line [d] = .ok .none := by
  have s := hd.srt
  have le := hd.len
  rw [line_sort h] at s
  have rd : rgLD 0 (ns.length : Int) = .ok ((idx0 ns.length).map PyData.int) := by
    rw [← idx0_rng]
    exact rgLD_ok (by show _ ∧ _; omega)
  have nq : neD (.list ((idx0 ns.length).map PyData.int)) (.list ((idx0 ns.length).map PyData.int)) = some (.bool false) := by
    rw [neD_l gr_int (by decide)]
    simp
  have g : ¬ (60 : Int) < ns.length := by omega
  simp [f_look_at_line, mFn, g_look_at_line, start', s, le, rd, nq, g]
theorem look_bad {ns : List Int} {d : D} (hd : LnD ns d) (h : ¬ (Line ns ∧ ns.length ≤ 60)) (hn : ns.length ≤ 1000) : f_look_at_line [d] = .exc "BadRow" := by
  have le := hd.len
  by_cases g : (60 : Int) < ns.length
  · simp [f_look_at_line, mFn, g_look_at_line, start', le, g]
  · have s := hd.srt
    have rd : rgLD 0 (ns.length : Int) = .ok ((idx0 ns.length).map PyData.int) := by
      rw [← idx0_rng]
      exact rgLD_ok (by show _ ∧ _; omega)
    have ne : sortI ns ≠ idx0 ns.length := fun e => h ⟨line_of_sort e, by omega⟩
    have nq : neD (.list ((sortI ns).map PyData.int)) (.list ((idx0 ns.length).map PyData.int)) = some (.bool true) := by
      rw [neD_l gr_int (by decide)]
      simp [ne]
    simp [f_look_at_line, mFn, g_look_at_line, start', s, le, rd, nq, g]
def GoodL (ns : List Int) : Prop := Line ns ∧ ns.length ≤ 60
section
variable {ns ms : List Int} {d e : D} (hd : LnD ns d) (he : LnD ms e)
include hd he
theorem looks_bad1 (h1 : ns.length ≤ 1000) (c : ¬ GoodL ns) : f_look_at_lines [d, e] = .exc "BadRow" := by
  have k1 := look_bad hd c h1
  simp [f_look_at_lines, mFn, g_look_at_lines, start', k1]
theorem looks_bad2 (h2 : ms.length ≤ 1000) (c : ¬ GoodL ms) (h1 : ns.length ≤ 1000) : f_look_at_lines [d, e] = .exc "BadRow" := by
  by_cases c1 : GoodL ns
  · have k1 := look_ok hd c1.1 c1.2
    have k2 := look_bad he c h2
    simp [f_look_at_lines, mFn, g_look_at_lines, start', k1, k2]
  · exact looks_bad1 hd he h1 c1
theorem looks_ok (c1 : GoodL ns) (c2 : GoodL ms) (c : ns.length = ms.length) : f_look_at_lines [d, e] = .ok .none := by
  have k1 := look_ok hd c1.1 c1.2
  have k2 := look_ok he c2.1 c2.2
  have l1 := hd.len
  have l2 := he.len
  rw [c] at l1
  simp [f_look_at_lines, mFn, g_look_at_lines, start', k1, k2, l1, l2]
theorem looks_unlike (c1 : GoodL ns) (c2 : GoodL ms) (c : ns.length ≠ ms.length) : f_look_at_lines [d, e] = .exc "Unlike" := by
  have k1 := look_ok hd c1.1 c1.2
  have k2 := look_ok he c2.1 c2.2
  have l1 := hd.len
  have l2 := he.len
  have c' : ¬ ((ns.length : Int) = (ms.length : Int)) := by omega
  generalize (ns.length : Int) = x at *
  generalize (ms.length : Int) = y at *
  simp [f_look_at_lines, mFn, g_look_at_lines, start', k1, k2, l1, l2, c']
end
end Lw

set_option Elab.async false
set_option linter.all false
set_option maxRecDepth 100000
set_option maxHeartbeats 4000000
/-! PlK: the pair of lines drawn from the script -/
namespace Lw
open PySem L2 Dn
def lD (xs : List Int) : D := .list (xs.map .int)
theorem shift_lc (xs : List Int) (k : Int) (e : ME) (ρ : Fr) (h4 : ρ.length = 4) (he : ∀ (x : Int) (a b c d : S), ρ = [a, b, c, d] → e [a, b, c, .val (.int x)] = .ok (.int (x + k))) (hl : xs.length ≤ 1000) : loopLc (gN 3) tYesF e [3] ρ (xs.map .int) [] = .ok ((xs.map (· + k)).map .int) := by
  have lc := loopLc_map (tg := gN 3) (e := e) (vs := [3]) (ρ := ρ) (fun d => match d with | .int s => .int (s + k) | d => d) (xs.map .int) [] (by show 0 + (xs.map PyData.int).length < 16777216; rw [List.length_map]; omega) (fun d hd => by
    obtain ⟨x, hx, rfl⟩ := List.mem_map.mp hd
    match ρ, h4 with
    | [a, b, c, d], _ => exact ⟨_, rfl, he x a b c d rfl⟩)
  rw [lc, List.nil_append, List.map_map, List.map_map]
  rfl
theorem joined_eq {l r : List Int} (L : Line l) (R : Line r) (hl : l.length + r.length ≤ 1000) (b : Bool) : ∃ j, Line j ∧ j.length = l.length + r.length ∧ f__law_joined [lD l, lD r, .bool b] = .ok (lD j) := by
  cases b with
  | true =>
    have lc := shift_lc l (r.length : Int) (e2 addD (eVarF 3) (eB lenD (aCons (eVarF 1) aNil))) [.val (lD l), .val (lD r), .val (.bool true), .none] rfl (fun x a b c d e => by
      simp only [List.cons.injEq, and_true] at e
      obtain ⟨rfl, rfl, rfl, rfl⟩ := e
      simp [lD]) (by omega)
    have ad : addD (.list ((l.map (· + (r.length : Int))).map PyData.int)) (.list (r.map PyData.int)) = some (lD (l.map (· + (r.length : Int)) ++ r)) := by
      rw [addD_l (by simp; omega)]
      unfold lD
      rw [List.map_append]
    refine ⟨_, line_join' L R, by simp, ?_⟩
    unfold lD at *
    simp only [f__law_joined, mFn, g__law_joined, start']
    simp [lc, ad, -List.map_map, -addD_l]
  | false =>
    have lc := shift_lc r (l.length : Int) (e2 addD (eVarF 3) (eB lenD (aCons (eVarF 0) aNil))) [.val (lD l), .val (lD r), .val (.bool false), .none] rfl (fun x a b c d e => by
      simp only [List.cons.injEq, and_true] at e
      obtain ⟨rfl, rfl, rfl, rfl⟩ := e
      simp [lD]) (by omega)
    have ad : addD (.list (l.map PyData.int)) (.list ((r.map (· + (l.length : Int))).map PyData.int)) = some (lD (l ++ r.map (· + (l.length : Int)))) := by
      rw [addD_l (by simp; omega)]
      unfold lD
      rw [List.map_append]
    refine ⟨_, line_join L R, by simp, ?_⟩
    unfold lD at *
    simp only [f__law_joined, mFn, g__law_joined, start']
    simp [lc, ad, -List.map_map, -addD_l]
/-- blocks -/
structure Nst (t : Nat) (bs : List (List Int)) : Prop where
  line : ∀ b ∈ bs, Line b
  len : bs.flatten.length = t
theorem nest_turn {t : Nat} {bs : List (List Int)} (N : Nst t bs) (ht : t ≤ 1000) (hb : bs.length ≤ 1000) (h2 : 2 ≤ bs.length) (ns : List Int) (k : Int) (k0 : 0 ≤ k) (k1 : k ≤ 5000) (s1 s4 s5 s6 : S) :
    ∃ bs' t4 t5 t6, Nst t bs' ∧ bs'.length + 1 = bs.length ∧ b1__law_nested [.val (scrD ns), s1, .val (.list (bs.map lD)), .val (.int k), s4, s5, s6] = .nx [.val (scrD ns), s1, .val (.list (bs'.map lD)), .val (.int (k + 1)), t4, t5, t6] := by
  obtain ⟨x, c⟩ := cell_at_ex ns 2 (by decide)
  obtain ⟨v, mx, _⟩ := mixed_eq x k k0 (by omega)
  have key : ∀ w : Int, ∃ bs' p j, Nst t bs' ∧ bs'.length + 1 = bs.length ∧
      (∀ (s4 : S), (sSeq (sAsg (gN 5) (e2 modD (e2 divD (eVarF 4) (eC (.int 2))) (e2 subD (eB lenD (aCons (eVarF 2) aNil)) (eC (.int 1)))))
 (sSeq (sAsg (gN 6) (eCall f__law_joined (aCons (e2 ixD (eVarF 2) (eVarF 5)) (aCons (e2 ixD (eVarF 2) (e2 addD (eVarF 5) (eC (.int 1)))) (aCons (e2 eqD (e2 modD (eVarF 4) (eC (.int 2))) (eC (.int 1))) aNil)))))
 (sSeq (sAsg (gN 2) (e2 addD (e2 addD (eSl slD (eVarF 2) oNone (oSome (eVarF 5))) (eL (aCons (eVarF 6) aNil))) (eSl slD (eVarF 2) (oSome (e2 addD (eVarF 5) (eC (.int 2)))) oNone)))
 (sAsg (gN 3) (e2 addD (eVarF 3) (eC (.int 1))))))) [.val (scrD ns), s1, .val (.list (bs.map lD)), .val (.int k), .val (.int w), s5, s6] = .nx [.val (scrD ns), s1, .val (.list (bs'.map lD)), .val (.int (k + 1)), .val (.int w), .val p, .val j]) := fun w => by
    obtain ⟨p, hp, hp2⟩ := nat_mod (c := w / 2) (m := (bs.length : Int) - 1) (by omega)
    have mp : modD (.int (w / 2)) (.int ((bs.length : Int) - 1)) = some (.int (p : Int)) := by rw [modD_pos (by omega), hp]
    have m2 : modD (.int w) (.int 2) = some (.int (w % 2)) := modD_pos (by decide)
    have p1 : p < bs.length := by omega
    have p2 : p + 1 < bs.length := by omega
    have i1 : ixD (.list (bs.map lD)) (.int (p : Int)) = some (lD bs[p]) := ixD_l (by omega) (by rw [show (p : Int).toNat = p by omega, List.getElem?_map, List.getElem?_eq_getElem p1]; rfl)
    have i2 : ixD (.list (bs.map lD)) (.int ((p : Int) + 1)) = some (lD bs[p + 1]) := ixD_l (by omega) (by rw [show ((p : Int) + 1).toNat = p + 1 by omega, List.getElem?_map, List.getElem?_eq_getElem p2]; rfl)
    have L1 := N.line _ (List.getElem_mem p1)
    have L2 := N.line _ (List.getElem_mem p2)
    have sp : bs = bs.take p ++ bs[p] :: bs[p + 1] :: bs.drop (p + 2) := by
      rw [← List.drop_eq_getElem_cons p2, ← List.drop_eq_getElem_cons p1, List.take_append_drop]
    have fl := congrArg (fun z : List (List Int) => z.flatten.length) sp
    simp only [List.flatten_append, List.flatten_cons, List.length_append] at fl
    have tl := N.len
    obtain ⟨j, J, jl, je⟩ := joined_eq L1 L2 (by omega) (decide (w % 2 = 1))
    have q : eqD (.int (w % 2)) (.int 1) = some (.bool (decide (w % 2 = 1))) := by simp
    have e1 : cutL (bs.map lD) none (some (p : Int)) = (bs.take p).map lD := by rw [cutL_to, List.map_take]
    have e3 : cutL (bs.map lD) (some ((p : Int) + 2)) none = (bs.drop (p + 2)).map lD := by
      rw [show (p : Int) + 2 = ((p + 2 : Nat) : Int) by omega, cutL_from, List.map_drop]
    have a1 : addD (.list ((bs.take p).map lD)) (.list [lD j]) = some (.list ((bs.take p ++ [j]).map lD)) := by
      rw [addD_l (by simp; omega), List.map_append]; rfl
    have a2 : addD (.list ((bs.take p ++ [j]).map lD)) (.list ((bs.drop (p + 2)).map lD)) = some (.list ((bs.take p ++ [j] ++ bs.drop (p + 2)).map lD)) := by
      rw [addD_l (by simp; omega), List.map_append (l₁ := bs.take p ++ [j])]
    refine ⟨bs.take p ++ [j] ++ bs.drop (p + 2), .int (p : Int), lD j, ⟨fun b hb => ?_, ?_⟩, ?_, fun s4 => ?_⟩
    · rcases List.mem_append.mp hb with hb | hb
      · rcases List.mem_append.mp hb with hb | hb
        · exact N.line b (List.mem_of_mem_take hb)
        · rw [List.mem_singleton] at hb; subst hb; exact J
      · exact N.line b (List.mem_of_mem_drop hb)
    · simp only [List.flatten_append, List.flatten_cons, List.flatten_nil, List.length_append, List.append_nil]
      omega
    · simp only [List.length_append, List.length_take, List.length_drop, List.length_singleton]
      omega
    · generalize (bs.take p).map lD = t1 at *
      generalize (bs.take p ++ [j]).map lD = t2 at *
      generalize (bs.drop (p + 2)).map lD = t3 at *
      generalize (bs.take p ++ [j] ++ bs.drop (p + 2)).map lD = t4 at *
      simp [mp, m2, i1, i2, je, e1, e3, a1, a2, -modD_pos, -addD_l, -List.map_take, -List.map_drop]
  by_cases c6 : 6 + k < (ns.length : Int)
  · have hx : ixD (scrD ns) (.int (6 + k)) = some (.int (ns.getD (6 + k).toNat 0)) := ixD_is (by omega) (by
      rw [List.getD_eq_getElem?_getD, List.getElem?_eq_getElem (by omega)]; rfl)
    generalize ns.getD (6 + k).toNat 0 = w at hx
    obtain ⟨bs', p, j, h1, h3, h4⟩ := key w
    refine ⟨bs', .val (.int w), .val p, .val j, h1, h3, ?_⟩
    rw [← h4 .none]
    generalize hG : (sSeq (sAsg (gN 5) (e2 modD (e2 divD (eVarF 4) (eC (.int 2))) (e2 subD (eB lenD (aCons (eVarF 2) aNil)) (eC (.int 1))))) _) = G
    simp only [b1__law_nested, hG]
    simp [c, mx, c6, hx]
  · obtain ⟨bs', p, j, h1, h3, h4⟩ := key v
    refine ⟨bs', .val (.int v), .val p, .val j, h1, h3, ?_⟩
    rw [← h4 .none]
    generalize hG : (sSeq (sAsg (gN 5) (e2 modD (e2 divD (eVarF 4) (eC (.int 2))) (e2 subD (eB lenD (aCons (eVarF 2) aNil)) (eC (.int 1))))) _) = G
    simp only [b1__law_nested, hG]
    simp [c, mx, c6]
theorem nested_eq (ns : List Int) (t : Nat) (ht : t ≤ 1000) : ∃ l, Line l ∧ l.length = t ∧ f__law_nested [scrD ns, .int t] = .ok (.tuple (l.map .int)) := by
  have lc := loopLc_map (tg := gN 3) (e := eL (aCons (eC (.int 0)) aNil)) (vs := [3]) (ρ := [.val (scrD ns), .val (.int (t : Int)), .none, .none, .none, .none, .none]) (fun _ => lD [0]) (rngL 0 (t : Int)) [] (by show 0 + (rngL 0 (t : Int)).length < 16777216; rw [rng_len0]; omega) (fun d hd => ⟨_, rfl, rfl⟩)
  have e0 : (rngL 0 (t : Int)).map (fun _ => lD [0]) = (List.replicate t [(0 : Int)]).map lD := by
    rw [List.map_replicate, List.eq_replicate_iff]
    refine ⟨by rw [List.length_map, rng_len0], fun b hb => ?_⟩
    obtain ⟨_, _, rfl⟩ := List.mem_map.mp hb
    rfl
  rw [List.nil_append, e0] at lc
  have N0 : Nst t (List.replicate t [(0 : Int)]) := ⟨fun b hb => by
    rw [List.eq_of_mem_replicate hb]
    exact List.Perm.refl _, by simp⟩
  have lp : ∃ bs s3 s4 s5 s6, Nst t bs ∧ bs.length ≤ 1 ∧ (t ≠ 0 → 1 ≤ bs.length) ∧ sWhile (tE (e2 gtD (eB lenD (aCons (eVarF 2) aNil)) (eC (.int 1)))) b1__law_nested [.val (scrD ns), .val (.int (t : Int)), .val (.list ((List.replicate t [(0 : Int)]).map lD)), .val (.int 0), .none, .none, .none] = .nx [.val (scrD ns), .val (.int (t : Int)), .val (.list (bs.map lD)), s3, s4, s5, s6] := by
    refine while_inv (Post := fun o => ∃ bs s3 s4 s5 s6, Nst t bs ∧ bs.length ≤ 1 ∧ (t ≠ 0 → 1 ≤ bs.length) ∧ o = .nx [.val (scrD ns), .val (.int (t : Int)), .val (.list (bs.map lD)), s3, s4, s5, s6])
      (fun m ρ => ∃ (bs : List (List Int)) (k : Int) (s4 s5 s6 : S), Nst t bs ∧ bs.length = m ∧ m ≤ t ∧ 0 ≤ k ∧ k + m ≤ t ∧ (t ≠ 0 → 1 ≤ m) ∧ ρ = [.val (scrD ns), .val (.int (t : Int)), .val (.list (bs.map lD)), .val (.int k), s4, s5, s6])
      t ⟨_, 0, _, _, _, N0, List.length_replicate, Nat.le_refl _, Int.le_refl _, by omega, fun z => by omega, rfl⟩ (by omega) ?_
    rintro m ρ ⟨bs, k, s4, s5, s6, N, l, lm, k0, km, hm, rfl⟩
    by_cases c : 2 ≤ bs.length
    · obtain ⟨bs', t4, t5, t6, N', l', tn⟩ := nest_turn N ht (by omega) c ns k k0 (by omega) (.val (.int (t : Int))) s4 s5 s6
      refine .inr ⟨?_, ?_⟩
      · have : (1 : Int) < (bs.length : Int) := by omega
        simp [this]
      · rw [tn]
        exact ⟨bs'.length, by omega, bs', k + 1, t4, t5, t6, N', rfl, by omega, by omega, by omega, fun _ => by omega, rfl⟩
    · refine .inl ⟨?_, _, _, _, _, _, N, by omega, fun z => by have := hm z; omega, rfl⟩
      have c' : (bs.length : Int) ≤ 1 := by omega
      simp [c']
  obtain ⟨bs, s3, s4, s5, s6, N, l1, l2, lp⟩ := lp
  have rd := rngM1_ok (in62 (i := (t : Int)) (by omega))
  by_cases z : t = 0
  · refine ⟨[], List.Perm.refl [], z.symm, ?_⟩
    simp only [f__law_nested, mFn, g__law_nested, start']
    simp [rd, lc, lp, eq_true z, -List.map_replicate]
  · have := l2 z
    match bs, N, l1, this with
    | [l], N, _, _ =>
      have h := N.len
      simp only [List.flatten_cons, List.flatten_nil, List.append_nil] at h
      refine ⟨l, N.line l List.mem_cons_self, h, ?_⟩
      have ix : ixD (.list [lD l]) (.int 0) = some (lD l) := rfl
      simp only [f__law_nested, mFn, g__law_nested, start']
      rw [List.map_cons, List.map_nil] at lp
      simp [rd, lc, lp, z, ix, -List.map_replicate]
      simp [lD]
/-- the pair: the other one, and the one by its places in it -/
theorem pair_eq (ns : List Int) (most : Nat) (h1 : 1 ≤ most) (h2 : most ≤ 1000) : ∃ os rs : List Int, Line os ∧ Line rs ∧ rs.length = os.length ∧ os.length ≤ most ∧
    f__law_pair_of_lines [scrD ns, .int most] = .ok (.tuple [.tuple ((rs.map fun r => os.getD r.toNat 0).map .int), ktD (os.map .int)]) := by
  obtain ⟨t, ht, tq⟩ := things_eq ns most h1 h2
  obtain ⟨o1, O1, l1, d1⟩ := drawn_eq ns t (by omega) 1 (by decide)
  obtain ⟨r1, R1, m1, d2⟩ := drawn_eq ns t (by omega) 0 (by decide)
  obtain ⟨r2, R2, m2, d3⟩ := nested_eq ns t (by omega)
  obtain ⟨x, c3⟩ := cell_at_ex ns 3 (by decide)
  have rd : rgLD 0 (t : Int) = .ok ((idx0 t).map PyData.int) := by
    rw [← idx0_rng]
    exact rgLD_ok (by show _ ∧ _; omega)
  have x3 : modD (.int x) (.int 3) = some (.int (x % 3)) := modD_pos (by decide)
  have x2 : modD (.int (x / 3)) (.int 2) = some (.int (x / 3 % 2)) := modD_pos (by decide)
  have lc : ∀ (os rs : List Int) (s1 s2 s4 s5 : S), os.length = t → Line rs → rs.length = t → loopLc (gN 5) tYesF (e2 ixD (eVarF 3) (eVarF 5)) [5] [.val (scrD ns), s1, s2, .val (ktD (os.map .int)), s4, s5] (rs.map .int) [] = .ok ((rs.map fun r => os.getD r.toNat 0).map .int) := by
    intro os rs s1 s2 s4 s5 lo' LR lr
    have := loopLc_map (tg := gN 5) (e := e2 ixD (eVarF 3) (eVarF 5)) (vs := [5]) (ρ := [.val (scrD ns), s1, s2, .val (ktD (os.map .int)), s4, s5]) (fun d => match d with | .int r => .int (os.getD r.toNat 0) | d => d) (rs.map .int) [] (by show 0 + (rs.map PyData.int).length < 16777216; rw [List.length_map]; omega) (fun d hd => by
      obtain ⟨r, hr, rfl⟩ := List.mem_map.mp hd
      have pr := idx0_mem.mp (LR.mem_iff.mp hr)
      have ix : ixD (ktD (os.map PyData.int)) (.int r) = some (.int (os.getD r.toNat 0)) := ixD_it (by omega) (by rw [List.getD_eq_getElem?_getD, List.getElem?_eq_getElem (by omega)]; rfl)
      exact ⟨_, rfl, by simp [wipeF, ix, -List.getD_eq_getElem?_getD]⟩)
    rw [this, List.nil_append, List.map_map, List.map_map]
    rfl
  have L0 : Line (idx0 t) := by
    unfold Line
    rw [idx0_len]
  have fin : ∀ os rs : List Int, Line os → os.length = t → Line rs → rs.length = t →
      ((x % 3 = 0 ∧ os = idx0 t) ∨ (¬ x % 3 = 0 ∧ os = o1)) → ((x / 3 % 2 = 0 ∧ rs = r2) ∨ (¬ x / 3 % 2 = 0 ∧ rs = r1)) →
      f__law_pair_of_lines [scrD ns, .int most] = .ok (.tuple [.tuple ((rs.map fun r => os.getD r.toNat 0).map .int), ktD (os.map .int)]) := by
    intro os rs LO lo' LR lr ho hr
    have l := fun s4 => lc os rs (.val (.int (most : Int))) (.val (.int (t : Int))) s4 .none lo' LR lr
    generalize ((rs.map fun r => os.getD r.toNat 0).map PyData.int) = one at *
    rcases ho with ⟨a, rfl⟩ | ⟨a, rfl⟩ <;> rcases hr with ⟨b, rfl⟩ | ⟨b, rfl⟩ <;>
      simp [f__law_pair_of_lines, mFn, g__law_pair_of_lines, start', tq, d1, d2, d3, c3, x3, x2, a, b, rd, l, -modD_pos]
  by_cases a : x % 3 = 0
  · by_cases b : x / 3 % 2 = 0
    · exact ⟨idx0 t, r2, L0, R2, by rw [idx0_len, m2], by rw [idx0_len]; exact ht, fin _ _ L0 (idx0_len t) R2 m2 (.inl ⟨a, rfl⟩) (.inl ⟨b, rfl⟩)⟩
    · exact ⟨idx0 t, r1, L0, R1, by rw [idx0_len, m1], by rw [idx0_len]; exact ht, fin _ _ L0 (idx0_len t) R1 m1 (.inl ⟨a, rfl⟩) (.inr ⟨b, rfl⟩)⟩
  · by_cases b : x / 3 % 2 = 0
    · exact ⟨o1, r2, O1, R2, by omega, by omega, fin _ _ O1 l1 R2 m2 (.inr ⟨a, rfl⟩) (.inl ⟨b, rfl⟩)⟩
    · exact ⟨o1, r1, O1, R1, by omega, by omega, fin _ _ O1 l1 R1 m1 (.inr ⟨a, rfl⟩) (.inr ⟨b, rfl⟩)⟩
end Lw

set_option Elab.async false
set_option linter.all false
set_option maxRecDepth 100000
set_option maxHeartbeats 4000000
/-! PcK: places_in -/
namespace Lw
open PySem L2 Dn
theorem rep_zero (n : Nat) (hn : n ≤ 1000) : repD (.list [.int 0]) (.int (n : Int)) = some ((List.replicate n (0 : Int)).map .int) := by
  rw [List.map_replicate]
  refine (if_pos ⟨in63 (by omega), by
    rw [show ((n : Int)).toNat = n from rfl]
    show 1 * n ≤ sizeLine
    exact Nat.le_trans (by omega) (show 1000 ≤ sizeLine by decide)⟩).trans ?_
  rw [show ((n : Int)).toNat = n from rfl]
  congr 1
  induction n with
  | zero => rfl
  | succ n ih => rw [List.replicate_succ, List.flatten_cons, ih (by omega)]; rfl
theorem one_line {os rs : List Int} (O : Line os) (R : Line rs) (hl : rs.length = os.length) : Line (rs.map fun r => os.getD r.toNat 0) := by
  refine line_perm O ?_
  have h := R.map fun r : Int => os.getD r.toNat 0
  have e : (idx0 rs.length).map (fun r : Int => os.getD r.toNat 0) = os := by
    refine List.ext_getElem (by rw [List.length_map, idx0_len, hl]) fun i h1 h2 => ?_
    rw [List.getElem_map]
    have : (idx0 rs.length)[i]'(by rw [List.length_map] at h1; exact h1) = (i : Int) := by
      show ((List.range rs.length).map fun i : Nat => (i : Int))[i]'_ = _
      refine (List.getElem_map ..).trans ?_
      rw [List.getElem_range]
    rw [this, List.getD_eq_getElem?_getD, show (i : Int).toNat = i by omega, List.getElem?_eq_getElem h2]
    rfl
  rw [e] at h
  exact h
theorem places_eq {os rs : List Int} (O : Line os) (R : Line rs) (hl : rs.length = os.length) (hz : os.length ≤ 1000) {one oth : D} (h1 : LnD (rs.map fun r => os.getD r.toNat 0) one) (h2 : LnD os oth) : f_places_in [one, oth] = .ok (.list (rs.map .int)) := by
  have nd := O.nodup_iff.mpr (idx0_nodup _)
  have rep := rep_zero os.length hz
  have lp : ∃ (wh : List Int) (s3 s4 : S), wh.length = os.length ∧ (∀ j (hj : j < os.length), wh[os[j].toNat]? = some (j : Int)) ∧ ∀ s0 s1, loopFor (forB (gT (gC (gN 3) (gC (gN 4) gNil'))) b1_places_in) (enumL (os.map .int)) [s0, s1, .own (.lst ((List.replicate os.length (0 : Int)).map .int)), .none, .none] = .nx [s0, s1, .own (.lst (wh.map .int)), s3, s4] := by
    have tg : ∀ j (hj : j < os.length), 0 ≤ os[j] ∧ os[j] < os.length := fun j hj => idx0_mem.mp (O.mem_iff.mp (List.getElem_mem hj))
    have step : ∀ k, k ≤ os.length → ∃ (wh : List Int) (s3 s4 : S), wh.length = os.length ∧ (∀ j (hj : j < os.length), j < k → wh[os[j].toNat]? = some (j : Int)) ∧ ∀ s0 s1 es, loopFor (forB (gT (gC (gN 3) (gC (gN 4) gNil'))) b1_places_in) ((enumL (os.map .int)).take k ++ es) [s0, s1, .own (.lst ((List.replicate os.length (0 : Int)).map .int)), .none, .none] = loopFor (forB (gT (gC (gN 3) (gC (gN 4) gNil'))) b1_places_in) es [s0, s1, .own (.lst (wh.map .int)), s3, s4] := by
      intro k
      induction k with
      | zero => exact fun _ => ⟨_, .none, .none, List.length_replicate, fun j hj h => absurd h (Nat.not_lt_zero _), fun s0 s1 es => rfl⟩
      | succ k ih =>
        intro hk
        obtain ⟨wh, s3, s4, wl, wq, h⟩ := ih (by omega)
        have pk := tg k (by omega)
        have eg : (enumL (os.map PyData.int))[k]? = some (.tuple [.int (k : Int), .int (os[k]'(by omega))]) := enum_get (by rw [List.getElem?_map, List.getElem?_eq_getElem (by omega)]; rfl)
        refine ⟨wh.set (os[k]'(by omega)).toNat (k : Int), .val (.int (k : Int)), .val (.int (os[k]'(by omega))), by rw [List.length_set, wl], fun j hj hjk => ?_, fun s0 s1 es => ?_⟩
        · by_cases e : j = k
          · subst e
            rw [List.getElem?_set_self (by omega)]
          · have pj := tg j hj
            have ne : (os[k]'(by omega)).toNat ≠ os[j].toNat := fun z => e ((List.getElem_inj nd).mp (by omega : os[k]'(by omega) = os[j])).symm
            rw [List.getElem?_set_ne ne]
            exact wq j hj (by omega)
        · have tk : (enumL (os.map PyData.int)).take (k + 1) = (enumL (os.map PyData.int)).take k ++ [.tuple [.int (k : Int), .int (os[k]'(by omega))]] := by
            rw [List.take_add_one, eg]
            rfl
          rw [tk, List.append_assoc, h]
          have st := setL_int (ms := wh) (i := os[k]'(by omega)) (v := (k : Int)) pk.1 (by omega)
          have tn : forB (gT (gC (gN 3) (gC (gN 4) gNil'))) b1_places_in (.tuple [.int (k : Int), .int (os[k]'(by omega))]) [s0, s1, .own (.lst (wh.map .int)), s3, s4] = .nx [s0, s1, .own (.lst ((wh.set (os[k]'(by omega)).toNat (k : Int)).map .int)), .val (.int (k : Int)), .val (.int (os[k]'(by omega)))] := by
            simp [b1_places_in, st, -List.map_set]
          rw [List.singleton_append, loop_nx tn]
    obtain ⟨wh, s3, s4, wl, wq, h⟩ := step os.length (Nat.le_refl _)
    refine ⟨wh, s3, s4, wl, fun j hj => wq j hj hj, fun s0 s1 => ?_⟩
    have := h s0 s1 []
    rw [List.append_nil, List.take_of_length_le (by rw [enum_len, List.length_map]; exact Nat.le_refl _), loop_nil] at this
    exact this
  obtain ⟨wh, s3, s4, wl, wq, lp⟩ := lp
  have lp := lp (.val one) (.val oth)
  have lc := loopLc_map (tg := gN 4) (e := e2 ixD (eVarF 2) (eVarF 4)) (vs := [4]) (ρ := [.val one, .val oth, .val (.list (wh.map .int)), s3, s4]) (fun d => match d with | .int v => .int (wh.getD v.toNat 0) | d => d) ((rs.map fun r => os.getD r.toNat 0).map .int) [] (by show 0 + ((rs.map fun r => os.getD r.toNat 0).map PyData.int).length < 16777216; rw [List.length_map, List.length_map]; omega) (fun d hd => by
    obtain ⟨v, hv, rfl⟩ := List.mem_map.mp hd
    have Q := one_line O R hl
    have pv := idx0_mem.mp (Q.mem_iff.mp hv)
    rw [List.length_map] at pv
    have ix : ixD (.list (wh.map PyData.int)) (.int v) = some (.int (wh.getD v.toNat 0)) := ixD_il (by omega) (by rw [List.getD_eq_getElem?_getD, List.getElem?_eq_getElem (by omega)]; rfl)
    exact ⟨_, rfl, by simp [wipeF, ix, -List.getD_eq_getElem?_getD]⟩)
  have fe : ((rs.map fun r => os.getD r.toNat 0).map PyData.int).map (fun d : D => match d with | .int v => PyData.int (wh.getD v.toNat 0) | d => d) = rs.map .int := by
    rw [List.map_map, List.map_map]
    refine List.map_congr_left fun r hr => ?_
    have pr := idx0_mem.mp (R.mem_iff.mp hr)
    show PyData.int (wh.getD (os.getD r.toNat 0).toNat 0) = .int r
    have h1 : os.getD r.toNat 0 = os[r.toNat]'(by omega) := by rw [List.getD_eq_getElem?_getD, List.getElem?_eq_getElem (by omega)]; rfl
    have h2 := wq r.toNat (by omega)
    rw [h1, List.getD_eq_getElem?_getD, h2]
    show PyData.int ((r.toNat : Nat) : Int) = .int r
    rw [show ((r.toNat : Nat) : Int) = r by omega]
  rw [List.nil_append, fe] at lc
  have ll := h2.len
  have i1 := h1.items
  have e2 := h2.enum
  simp only [f_places_in, mFn, g_places_in, start']
  generalize (rs.map fun r => os.getD r.toNat 0).map PyData.int = one' at *
  simp [rep, ll, i1, e2, lp, lc, -forB_ap, -List.map_replicate, -enumM_one]
end Lw

set_option Elab.async false
set_option linter.all false
set_option maxRecDepth 100000
set_option maxHeartbeats 4000000
/-! SbK: shared_by -/
namespace Lw
open PySem L2 Dn
theorem sh_inner {rs : List Int} {a : Nat} (ha : a < rs.length) (hz : rs.length ≤ 1000) : ∀ (k : Nat), k ≤ rs.length - a → ∀ (acc : List (Nat × Nat)) (s5 : S), acc.length ≤ 100000 → ∃ t5, ∀ es,
    loopFor (forB (gN 5) b1_shared_by) (((List.range k).map fun j : Nat => .int ((a + j : Nat) : Int)) ++ es) [.val (.list (rs.map .int)), .own (.lst (acc.map npD)), .val (.int (a : Int)), .val (.int (rs.getD a 0)), .val (.int (rs.getD a 0)), s5] =
    loopFor (forB (gN 5) b1_shared_by) es [.val (.list (rs.map .int)), .own (.lst ((acc ++ ((List.range k).filter fun j => decide (hi (fun i => rs.getD i 0) a j - lo (fun i => rs.getD i 0) a j = j)).map fun j => (a, a + j + 1)).map npD)), .val (.int (a : Int)), .val (.int (lo (fun i => rs.getD i 0) a (k - 1))), .val (.int (hi (fun i => rs.getD i 0) a (k - 1))), t5]
  | 0, _, acc, s5, _ => ⟨s5, fun es => by simp [lo, hi]⟩
  | k + 1, hk, acc, s5, hl => by
    obtain ⟨t5, h⟩ := sh_inner ha hz k (by omega) acc s5 hl
    have lf := List.length_filter_le (fun j => decide (hi (fun i => rs.getD i 0) a j - lo (fun i => rs.getD i 0) a j = j)) (List.range k)
    rw [List.length_range] at lf
    refine ⟨.val (.int ((a + k : Nat) : Int)), fun es => ?_⟩
    have e1 : ((List.range (k + 1)).map fun j : Nat => (.int ((a + j : Nat) : Int) : D)) = ((List.range k).map fun j : Nat => .int ((a + j : Nat) : Int)) ++ [.int ((a + k : Nat) : Int)] := by
      rw [List.range_succ, List.map_append]
      rfl
    rw [e1, List.append_assoc, h]
    have ix : ixD (.list (rs.map PyData.int)) (.int ((a + k : Nat) : Int)) = some (.int (rs.getD (a + k) 0)) := ixD_il (by omega) (by rw [show (((a + k : Nat) : Int)).toNat = a + k by omega, List.getD_eq_getElem?_getD, List.getElem?_eq_getElem (by omega)]; rfl)
    have mn : minD [.int (lo (fun i => rs.getD i 0) a (k - 1)), .int (rs.getD (a + k) 0)] = some (.int (lo (fun i => rs.getD i 0) a k)) := by
      show some (PyData.int (min _ _)) = _
      cases k with
      | zero => rw [show min (lo (fun i => rs.getD i 0) a (0 - 1)) (rs.getD (a + 0) 0) = rs.getD a 0 from by show min (rs.getD a 0) (rs.getD (a + 0) 0) = _; rw [Nat.add_zero]; omega]; rfl
      | succ k => rfl
    have mx : maxD [.int (hi (fun i => rs.getD i 0) a (k - 1)), .int (rs.getD (a + k) 0)] = some (.int (hi (fun i => rs.getD i 0) a k)) := by
      show some (PyData.int (max _ _)) = _
      cases k with
      | zero => rw [show max (hi (fun i => rs.getD i 0) a (0 - 1)) (rs.getD (a + 0) 0) = rs.getD a 0 from by show max (rs.getD a 0) (rs.getD (a + 0) 0) = _; rw [Nat.add_zero]; omega]; rfl
      | succ k => rfl
    rw [show k + 1 - 1 = k by omega]
    have al : (acc ++ ((List.range k).filter fun j => decide (hi (fun i => rs.getD i 0) a j - lo (fun i => rs.getD i 0) a j = j)).map (fun j => (a, a + j + 1))).length < 16777216 := by
      rw [List.length_append, List.length_map]; omega
    obtain ⟨q, hq⟩ : ∃ q : Int, ((a + k : Nat) : Int) = q := ⟨_, rfl⟩
    have hq2 : npD (a, a + k + 1) = .tuple [.int (a : Int), .int (q + 1)] := by
      show PyData.tuple [.int (a : Int), .int ((a + k + 1 : Nat) : Int)] = _
      rw [← hq, Int.natCast_add (a + k) 1]
      rfl
    have hk2 : q - (a : Int) = k := by omega
    rw [hq] at ix ⊢
    by_cases c : hi (fun i => rs.getD i 0) a k - lo (fun i => rs.getD i 0) a k = (k : Int)
    · have st : acc ++ ((List.range (k + 1)).filter (fun j => decide (hi (fun i => rs.getD i 0) a j - lo (fun i => rs.getD i 0) a j = j))).map (fun j => (a, a + j + 1)) = acc ++ ((List.range k).filter (fun j => decide (hi (fun i => rs.getD i 0) a j - lo (fun i => rs.getD i 0) a j = j))).map (fun j => (a, a + j + 1)) ++ [(a, a + k + 1)] := by
        rw [List.range_succ, List.filter_append, List.filter_cons_of_pos (by simpa using c), List.filter_nil, List.map_append, ← List.append_assoc]
        rfl
      rw [st]
      generalize hA : acc ++ ((List.range k).filter fun j => decide (hi (fun i => rs.getD i 0) a j - lo (fun i => rs.getD i 0) a j = j)).map (fun j => (a, a + j + 1)) = A at *
      have ap := appM_ok (ds := A.map npD) (e := .tuple [.int (a : Int), .int (q + 1)]) (by rw [List.length_map]; exact al)
      have tn : ∀ s5, forB (gN 5) b1_shared_by (.int q) [.val (.list (rs.map .int)), .own (.lst (A.map npD)), .val (.int (a : Int)), .val (.int (lo (fun i => rs.getD i 0) a (k - 1))), .val (.int (hi (fun i => rs.getD i 0) a (k - 1))), s5] =
          .nx [.val (.list (rs.map .int)), .own (.lst (A.map npD ++ [.tuple [.int (a : Int), .int (q + 1)]])), .val (.int (a : Int)), .val (.int (lo (fun i => rs.getD i 0) a k)), .val (.int (hi (fun i => rs.getD i 0) a k)), .val (.int q)] := fun s5 => by
        generalize hi (fun i => rs.getD i 0) a k = H at *
        generalize lo (fun i => rs.getD i 0) a k = O at *
        simp [b1_shared_by, ix, mn, mx, hk2, c, ap, -appM_ok, -List.getD_eq_getElem?_getD]
      rw [List.singleton_append, loop_nx (tn _), List.map_append (l₁ := A)]
      show loopFor _ es _ = loopFor _ es [_, .own (.lst (A.map npD ++ [npD (a, a + k + 1)])), _, _, _, _]
      rw [hq2]
    · have st : acc ++ ((List.range (k + 1)).filter (fun j => decide (hi (fun i => rs.getD i 0) a j - lo (fun i => rs.getD i 0) a j = j))).map (fun j => (a, a + j + 1)) = acc ++ ((List.range k).filter (fun j => decide (hi (fun i => rs.getD i 0) a j - lo (fun i => rs.getD i 0) a j = j))).map (fun j => (a, a + j + 1)) := by
        rw [List.range_succ, List.filter_append, List.filter_cons_of_neg (by simpa using c), List.filter_nil, List.append_nil]
      rw [st]
      generalize hA : acc ++ ((List.range k).filter fun j => decide (hi (fun i => rs.getD i 0) a j - lo (fun i => rs.getD i 0) a j = j)).map (fun j => (a, a + j + 1)) = A at *
      have tn : ∀ s5, forB (gN 5) b1_shared_by (.int q) [.val (.list (rs.map .int)), .own (.lst (A.map npD)), .val (.int (a : Int)), .val (.int (lo (fun i => rs.getD i 0) a (k - 1))), .val (.int (hi (fun i => rs.getD i 0) a (k - 1))), s5] =
          .nx [.val (.list (rs.map .int)), .own (.lst (A.map npD)), .val (.int (a : Int)), .val (.int (lo (fun i => rs.getD i 0) a k)), .val (.int (hi (fun i => rs.getD i 0) a k)), .val (.int q)] := fun s5 => by
        generalize hi (fun i => rs.getD i 0) a k = H at *
        generalize lo (fun i => rs.getD i 0) a k = O at *
        simp [b1_shared_by, ix, mn, mx, hk2, c, -List.getD_eq_getElem?_getD]
      rw [List.singleton_append, loop_nx (tn _)]
theorem shared_lp {rs : List Int} (hz : rs.length ≤ 200) : ∃ s2 s3 s4 s5, loopFor (forB (gN 2) b2_shared_by) (rngL 0 (rs.length : Int)) [.val (.list (rs.map .int)), .own (.lst []), .none, .none, .none, .none] = .nx [.val (.list (rs.map .int)), .own (.lst ((shL rs.length fun i => rs.getD i 0).map npD)), s2, s3, s4, s5] := by
  refine for_inv (Post := fun o => ∃ s2 s3 s4 s5, o = .nx [.val (.list (rs.map .int)), .own (.lst ((shL rs.length fun i => rs.getD i 0).map npD)), s2, s3, s4, s5])
    (fun n ρ => ∃ acc s2 s3 s4 s5, acc = (List.range n).flatMap (fun a => ((List.range (rs.length - a)).filter fun k => decide (hi (fun i => rs.getD i 0) a k - lo (fun i => rs.getD i 0) a k = k)).map fun k => (a, a + k + 1)) ∧ acc.length ≤ n * 200 ∧ ρ = [.val (.list (rs.map .int)), .own (.lst (acc.map npD)), s2, s3, s4, s5]) ⟨[], _, _, _, _, rfl, Nat.zero_le _, rfl⟩ ?_ ?_
  · rintro a d ρ hd ⟨acc, s2, s3, s4, s5, ha, hl, rfl⟩
    obtain ⟨hj, rfl⟩ := rng_get hd
    have r2 := rngM2_ok (in62 (i := (a : Int)) (by omega)) (in62 (i := (rs.length : Int)) (by omega))
    rw [rng_nat2] at r2
    have ml : a * 200 ≤ 200 * 200 := Nat.mul_le_mul_right _ (by omega)
    obtain ⟨t5, h⟩ := sh_inner (rs := rs) hj (by omega) (rs.length - a) (Nat.le_refl _) acc s5 (by omega)
    have h := h []
    rw [List.append_nil, loop_nil] at h
    have lf := List.length_filter_le (fun j => decide (hi (fun i => rs.getD i 0) a j - lo (fun i => rs.getD i 0) a j = j)) (List.range (rs.length - a))
    rw [List.length_range] at lf
    have ix : ixD (.list (rs.map PyData.int)) (.int (a : Int)) = some (.int (rs.getD a 0)) := ixD_il (by omega) (by rw [show ((a : Int)).toNat = a by omega, List.getD_eq_getElem?_getD, List.getElem?_eq_getElem hj]; rfl)
    have ac : acc ++ ((List.range (rs.length - a)).filter fun j => decide (hi (fun i => rs.getD i 0) a j - lo (fun i => rs.getD i 0) a j = j)).map (fun j => (a, a + j + 1)) = (List.range (a + 1)).flatMap (fun a => ((List.range (rs.length - a)).filter fun k => decide (hi (fun i => rs.getD i 0) a k - lo (fun i => rs.getD i 0) a k = k)).map fun k => (a, a + k + 1)) := by
      rw [List.range_succ, List.flatMap_append, ha]
      simp
    have al : (acc ++ ((List.range (rs.length - a)).filter fun j => decide (hi (fun i => rs.getD i 0) a j - lo (fun i => rs.getD i 0) a j = j)).map (fun j => (a, a + j + 1))).length ≤ (a + 1) * 200 := by
      rw [List.length_append, List.length_map, Nat.add_mul]; omega
    generalize acc ++ ((List.range (rs.length - a)).filter fun j => decide (hi (fun i => rs.getD i 0) a j - lo (fun i => rs.getD i 0) a j = j)).map (fun j => (a, a + j + 1)) = acc' at *
    generalize lo (fun i => rs.getD i 0) a (rs.length - a - 1) = O at *
    generalize hi (fun i => rs.getD i 0) a (rs.length - a - 1) = H at *
    have tn : forB (gN 2) b2_shared_by (.int (a : Int)) [.val (.list (rs.map .int)), .own (.lst (acc.map npD)), s2, s3, s4, s5] = .nx [.val (.list (rs.map .int)), .own (.lst (acc'.map npD)), .val (.int (a : Int)), .val (.int O), .val (.int H), t5] := by
      generalize ((List.range (rs.length - a)).map fun j : Nat => (PyData.int ((a + j : Nat) : Int))) = dd at *
      simp only [forB_ap, gN_ap, ofO_some]
      simp [b2_shared_by, ix, r2, h, -forB_ap, -List.getD_eq_getElem?_getD]
    rw [tn]
    exact ⟨acc', _, _, _, _, ac, al, rfl⟩
  · rintro ρ ⟨acc, s2, s3, s4, s5, ha, hl, rfl⟩
    rw [rng_len0] at ha
    subst ha
    exact ⟨_, _, _, _, rfl⟩
theorem shared_eq {rs : List Int} (hz : rs.length ≤ 200) : f_shared_by [.list (rs.map .int)] = .ok (.list ((shL rs.length fun i => rs.getD i 0).map npD)) := by
  have rd := rngM1_ok (in62 (i := (rs.length : Int)) (by omega))
  obtain ⟨s2, s3, s4, s5, lp⟩ := shared_lp hz
  simp [f_shared_by, mFn, g_shared_by, start', rd, lp, -forB_ap]
end Lw

set_option Elab.async false
set_option linter.all false
set_option maxRecDepth 100000
set_option maxHeartbeats 4000000
/-! RkK: _law_ranks -/
namespace Lw
open PySem L2 Dn
theorem ranks_eq {os rs : List Int} (O : Line os) (R : Line rs) (hl : rs.length = os.length) (hz : os.length ≤ 1000) {one : D} (h1 : LnD (rs.map fun r => os.getD r.toNat 0) one) :
    f__law_ranks [one, ktD (os.map .int)] = .ok (.list (rs.map .int)) := by
  have nd := O.nodup_iff.mpr (idx0_nodup _)
  have i1 := h1.items
  have lc : ∀ s0 s2, loopLc (gN 2) tYesF (eMK tupIxD (eVarF 1) (aCons (eVarF 2) aNil)) [2] [s0, .val (ktD (os.map .int)), s2] ((rs.map fun r => os.getD r.toNat 0).map .int) [] = .ok (rs.map .int) := by
    intro s0 s2
    rw [List.map_map]
    refine lc_map0 _ _ _ (by omega) fun r hr => ⟨_, rfl, ?_⟩
    have pr := idx0_mem.mp (R.mem_iff.mp hr)
    have e : os[r.toNat]? = some (os.getD r.toNat 0) := by rw [List.getD_eq_getElem?_getD, List.getElem?_eq_getElem (by omega)]; rfl
    have ix := tupIxD_ok (placeI_nd nd e)
    rw [show ((r.toNat : Nat) : Int) = r by omega] at ix
    simp only [Function.comp]
    generalize os.getD r.toNat 0 = z at *
    generalize hk : ktD (os.map PyData.int) = k at *
    have kt : isKt k = true := by rw [← hk]; rfl
    simp [wipeF, kt, ix]
  generalize (rs.map fun r => os.getD r.toNat 0).map PyData.int = L at *
  generalize ktD (os.map PyData.int) = oth at *
  simp [f__law_ranks, mFn, g__law_ranks, start', i1, lc]
end Lw

set_option Elab.async false
set_option linter.all false
set_option maxRecDepth 100000
set_option maxHeartbeats 4000000
/-! PsK: _law_pairs -/
namespace Lw
open PySem L2 Dn
theorem whole_int (e : Int) : f__law_whole [.int e] = .ok (.bool true) := by
  simp [f__law_whole, mFn, g__law_whole, start']
theorem pairs_eq (ps : List (Nat × Nat)) : f__law_pairs [.list (ps.map npD)] = .ok (.bool true) := by
  have lp : ∃ s, loopFor (forB (gN 1) b1__law_pairs) (ps.map npD) [.val (.list (ps.map npD)), .none] = .nx [.val (.list (ps.map npD)), s] := by
    refine for_inv (Post := fun o => ∃ s, o = .nx [.val (.list (ps.map npD)), s]) (fun _ ρ => ∃ s, ρ = [.val (.list (ps.map npD)), s]) ⟨_, rfl⟩ ?_ ?_
    · rintro j d ρ hd ⟨s, rfl⟩
      rw [List.getElem?_map] at hd
      obtain ⟨t, ht, rfl⟩ := Option.map_eq_some_iff.mp hd
      have i0 : ixD (npD t) (.int 0) = some (.int (t.1 : Int)) := rfl
      have i1 : ixD (npD t) (.int 1) = some (.int (t.2 : Int)) := rfl
      have ty : isiD "tuple" (npD t) = some (.bool true) := rfl
      have ln : lenD [npD t] = some (.int 2) := rfl
      have : forB (gN 1) b1__law_pairs (npD t) [.val (.list (ps.map npD)), s] = .nx [.val (.list (ps.map npD)), .val (npD t)] := by simp [b1__law_pairs, i0, i1, ty, ln, whole_int]
      rw [this]
      exact ⟨_, rfl⟩
    · rintro ρ ⟨s, rfl⟩
      exact ⟨_, rfl⟩
  obtain ⟨s, lp⟩ := lp
  simp [f__law_pairs, mFn, g__law_pairs, start', lp, -forB_ap]
end Lw

set_option Elab.async false
set_option linter.all false
set_option maxRecDepth 100000
set_option maxHeartbeats 4000000
/-! Rch: a loop that collects, reach_over, reach_back -/
namespace Lw
open PySem L2 Dn
/-- a loop that collects -/
theorem collect {body : D → Fr → Out} {F : List (Nat × Nat) → S → Fr} {ds : Nat → D} {y : Nat → List (Nat × Nat)} {c : Nat} : ∀ (k : Nat), (∀ j, j < k → (y j).length ≤ c) → (∀ j, j < k → ∀ acc s, acc.length ≤ 100000 → ∃ s', body (ds j) (F acc s) = .nx (F (acc ++ y j) s')) →
    ∀ acc s, acc.length + k * c ≤ 100000 → ∃ s', ∀ es, loopFor body ((List.range k).map ds ++ es) (F acc s) = loopFor body es (F (acc ++ (List.range k).flatMap y) s')
  | 0, _, _, acc, s, _ => ⟨s, fun es => by simp⟩
  | k + 1, hy, h, acc, s, hl => by
    rw [Nat.add_mul] at hl
    obtain ⟨s1, h1⟩ := collect k (fun j hj => hy j (by omega)) (fun j hj => h j (by omega)) acc s (by omega)
    have fl : ((List.range k).flatMap y).length ≤ k * c := by
      clear h1 h hl
      induction k with
      | zero => simp
      | succ k ih =>
        rw [List.range_succ, List.flatMap_append, List.length_append, Nat.add_mul]
        have := ih fun j hj => hy j (by omega)
        have := hy k (by omega)
        simp only [List.flatMap_cons, List.flatMap_nil, List.append_nil]
        omega
    obtain ⟨s2, h2⟩ := h k (by omega) (acc ++ (List.range k).flatMap y) s1 (by rw [List.length_append]; omega)
    refine ⟨s2, fun es => ?_⟩
    rw [List.range_succ, List.map_append, List.append_assoc, h1]
    show loopFor body (ds k :: es) _ = _
    rw [loop_nx h2, List.flatMap_append, ← List.append_assoc]
    simp
theorem filter_flat {α : Type} (p : Nat → Bool) (x : Nat → α) (l : List Nat) : (l.flatMap fun j => if p j = true then [x j] else []) = (l.filter p).map x := by
  induction l with
  | nil => rfl
  | cons a l ih =>
    rw [List.flatMap_cons, ih]
    by_cases h : p a = true
    · rw [if_pos h, List.filter_cons_of_pos h]; rfl
    · rw [if_neg h, List.filter_cons_of_neg h]; rfl
theorem rep_val (v : Int) (n : Nat) (hn : n ≤ 1000) : repD (.list [.int v]) (.int (n : Int)) = some ((tabI n fun _ => v).map .int) := by
  have e : (tabI n fun _ => v).map PyData.int = List.replicate n (.int v) := by
    unfold tabI
    rw [List.map_map]
    refine List.eq_replicate_iff.mpr ⟨by simp, fun b hb => ?_⟩
    obtain ⟨i, _, rfl⟩ := List.mem_map.mp hb
    rfl
  rw [e]
  refine (if_pos ⟨in63 (by omega), by
    rw [show ((n : Int)).toNat = n from rfl]
    show 1 * n ≤ sizeLine
    exact Nat.le_trans (by omega) (show 1000 ≤ sizeLine by decide)⟩).trans ?_
  rw [show ((n : Int)).toNat = n from rfl]
  congr 1
  clear e
  induction n with
  | zero => rfl
  | succ n ih => rw [List.replicate_succ, List.flatten_cons, ih (by omega)]; rfl
section
variable {t : Nat}
theorem over_inner (c : Nat → Int) (s : Nat × Nat) (h1 : s.1 < s.2) (h2 : s.2 ≤ t) (ht : t ≤ 500) (s0 s1 s5 : S) : ∃ t5, loopFor (forB (gN 5) b1_reach_over) (rngL ((s.1 + 1 : Nat) : Int) (s.2 : Int)) [s0, s1, .own (.lst ((tabI (t + 1) c).map .int)), .val (.int (s.1 : Int)), .val (.int (s.2 : Int)), s5] = .nx [s0, s1, .own (.lst ((tabI (t + 1) (overF c s)).map .int)), .val (.int (s.1 : Int)), .val (.int (s.2 : Int)), t5] := by
  rw [rng_nat2]
  refine for_inv (Post := fun o => ∃ t5, o = .nx [s0, s1, .own (.lst ((tabI (t + 1) (overF c s)).map .int)), .val (.int (s.1 : Int)), .val (.int (s.2 : Int)), t5])
    (fun j ρ => ∃ t5, ρ = [s0, s1, .own (.lst ((tabI (t + 1) fun p => if s.1 < p ∧ p < s.1 + 1 + j then min (c p) (s.2 : Int) else c p).map .int)), .val (.int (s.1 : Int)), .val (.int (s.2 : Int)), t5]) ⟨s5, by
      congr 4
      rw [tabI_congr (d := c) fun i _ => if_neg (by omega)]⟩ ?_ ?_
  · rintro j d ρ hd ⟨t5, rfl⟩
    rw [List.getElem?_map] at hd
    obtain ⟨i, hi, rfl⟩ := Option.map_eq_some_iff.mp hd
    obtain ⟨hj, e⟩ := List.getElem?_eq_some_iff.mp hi
    rw [List.getElem_range] at e
    rw [List.length_range] at hj
    subst e
    have gx : ixD (.list ((tabI (t + 1) fun p => if s.1 < p ∧ p < s.1 + 1 + j then min (c p) (s.2 : Int) else c p).map .int)) (.int ((s.1 + 1 + j : Nat) : Int)) = some (.int (c (s.1 + 1 + j))) := ixD_il (by omega) (by
      rw [show (((s.1 + 1 + j : Nat) : Int)).toNat = s.1 + 1 + j by omega, tabI_get (by omega), if_neg (by omega)])
    have mn : minD [.int (c (s.1 + 1 + j)), .int (s.2 : Int)] = some (.int (min (c (s.1 + 1 + j)) (s.2 : Int))) := rfl
    have st := setL_int (ms := tabI (t + 1) fun p => if s.1 < p ∧ p < s.1 + 1 + j then min (c p) (s.2 : Int) else c p) (i := ((s.1 + 1 + j : Nat) : Int)) (v := min (c (s.1 + 1 + j)) (s.2 : Int)) (by omega) (by rw [tabI_len]; omega)
    rw [show (((s.1 + 1 + j : Nat) : Int)).toNat = s.1 + 1 + j by omega, tabI_set] at st
    have cg : (tabI (t + 1) fun q => if q = s.1 + 1 + j then min (c (s.1 + 1 + j)) (s.2 : Int) else if s.1 < q ∧ q < s.1 + 1 + j then min (c q) (s.2 : Int) else c q) = tabI (t + 1) fun p => if s.1 < p ∧ p < s.1 + 1 + (j + 1) then min (c p) (s.2 : Int) else c p := tabI_congr fun q _ => by
      by_cases e : q = s.1 + 1 + j
      · subst e; rw [if_pos rfl, if_pos (by omega)]
      · rw [if_neg e]
        by_cases f : s.1 < q ∧ q < s.1 + 1 + j
        · rw [if_pos f, if_pos (by omega)]
        · rw [if_neg f, if_neg (by omega)]
    rw [cg] at st
    generalize (tabI (t + 1) fun p => if s.1 < p ∧ p < s.1 + 1 + j then min (c p) (s.2 : Int) else c p).map PyData.int = T0 at *
    generalize (tabI (t + 1) fun p => if s.1 < p ∧ p < s.1 + 1 + (j + 1) then min (c p) (s.2 : Int) else c p).map PyData.int = T1 at *
    generalize min (c (s.1 + 1 + j)) (s.2 : Int) = v at *
    generalize c (s.1 + 1 + j) = u at *
    generalize ((s.1 + 1 + j : Nat) : Int) = q at *
    have tn : forB (gN 5) b1_reach_over (.int q) [s0, s1, .own (.lst T0), .val (.int (s.1 : Int)), .val (.int (s.2 : Int)), t5] = .nx [s0, s1, .own (.lst T1), .val (.int (s.1 : Int)), .val (.int (s.2 : Int)), .val (.int q)] := by
      simp [b1_reach_over, gx, mn, st]
    rw [tn]
    exact ⟨_, rfl⟩
  · rintro ρ ⟨t5, rfl⟩
    rw [List.length_map, List.length_range]
    refine ⟨t5, ?_⟩
    congr 5
    rw [tabI_congr (d := overF c s) fun i _ => by
      unfold overF
      by_cases f : s.1 < i ∧ i < s.2
      · rw [if_pos f, if_pos (by omega)]
      · rw [if_neg f, if_neg (by omega)]]
theorem back_inner (c : Nat → Int) (s : Nat × Nat) (h1 : s.1 < s.2) (h2 : s.2 ≤ t) (ht : t ≤ 500) (s0 s1 s5 : S) : ∃ t5, loopFor (forB (gN 5) b1_reach_back) (rngL ((s.1 + 1 : Nat) : Int) (s.2 : Int)) [s0, s1, .own (.lst ((tabI (t + 1) c).map .int)), .val (.int (s.1 : Int)), .val (.int (s.2 : Int)), s5] = .nx [s0, s1, .own (.lst ((tabI (t + 1) (backF c s)).map .int)), .val (.int (s.1 : Int)), .val (.int (s.2 : Int)), t5] := by
  rw [rng_nat2]
  refine for_inv (Post := fun o => ∃ t5, o = .nx [s0, s1, .own (.lst ((tabI (t + 1) (backF c s)).map .int)), .val (.int (s.1 : Int)), .val (.int (s.2 : Int)), t5])
    (fun j ρ => ∃ t5, ρ = [s0, s1, .own (.lst ((tabI (t + 1) fun p => if s.1 < p ∧ p < s.1 + 1 + j then max (c p) (s.1 : Int) else c p).map .int)), .val (.int (s.1 : Int)), .val (.int (s.2 : Int)), t5]) ⟨s5, by
      congr 4
      rw [tabI_congr (d := c) fun i _ => if_neg (by omega)]⟩ ?_ ?_
  · rintro j d ρ hd ⟨t5, rfl⟩
    rw [List.getElem?_map] at hd
    obtain ⟨i, hi, rfl⟩ := Option.map_eq_some_iff.mp hd
    obtain ⟨hj, e⟩ := List.getElem?_eq_some_iff.mp hi
    rw [List.getElem_range] at e
    rw [List.length_range] at hj
    subst e
    have gx : ixD (.list ((tabI (t + 1) fun p => if s.1 < p ∧ p < s.1 + 1 + j then max (c p) (s.1 : Int) else c p).map .int)) (.int ((s.1 + 1 + j : Nat) : Int)) = some (.int (c (s.1 + 1 + j))) := ixD_il (by omega) (by
      rw [show (((s.1 + 1 + j : Nat) : Int)).toNat = s.1 + 1 + j by omega, tabI_get (by omega), if_neg (by omega)])
    have mn : maxD [.int (c (s.1 + 1 + j)), .int (s.1 : Int)] = some (.int (max (c (s.1 + 1 + j)) (s.1 : Int))) := rfl
    have st := setL_int (ms := tabI (t + 1) fun p => if s.1 < p ∧ p < s.1 + 1 + j then max (c p) (s.1 : Int) else c p) (i := ((s.1 + 1 + j : Nat) : Int)) (v := max (c (s.1 + 1 + j)) (s.1 : Int)) (by omega) (by rw [tabI_len]; omega)
    rw [show (((s.1 + 1 + j : Nat) : Int)).toNat = s.1 + 1 + j by omega, tabI_set] at st
    have cg : (tabI (t + 1) fun q => if q = s.1 + 1 + j then max (c (s.1 + 1 + j)) (s.1 : Int) else if s.1 < q ∧ q < s.1 + 1 + j then max (c q) (s.1 : Int) else c q) = tabI (t + 1) fun p => if s.1 < p ∧ p < s.1 + 1 + (j + 1) then max (c p) (s.1 : Int) else c p := tabI_congr fun q _ => by
      by_cases e : q = s.1 + 1 + j
      · subst e; rw [if_pos rfl, if_pos (by omega)]
      · rw [if_neg e]
        by_cases f : s.1 < q ∧ q < s.1 + 1 + j
        · rw [if_pos f, if_pos (by omega)]
        · rw [if_neg f, if_neg (by omega)]
    rw [cg] at st
    generalize (tabI (t + 1) fun p => if s.1 < p ∧ p < s.1 + 1 + j then max (c p) (s.1 : Int) else c p).map PyData.int = T0 at *
    generalize (tabI (t + 1) fun p => if s.1 < p ∧ p < s.1 + 1 + (j + 1) then max (c p) (s.1 : Int) else c p).map PyData.int = T1 at *
    generalize max (c (s.1 + 1 + j)) (s.1 : Int) = v at *
    generalize c (s.1 + 1 + j) = u at *
    generalize ((s.1 + 1 + j : Nat) : Int) = q at *
    have tn : forB (gN 5) b1_reach_back (.int q) [s0, s1, .own (.lst T0), .val (.int (s.1 : Int)), .val (.int (s.2 : Int)), t5] = .nx [s0, s1, .own (.lst T1), .val (.int (s.1 : Int)), .val (.int (s.2 : Int)), .val (.int q)] := by
      simp [b1_reach_back, gx, mn, st]
    rw [tn]
    exact ⟨_, rfl⟩
  · rintro ρ ⟨t5, rfl⟩
    rw [List.length_map, List.length_range]
    refine ⟨t5, ?_⟩
    congr 5
    rw [tabI_congr (d := backF c s) fun i _ => by
      unfold backF
      by_cases f : s.1 < i ∧ i < s.2
      · rw [if_pos f, if_pos (by omega)]
      · rw [if_neg f, if_neg (by omega)]]
theorem over_outer (ht : t ≤ 500) (s0 s1 : S) : ∀ (E : List (Nat × Nat)) (c : Nat → Int) (s3 s4 s5 : S), (∀ s ∈ E, s.1 < s.2 ∧ s.2 ≤ t) → ∃ t3 t4 t5, loopFor (forB (gT (gC (gN 3) (gC (gN 4) gNil'))) b2_reach_over) (E.map npD) [s0, s1, .own (.lst ((tabI (t + 1) c).map .int)), s3, s4, s5] = .nx [s0, s1, .own (.lst ((tabI (t + 1) (E.foldl overF c)).map .int)), t3, t4, t5]
  | [], c, s3, s4, s5, _ => ⟨s3, s4, s5, rfl⟩
  | s :: E, c, s3, s4, s5, h => by
    obtain ⟨h1, h2⟩ := h s List.mem_cons_self
    obtain ⟨u5, li⟩ := over_inner c s h1 h2 ht s0 s1 s5
    obtain ⟨t3, t4, t5, ih⟩ := over_outer ht s0 s1 E (overF c s) (.val (.int (s.1 : Int))) (.val (.int (s.2 : Int))) u5 fun u hu => h u (List.mem_cons_of_mem _ hu)
    have rd := rngM2_ok (in62 (i := ((s.1 + 1 : Nat) : Int)) (by omega)) (in62 (i := (s.2 : Int)) (by omega))
    have e1 : ((s.1 + 1 : Nat) : Int) = (s.1 : Int) + 1 := by omega
    rw [e1] at rd li
    have tn : forB (gT (gC (gN 3) (gC (gN 4) gNil'))) b2_reach_over (.tuple [.int (s.1 : Int), .int (s.2 : Int)]) [s0, s1, .own (.lst ((tabI (t + 1) c).map .int)), s3, s4, s5] = .nx [s0, s1, .own (.lst ((tabI (t + 1) (overF c s)).map .int)), .val (.int (s.1 : Int)), .val (.int (s.2 : Int)), u5] := by
      simp only [forB_ap]
      simp [b2_reach_over, rd, li, -forB_ap]
    rw [List.map_cons]
    show ∃ t3 t4 t5, loopFor _ (.tuple [.int (s.1 : Int), .int (s.2 : Int)] :: E.map npD) _ = _
    rw [loop_nx tn, ih]
    exact ⟨t3, t4, t5, rfl⟩
theorem back_outer (ht : t ≤ 500) (s0 s1 : S) : ∀ (E : List (Nat × Nat)) (c : Nat → Int) (s3 s4 s5 : S), (∀ s ∈ E, s.1 < s.2 ∧ s.2 ≤ t) → ∃ t3 t4 t5, loopFor (forB (gT (gC (gN 3) (gC (gN 4) gNil'))) b2_reach_back) (E.map npD) [s0, s1, .own (.lst ((tabI (t + 1) c).map .int)), s3, s4, s5] = .nx [s0, s1, .own (.lst ((tabI (t + 1) (E.foldl backF c)).map .int)), t3, t4, t5]
  | [], c, s3, s4, s5, _ => ⟨s3, s4, s5, rfl⟩
  | s :: E, c, s3, s4, s5, h => by
    obtain ⟨h1, h2⟩ := h s List.mem_cons_self
    obtain ⟨u5, li⟩ := back_inner c s h1 h2 ht s0 s1 s5
    obtain ⟨t3, t4, t5, ih⟩ := back_outer ht s0 s1 E (backF c s) (.val (.int (s.1 : Int))) (.val (.int (s.2 : Int))) u5 fun u hu => h u (List.mem_cons_of_mem _ hu)
    have rd := rngM2_ok (in62 (i := ((s.1 + 1 : Nat) : Int)) (by omega)) (in62 (i := (s.2 : Int)) (by omega))
    have e1 : ((s.1 + 1 : Nat) : Int) = (s.1 : Int) + 1 := by omega
    rw [e1] at rd li
    have tn : forB (gT (gC (gN 3) (gC (gN 4) gNil'))) b2_reach_back (.tuple [.int (s.1 : Int), .int (s.2 : Int)]) [s0, s1, .own (.lst ((tabI (t + 1) c).map .int)), s3, s4, s5] = .nx [s0, s1, .own (.lst ((tabI (t + 1) (backF c s)).map .int)), .val (.int (s.1 : Int)), .val (.int (s.2 : Int)), u5] := by
      simp only [forB_ap]
      simp [b2_reach_back, rd, li, -forB_ap]
    rw [List.map_cons]
    show ∃ t3 t4 t5, loopFor _ (.tuple [.int (s.1 : Int), .int (s.2 : Int)] :: E.map npD) _ = _
    rw [loop_nx tn, ih]
    exact ⟨t3, t4, t5, rfl⟩
theorem reach_over_eq (ht : t ≤ 500) (E : List (Nat × Nat)) (h : ∀ s ∈ E, s.1 < s.2 ∧ s.2 ≤ t) : f_reach_over [.list (E.map npD), .int (t : Int)] = .ok (.list ((tabI (t + 1) (E.foldl overF fun _ => (t : Int) + 1)).map .int)) := by
  have rz := rep_val ((t : Int) + 1) (t + 1) (by omega)
  have e : ((t + 1 : Nat) : Int) = (t : Int) + 1 := by omega
  rw [e] at rz
  obtain ⟨t3, t4, t5, lp⟩ := over_outer ht (.val (.list (E.map npD))) (.val (.int (t : Int))) E (fun _ => (t : Int) + 1) .none .none .none h
  simp [f_reach_over, mFn, g_reach_over, start', rz, lp, -forB_ap]
theorem reach_back_eq (ht : t ≤ 500) (E : List (Nat × Nat)) (h : ∀ s ∈ E, s.1 < s.2 ∧ s.2 ≤ t) : f_reach_back [.list (E.map npD), .int (t : Int)] = .ok (.list ((tabI (t + 1) (E.foldl backF fun _ => -1)).map .int)) := by
  have rz := rep_val (-1) (t + 1) (by omega)
  have e : ((t + 1 : Nat) : Int) = (t : Int) + 1 := by omega
  rw [e] at rz
  obtain ⟨t3, t4, t5, lp⟩ := back_outer ht (.val (.list (E.map npD))) (.val (.int (t : Int))) E (fun _ => -1) .none .none .none h
  simp [f_reach_back, mFn, g_reach_back, start', rz, lp, -forB_ap]
end
end Lw

set_option Elab.async false
set_option linter.all false
set_option maxRecDepth 100000
set_option maxHeartbeats 4000000
/-! Sg: strong_by, strong_stretches -/
namespace Lw
open PySem L2 Dn
section
variable {t : Nat}
theorem sb_turn {E : List (Nat × Nat)} (ht : t ≤ 500) (hE : ∀ s ∈ E, s.1 < s.2 ∧ s.2 ≤ t) {s : Nat × Nat} (hs : s ∈ E) {acc : List (Nat × Nat)} (hl : acc.length ≤ 100000) (s0 s1 s5 s6 : S) :
    forB (gT (gC (gN 5) (gC (gN 6) gNil'))) b1_strong_by (npD s) [s0, s1, .val (.list ((tabI (t + 1) (E.foldl overF fun _ => (t : Int) + 1)).map .int)), .val (.list ((tabI (t + 1) (E.foldl backF fun _ => -1)).map .int)), .own (.lst (acc.map npD)), s5, s6] =
    .nx [s0, s1, .val (.list ((tabI (t + 1) (E.foldl overF fun _ => (t : Int) + 1)).map .int)), .val (.list ((tabI (t + 1) (E.foldl backF fun _ => -1)).map .int)), .own (.lst ((acc ++ [s].filter fun s => decide (NoOv E s)).map npD)), .val (.int s.1), .val (.int s.2)] := by
  obtain ⟨a, c⟩ := s
  obtain ⟨h1, h2⟩ := hE _ hs
  have h1 : a < c := h1
  have h2 : c ≤ t := h2
  have x1 : ixD (.list ((tabI (t + 1) (E.foldl overF fun _ => (t : Int) + 1)).map .int)) (.int (a : Int)) = some (.int ((E.foldl overF fun _ => (t : Int) + 1) a)) := ixD_il (by omega) (by rw [show (a : Int).toNat = a by omega]; exact tabI_get (by omega))
  have x2 : ixD (.list ((tabI (t + 1) (E.foldl backF fun _ => -1)).map .int)) (.int (c : Int)) = some (.int ((E.foldl backF fun _ => -1) c)) := ixD_il (by omega) (by rw [show (c : Int).toNat = c by omega]; exact tabI_get (by omega))
  have kk := keep_iff (t := t) (a := a) (k := c - a - 1) (by omega) E
  rw [show a + (c - a - 1) + 1 = c by omega, show ((a + (c - a - 1) : Nat) : Int) = (c : Int) - 1 by omega] at kk
  have ap := appM_ok (ds := acc.map npD) (e := .tuple [.int (a : Int), .int (c : Int)]) (by rw [List.length_map]; omega)
  generalize (tabI (t + 1) (E.foldl overF fun _ => (t : Int) + 1)).map PyData.int = T1 at *
  generalize (tabI (t + 1) (E.foldl backF fun _ => -1)).map PyData.int = T2 at *
  generalize (E.foldl overF fun _ => (t : Int) + 1) a = o at *
  generalize (E.foldl backF fun _ => -1) c = b at *
  show forB _ _ (.tuple [.int (a : Int), .int (c : Int)]) _ = _
  by_cases n : NoOv E (a, c)
  · obtain ⟨k1, k2⟩ := kk.mpr n
    have k1 : (c : Int) ≤ o := by omega
    have fl : [(a, c)].filter (fun s => decide (NoOv E s)) = [(a, c)] := by simp [n]
    rw [fl, List.map_append, show [(a, c)].map npD = [.tuple [.int (a : Int), .int (c : Int)]] from rfl]
    generalize acc.map npD = A at *
    generalize (c : Int) = c' at *
    generalize (a : Int) = a' at *
    simp [b1_strong_by, x1, x2, k1, k2, ap, -appM_ok]
  · have fl : [(a, c)].filter (fun s => decide (NoOv E s)) = [] := by simp [n]
    rw [fl, List.append_nil]
    by_cases k1 : (c : Int) ≤ o
    · have k2 : ¬ (b ≤ (a : Int)) := fun k2 => n (kk.mp ⟨by omega, k2⟩)
      generalize (c : Int) = c' at *
      generalize (a : Int) = a' at *
      simp [b1_strong_by, x1, x2, k1, k2]
    · generalize (c : Int) = c' at *
      generalize (a : Int) = a' at *
      simp [b1_strong_by, x1, x2, k1]
theorem sb_loop {E : List (Nat × Nat)} (ht : t ≤ 500) (hE : ∀ s ∈ E, s.1 < s.2 ∧ s.2 ≤ t) (hz : E.length ≤ 90000) (s0 s1 : S) : ∃ s5 s6, loopFor (forB (gT (gC (gN 5) (gC (gN 6) gNil'))) b1_strong_by) (E.map npD) [s0, s1, .val (.list ((tabI (t + 1) (E.foldl overF fun _ => (t : Int) + 1)).map .int)), .val (.list ((tabI (t + 1) (E.foldl backF fun _ => -1)).map .int)), .own (.lst []), .none, .none] =
    .nx [s0, s1, .val (.list ((tabI (t + 1) (E.foldl overF fun _ => (t : Int) + 1)).map .int)), .val (.list ((tabI (t + 1) (E.foldl backF fun _ => -1)).map .int)), .own (.lst ((strL E).map npD)), s5, s6] := by
  refine for_inv (Post := fun o => ∃ s5 s6, o = .nx [s0, s1, .val (.list ((tabI (t + 1) (E.foldl overF fun _ => (t : Int) + 1)).map .int)), .val (.list ((tabI (t + 1) (E.foldl backF fun _ => -1)).map .int)), .own (.lst ((strL E).map npD)), s5, s6])
    (fun j ρ => ∃ s5 s6, ρ = [s0, s1, .val (.list ((tabI (t + 1) (E.foldl overF fun _ => (t : Int) + 1)).map .int)), .val (.list ((tabI (t + 1) (E.foldl backF fun _ => -1)).map .int)), .own (.lst (((E.take j).filter fun s => decide (NoOv E s)).map npD)), s5, s6]) ⟨_, _, rfl⟩ ?_ ?_
  · rintro j d ρ hd ⟨s5, s6, rfl⟩
    rw [List.getElem?_map] at hd
    obtain ⟨s, hs, rfl⟩ := Option.map_eq_some_iff.mp hd
    have hj := (List.getElem?_eq_some_iff.mp hs).1
    have fl := List.length_filter_le (fun s => decide (NoOv E s)) (E.take j)
    rw [List.length_take] at fl
    rw [sb_turn ht hE (List.mem_of_getElem? hs) (by omega)]
    refine ⟨.val (.int s.1), .val (.int s.2), ?_⟩
    rw [List.take_add_one, hs, List.filter_append]
    rfl
  · rintro ρ ⟨s5, s6, rfl⟩
    rw [List.length_map, List.take_length]
    exact ⟨_, _, rfl⟩
end
section
variable {rs : List Int} (R : Line rs) (hz : rs.length ≤ 100)
include R hz
theorem strong_by_eq : f_strong_by [.list (rs.map .int)] = .ok (.list ((strL (shL rs.length fun i => rs.getD i 0)).map npD)) := by
  have K := line_rk R
  have se := shared_eq (rs := rs) (by omega)
  have st : ∀ s ∈ shL rs.length (fun i => rs.getD i 0), s.1 < s.2 ∧ s.2 ≤ rs.length := fun s hs => shL_st K hs
  have ln : (shL rs.length fun i => rs.getD i 0).length ≤ 90000 := by
    have h1 : ∀ n, ((List.range n).flatMap fun a => ((List.range (rs.length - a)).filter fun k => decide (hi (fun i => rs.getD i 0) a k - lo (fun i => rs.getD i 0) a k = k)).map fun k => (a, a + k + 1)).length ≤ n * rs.length := fun n => by
      induction n with
      | zero => simp
      | succ n ih =>
        rw [List.range_succ, List.flatMap_append, List.length_append, Nat.add_mul]
        have lf := List.length_filter_le (fun k => decide (hi (fun i => rs.getD i 0) n k - lo (fun i => rs.getD i 0) n k = k)) (List.range (rs.length - n))
        rw [List.length_range] at lf
        simp only [List.flatMap_cons, List.flatMap_nil, List.append_nil, List.length_map]
        omega
    have := h1 rs.length
    have : rs.length * rs.length ≤ 100 * 100 := Nat.mul_le_mul (by omega) (by omega)
    unfold shL
    omega
  have ro := reach_over_eq (t := rs.length) (by omega) _ st
  have rb := reach_back_eq (t := rs.length) (by omega) _ st
  have ll : lenD [.list (rs.map .int)] = some (.int (rs.length : Int)) := by rw [lenD_l, List.length_map]
  have lp := fun s0 s1 => sb_loop (t := rs.length) (by omega) st ln s0 s1
  generalize (tabI (rs.length + 1) ((shL rs.length fun i => rs.getD i 0).foldl overF fun _ => (rs.length : Int) + 1)).map PyData.int = T1 at *
  generalize (tabI (rs.length + 1) ((shL rs.length fun i => rs.getD i 0).foldl backF fun _ => -1)).map PyData.int = T2 at *
  generalize (strL (shL rs.length fun i => rs.getD i 0)).map npD = ST at *
  generalize (shL rs.length fun i => rs.getD i 0).map npD = SH at *
  generalize (rs.length : Int) = t' at *
  generalize rs.map PyData.int = RS at *
  obtain ⟨s5, s6, lp⟩ := lp (.val (.list RS)) (.val (.list SH))
  simp [f_strong_by, mFn, g_strong_by, start', se, ll, ro, rb, lp, -forB_ap, -lenD_l]
end
end Lw

set_option Elab.async false
set_option linter.all false
set_option maxRecDepth 100000
set_option maxHeartbeats 4000000
/-! Hp: the hold of a stretch, plain -/
namespace Dn
open PySem L2
section
variable {t : Nat} {r q : Nat → Int}
/-- q tells the place of each rank -/
structure Inv2 (t : Nat) (r q : Nat → Int) : Prop where
  k : Rk t r
  j : Rk t q
  rq : ∀ p, p < t → q (r p).toNat = p
  qr : ∀ v : Nat, v < t → r (q v).toNat = v
/-- the next try from (f, b) -/
def hF (r q : Nat → Int) (f b : Nat) : Nat := (lo q (lo r f (b - f - 1)).toNat (hi r f (b - f - 1) - lo r f (b - f - 1)).toNat).toNat
def hB (r q : Nat → Int) (f b : Nat) : Nat := (hi q (lo r f (b - f - 1)).toNat (hi r f (b - f - 1) - lo r f (b - f - 1)).toNat).toNat + 1
theorem hull {f b : Nat} (I : Inv2 t r q) (h : f < b) (hb : b ≤ t) :
    (0 ≤ lo r f (b - f - 1) ∧ lo r f (b - f - 1) ≤ hi r f (b - f - 1) ∧ hi r f (b - f - 1) < t) ∧ hF r q f b ≤ f ∧ b ≤ hB r q f b ∧ hB r q f b ≤ t ∧
    (hi r f (b - f - 1) - lo r f (b - f - 1) ≠ ((b - f - 1 : Nat) : Int) → b - f < hB r q f b - hF r q f b) ∧ (∀ a c, Cv t r a c → a ≤ f → b ≤ c → a ≤ hF r q f b ∧ hB r q f b ≤ c) ∧
    (0 ≤ lo q (lo r f (b - f - 1)).toNat (hi r f (b - f - 1) - lo r f (b - f - 1)).toNat) ∧ 0 ≤ hi q (lo r f (b - f - 1)).toNat (hi r f (b - f - 1) - lo r f (b - f - 1)).toNat := by
  unfold hF hB
  obtain ⟨i, hi1, hi2⟩ := lo_at (r := r) (a := f) (b - f - 1)
  obtain ⟨j, hj1, hj2⟩ := hi_at (r := r) (a := f) (b - f - 1)
  have lo1 := fun p => lo_le (r := r) (a := f) (b - f - 1) p
  have hi3 := fun p => le_hi (r := r) (a := f) (b - f - 1) p
  have cvi := cv_iff I.k (a := f) (k := b - f - 1) (by omega)
  generalize lo r f (b - f - 1) = L at *
  generalize hi r f (b - f - 1) = H at *
  have ri := I.k.rng (f + i) (by omega)
  have rj := I.k.rng (f + j) (by omega)
  have LH : L ≤ H := by have := lo1 0 (by omega); have := hi3 0 (by omega); omega
  obtain ⟨i', hi1', hi2'⟩ := lo_at (r := q) (a := L.toNat) (H - L).toNat
  obtain ⟨j', hj1', hj2'⟩ := hi_at (r := q) (a := L.toNat) (H - L).toNat
  have lo1' := fun p => lo_le (r := q) (a := L.toNat) (H - L).toNat p
  have hi3' := fun p => le_hi (r := q) (a := L.toNat) (H - L).toNat p
  generalize lo q L.toNat (H - L).toNat = F at *
  generalize hi q L.toNat (H - L).toNat = B at *
  have qi := I.j.rng (L.toNat + i') (by omega)
  have qj := I.j.rng (L.toNat + j') (by omega)
  have within : ∀ p, f ≤ p → p < b → F ≤ p ∧ (p : Int) ≤ B := fun p h1 h2 => by
    have a1 := lo1 (p - f) (by omega)
    have a2 := hi3 (p - f) (by omega)
    rw [show f + (p - f) = p by omega] at a1 a2
    have rp := I.k.rng p (by omega)
    have e := I.rq p (by omega)
    have b1 := lo1' ((r p).toNat - L.toNat) (by omega)
    have b2 := hi3' ((r p).toNat - L.toNat) (by omega)
    rw [show L.toNat + ((r p).toNat - L.toNat) = (r p).toNat by omega, e] at b1 b2
    exact ⟨b1, b2⟩
  have w1 := within f (Nat.le_refl _) h
  have w2 := within (b - 1) (by omega) (by omega)
  refine ⟨⟨by omega, LH, by omega⟩, by omega, by omega, by omega, fun ne => ?_, fun a c C ha hc => ?_, by omega, by omega⟩
  · refine Nat.lt_of_le_of_ne (by omega) fun e => ne (cvi.mpr ?_)
    rw [show f + (b - f - 1) + 1 = b by omega]
    refine ⟨h, hb, fun x y p x1 x2 y1 y2 pt q1 q2 => ?_⟩
    have a1 := lo1 (x - f) (by omega)
    have a2 := hi3 (y - f) (by omega)
    rw [show f + (x - f) = x by omega] at a1
    rw [show f + (y - f) = y by omega] at a2
    have rp := I.k.rng p pt
    have e2 := I.rq p pt
    have b1 := lo1' ((r p).toNat - L.toNat) (by omega)
    have b2 := hi3' ((r p).toNat - L.toNat) (by omega)
    rw [show L.toNat + ((r p).toNat - L.toNat) = (r p).toNat by omega, e2] at b1 b2
    omega
  · have key : ∀ v : Nat, L.toNat ≤ v → (v : Int) ≤ H → a ≤ (q v).toNat ∧ (q v).toNat < c := fun v v1 v2 => by
      have e := I.qr v (by omega)
      have qv := I.j.rng v (by omega)
      refine C.2.2 (f + i) (f + j) (q v).toNat (by omega) (by omega) (by omega) (by omega) (by omega) (by omega) (by omega)
    have k1 := key (L.toNat + i') (by omega) (by omega)
    have k2 := key (L.toNat + j') (by omega) (by omega)
    omega
end
/-- the least and the greatest of a slice -/
theorem sl_min {xs : List Int} {a b : Nat} (h : a < b) (hb : b ≤ xs.length) : minUD [.list (cutL (xs.map .int) (some (a : Int)) (some (b : Int)))] = some (.int (lo (fun i => xs.getD i 0) a (b - a - 1))) ∧
    maxD [.list (cutL (xs.map .int) (some (a : Int)) (some (b : Int)))] = some (.int (hi (fun i => xs.getD i 0) a (b - a - 1))) := by
  have e : cutL (xs.map PyData.int) (some (a : Int)) (some (b : Int)) = (((xs.drop a).take (b - a)).map .int) := by rw [cutL_both, ← List.map_drop, ← List.map_take]
  rw [e]
  have len : ((xs.drop a).take (b - a)).length = b - a := by rw [List.length_take, List.length_drop]; omega
  have at' : ∀ i, i < b - a → ((xs.drop a).take (b - a))[i]? = some (xs.getD (a + i) 0) := fun i hi => by
    rw [List.getElem?_take_of_lt hi, List.getElem?_drop, List.getD_eq_getElem?_getD, List.getElem?_eq_getElem (by omega)]; rfl
  have mem : ∀ x, x ∈ (xs.drop a).take (b - a) ↔ ∃ i, i < b - a ∧ x = xs.getD (a + i) 0 := fun x => by
    constructor
    · intro hx
      obtain ⟨i, hi, rfl⟩ := List.getElem_of_mem hx
      rw [len] at hi
      have := at' i hi
      rw [List.getElem?_eq_getElem (by rw [len]; exact hi)] at this
      exact ⟨i, hi, Option.some.inj this⟩
    · rintro ⟨i, hi, rfl⟩
      exact List.mem_of_getElem? (at' i hi)
  obtain ⟨i, i1, i2⟩ := lo_at (r := fun i => xs.getD i 0) (a := a) (b - a - 1)
  obtain ⟨j, j1, j2⟩ := hi_at (r := fun i => xs.getD i 0) (a := a) (b - a - 1)
  have l1 := fun p => lo_le (r := fun i => xs.getD i 0) (a := a) (b - a - 1) p
  have h1 := fun p => le_hi (r := fun i => xs.getD i 0) (a := a) (b - a - 1) p
  cases q : (xs.drop a).take (b - a) with
  | nil => rw [q] at len; simp at len; omega
  | cons n ns =>
    rw [q] at mem
    have mn := minL_le ns n
    have mm := minL_mem ns n
    have xn := maxL_ge ns n
    have xm := maxL_mem ns n
    refine ⟨?_, ?_⟩
    · show (ints? ((n :: ns).map PyData.int)).bind _ = _
      rw [ints?_map]
      show some (PyData.int (minL n ns)) = _
      congr 2
      have u : minL n ns ∈ n :: ns := by rcases mm with h | h <;> simp [h]
      have v : lo (fun i => xs.getD i 0) a (b - a - 1) ∈ n :: ns := (mem _).mpr ⟨i, by omega, i2⟩
      obtain ⟨p, hp, e⟩ := (mem _).mp u
      have := l1 p (by omega)
      rcases List.mem_cons.mp v with v | v
      · have := mn.1; omega
      · have := mn.2 _ v; omega
    · show (ints? ((n :: ns).map PyData.int)).bind _ = _
      rw [ints?_map]
      show some (PyData.int (maxL n ns)) = _
      congr 2
      have u : maxL n ns ∈ n :: ns := by rcases xm with h | h <;> simp [h]
      have v : hi (fun i => xs.getD i 0) a (b - a - 1) ∈ n :: ns := (mem _).mpr ⟨j, by omega, j2⟩
      obtain ⟨p, hp, e⟩ := (mem _).mp u
      have := h1 p (by omega)
      rcases List.mem_cons.mp v with v | v
      · have := xn.1; omega
      · have := xn.2 _ v; omega
/-- the line of the places of the ranks -/
theorem inv_line {rs : List Int} (R : Line rs) : ∃ bk : List Int, Line bk ∧ bk.length = rs.length ∧ (∀ p, p < rs.length → bk.getD (rs.getD p 0).toNat 0 = p) ∧ ∀ v, v < rs.length → rs.getD (bk.getD v 0).toNat 0 = v := by
  have nd := R.nodup_iff.mpr (idx0_nodup _)
  have K := line_rk R
  have sur : ∀ v, v < rs.length → ∃ i, i < rs.length ∧ rs.getD i 0 = (v : Int) := fun v hv => K.sur v (by omega) (by omega)
  have hx : ∃ g : Nat → Nat, ∀ v, v < rs.length → g v < rs.length ∧ rs.getD (g v) 0 = (v : Int) := by
    refine ⟨fun v => if h : v < rs.length then (sur v h).choose else 0, fun v hv => ?_⟩
    simp only [hv, dite_true]
    exact (sur v hv).choose_spec
  obtain ⟨g, hg⟩ := hx
  have at' : ∀ v, v < rs.length → ((List.range rs.length).map fun v => (g v : Int)).getD v 0 = g v := fun v hv => by
    rw [List.getD_eq_getElem?_getD, List.getElem?_map, List.getElem?_range hv]; rfl
  have len : ((List.range rs.length).map fun v => (g v : Int)).length = rs.length := by simp
  have gi : ∀ p, p < rs.length → g (rs.getD p 0).toNat = p := fun p hp => by
    have r1 := K.rng p hp
    have := hg (rs.getD p 0).toNat (by omega)
    refine K.inj _ _ this.1 hp ?_
    show rs.getD _ 0 = rs.getD _ 0
    rw [this.2]
    omega
  refine ⟨(List.range rs.length).map fun v => (g v : Int), ?_, len, fun p hp => ?_, fun v hv => ?_⟩
  · unfold Line
    rw [len]
    refine (List.perm_ext_iff_of_nodup ?_ (idx0_nodup _)).mpr fun x => ?_
    · rw [List.Nodup, List.pairwise_map]
      refine List.Pairwise.imp_of_mem (fun {a b} ha hb ne e => ?_) (List.nodup_range (n := rs.length))
      rw [List.mem_range] at ha hb
      have e : g a = g b := by omega
      have h1 := (hg a ha).2
      rw [e, (hg b hb).2] at h1
      exact ne (by omega)
    · rw [idx0_mem, List.mem_map]
      constructor
      · rintro ⟨v, hv, rfl⟩
        have := hg v (List.mem_range.mp hv)
        omega
      · rintro ⟨h0, h1⟩
        have r1 := K.rng x.toNat (by omega)
        refine ⟨(rs.getD x.toNat 0).toNat, List.mem_range.mpr (by omega), ?_⟩
        rw [gi x.toNat (by omega)]
        omega
  · have r1 := K.rng p hp
    rw [at' _ (by omega), gi p hp]
  · rw [at' v hv]
    exact (hg v hv).2
theorem inv2_of {rs bk : List Int} (R : Line rs) (B : Line bk) (hl : bk.length = rs.length) (h1 : ∀ p, p < rs.length → bk.getD (rs.getD p 0).toNat 0 = p) (h2 : ∀ v, v < rs.length → rs.getD (bk.getD v 0).toNat 0 = v) :
    Inv2 rs.length (fun i => rs.getD i 0) (fun i => bk.getD i 0) := ⟨line_rk R, hl ▸ line_rk B, h1, h2⟩
end Dn

set_option Elab.async false
set_option linter.all false
set_option maxRecDepth 100000
set_option maxHeartbeats 4000000
/-! Nu: parts_within, kind_of_parts, nest_at -/
namespace Lw
open PySem L2 Dn
theorem np_inj {u v : Nat × Nat} (h : npD u = npD v) : u = v := by
  unfold npD at h
  injection h with h
  injection h with h1 h2
  injection h2 with h2 _
  injection h1 with h1
  injection h2 with h2
  exact Prod.ext (by omega) (by omega)
theorem ne_np (u s : Nat × Nat) : neD (npD u) (npD s) = some (.bool (decide (u ≠ s))) := by
  have h := neD_it (xs := [(u.1 : Int), (u.2 : Int)]) (ys := [(s.1 : Int), (s.2 : Int)])
  refine h.trans ?_
  congr 2
  by_cases e : u = s
  · subst e; simp
  · rw [decide_eq_true (show u ≠ s from e)]
    have : ¬ [(u.1 : Int), (u.2 : Int)] = [(s.1 : Int), (s.2 : Int)] := fun z => e (by
      simp only [List.cons.injEq, and_true] at z
      exact Prod.ext (by omega) (by omega))
    rw [decide_eq_false this]
    rfl
theorem np0 (u : Nat × Nat) : ixD (npD u) (.int 0) = some (.int (u.1 : Int)) := rfl
theorem np1 (u : Nat × Nat) : ixD (npD u) (.int 1) = some (.int (u.2 : Int)) := rfl
theorem pw_turn (s u : Nat × Nat) (p m : Nat) (X s2 s5 : S) : forB (gN 5) b1_parts_within (npD u) [.val (npD s), X, s2, .val (.int (p : Int)), .val (npD (p, m)), s5] = .nx [.val (npD s), X, s2, .val (.int (p : Int)), .val (npD (p, bstF s p m u)), .val (npD u)] := by
  have u0 := np0 u
  have u1 := np1 u
  have s1 := np1 s
  have m1 : ixD (npD (p, m)) (.int 1) = some (.int (m : Int)) := rfl
  have ne := ne_np u s
  unfold bstF
  by_cases c1 : u.1 = p
  · have e1 : eqD (.int (u.1 : Int)) (.int (p : Int)) = some (.bool true) := by rw [eqD_int]; simp [c1]
    by_cases c2 : u = s
    · rw [if_neg (fun z => z.2.1 c2)]
      rw [decide_eq_false (fun z => z c2)] at ne
      generalize npD (p, m) = B at *
      generalize npD u = U at *
      generalize npD s = T at *
      simp [b1_parts_within, u0, e1, ne, -eqD_int]
    · rw [decide_eq_true (show u ≠ s from c2)] at ne
      by_cases c3 : m < u.2
      · have c3' : (m : Int) < (u.2 : Int) := by omega
        by_cases c4 : u.2 ≤ s.2
        · have c4' : (u.2 : Int) ≤ (s.2 : Int) := by omega
          rw [if_pos ⟨c1, c2, c3, c4⟩]
          have eu : npD (p, u.2) = npD u := by unfold npD; rw [c1]
          rw [eu]
          generalize npD (p, m) = B at *
          generalize npD u = U at *
          generalize npD s = T at *
          generalize (u.2 : Int) = x2 at *
          generalize (s.2 : Int) = y2 at *
          generalize (m : Int) = z2 at *
          simp [b1_parts_within, u0, u1, s1, m1, e1, ne, c3', c4', -eqD_int]
        · have c4' : ¬ (u.2 : Int) ≤ (s.2 : Int) := by omega
          rw [if_neg (fun z => c4 z.2.2.2)]
          generalize npD (p, m) = B at *
          generalize npD u = U at *
          generalize npD s = T at *
          generalize (u.2 : Int) = x2 at *
          generalize (s.2 : Int) = y2 at *
          generalize (m : Int) = z2 at *
          simp [b1_parts_within, u0, u1, s1, m1, e1, ne, c3', c4', -eqD_int]
      · have c3' : ¬ (m : Int) < (u.2 : Int) := by omega
        rw [if_neg (fun z => c3 z.2.2.1)]
        generalize npD (p, m) = B at *
        generalize npD u = U at *
        generalize npD s = T at *
        generalize (u.2 : Int) = x2 at *
        generalize (s.2 : Int) = y2 at *
        generalize (m : Int) = z2 at *
        simp [b1_parts_within, u0, u1, s1, m1, e1, ne, c3', -eqD_int]
  · have e1 : eqD (.int (u.1 : Int)) (.int (p : Int)) = some (.bool false) := by rw [eqD_int]; simp; omega
    rw [if_neg (fun z => c1 z.1)]
    generalize npD (p, m) = B at *
    generalize npD u = U at *
    generalize npD s = T at *
    simp [b1_parts_within, u0, e1, -eqD_int]
theorem pw_loop (s : Nat × Nat) (p : Nat) (X s2 : S) : ∀ (E : List (Nat × Nat)) (m : Nat) (s5 : S), ∃ t5, loopFor (forB (gN 5) b1_parts_within) (E.map npD) [.val (npD s), X, s2, .val (.int (p : Int)), .val (npD (p, m)), s5] = .nx [.val (npD s), X, s2, .val (.int (p : Int)), .val (npD (p, E.foldl (bstF s p) m)), t5]
  | [], m, s5 => ⟨s5, rfl⟩
  | u :: E, m, s5 => by
    obtain ⟨t5, h⟩ := pw_loop s p X s2 E (bstF s p m u) (.val (npD u))
    refine ⟨t5, ?_⟩
    rw [List.map_cons]
    exact (loop_nx (pw_turn s u p m X s2 s5)).trans h
theorem pw_eq {E : List (Nat × Nat)} {s : Nat × Nat} (F : Fam E s) (h2 : s.1 + 1 < s.2) (hs : s.2 ≤ 1000) : f_parts_within [npD s, .list (E.map npD)] = .ok (.list ((prt E s).map npD)) := by
  have s1 := np1 s
  have s0 := np0 s
  have lp : ∃ s3 s4 s5, sWhile (tE (e2 ltD (eVarF 3) (e2 ixD (eVarF 0) (eC (.int 1))))) b2_parts_within [.val (npD s), .val (.list (E.map npD)), .own (.lst []), .val (.int (s.1 : Int)), .none, .none] = .nx [.val (npD s), .val (.list (E.map npD)), .own (.lst ((prt E s).map npD)), s3, s4, s5] := by
    refine while_inv (Post := fun o => ∃ s3 s4 s5, o = .nx [.val (npD s), .val (.list (E.map npD)), .own (.lst ((prt E s).map npD)), s3, s4, s5])
      (fun m ρ => ∃ (A : List (Nat × Nat)) (p : Nat) (s4 s5 : S), prt E s = A ++ partsF E s (s.2 - p) p ∧ s.1 ≤ p ∧ p ≤ s.2 ∧ m = s.2 - p ∧ A.length ≤ p ∧ ρ = [.val (npD s), .val (.list (E.map npD)), .own (.lst (A.map npD)), .val (.int (p : Int)), s4, s5])
      (s.2 - s.1) ⟨[], s.1, .none, .none, rfl, Nat.le_refl _, by omega, rfl, Nat.zero_le _, rfl⟩ (by omega) ?_
    rintro m ρ ⟨A, p, s4, s5, hA, p1, p2, rfl, hl, rfl⟩
    by_cases c : p < s.2
    · refine .inr ⟨?_, ?_⟩
      · have c' : (p : Int) < (s.2 : Int) := by omega
        generalize npD s = T at *
        generalize (s.2 : Int) = y at *
        generalize (p : Int) = x at *
        simp [s1, c']
      · obtain ⟨b1, b2, b3, b4⟩ := bst_at F h2 p1 c
        obtain ⟨t5, il⟩ := pw_loop s p (.val (.list (E.map npD))) (.own (.lst (A.map npD))) E (p + 1) s5
        have il : loopFor (forB (gN 5) b1_parts_within) (E.map npD) [.val (npD s), .val (.list (E.map npD)), .own (.lst (A.map npD)), .val (.int (p : Int)), .val (npD (p, p + 1)), s5] = .nx [.val (npD s), .val (.list (E.map npD)), .own (.lst (A.map npD)), .val (.int (p : Int)), .val (npD (p, bst E s p)), t5] := il
        have b1' : npD (p, p + 1) = .tuple [.int (p : Int), .int ((p : Int) + 1)] := rfl
        have ap := appM_ok (ds := A.map npD) (e := npD (p, bst E s p)) (by rw [List.length_map]; omega)
        have em : A.map npD ++ [npD (p, bst E s p)] = (A ++ [(p, bst E s p)]).map npD := by rw [List.map_append]; rfl
        rw [em] at ap
        have m1 : ixD (npD (p, bst E s p)) (.int 1) = some (.int (bst E s p : Int)) := rfl
        have st : b2_parts_within [.val (npD s), .val (.list (E.map npD)), .own (.lst (A.map npD)), .val (.int (p : Int)), s4, s5] = .nx [.val (npD s), .val (.list (E.map npD)), .own (.lst ((A ++ [(p, bst E s p)]).map npD)), .val (.int (bst E s p : Int)), .val (npD (p, bst E s p)), t5] := by
          rw [b1'] at il
          clear em
          generalize (A ++ [(p, bst E s p)]).map npD = L2 at *
          generalize A.map npD = L1 at *
          generalize E.map npD = EE at *
          generalize npD (p, bst E s p) = B at *
          generalize npD s = T at *
          generalize (bst E s p : Int) = q at *
          simp [b2_parts_within, il, ap, m1, -appM_ok, -forB_ap]
        rw [st]
        refine ⟨s.2 - bst E s p, by omega, A ++ [(p, bst E s p)], bst E s p, _, _, ?_, by omega, b4, rfl, by rw [List.length_append, List.length_singleton]; omega, rfl⟩
        rw [hA, List.append_assoc]
        congr 1
        obtain ⟨k, hk⟩ : ∃ k, s.2 - p = k + 1 := ⟨s.2 - p - 1, by omega⟩
        rw [hk]
        show (if p < s.2 then _ else _) = _
        rw [if_pos c]
        show _ = (p, bst E s p) :: partsF E s (s.2 - bst E s p) (bst E s p)
        congr 1
        -- more fuel than needed changes nothing
        have fuel : ∀ (k j p : Nat), s.2 - p ≤ k → s.2 - p ≤ j → s.1 ≤ p → partsF E s k p = partsF E s j p := by
          intro k
          induction k with
          | zero =>
            intro j p h1 _ _
            cases j with
            | zero => rfl
            | succ j => show [] = if p < s.2 then _ else _; rw [if_neg (by omega)]
          | succ k ih =>
            intro j p h1 h3 h4
            cases j with
            | zero => show (if p < s.2 then _ else _) = []; rw [if_neg (by omega)]
            | succ j =>
              show (if p < s.2 then _ else _) = if p < s.2 then _ else _
              by_cases c : p < s.2
              · rw [if_pos c, if_pos c]
                have := bst_at F h2 h4 c
                rw [ih j (bst E s p) (by omega) (by omega) (by omega)]
              · rw [if_neg c, if_neg c]
        exact fuel _ _ _ (by omega) (Nat.le_refl _) (by omega)
    · refine .inl ⟨?_, ?_⟩
      · have c' : ¬ (p : Int) < (s.2 : Int) := by omega
        generalize npD s = T at *
        generalize (s.2 : Int) = y at *
        generalize (p : Int) = x at *
        simp [s1, c']
      · have : partsF E s (s.2 - p) p = [] := by rw [show s.2 - p = 0 by omega]; rfl
        rw [this, List.append_nil] at hA
        rw [hA]
        exact ⟨_, _, _, rfl⟩
  obtain ⟨s3, s4, s5, lp⟩ := lp
  generalize (prt E s).map npD = R at *
  generalize E.map npD = EE at *
  generalize npD s = T at *
  simp [f_parts_within, mFn, g_parts_within, start', s0, lp]
def kdW : Nat → Str
  | 0 => "straight"
  | 1 => "turned"
  | _ => "tight"
theorem kind_eq {rs : List Int} {L : List (Nat × Nat)} (hL : ∀ u ∈ L, u.1 < u.2 ∧ u.2 ≤ rs.length) (hz : L.length ≤ 1000) : f_kind_of_parts [.list (rs.map .int), .list (L.map npD)] = .ok (.str (kdW (kindB (lwL (fun i => rs.getD i 0) L)))) := by
  have lc : loopLc (gN 3) tYesF (eB minUD (aCons (eSl slD (eVarF 0) (oSome (e2 ixD (eVarF 3) (eC (.int 0)))) (oSome (e2 ixD (eVarF 3) (eC (.int 1))))) aNil)) [3] [.val (.list (rs.map .int)), .val (.list (L.map npD)), .none, .none] (L.map npD) [] = .ok ((lwL (fun i => rs.getD i 0) L).map .int) := by
    rw [loopLc_enc npD (fun u => PyData.int (lo (fun i => rs.getD i 0) u.1 (u.2 - u.1 - 1))) L [] (by rw [List.length_nil]; exact Nat.lt_of_lt_of_le (show 0 + L.length < 16777216 by omega) (by decide)) fun u hu => ?_]
    · rw [List.nil_append]
      unfold lwL
      rw [List.map_map]
      rfl
    · obtain ⟨h1, h2⟩ := hL u hu
      have m := (sl_min (xs := rs) h1 h2).1
      have u0 := np0 u
      have u1 := np1 u
      refine ⟨_, rfl, ?_⟩
      generalize lo (fun i => rs.getD i 0) u.1 (u.2 - u.1 - 1) = x at *
      generalize L.map npD = LL at *
      generalize rs.map PyData.int = RR at *
      generalize npD u = U at *
      simp [wipeF, u0, u1, m]
  have it : itemsD (.list (L.map npD)) = .ok (L.map npD) := rfl
  generalize lwL (fun i => rs.getD i 0) L = l at *
  generalize L.map npD = LL at *
  generalize rs.map PyData.int = RR at *
  unfold kindB
  by_cases c1 : l = sortI l
  · have q : eqD (.list (l.map .int)) (.list ((sortI l).map .int)) = some (.bool true) := by rw [eqD_il, decide_eq_true c1]
    rw [if_pos c1]
    have so := sortUD_l (ns := l)
    generalize (sortI l).map PyData.int = SL at *
    generalize l.map PyData.int = L0 at *
    simp [f_kind_of_parts, mFn, g_kind_of_parts, start', lc, so, q, kdW, -eqD_il, -sortUD_l]
  · have q : eqD (.list (l.map .int)) (.list ((sortI l).map .int)) = some (.bool false) := by rw [eqD_il, decide_eq_false c1]
    rw [if_neg c1]
    have so := sortUD_l (ns := l)
    have sr := sortRevD_l (ns := l)
    by_cases c2 : l = (sortI l).reverse
    · have q2 : eqD (.list (l.map .int)) (.list ((sortI l).reverse.map .int)) = some (.bool true) := by rw [eqD_il, decide_eq_true c2]
      rw [if_pos c2]
      generalize (sortI l).reverse.map PyData.int = SR at *
      generalize (sortI l).map PyData.int = SL at *
      generalize l.map PyData.int = L0 at *
      simp [f_kind_of_parts, mFn, g_kind_of_parts, start', lc, so, sr, q, q2, kdW, -eqD_il, -sortUD_l, -sortRevD_l]
    · have q2 : eqD (.list (l.map .int)) (.list ((sortI l).reverse.map .int)) = some (.bool false) := by rw [eqD_il, decide_eq_false c2]
      rw [if_neg c2]
      generalize (sortI l).reverse.map PyData.int = SR at *
      generalize (sortI l).map PyData.int = SL at *
      generalize l.map PyData.int = L0 at *
      simp [f_kind_of_parts, mFn, g_kind_of_parts, start', lc, so, sr, q, q2, kdW, -eqD_il, -sortUD_l, -sortRevD_l]
/-- the nest of a stretch, by fuel -/
def nestF (r : Nat → Int) : Nat → List (Nat × Nat) → Nat × Nat → D
  | 0, _, _ => .none
  | m + 1, E, s => if s.2 - s.1 = 1 then .tuple [.str "one", .int (s.1 : Int), .int (s.2 : Int), .tuple []] else
    .tuple [.str (kdW (kindB (lwL r (prt (inn E s) s)))), .int (s.1 : Int), .int (s.2 : Int), .tuple ((prt (inn E s) s).map (nestF r m (inn E s)))]
theorem chn_len : ∀ {l : List (Nat × Nat)} {a b : Nat}, Chn a b l → l.length ≤ b - a
  | [], a, b, _ => Nat.zero_le _
  | u :: l, a, b, h => by
    have h1 := h.1
    have h2 := h.2.1
    have h3 := chn_le h.2.2
    have := chn_len h.2.2
    rw [List.length_cons]
    omega
/-- a proper part is smaller -/
theorem mx_lt {E : List (Nat × Nat)} {s u : Nat × Nat} (h : Mx E s u) (hu : u.1 < u.2) : u.2 - u.1 < s.2 - s.1 := by
  obtain ⟨h1, h2, ⟨w1, w2⟩, _⟩ := h
  have : ¬ (u.1 = s.1 ∧ u.2 = s.2) := fun z => h2 (Prod.ext z.1 z.2)
  omega
theorem nest_at_eq {rs : List Int} (hz : rs.length ≤ 1000) : ∀ (m : Nat) (E : List (Nat × Nat)) (s : Nat × Nat), Fam E s → s.2 ≤ rs.length → s.2 - s.1 ≤ m → E.length ≤ 1000000 → F_nest_at m [.list (rs.map .int), npD s, .list (E.map npD)] = .ok (nestF (fun i => rs.getD i 0) m E s)
  | 0, E, s, F, _, h, _ => by
    have := F.st s F.me
    omega
  | m + 1, E, s, F, hs, h, hE => by
    have st := F.st s F.me
    have s0 := np0 s
    have s1 := np1 s
    show _ = M.ok (if s.2 - s.1 = 1 then _ else _)
    show mFn 3 8 (g_nest_at (F_nest_at m)) _ = _
    by_cases c : s.2 - s.1 = 1
    · rw [if_pos c]
      have q : eqD (.int ((s.2 : Int) - (s.1 : Int))) (.int 1) = some (.bool true) := by rw [eqD_int, decide_eq_true (by omega)]
      generalize rs.map PyData.int = RR at *
      generalize E.map npD = EE at *
      generalize npD s = T at *
      generalize (s.1 : Int) = x at *
      generalize (s.2 : Int) = y at *
      simp [mFn, g_nest_at, start', s0, s1, q, -eqD_int]
    · rw [if_neg c]
      have q : eqD (.int ((s.2 : Int) - (s.1 : Int))) (.int 1) = some (.bool false) := by rw [eqD_int, decide_eq_false (by omega)]
      have lc1 : loopLc (gN 6) (tA (tE (e2 leD (e2 ixD (eVarF 1) (eC (.int 0))) (e2 ixD (eVarF 6) (eC (.int 0))))) (tE (e2 leD (e2 ixD (eVarF 6) (eC (.int 1))) (e2 ixD (eVarF 1) (eC (.int 1)))))) (eVarF 6) [6]
          [.val (.list (rs.map .int)), .val (npD s), .val (.list (E.map npD)), .none, .none, .none, .none, .none] (E.map npD) [] = .ok ((inn E s).map npD) := by
        have := loopLc_filter (tg := gN 6) (t := tA (tE (e2 leD (e2 ixD (eVarF 1) (eC (.int 0))) (e2 ixD (eVarF 6) (eC (.int 0))))) (tE (e2 leD (e2 ixD (eVarF 6) (eC (.int 1))) (e2 ixD (eVarF 1) (eC (.int 1)))))) (e := eVarF 6) (vs := [6])
          (ρ := [.val (.list (rs.map .int)), .val (npD s), .val (.list (E.map npD)), .none, .none, .none, .none, .none])
          (fun d => match d with | .tuple [.int a, .int b] => decide ((s.1 : Int) ≤ a) && decide (b ≤ (s.2 : Int)) | _ => false) id (E.map npD) [] (by rw [List.length_map, List.length_nil]; exact Nat.lt_of_lt_of_le (show 0 + E.length < 16777216 by omega) (by decide)) (fun d hd => by
            obtain ⟨u, _, rfl⟩ := List.mem_map.mp hd
            have u0 := np0 u
            have u1 := np1 u
            refine ⟨_, rfl, ?_, fun _ => ?_⟩
            · show _ = M.ok (decide ((s.1 : Int) ≤ (u.1 : Int)) && decide ((u.2 : Int) ≤ (s.2 : Int)))
              generalize rs.map PyData.int = RR at *
              generalize E.map npD = EE at *
              generalize npD s = T at *
              generalize npD u = U at *
              generalize (s.1 : Int) = x at *
              generalize (s.2 : Int) = y at *
              generalize (u.1 : Int) = x2 at *
              generalize (u.2 : Int) = y2 at *
              by_cases d1 : x ≤ x2
              · by_cases d2 : y2 ≤ y
                · simp [wipeF, s0, s1, u0, u1, d1, d2]
                · simp [wipeF, s0, s1, u0, u1, d1, d2]
              · simp [wipeF, s0, s1, u0, u1, d1]
            · simp [wipeF])
        rw [this, List.nil_append, List.map_id]
        congr 1
        unfold inn
        rw [List.filter_map]
        congr 1
        refine List.filter_congr fun u _ => ?_
        show (decide ((s.1 : Int) ≤ (u.1 : Int)) && decide ((u.2 : Int) ≤ (s.2 : Int))) = decide (Wi s u)
        rw [Bool.eq_iff_iff, Bool.and_eq_true, decide_eq_true_eq, decide_eq_true_eq, decide_eq_true_eq]
        unfold Wi
        omega
      have FI := inn_fam F F.me ⟨Nat.le_refl _, Nat.le_refl _⟩
      obtain ⟨ch, mx⟩ := prt_of FI (by omega)
      have pw := pw_eq FI (by omega) (by omega)
      have cl := chn_len ch
      have ke := kind_eq (rs := rs) (L := prt (inn E s) s) (fun u hu => by have := chn_st ch u hu; omega) (by omega)
      have il : (inn E s).length ≤ 1000000 := Nat.le_trans (List.length_filter_le _ _) hE
      have lc2 : loopLc (gN 7) tYesF (eCall (F_nest_at m) (aCons (eVarF 0) (aCons (eVarF 7) (aCons (eVarF 3) aNil)))) [7]
          [.val (.list (rs.map .int)), .val (npD s), .val (.list (E.map npD)), .val (.list ((inn E s).map npD)), .val (.list ((prt (inn E s) s).map npD)), .none, .none, .none] ((prt (inn E s) s).map npD) [] = .ok ((prt (inn E s) s).map (nestF (fun i => rs.getD i 0) m (inn E s))) := by
        rw [loopLc_enc npD (nestF (fun i => rs.getD i 0) m (inn E s)) (prt (inn E s) s) [] (by rw [List.length_nil]; exact Nat.lt_of_lt_of_le (show 0 + (prt (inn E s) s).length < 16777216 by omega) (by decide)) fun u hu => ?_]
        · rw [List.nil_append]
        · have su := chn_st ch u hu
          have mu := mx u hu
          have ih := nest_at_eq hz m (inn E s) u ⟨FI.st, FI.no, fun i h1 h2 => FI.one i (by omega) (by omega), mu.1⟩ (by omega) (by have := mx_lt mu su.2.1; omega) il
          refine ⟨_, rfl, ?_⟩
          generalize nestF (fun i => rs.getD i 0) m (inn E s) u = N at *
          generalize rs.map PyData.int = RR at *
          generalize E.map npD = EE at *
          generalize (prt (inn E s) s).map npD = PP at *
          generalize (inn E s).map npD = II at *
          generalize npD s = T at *
          generalize npD u = U at *
          simp [wipeF, ih]
      have it1 : itemsD (.list (E.map npD)) = .ok (E.map npD) := rfl
      have it2 : itemsD (.list ((prt (inn E s) s).map npD)) = .ok ((prt (inn E s) s).map npD) := rfl
      generalize (prt (inn E s) s).map (nestF (fun i => rs.getD i 0) m (inn E s)) = NN at *
      generalize kdW (kindB (lwL (fun i => rs.getD i 0) (prt (inn E s) s))) = KW at *
      generalize rs.map PyData.int = RR at *
      generalize (prt (inn E s) s).map npD = PP at *
      generalize (inn E s).map npD = II at *
      generalize E.map npD = EE at *
      generalize npD s = T at *
      generalize (s.1 : Int) = x at *
      generalize (s.2 : Int) = y at *
      simp [mFn, g_nest_at, start', s0, s1, q, lc1, pw, lc2, ke, -eqD_int]
end Lw

set_option Elab.async false
set_option linter.all false
set_option maxRecDepth 100000
set_option maxHeartbeats 4000000
/-! Gc: gather, stretch_many -/
namespace Lw
open PySem L2 Dn
/-- a nest of a stretch -/
def NS (d : D) (u : Nat × Nat) : Prop := ∃ k ps, d = .tuple [.str k, .int (u.1 : Int), .int (u.2 : Int), .tuple ps]
theorem NS.i1 {d : D} {u : Nat × Nat} (h : NS d u) : ixD d (.int 1) = some (.int (u.1 : Int)) := by obtain ⟨k, ps, rfl⟩ := h; rfl
theorem NS.i2 {d : D} {u : Nat × Nat} (h : NS d u) : ixD d (.int 2) = some (.int (u.2 : Int)) := by obtain ⟨k, ps, rfl⟩ := h; rfl
theorem nest_ns {r : Nat → Int} : ∀ {m : Nat} {E : List (Nat × Nat)} {s : Nat × Nat}, 0 < m → NS (nestF r m E s) s
  | 0, _, _, h => absurd h (by omega)
  | m + 1, E, s, _ => by
    by_cases c : s.2 - s.1 = 1
    · exact ⟨_, _, if_pos c⟩
    · exact ⟨_, _, if_neg c⟩
section
variable {self : List D → M (List D × D)} {L : List (Nat × Nat)} {N : Nat × Nat → D} (hN : ∀ u ∈ L, NS (N u) u) (hz : L.length ≤ 1000)
include hN
theorem part_at {i : Nat} (hi : i < L.length) : ixD (.tuple (L.map N)) (.int (i : Int)) = some (N (L.getD i (0, 0))) := by
  rw [getD_at hi]
  refine ixD_t (by omega) ?_
  rw [show (i : Int).toNat = i by omega, List.getElem?_map, List.getElem?_eq_getElem hi]
  rfl
include hz
theorem in_turn (T s2 s3 s4 s5 s8 : S) (A : List D) (hA : A.length ≤ 20000) {i k : Nat} (h : i + 1 + k < L.length) :
    forB (gN 8) (b2M_gather self) (.int ((i + 1 + k : Nat) : Int)) [T, .pin (.lst A), s2, s3, s4, s5, .val (.tuple (L.map N)), .val (.int (i : Int)), s8] =
      .nx [T, .pin (.lst (A ++ if k + 2 < L.length then [npD ((L.getD i (0, 0)).1, (L.getD (i + 1 + k) (0, 0)).2)] else [])), s2, s3, s4, s5, .val (.tuple (L.map N)), .val (.int (i : Int)), .val (.int ((i + 1 + k : Nat) : Int))] := by
  have ln : lenD [.tuple (L.map N)] = some (.int (L.length : Int)) := by
    show some (PyData.int ((L.map N).length : Int)) = _
    rw [List.length_map]
  have pi := part_at hN (i := i) (by omega)
  have pj := part_at hN (i := i + 1 + k) h
  have m1 := hN _ (show L.getD i (0, 0) ∈ L by rw [getD_at (show i < L.length by omega)]; exact List.getElem_mem _)
  have m2 := hN _ (show L.getD (i + 1 + k) (0, 0) ∈ L by rw [getD_at h]; exact List.getElem_mem _)
  have i1 := m1.i1
  have j2 := m2.i2
  have ap := appM_ok (ds := A) (e := npD ((L.getD i (0, 0)).1, (L.getD (i + 1 + k) (0, 0)).2)) (by omega)
  have en : npD ((L.getD i (0, 0)).1, (L.getD (i + 1 + k) (0, 0)).2) = .tuple [.int ((L.getD i (0, 0)).1 : Int), .int ((L.getD (i + 1 + k) (0, 0)).2 : Int)] := rfl
  by_cases c : k + 2 < L.length
  · have c' : ((i + 1 + k : Nat) : Int) - (i : Int) + 1 < (L.length : Int) := by omega
    rw [if_pos c]
    rw [en] at ap ⊢
    clear hN m1 m2 en c
    generalize N (L.getD i (0, 0)) = P1 at *
    generalize N (L.getD (i + 1 + k) (0, 0)) = P2 at *
    generalize ((L.getD i (0, 0)).1 : Int) = x at *
    generalize ((L.getD (i + 1 + k) (0, 0)).2 : Int) = y at *
    generalize A ++ [PyData.tuple [.int x, .int y]] = A1 at *
    generalize L.map N = PN at *
    generalize (L.length : Int) = n at *
    generalize ((i + 1 + k : Nat) : Int) = z at *
    generalize (i : Int) = w at *
    simp [b2M_gather, ln, pi, pj, i1, j2, ap, c', -appM_ok]
  · have c' : ¬ ((i + 1 + k : Nat) : Int) - (i : Int) + 1 < (L.length : Int) := by omega
    rw [if_neg c, List.append_nil]
    clear hN m1 m2 en c ap
    generalize L.map N = PN at *
    generalize (L.length : Int) = n at *
    generalize ((i + 1 + k : Nat) : Int) = z at *
    generalize (i : Int) = w at *
    simp [b2M_gather, ln, c']
theorem in_loop (T s2 s3 s4 s5 : S) {i : Nat} : ∀ (l : List Nat) (s8 : S) (A : List D), (∀ k ∈ l, i + 1 + k < L.length) → A.length + l.length ≤ 20000 → ∃ t8,
    loopFor (forB (gN 8) (b2M_gather self)) (l.map fun k : Nat => PyData.int ((i + 1 + k : Nat) : Int)) [T, .pin (.lst A), s2, s3, s4, s5, .val (.tuple (L.map N)), .val (.int (i : Int)), s8] =
      .nx [T, .pin (.lst (A ++ ((l.filter fun k => decide (k + 2 < L.length)).map fun k => npD ((L.getD i (0, 0)).1, (L.getD (i + 1 + k) (0, 0)).2)))), s2, s3, s4, s5, .val (.tuple (L.map N)), .val (.int (i : Int)), t8]
  | [], s8, A, _, _ => ⟨s8, by show _ = Out.nx [_, .pin (.lst (A ++ [])), _, _, _, _, _, _, _]; rw [List.append_nil]; rfl⟩
  | k :: l, s8, A, h, hA => by
    rw [List.length_cons] at hA
    have tu := in_turn (self := self) hN hz T s2 s3 s4 s5 s8 A (by omega) (h k List.mem_cons_self)
    obtain ⟨t8, ih⟩ := in_loop T s2 s3 s4 s5 l (.val (.int ((i + 1 + k : Nat) : Int))) (A ++ if k + 2 < L.length then [npD ((L.getD i (0, 0)).1, (L.getD (i + 1 + k) (0, 0)).2)] else []) (fun j hj => h j (List.mem_cons_of_mem _ hj)) (by
      rw [List.length_append]
      split
      · rw [List.length_singleton]; omega
      · rw [List.length_nil]; omega)
    refine ⟨t8, ?_⟩
    rw [List.map_cons]
    refine Eq.trans (loop_nx tu) (ih.trans ?_)
    congr 4
    rw [List.append_assoc]
    congr 1
    rw [List.filter_cons]
    by_cases c : k + 2 < L.length
    · rw [if_pos c, if_pos (by simpa using c)]; rfl
    · rw [if_neg c, if_neg (by simpa using c)]; rfl
theorem out_loop (T s2 s3 s4 s5 : S) : ∀ (l : List Nat) (s7 s8 : S) (A : List D), (∀ i ∈ l, i < L.length) → A.length + l.length * L.length ≤ 20000 → ∃ t7 t8,
    loopFor (forB (gN 7) (b3M_gather self)) (l.map fun i : Nat => PyData.int (i : Int)) [T, .pin (.lst A), s2, s3, s4, s5, .val (.tuple (L.map N)), s7, s8] =
      .nx [T, .pin (.lst (A ++ (l.flatMap fun i => ((List.range (L.length - (i + 1))).filter fun k => decide (k + 2 < L.length)).map fun k => ((L.getD i (0, 0)).1, (L.getD (i + 1 + k) (0, 0)).2)).map npD)), s2, s3, s4, s5, .val (.tuple (L.map N)), t7, t8]
  | [], s7, s8, A, _, _ => ⟨s7, s8, by show _ = Out.nx [_, .pin (.lst (A ++ [])), _, _, _, _, _, _, _]; rw [List.append_nil]; rfl⟩
  | i :: l, s7, s8, A, h, hA => by
    rw [List.length_cons, Nat.succ_mul] at hA
    have hi := h i List.mem_cons_self
    obtain ⟨t8, il⟩ := in_loop (self := self) hN hz T s2 s3 s4 s5 (i := i) (List.range (L.length - (i + 1))) s8 A (fun k hk => by rw [List.mem_range] at hk; omega) (by rw [List.length_range]; omega)
    have fl : ((List.range (L.length - (i + 1))).filter fun k => decide (k + 2 < L.length)).length ≤ L.length := Nat.le_trans (List.length_filter_le _ _) (by rw [List.length_range]; omega)
    obtain ⟨t7, t9, ih⟩ := out_loop T s2 s3 s4 s5 l (.val (.int (i : Int))) t8 (A ++ (((List.range (L.length - (i + 1))).filter fun k => decide (k + 2 < L.length)).map fun k => npD ((L.getD i (0, 0)).1, (L.getD (i + 1 + k) (0, 0)).2))) (fun j hj => h j (List.mem_cons_of_mem _ hj)) (by
      rw [List.length_append, List.length_map]; omega)
    refine ⟨t7, t9, ?_⟩
    rw [List.map_cons]
    have tu : forB (gN 7) (b3M_gather self) (.int (i : Int)) [T, .pin (.lst A), s2, s3, s4, s5, .val (.tuple (L.map N)), s7, s8] = .nx [T, .pin (.lst (A ++ (((List.range (L.length - (i + 1))).filter fun k => decide (k + 2 < L.length)).map fun k => npD ((L.getD i (0, 0)).1, (L.getD (i + 1 + k) (0, 0)).2)))), s2, s3, s4, s5, .val (.tuple (L.map N)), .val (.int (i : Int)), t8] := by
      have ln : lenD [.tuple (L.map N)] = some (.int (L.length : Int)) := by
        show some (PyData.int ((L.map N).length : Int)) = _
        rw [List.length_map]
      have rg : rngL ((i + 1 : Nat) : Int) (L.length : Int) = (List.range (L.length - (i + 1))).map fun k : Nat => PyData.int ((i + 1 + k : Nat) : Int) := rng_nat2 _ _
      have ei : ((i + 1 : Nat) : Int) = (i : Int) + 1 := by omega
      rw [ei] at rg
      have rm := rngM2_ok (in62 (i := (i : Int) + 1) (by omega)) (in62 (i := (L.length : Int)) (by omega))
      rw [rg] at rm
      generalize ((List.range (L.length - (i + 1))).map fun k : Nat => PyData.int ((i + 1 + k : Nat) : Int)) = RG at *
      generalize A ++ (((List.range (L.length - (i + 1))).filter fun k => decide (k + 2 < L.length)).map fun k => npD ((L.getD i (0, 0)).1, (L.getD (i + 1 + k) (0, 0)).2)) = A1 at *
      generalize L.map N = PN at *
      simp only [forB_ap, gN_ap, ofO_some]
      simp [b3M_gather, ln, rm, il, -forB_ap]
    refine Eq.trans (loop_nx tu) (ih.trans ?_)
    congr 4
    rw [List.append_assoc, List.flatMap_cons, List.map_append, List.map_map]
    rfl
end
theorem st_eq (a b : Str) : eqD (.str a) (.str b) = some (.bool (decide (a = b))) := eqD_str
theorem prs_len (L : List (Nat × Nat)) (h : 2 ≤ L.length) : (prsF L).length + 1 = L.length * (L.length - 1) / 2 := by
  have e : ∀ n : Nat, ((List.range n).map fun i => n - (i + 1)).sum = n * (n - 1) / 2 := fun n => by
    have e2 : ∀ n : Nat, 2 * ((List.range n).map fun i => n - (i + 1)).sum = n * (n - 1) := fun n => by
      induction n with
      | zero => rfl
      | succ n ih =>
        rw [List.range_succ_eq_map, List.map_cons, List.sum_cons, List.map_map]
        have : ((fun i => n + 1 - (i + 1)) ∘ Nat.succ) = fun i => n - (i + 1) := by funext i; show n + 1 - (i + 1 + 1) = _; omega
        rw [this, Nat.mul_add, ih]
        show 2 * (n + 1 - (0 + 1)) + n * (n - 1) = (n + 1) * (n + 1 - 1)
        rw [Nat.add_sub_cancel]
        cases n with
        | zero => rfl
        | succ n => rw [Nat.add_sub_cancel]; simp only [Nat.succ_mul, Nat.mul_succ]; omega
    have := e2 n
    omega
  have fl : ∀ i, i < L.length → (((List.range (L.length - (i + 1))).filter fun k => decide (k + 2 < L.length)).map fun k => ((L.getD i (0, 0)).1, (L.getD (i + 1 + k) (0, 0)).2)).length = (L.length - (i + 1)) - if i = 0 then 1 else 0 := fun i hi => by
    rw [List.length_map]
    by_cases c : i = 0
    · subst c
      rw [if_pos rfl]
      have e : List.range (L.length - (0 + 1)) = List.range (L.length - 2) ++ [L.length - 2] := by
        rw [← List.range_succ]; congr 1; omega
      rw [e, List.filter_append]
      have f1 : (List.range (L.length - 2)).filter (fun k => decide (k + 2 < L.length)) = List.range (L.length - 2) := List.filter_eq_self.mpr fun k hk => by
        rw [List.mem_range] at hk
        exact decide_eq_true (by omega)
      have f2 : [L.length - 2].filter (fun k => decide (k + 2 < L.length)) = [] := by
        rw [List.filter_cons, if_neg (by rw [decide_eq_true_eq]; omega)]; rfl
      rw [f1, f2, List.append_nil, List.length_range]
      omega
    · rw [if_neg c]
      have f1 : (List.range (L.length - (i + 1))).filter (fun k => decide (k + 2 < L.length)) = List.range (L.length - (i + 1)) := List.filter_eq_self.mpr fun k hk => by
        rw [List.mem_range] at hk
        exact decide_eq_true (by omega)
      rw [f1, List.length_range]
      omega
  unfold prsF
  rw [List.length_flatMap]
  have e1 : (List.range L.length).map (fun i => (((List.range (L.length - (i + 1))).filter fun k => decide (k + 2 < L.length)).map fun k => ((L.getD i (0, 0)).1, (L.getD (i + 1 + k) (0, 0)).2)).length) = (List.range L.length).map fun i => (L.length - (i + 1)) - if i = 0 then 1 else 0 :=
    List.map_congr_left fun i hi => fl i (List.mem_range.mp hi)
  rw [e1, ← e L.length]
  generalize hn : L.length = n at *
  match n, h with
  | n + 1, h =>
    rw [List.range_succ_eq_map, List.map_cons, List.map_cons, List.sum_cons, List.sum_cons, List.map_map, List.map_map]
    have : ((fun i => n + 1 - (i + 1) - if i = 0 then 1 else 0) ∘ Nat.succ) = ((fun i => n + 1 - (i + 1)) ∘ Nat.succ) := by
      funext i
      show n + 1 - (i + 1 + 1) - (if i + 1 = 0 then 1 else 0) = n + 1 - (i + 1 + 1)
      rw [if_neg (by omega)]
      omega
    rw [this]
    show n + 1 - (0 + 1) - (if 0 = 0 then 1 else 0) + _ + 1 = n + 1 - (0 + 1) + _
    rw [if_pos rfl]
    omega
section
variable {t : Nat} {rs : List Int} (K : Rk t fun i => rs.getD i 0)
include K
theorem gather_eq : ∀ (m : Nat) (E : List (Nat × Nat)) (s : Nat × Nat) (acc : List D), Fam E s → Sub (strL (shL t fun i => rs.getD i 0)) E s → s.2 ≤ 100 → s.2 - s.1 ≤ m → acc.length + (gathF (fun i => rs.getD i 0) m E s).length ≤ 10000 →
    FM_gather m [nestF (fun i => rs.getD i 0) m E s, .list acc] = .ok (acc ++ (gathF (fun i => rs.getD i 0) m E s).map npD, .none)
  | 0, E, s, acc, F, _, _, h, _ => by
    have := F.st s F.me
    omega
  | m + 1, E, s, acc, F, B, hs, h, hl => by
    have st := F.st s F.me
    show mFnM 1 2 9 (gM_gather (FM_gather m)) _ = _
    have en : npD s = .tuple [.int (s.1 : Int), .int (s.2 : Int)] := rfl
    by_cases c : s.2 - s.1 = 1
    · have e0 : gathF (fun i => rs.getD i 0) (m + 1) E s = [s] := by show s :: (if s.2 - s.1 = 1 then [] else _) = _; rw [if_pos c]
      have e : nestF (fun i => rs.getD i 0) (m + 1) E s = .tuple [.str "one", .int (s.1 : Int), .int (s.2 : Int), .tuple []] := if_pos c
      rw [e0, List.length_singleton] at hl
      have ap := appM_ok (ds := acc) (e := npD s) (by omega)
      have q1 : eqD (.str ("one" : Str)) (.str ("straight" : Str)) = some (.bool false) := by rw [eqD_str, decide_eq_false (by decide +kernel)]
      have q2 : eqD (.str ("one" : Str)) (.str ("turned" : Str)) = some (.bool false) := by rw [eqD_str, decide_eq_false (by decide +kernel)]
      rw [e, e0, List.map_cons, List.map_nil]
      rw [en] at ap ⊢
      generalize acc ++ [PyData.tuple [.int (s.1 : Int), .int (s.2 : Int)]] = A1 at *
      generalize (s.1 : Int) = x at *
      generalize (s.2 : Int) = y at *
      have l0 : ∀ (b : D → Fr → Out) (ρ : Fr), loopFor b [] ρ = .nx ρ := fun _ _ => rfl
      simp [mFnM, gM_gather, startM, start', pinL, Out.mm, q1, q2, ap, l0, -eqD_str, -appM_ok, -forB_ap]
    · have e0 : gathF (fun i => rs.getD i 0) (m + 1) E s = s :: ((prt (inn E s) s).flatMap (gathF (fun i => rs.getD i 0) m (inn E s)) ++ if kindB (lwL (fun i => rs.getD i 0) (prt (inn E s) s)) = 2 then [] else prsF (prt (inn E s) s)) := by
        show s :: (if s.2 - s.1 = 1 then [] else _) = _; rw [if_neg c]
      have e : nestF (fun i => rs.getD i 0) (m + 1) E s = .tuple [.str (kdW (kindB (lwL (fun i => rs.getD i 0) (prt (inn E s) s)))), .int (s.1 : Int), .int (s.2 : Int), .tuple ((prt (inn E s) s).map (nestF (fun i => rs.getD i 0) m (inn E s)))] := if_neg c
      rw [e0, List.length_cons, List.length_append] at hl
      have ap := appM_ok (ds := acc) (e := npD s) (by omega)
      have FI := inn_fam F F.me ⟨Nat.le_refl _, Nat.le_refl _⟩
      obtain ⟨ch, mx⟩ := prt_of FI (by omega)
      have H := prt_prt K F B (by omega)
      have l2 := chn_two H.ch H.pr (by omega)
      have cl := chn_len ch
      have m0 : 0 < m := by
        have hu := mx _ (List.getElem_mem (show 0 < (prt (inn E s) s).length by omega))
        have su := chn_st ch _ (List.getElem_mem (show 0 < (prt (inn E s) s).length by omega))
        have := mx_less hu su.2.1
        omega
      have hN : ∀ u ∈ prt (inn E s) s, NS (nestF (fun i => rs.getD i 0) m (inn E s) u) u := fun u _ => nest_ns m0
      have kl := kind_le (lwL (fun i => rs.getD i 0) (prt (inn E s) s))
      have recs : ∀ u ∈ prt (inn E s) s, ∀ A : List D, A.length + (gathF (fun i => rs.getD i 0) m (inn E s) u).length ≤ 10000 → FM_gather m [nestF (fun i => rs.getD i 0) m (inn E s) u, .list A] = .ok (A ++ (gathF (fun i => rs.getD i 0) m (inn E s) u).map npD, .none) := fun u hu A hA => by
        have su := chn_st ch u hu
        have mu := mx u hu
        exact gather_eq m (inn E s) u A (fam_in F mu) (B.inn mu.2.2.1) (by omega) (by have := mx_less mu su.2.1; omega) hA
      have ll : (prt (inn E s) s).length * (prt (inn E s) s).length ≤ 10000 := Nat.mul_le_mul (show _ ≤ 100 by omega) (show _ ≤ 100 by omega)
      rw [e, e0, List.map_cons, List.map_append]
      rw [en] at ap ⊢
      generalize hL : prt (inn E s) s = L at *
      generalize kindB (lwL (fun i => rs.getD i 0) L) = kn at *
      generalize hT : PyData.tuple [.str (kdW kn), .int (s.1 : Int), .int (s.2 : Int), .tuple (L.map (nestF (fun i => rs.getD i 0) m (inn E s)))] = T at *
      have lp1 : ∀ (l : List (Nat × Nat)) (A : List D) (s2 s3 s4 s5 s6 s7 s8 : S), (∀ u ∈ l, u ∈ L) → A.length + (l.flatMap (gathF (fun i => rs.getD i 0) m (inn E s))).length ≤ 10000 →
          ∃ t2, loopFor (forB (gN 2) (b1M_gather (FM_gather m))) (l.map (nestF (fun i => rs.getD i 0) m (inn E s))) [.val T, .pin (.lst A), s2, s3, s4, s5, s6, s7, s8] = .nx [.val T, .pin (.lst (A ++ (l.flatMap (gathF (fun i => rs.getD i 0) m (inn E s))).map npD)), t2, s3, s4, s5, s6, s7, s8] := by
        intro l
        induction l with
        | nil => exact fun A s2 s3 s4 s5 s6 s7 s8 _ _ => ⟨s2, by show _ = Out.nx [_, .pin (.lst (A ++ [])), _, _, _, _, _, _, _]; rw [List.append_nil]; rfl⟩
        | cons u l ih =>
          intro A s2 s3 s4 s5 s6 s7 s8 hu hA
          rw [List.flatMap_cons, List.length_append] at hA
          have r1 := recs u (hu u List.mem_cons_self) A (by omega)
          obtain ⟨t2, ih⟩ := ih (A ++ (gathF (fun i => rs.getD i 0) m (inn E s) u).map npD) (.val (nestF (fun i => rs.getD i 0) m (inn E s) u)) s3 s4 s5 s6 s7 s8 (fun v hv => hu v (List.mem_cons_of_mem _ hv)) (by rw [List.length_append, List.length_map]; omega)
          refine ⟨t2, ?_⟩
          rw [List.map_cons, List.flatMap_cons, List.map_append, ← List.append_assoc]
          refine Eq.trans (loop_nx ?_) ih
          generalize nestF (fun i => rs.getD i 0) m (inn E s) u = U at *
          generalize A ++ (gathF (fun i => rs.getD i 0) m (inn E s) u).map npD = A2 at *
          simp [b1M_gather, r1]
      have e1 : acc ++ PyData.tuple [.int (s.1 : Int), .int (s.2 : Int)] :: ((L.flatMap (gathF (fun i => rs.getD i 0) m (inn E s))).map npD ++ (if kn = 2 then [] else prsF L).map npD) = ((acc ++ [PyData.tuple [.int (s.1 : Int), .int (s.2 : Int)]]) ++ (L.flatMap (gathF (fun i => rs.getD i 0) m (inn E s))).map npD) ++ (if kn = 2 then [] else prsF L).map npD := by simp
      rw [e1]
      have hA1 : (acc ++ [PyData.tuple [.int (s.1 : Int), .int (s.2 : Int)]]).length + (L.flatMap (gathF (fun i => rs.getD i 0) m (inn E s))).length ≤ 10000 := by rw [List.length_append, List.length_singleton]; omega
      generalize acc ++ [PyData.tuple [.int (s.1 : Int), .int (s.2 : Int)]] = A1 at *
      obtain ⟨t2, lp1⟩ := lp1 L A1 .none (.val (.str (kdW kn))) (.val (.int (s.1 : Int))) (.val (.int (s.2 : Int))) (.val (.tuple (L.map (nestF (fun i => rs.getD i 0) m (inn E s))))) .none .none (fun u hu => hu) hA1
      have hA2 : (A1 ++ (L.flatMap (gathF (fun i => rs.getD i 0) m (inn E s))).map npD).length ≤ 10000 := by rw [List.length_append, List.length_map]; omega
      generalize A1 ++ (L.flatMap (gathF (fun i => rs.getD i 0) m (inn E s))).map npD = A2 at *
      have ln : lenD [.tuple (L.map (nestF (fun i => rs.getD i 0) m (inn E s)))] = some (.int (L.length : Int)) := by
        show some (PyData.int ((L.map (nestF (fun i => rs.getD i 0) m (inn E s))).length : Int)) = _
        rw [List.length_map]
      have rm := rngM1_ok (in62 (i := (L.length : Int)) (by omega))
      rw [show rngL 0 (L.length : Int) = (List.range L.length).map fun k : Nat => PyData.int (k : Int) from rng_nat _] at rm
      obtain ⟨t7, t8, lp2'⟩ := out_loop (self := FM_gather m) hN (by omega) (.val T) t2 (.val (.str (kdW kn))) (.val (.int (s.1 : Int))) (.val (.int (s.2 : Int))) (List.range L.length) .none .none A2 (fun i hi => List.mem_range.mp hi) (by rw [List.length_range]; omega)
      have lp2 : loopFor (forB (gN 7) (b3M_gather (FM_gather m))) _ _ = Out.nx [_, .pin (.lst (A2 ++ (prsF L).map npD)), _, _, _, _, _, _, _] := lp2'
      clear lp2'
      have it : itemsD (.tuple (L.map (nestF (fun i => rs.getD i 0) m (inn E s)))) = .ok (L.map (nestF (fun i => rs.getD i 0) m (inn E s))) := rfl
      subst hT
      clear recs e e0 e1 hN ch mx FI B F K H hA1 hA2 hl l2 cl hL
      generalize hPR : (prsF L).map npD = PR at *
      generalize L.map (nestF (fun i => rs.getD i 0) m (inn E s)) = PN at *
      generalize ((List.range L.length).map fun k : Nat => PyData.int (k : Int)) = RG at *
      generalize (L.length : Int) = n at *
      generalize (s.1 : Int) = x at *
      generalize (s.2 : Int) = y at *
      match kn, kl with
      | 0, _ =>
        have q1 : eqD (.str (kdW 0)) (.str ("straight" : Str)) = some (.bool true) := by rw [eqD_str, decide_eq_true (show kdW 0 = ("straight" : Str) from rfl)]
        generalize kdW 0 = w at *
        simp [mFnM, gM_gather, startM, start', pinL, Out.mm, q1, ap, it, lp1, ln, rm, lp2, hPR, -eqD_str, -appM_ok, -forB_ap]
      | 1, _ =>
        have q1 : eqD (.str (kdW 1)) (.str ("straight" : Str)) = some (.bool false) := by rw [eqD_str, decide_eq_false (by decide +kernel)]
        have q2 : eqD (.str (kdW 1)) (.str ("turned" : Str)) = some (.bool true) := by rw [eqD_str, decide_eq_true (show kdW 1 = ("turned" : Str) from rfl)]
        generalize kdW 1 = w at *
        simp [mFnM, gM_gather, startM, start', pinL, Out.mm, q1, q2, ap, it, lp1, ln, rm, lp2, hPR, -eqD_str, -appM_ok, -forB_ap]
      | 2, _ =>
        have q1 : eqD (.str (kdW 2)) (.str ("straight" : Str)) = some (.bool false) := by rw [eqD_str, decide_eq_false (by decide +kernel)]
        have q2 : eqD (.str (kdW 2)) (.str ("turned" : Str)) = some (.bool false) := by rw [eqD_str, decide_eq_false (by decide +kernel)]
        generalize kdW 2 = w at *
        simp [mFnM, gM_gather, startM, start', pinL, Out.mm, q1, q2, ap, it, lp1, ln, rm, lp2, hPR, -eqD_str, -appM_ok, -forB_ap]
end
end Lw

set_option Elab.async false
set_option linter.all false
set_option maxRecDepth 100000
set_option maxHeartbeats 4000000
/-! Szp: sorted pairs of whole numbers -/
namespace Lw
open PySem L2 Dn
/-! ### sorted pairs -/
abbrev PZ := Int × Int
def pz (p : PZ) : D := .tuple [.int p.1, .int p.2]
def zn (u : Nat × Nat) : PZ := ((u.1 : Int), (u.2 : Int))
def zLt (x y : PZ) : Bool := dLt (pz x) (pz y)
theorem zLt_iff {x y : PZ} : zLt x y = true ↔ x.1 < y.1 ∨ (x.1 = y.1 ∧ x.2 < y.2) := by
  obtain ⟨a, b⟩ := x
  obtain ⟨c, d⟩ := y
  show PyProof.Rows.lexLt PyProof.Rows.itemOrd [Sum.inl a, Sum.inl b] [Sum.inl c, Sum.inl d] = true ↔ _
  rw [PyProof.Rows.lex_cons, PyProof.Rows.lex_cons]
  show (decide (a < c) || (!decide (c < a) && (decide (b < d) || (!decide (d < b) && PyProof.Rows.lexLt PyProof.Rows.itemOrd [] [])))) = true ↔ a < c ∨ (a = c ∧ b < d)
  have e : PyProof.Rows.lexLt PyProof.Rows.itemOrd [] [] = false := rfl
  rw [e, Bool.and_false, Bool.or_false]
  by_cases h1 : a < c
  · simp [h1]
  · by_cases h2 : c < a
    · have h3 : ¬ a = c := by omega
      simp [h1, h2, h3]
    · have h3 : a = c := by omega
      subst h3
      simp
theorem ins_mapz (x : PZ) : ∀ l : List PZ, insO dLt (pz x) (l.map pz) = (insO zLt x l).map pz
  | [] => rfl
  | y :: l => by
    rw [List.map_cons]
    unfold insO
    rw [ins_mapz x l]
    show (if zLt y x = true then _ else _) = _
    split <;> rfl
theorem isort_mapz : ∀ l : List PZ, isort dLt (l.map pz) = (isort zLt l).map pz
  | [] => rfl
  | x :: l => by
    show insO dLt (pz x) (isort dLt (l.map pz)) = (insO zLt x (isort zLt l)).map pz
    rw [isort_mapz l, ins_mapz]
theorem zLt_swo : SrtO.Swo zLt := tLt_swo fun x => kD (pz x)
theorem zLt_tot {x y : PZ} (h1 : zLt x y = false) (h2 : zLt y x = false) : x = y := by
  have a : ¬ (x.1 < y.1 ∨ (x.1 = y.1 ∧ x.2 < y.2)) := fun z => by rw [zLt_iff.mpr z] at h1; cases h1
  have b : ¬ (y.1 < x.1 ∨ (y.1 = x.1 ∧ y.2 < x.2)) := fun z => by rw [zLt_iff.mpr z] at h2; cases h2
  exact Prod.ext (by omega) (by omega)
theorem isort_to {l m : List PZ} (p : m.Perm l) (s : m.Pairwise fun x y => zLt y x = false) : isort zLt l = m :=
  List.Perm.eq_of_pairwise (le := fun x y => zLt y x = false) (fun a b _ _ h1 h2 => zLt_tot h2 h1) (isort_srtd zLt_swo l) s ((isort_perm l).trans p.symm)
theorem sort_np {l m : List (Nat × Nat)} (p : m.Perm l) (s : m.Pairwise LtP2) : sortTD [.list (l.map npD)] = some (m.map npD) := by
  have el : l.map npD = (l.map zn).map pz := by rw [List.map_map]; rfl
  have em : m.map npD = (m.map zn).map pz := by rw [List.map_map]; rfl
  have is : isort dLt (l.map npD) = m.map npD := by
    rw [el, em, isort_mapz, isort_to (p.map zn)]
    refine List.pairwise_map.mpr (s.imp fun {u v} h => ?_)
    have h : u.1 < v.1 ∨ (u.1 = v.1 ∧ u.2 < v.2) := h
    cases q : zLt (zn v) (zn u) with
    | false => rfl
    | true =>
      have := zLt_iff.mp q
      have : (v.1 : Int) < (u.1 : Int) ∨ ((v.1 : Int) = (u.1 : Int) ∧ (v.2 : Int) < (u.2 : Int)) := this
      omega
  have sh : ∀ i, shapeOf (l.map npD) i = false := fun i => by
    cases l with
    | nil => rfl
    | cons s ss =>
      obtain ⟨x, y⟩ := s
      show (match ([.int (x : Int), .int (y : Int)] : List D)[i]? with | some (.str _) => true | _ => false) = false
      match i with
      | 0 => rfl
      | 1 => rfl
      | i + 2 => rfl
  have ok : (l.map npD).all (okD (shapeOf (l.map npD))) = true := by
    refine List.all_eq_true.mpr fun d hd => ?_
    obtain ⟨s, hs, rfl⟩ := List.mem_map.mp hd
    show (confD _ 0 [.int (s.1 : Int), .int (s.2 : Int)] && _) = true
    simp [confD, sh]
  have e : sortTD [.list (l.map npD)] = if (l.map npD).all (okD (shapeOf (l.map npD))) then some (isort dLt (l.map npD)) else none := rfl
  rw [e, if_pos ok, is]
end Lw

set_option Elab.async false
set_option linter.all false
set_option maxRecDepth 100000
set_option maxHeartbeats 4000000
/-! Gd: stretch_many, law_k71 -/
namespace Lw
open PySem L2 Dn
theorem sum_nat {α : Type} (l : List α) (f : α → Nat) : sumD [.list (l.map fun a => PyData.int (f a : Int))] = some (.int ((l.map f).sum : Int)) := by
  have e : (l.map fun a => PyData.int (f a : Int)) = (l.map fun a => (f a : Int)).map PyData.int := by rw [List.map_map]; rfl
  rw [e]
  show (ints? ((l.map fun a => (f a : Int)).map PyData.int)).map (fun ns => PyData.int ns.sum) = _
  rw [ints?_map]
  show some (PyData.int (l.map fun a => (f a : Int)).sum) = _
  congr 2
  induction l with
  | nil => rfl
  | cons a l ih => rw [List.map_cons, List.sum_cons, List.map_cons, List.sum_cons, ih (by rw [List.map_map]; rfl)]; omega
section
variable {t : Nat} {rs : List Int} (K : Rk t fun i => rs.getD i 0)
include K
theorem many_eq : ∀ (m : Nat) (E : List (Nat × Nat)) (s : Nat × Nat), Fam E s → Sub (strL (shL t fun i => rs.getD i 0)) E s → s.2 ≤ 100 → s.2 - s.1 ≤ m →
    F_stretch_many m [nestF (fun i => rs.getD i 0) m E s] = .ok (.int ((gathF (fun i => rs.getD i 0) m E s).length : Int))
  | 0, E, s, F, _, _, h => by
    have := F.st s F.me
    omega
  | m + 1, E, s, F, B, hs, h => by
    have st := F.st s F.me
    show mFn 1 4 (g_stretch_many (F_stretch_many m)) _ = _
    by_cases c : s.2 - s.1 = 1
    · have e0 : gathF (fun i => rs.getD i 0) (m + 1) E s = [s] := by show s :: (if s.2 - s.1 = 1 then [] else _) = _; rw [if_pos c]
      have e : nestF (fun i => rs.getD i 0) (m + 1) E s = .tuple [.str "one", .int (s.1 : Int), .int (s.2 : Int), .tuple []] := if_pos c
      have q1 : eqD (.str ("one" : Str)) (.str ("straight" : Str)) = some (.bool false) := by rw [eqD_str, decide_eq_false (by decide +kernel)]
      have q2 : eqD (.str ("one" : Str)) (.str ("turned" : Str)) = some (.bool false) := by rw [eqD_str, decide_eq_false (by decide +kernel)]
      have i0 : ixD (.tuple [.str "one", .int (s.1 : Int), .int (s.2 : Int), .tuple []]) (.int 0) = some (.str "one") := rfl
      have i3 : ixD (.tuple [.str "one", .int (s.1 : Int), .int (s.2 : Int), .tuple []]) (.int 3) = some (.tuple []) := rfl
      have it : itemsD (.tuple []) = .ok [] := rfl
      have sm : sumD [.list []] = some (.int 0) := rfl
      rw [e, e0]
      generalize PyData.tuple [.str "one", .int (s.1 : Int), .int (s.2 : Int), .tuple []] = N at *
      have l0 : ∀ (tg : D → Fr → Option Fr) (t : MT) (e : ME) (vs : List Nat) (ρ : Fr) (acc : List D), loopLc tg t e vs ρ [] acc = .ok acc := fun _ _ _ _ _ _ => rfl
      simp [mFn, g_stretch_many, start', q1, q2, i0, i3, it, sm, l0, -eqD_str]
    · have e0 : gathF (fun i => rs.getD i 0) (m + 1) E s = s :: ((prt (inn E s) s).flatMap (gathF (fun i => rs.getD i 0) m (inn E s)) ++ if kindB (lwL (fun i => rs.getD i 0) (prt (inn E s) s)) = 2 then [] else prsF (prt (inn E s) s)) := by
        show s :: (if s.2 - s.1 = 1 then [] else _) = _; rw [if_neg c]
      have e : nestF (fun i => rs.getD i 0) (m + 1) E s = .tuple [.str (kdW (kindB (lwL (fun i => rs.getD i 0) (prt (inn E s) s)))), .int (s.1 : Int), .int (s.2 : Int), .tuple ((prt (inn E s) s).map (nestF (fun i => rs.getD i 0) m (inn E s)))] := if_neg c
      have FI := inn_fam F F.me ⟨Nat.le_refl _, Nat.le_refl _⟩
      obtain ⟨ch, mx⟩ := prt_of FI (by omega)
      have H := prt_prt K F B (by omega)
      have l2 := chn_two H.ch H.pr (by omega)
      have cl := chn_len ch
      have kl := kind_le (lwL (fun i => rs.getD i 0) (prt (inn E s) s))
      have pl := prs_len _ l2
      have recs : ∀ u ∈ prt (inn E s) s, F_stretch_many m [nestF (fun i => rs.getD i 0) m (inn E s) u] = .ok (.int ((gathF (fun i => rs.getD i 0) m (inn E s) u).length : Int)) := fun u hu => by
        have su := chn_st ch u hu
        have mu := mx u hu
        exact many_eq m (inn E s) u (fam_in F mu) (B.inn mu.2.2.1) (by omega) (by have := mx_less mu su.2.1; omega)
      rw [e, e0, List.length_cons, List.length_append, List.length_flatMap]
      generalize hL : prt (inn E s) s = L at *
      generalize kindB (lwL (fun i => rs.getD i 0) L) = kn at *
      have sm := sum_nat L fun u => (gathF (fun i => rs.getD i 0) m (inn E s) u).length
      have lc : ∀ (T : D), loopLc (gN 3) tYesF (eCall (F_stretch_many m) (aCons (eVarF 3) aNil)) [3] [.val T, .none, .none, .none] (L.map (nestF (fun i => rs.getD i 0) m (inn E s))) [] = .ok (L.map fun u => PyData.int ((gathF (fun i => rs.getD i 0) m (inn E s) u).length : Int)) := fun T => by
        rw [loopLc_enc (nestF (fun i => rs.getD i 0) m (inn E s)) (fun u => PyData.int ((gathF (fun i => rs.getD i 0) m (inn E s) u).length : Int)) L [] (by rw [List.length_nil]; exact Nat.lt_of_lt_of_le (show 0 + L.length < 16777216 by omega) (by decide)) fun u hu => ?_]
        · rw [List.nil_append]
        · have ih := recs u hu
          refine ⟨_, rfl, ?_⟩
          generalize nestF (fun i => rs.getD i 0) m (inn E s) u = U at *
          simp [wipeF, ih]
      have ln : lenD [.tuple (L.map (nestF (fun i => rs.getD i 0) m (inn E s)))] = some (.int (L.length : Int)) := by
        show some (PyData.int ((L.map (nestF (fun i => rs.getD i 0) m (inn E s))).length : Int)) = _
        rw [List.length_map]
      have it : itemsD (.tuple (L.map (nestF (fun i => rs.getD i 0) m (inn E s)))) = .ok (L.map (nestF (fun i => rs.getD i 0) m (inn E s))) := rfl
      have ml : mulD (.int (L.length : Int)) (.int ((L.length : Int) - 1)) = some (.int ((L.length : Int) * ((L.length : Int) - 1))) := mulD_small (by omega)
      have dv : ((L.length : Int) * ((L.length : Int) - 1)) / 2 = ((prsF L).length : Int) + 1 := by
        have e1 : (L.length : Int) * ((L.length : Int) - 1) = ((L.length * (L.length - 1) : Nat) : Int) := by
          rw [Int.natCast_mul]; congr 1; omega
        rw [e1]
        omega
      clear recs e e0 ch mx FI B F K H hL pl
      generalize (List.map (fun u => (gathF (fun i => rs.getD i 0) m (inn E s) u).length) L) = GL at *
      generalize (L.map fun u => PyData.int ((gathF (fun i => rs.getD i 0) m (inn E s) u).length : Int)) = GD at *
      generalize hp : (prsF L).length = pn at *
      generalize L.map (nestF (fun i => rs.getD i 0) m (inn E s)) = PN at *
      generalize hT : PyData.tuple [.str (kdW kn), .int (s.1 : Int), .int (s.2 : Int), .tuple PN] = T at *
      have i0 : ixD T (.int 0) = some (.str (kdW kn)) := by rw [← hT]; rfl
      have i3 : ixD T (.int 3) = some (.tuple PN) := by rw [← hT]; rfl
      have lc := lc T
      clear hT
      generalize (L.length : Int) = n at *
      generalize hsum : GL.sum = S' at *
      match kn, kl with
      | 0, _ =>
        have q1 : eqD (.str (kdW 0)) (.str ("straight" : Str)) = some (.bool true) := by rw [eqD_str, decide_eq_true (show kdW 0 = ("straight" : Str) from rfl)]
        have fin : 1 + (S' : Int) + n * (n - 1) / 2 - 1 = ((S' + (if 0 = 2 then ([] : List (Nat × Nat)) else prsF L).length + 1 : Nat) : Int) := by rw [dv, if_neg (by decide), hp]; omega
        rw [← fin]
        generalize kdW 0 = w at *
        simp [mFn, g_stretch_many, start', i0, i3, q1, it, lc, sm, ln, ml, -eqD_str]
      | 1, _ =>
        have q1 : eqD (.str (kdW 1)) (.str ("straight" : Str)) = some (.bool false) := by rw [eqD_str, decide_eq_false (by decide +kernel)]
        have q2 : eqD (.str (kdW 1)) (.str ("turned" : Str)) = some (.bool true) := by rw [eqD_str, decide_eq_true (show kdW 1 = ("turned" : Str) from rfl)]
        have fin : 1 + (S' : Int) + n * (n - 1) / 2 - 1 = ((S' + (if 1 = 2 then ([] : List (Nat × Nat)) else prsF L).length + 1 : Nat) : Int) := by rw [dv, if_neg (by decide), hp]; omega
        rw [← fin]
        generalize kdW 1 = w at *
        simp [mFn, g_stretch_many, start', i0, i3, q1, q2, it, lc, sm, ln, ml, -eqD_str]
      | 2, _ =>
        have q1 : eqD (.str (kdW 2)) (.str ("straight" : Str)) = some (.bool false) := by rw [eqD_str, decide_eq_false (by decide +kernel)]
        have q2 : eqD (.str (kdW 2)) (.str ("turned" : Str)) = some (.bool false) := by rw [eqD_str, decide_eq_false (by decide +kernel)]
        have fin : 1 + (S' : Int) = ((S' + (if 2 = 2 then ([] : List (Nat × Nat)) else prsF L).length + 1 : Nat) : Int) := by rw [if_pos rfl, List.length_nil]; omega
        rw [← fin]
        generalize kdW 2 = w at *
        simp [mFn, g_stretch_many, start', i0, i3, q1, q2, it, lc, sm, -eqD_str]
end
/-! ### a nest is itself -/
theorem nest_self {r : Nat → Int} : ∀ (m : Nat) (E : List (Nat × Nat)) (s : Nat × Nat), PyData.eqv (nestF r m E s) (nestF r m E s) = true ∧ (nestF r m E s).canLay0 = true ∧ (nestF r m E s).depth ≤ 2 * m
  | 0, E, s => by
    show PyData.eqv .none .none = true ∧ PyData.canLay0 .none = true ∧ PyData.depth .none ≤ 2 * 0
    simp [PyData.eqv, PyData.canLay0, PyData.depth]
  | m + 1, E, s => by
    have all : ∀ l : List (Nat × Nat), PyData.eqvAll (l.map (nestF r m (inn E s))) (l.map (nestF r m (inn E s))) = true ∧ PyData.canLayAll0 (l.map (nestF r m (inn E s))) = true ∧ PyData.depthAll (l.map (nestF r m (inn E s))) ≤ 2 * m := fun l => by
      induction l with
      | nil => simp [PyData.eqvAll, PyData.canLayAll0, PyData.depthAll]
      | cons u l ih =>
        have h := nest_self (r := r) m (inn E s) u
        rw [List.map_cons]
        generalize nestF r m (inn E s) u = U at *
        generalize l.map (nestF r m (inn E s)) = LL at *
        simp [PyData.eqvAll, PyData.canLayAll0, PyData.depthAll, h.1, h.2.1, ih.1, ih.2.1]
        have := h.2.2
        have := ih.2.2
        omega
    by_cases c : s.2 - s.1 = 1
    · have e : nestF r (m + 1) E s = .tuple [.str "one", .int (s.1 : Int), .int (s.2 : Int), .tuple []] := if_pos c
      rw [e]
      have so : PyData.strOk ("one" : Str) = true := by decide +kernel
      simp [PyData.eqvAll, PyData.canLayAll0, PyData.depthAll, PyData.eqv, PyData.canLay0, PyData.depth, so]
      omega
    · have e : nestF r (m + 1) E s = .tuple [.str (kdW (kindB (lwL r (prt (inn E s) s)))), .int (s.1 : Int), .int (s.2 : Int), .tuple ((prt (inn E s) s).map (nestF r m (inn E s)))] := if_neg c
      rw [e]
      have h := all (prt (inn E s) s)
      have so : PyData.strOk (kdW (kindB (lwL r (prt (inn E s) s)))) = true := by
        match kindB (lwL r (prt (inn E s) s)), kind_le (lwL r (prt (inn E s) s)) with
        | 0, _ => decide +kernel
        | 1, _ => decide +kernel
        | 2, _ => decide +kernel
      generalize (prt (inn E s) s).map (nestF r m (inn E s)) = LL at *
      simp [PyData.eqvAll, PyData.canLayAll0, PyData.depthAll, PyData.eqv, PyData.canLay0, PyData.depth, h.1, h.2.1, so]
      have := h.2.2
      omega
section
variable {os rs : List Int} (O : Line os) (R : Line rs) (hl : rs.length = os.length) (hz : os.length ≤ 40) {one oth : D} (h1 : LnD (rs.map fun r => os.getD r.toNat 0) one) (h2 : LnD os oth)
include O R hl hz h1 h2
theorem looks_here : f_look_at_lines [one, oth] = .ok .none := by
  have ll : (rs.map fun r => os.getD r.toNat 0).length = os.length := by rw [List.length_map, hl]
  exact looks_ok h1 h2 ⟨one_line O R hl, by omega⟩ ⟨O, by omega⟩ ll
theorem nest_of_eq (h0 : 0 < os.length) : f_nest_of [one, oth] = .ok (nestF (fun i => rs.getD i 0) 50 (strL (shL rs.length fun i => rs.getD i 0)) (0, rs.length)) := by
  have lk := looks_here O R hl hz h1 h2
  have pe := places_eq O R hl (by omega) h1 h2
  have se := strong_by_eq R (by omega)
  have K := line_rk R
  have ln := h1.len
  rw [List.length_map] at ln
  have sl := str_len K (by omega)
  have ne := nest_at_eq (rs := rs) (by omega) 50 _ _ (str_fam K (by omega)) (Nat.le_refl _) (by show rs.length - 0 ≤ 50; omega) (by omega)
  have ne : f_nest_at [.list (rs.map .int), .tuple [.int 0, .int (rs.length : Int)], .list ((strL (shL rs.length fun i => rs.getD i 0)).map npD)] = _ := ne
  have c0 : ¬ (rs.length : Int) = 0 := by omega
  clear h1 h2
  generalize nestF (fun i => rs.getD i 0) 50 (strL (shL rs.length fun i => rs.getD i 0)) (0, rs.length) = N at *
  generalize (strL (shL rs.length fun i => rs.getD i 0)).map npD = SS at *
  generalize rs.map PyData.int = RR at *
  have q : eqD (.int (rs.length : Int)) (.int 0) = some (.bool false) := by rw [eqD_int, decide_eq_false c0]
  generalize (rs.length : Int) = t at *
  simp [f_nest_of, mFn, g_nest_of, start', lk, ln, q, pe, se, ne, -eqD_int]
end
theorem law_shared_eq {rs : List Int} (hz : rs.length ≤ 200) : f__law_shared [.list (rs.map .int)] = .ok (.list ((shL rs.length fun i => rs.getD i 0).map npD)) := shared_eq hz
theorem law_true (ns : List Int) (h : Scr ns) : f_law [scrD ns] = .ok (.bool true) := by
  obtain ⟨os, rs, O, R, hl, hz, pq⟩ := pair_eq ns 40 (by decide) (by decide)
  have pq : f__law_pair_of_lines [scrD ns, .int 40] = _ := pq
  have h1 : LnD (rs.map fun r => os.getD r.toNat 0) (.tuple ((rs.map fun r => os.getD r.toNat 0).map .int)) := .t
  have h2 : LnD os (ktD (os.map .int)) := .k
  have rk := ranks_eq O R hl (by omega) h1
  have ls := law_shared_eq (rs := rs) (by omega)
  have ln := h1.len
  rw [List.length_map] at ln
  have K := line_rk R
  by_cases c0 : rs.length = 0
  · have e : eqD (.int (rs.length : Int)) (.int 0) = some (.bool true) := by rw [eqD_int, c0]; rfl
    clear rk ls
    generalize PyData.tuple ((rs.map fun r => os.getD r.toNat 0).map PyData.int) = one at *
    generalize ktD (os.map PyData.int) = oth at *
    generalize (rs.length : Int) = t at *
    generalize scrD ns = SS at *
    simp [f_law, mFn, g_law, start', pq, ln, e, -eqD_int]
  · have e : eqD (.int (rs.length : Int)) (.int 0) = some (.bool false) := by rw [eqD_int, decide_eq_false (by omega)]
    have no := nest_of_eq O R hl hz h1 h2 (by omega)
    have F := str_fam K (by omega)
    have B : Sub (strL (shL rs.length fun i => rs.getD i 0)) (strL (shL rs.length fun i => rs.getD i 0)) (0, rs.length) := ⟨fun u h => h, fun u h _ => h⟩
    have gp := gath_perm K (by omega) (m := 50) (by omega)
    have so := sort_np gp shL_srt
    have gl : (gathF (fun i => rs.getD i 0) 50 (strL (shL rs.length fun i => rs.getD i 0)) (0, rs.length)).length = (shL rs.length fun i => rs.getD i 0).length := gp.length_eq.symm
    have sl : (shL rs.length fun i => rs.getD i 0).length ≤ 5000 := by
      have h : (shL rs.length fun i => rs.getD i 0).length ≤ (List.range rs.length).length * rs.length := by
        unfold shL
        rw [List.length_flatMap]
        have : ∀ l : List Nat, (l.map fun a => (((List.range (rs.length - a)).filter fun k => decide (hi (fun i => rs.getD i 0) a k - lo (fun i => rs.getD i 0) a k = k)).map fun k => (a, a + k + 1)).length).sum ≤ l.length * rs.length := fun l => by
          induction l with
          | nil => simp
          | cons a l ih =>
            rw [List.map_cons, List.sum_cons, List.length_cons, Nat.succ_mul, List.length_map]
            have := List.length_filter_le (fun k : Nat => decide (hi (fun i => rs.getD i 0) a k - lo (fun i => rs.getD i 0) a k = k)) (List.range (rs.length - a))
            rw [List.length_range] at this
            omega
        exact this _
      rw [List.length_range] at h
      have : rs.length * rs.length ≤ 40 * 40 := Nat.mul_le_mul (by omega) (by omega)
      omega
    have ga := gather_eq K 50 _ _ [] F B (by show rs.length ≤ 100; omega) (by show rs.length - 0 ≤ 50; omega) (by rw [List.length_nil]; omega)
    rw [List.nil_append] at ga
    have ga : fM_gather [_, .list []] = _ := ga
    have my := many_eq K 50 _ _ F B (by show rs.length ≤ 100; omega) (by show rs.length - 0 ≤ 50; omega)
    have my : f_stretch_many [_] = _ := my
    rw [gl] at my
    obtain ⟨s1, s2, s3⟩ := nest_self (r := fun i => rs.getD i 0) 50 (strL (shL rs.length fun i => rs.getD i 0)) (0, rs.length)
    have pr := pairs_eq (shL rs.length fun i => rs.getD i 0)
    have gq : Gr 1 npD := gr_pair (f := fun n : Nat => PyData.int (n : Int)) (g := fun n : Nat => PyData.int (n : Int)) gr_nat gr_nat
    have n1 := neD_l gq (by decide) (shL rs.length fun i => rs.getD i 0) (shL rs.length fun i => rs.getD i 0)
    have e1 := eqD_l gq (by decide) (shL rs.length fun i => rs.getD i 0) (shL rs.length fun i => rs.getD i 0)
    rw [decide_eq_true rfl] at n1 e1
    have wh := whole_int ((shL rs.length fun i => rs.getD i 0).length : Int)
    have ll : lenD [.list ((shL rs.length fun i => rs.getD i 0).map npD)] = some (.int ((shL rs.length fun i => rs.getD i 0).length : Int)) := by rw [lenD_l, List.length_map]
    clear F B gp gl sl K
    generalize (gathF (fun i => rs.getD i 0) 50 (strL (shL rs.length fun i => rs.getD i 0)) (0, rs.length)).map npD = GA at *
    generalize nestF (fun i => rs.getD i 0) 50 (strL (shL rs.length fun i => rs.getD i 0)) (0, rs.length) = N at *
    have ex : eqXD N N = some (.bool true) := by
      have sx : shX N = true := by
        unfold shX
        rw [Bool.and_eq_true, decide_eq_true_eq]
        exact ⟨s2, by omega⟩
      unfold eqXD
      rw [sx, s1]
      rfl
    have sof : f_stretches_of [N] = .ok (.list ((shL rs.length fun i => rs.getD i 0).map npD)) := by
      simp [f_stretches_of, mFn, g_stretches_of, start', ga, so]
    have soL : fL_stretches_of [N] = .ok ((shL rs.length fun i => rs.getD i 0).map npD) := by
      simp [fL_stretches_of, mFnL, gL_stretches_of, start', ga, so]
    have nn : neD (.int ((shL rs.length fun i => rs.getD i 0).length : Int)) (.int ((shL rs.length fun i => rs.getD i 0).length : Int)) = some (.bool false) := by simp
    generalize ((shL rs.length fun i => rs.getD i 0).length : Int) = cnt at *
    generalize (shL rs.length fun i => rs.getD i 0).map npD = SH at *
    generalize rs.map PyData.int = RR at *
    generalize PyData.tuple ((rs.map fun r => os.getD r.toNat 0).map PyData.int) = one at *
    generalize ktD (os.map PyData.int) = oth at *
    generalize (rs.length : Int) = t at *
    generalize scrD ns = SS at *
    simp [f_law, mFn, g_law, start', pq, ln, e, no, soL, rk, ls, my, pr, n1, wh, ll, nn, sof, e1, ex, -eqD_int]
end Lw

open PySem PySem.W PyProof.Rows
set_option maxRecDepth 100000 in
set_option maxHeartbeats 0 in
theorem PySem.Challenge.cw_claspwork_k71_whole_nest_tells_all_holds : PySem.Challenge.rw_claspwork_k71_whole_nest_tells_all.Holds := by
  w_on; o_law; k_head; (case hw => w_witness2)
  k_fill
  refine Dn.walk_law (l := PySem.Challenge.rw_claspwork_k71_whole_nest_tells_all) (k := 53) rfl rfl ⟨rfl, by decide, by decide⟩ (fun w h Y => PySem.W.kIn_of Y) ?F
  case F =>
    intro w mg fa h KX G hmg
    have b_bool : mg "bool" = none := PySem.W.mg_none_of KX G (by k_is)
    have b_enumerate : mg "enumerate" = none := PySem.W.mg_none_of KX G (by k_is)
    have b_int : mg "int" = none := PySem.W.mg_none_of KX G (by k_is)
    have b_isinstance : mg "isinstance" = none := PySem.W.mg_none_of KX G (by k_is)
    have b_len : mg "len" = none := PySem.W.mg_none_of KX G (by k_is)
    have b_list : mg "list" = none := PySem.W.mg_none_of KX G (by k_is)
    have b_max : mg "max" = none := PySem.W.mg_none_of KX G (by k_is)
    have b_min : mg "min" = none := PySem.W.mg_none_of KX G (by k_is)
    have b_range : mg "range" = none := PySem.W.mg_none_of KX G (by k_is)
    have b_sorted : mg "sorted" = none := PySem.W.mg_none_of KX G (by k_is)
    have b_sum : mg "sum" = none := PySem.W.mg_none_of KX G (by k_is)
    have b_tuple : mg "tuple" = none := PySem.W.mg_none_of KX G (by k_is)
    have e_BadRow : ∃ C, Dn.ExcAt (Dn.kOf KX) mg "BadRow" C [.type "ValueError", .type "Exception", .type "BaseException", .type "object"] := by
      dsimp only [Dn.kOf]
      refine' Dn.exc_mk KX G ?a ?e ?k ?b ?t
      (case a => k_is); (case e => k_exc); (case k => k_is); (case b => k_is); (case t => k_is)
    have e_NoSuch : ∃ C, Dn.ExcAt (Dn.kOf KX) mg "NoSuch" C [.type "ValueError", .type "Exception", .type "BaseException", .type "object"] := by
      dsimp only [Dn.kOf]
      refine' Dn.exc_mk KX G ?a ?e ?k ?b ?t
      (case a => k_is); (case e => k_exc); (case k => k_is); (case b => k_is); (case t => k_is)
    have e_Unlike : ∃ C, Dn.ExcAt (Dn.kOf KX) mg "Unlike" C [.type "ValueError", .type "Exception", .type "BaseException", .type "object"] := by
      dsimp only [Dn.kOf]
      refine' Dn.exc_mk KX G ?a ?e ?k ?b ?t
      (case a => k_is); (case e => k_exc); (case k => k_is); (case b => k_is); (case t => k_is)
    have z_MOST_THINGS : ∃ v, mg "MOST_THINGS" = some v ∧ ∃ t, v = .int 60 t := by
      refine' ⟨_, PySem.W.mg_of KX G ?a, ?zb_MOST_THINGS⟩
      (case a => k_is)
      exact ⟨_, rfl⟩
    have c_MOST_THINGS : ∃ t, mg "MOST_THINGS" = some (.int 60 t) := by
      obtain ⟨v, hv, t, rfl⟩ := z_MOST_THINGS
      exact ⟨t, hv⟩
    have d__law_cell_at : Dn.DefAt (Dn.kOf KX) mg "_law_cell_at" Lw.s__law_cell_at := by
      dsimp only [Dn.kOf]
      refine' Dn.def_mk KX G ?a ?l ?c ?k
      (case a => k_is); (case l => k_is); (case c => k_is); (case k => k_is)
    have d__law_things : Dn.DefAt (Dn.kOf KX) mg "_law_things" Lw.s__law_things := by
      dsimp only [Dn.kOf]
      refine' Dn.def_mk KX G ?a ?l ?c ?k
      (case a => k_is); (case l => k_is); (case c => k_is); (case k => k_is)
    have d__law_mixed : Dn.DefAt (Dn.kOf KX) mg "_law_mixed" Lw.s__law_mixed := by
      dsimp only [Dn.kOf]
      refine' Dn.def_mk KX G ?a ?l ?c ?k
      (case a => k_is); (case l => k_is); (case c => k_is); (case k => k_is)
    have d__law_drawn : Dn.DefAt (Dn.kOf KX) mg "_law_drawn" Lw.s__law_drawn := by
      dsimp only [Dn.kOf]
      refine' Dn.def_mk KX G ?a ?l ?c ?k
      (case a => k_is); (case l => k_is); (case c => k_is); (case k => k_is)
    have d__law_joined : Dn.DefAt (Dn.kOf KX) mg "_law_joined" Lw.s__law_joined := by
      dsimp only [Dn.kOf]
      refine' Dn.def_mk KX G ?a ?l ?c ?k
      (case a => k_is); (case l => k_is); (case c => k_is); (case k => k_is)
    have d__law_nested : Dn.DefAt (Dn.kOf KX) mg "_law_nested" Lw.s__law_nested := by
      dsimp only [Dn.kOf]
      refine' Dn.def_mk KX G ?a ?l ?c ?k
      (case a => k_is); (case l => k_is); (case c => k_is); (case k => k_is)
    have d__law_pair_of_lines : Dn.DefAt (Dn.kOf KX) mg "_law_pair_of_lines" Lw.s__law_pair_of_lines := by
      dsimp only [Dn.kOf]
      refine' Dn.def_mk KX G ?a ?l ?c ?k
      (case a => k_is); (case l => k_is); (case c => k_is); (case k => k_is)
    have d_look_at_line : Dn.DefAt (Dn.kOf KX) mg "look_at_line" Lw.s_look_at_line := by
      dsimp only [Dn.kOf]
      refine' Dn.def_mk KX G ?a ?l ?c ?k
      (case a => k_is); (case l => k_is); (case c => k_is); (case k => k_is)
    have d_look_at_lines : Dn.DefAt (Dn.kOf KX) mg "look_at_lines" Lw.s_look_at_lines := by
      dsimp only [Dn.kOf]
      refine' Dn.def_mk KX G ?a ?l ?c ?k
      (case a => k_is); (case l => k_is); (case c => k_is); (case k => k_is)
    have d_places_in : Dn.DefAt (Dn.kOf KX) mg "places_in" Lw.s_places_in := by
      dsimp only [Dn.kOf]
      refine' Dn.def_mk KX G ?a ?l ?c ?k
      (case a => k_is); (case l => k_is); (case c => k_is); (case k => k_is)
    have d_parts_within : Dn.DefAt (Dn.kOf KX) mg "parts_within" Lw.s_parts_within := by
      dsimp only [Dn.kOf]
      refine' Dn.def_mk KX G ?a ?l ?c ?k
      (case a => k_is); (case l => k_is); (case c => k_is); (case k => k_is)
    have d_kind_of_parts : Dn.DefAt (Dn.kOf KX) mg "kind_of_parts" Lw.s_kind_of_parts := by
      dsimp only [Dn.kOf]
      refine' Dn.def_mk KX G ?a ?l ?c ?k
      (case a => k_is); (case l => k_is); (case c => k_is); (case k => k_is)
    have d_nest_at : Dn.DefAt (Dn.kOf KX) mg "nest_at" Lw.s_nest_at := by
      dsimp only [Dn.kOf]
      refine' Dn.def_mk KX G ?a ?l ?c ?k
      (case a => k_is); (case l => k_is); (case c => k_is); (case k => k_is)
    have d_shared_by : Dn.DefAt (Dn.kOf KX) mg "shared_by" Lw.s_shared_by := by
      dsimp only [Dn.kOf]
      refine' Dn.def_mk KX G ?a ?l ?c ?k
      (case a => k_is); (case l => k_is); (case c => k_is); (case k => k_is)
    have d_reach_over : Dn.DefAt (Dn.kOf KX) mg "reach_over" Lw.s_reach_over := by
      dsimp only [Dn.kOf]
      refine' Dn.def_mk KX G ?a ?l ?c ?k
      (case a => k_is); (case l => k_is); (case c => k_is); (case k => k_is)
    have d_reach_back : Dn.DefAt (Dn.kOf KX) mg "reach_back" Lw.s_reach_back := by
      dsimp only [Dn.kOf]
      refine' Dn.def_mk KX G ?a ?l ?c ?k
      (case a => k_is); (case l => k_is); (case c => k_is); (case k => k_is)
    have d_strong_by : Dn.DefAt (Dn.kOf KX) mg "strong_by" Lw.s_strong_by := by
      dsimp only [Dn.kOf]
      refine' Dn.def_mk KX G ?a ?l ?c ?k
      (case a => k_is); (case l => k_is); (case c => k_is); (case k => k_is)
    have d_nest_of : Dn.DefAt (Dn.kOf KX) mg "nest_of" Lw.s_nest_of := by
      dsimp only [Dn.kOf]
      refine' Dn.def_mk KX G ?a ?l ?c ?k
      (case a => k_is); (case l => k_is); (case c => k_is); (case k => k_is)
    have d_gather : Dn.DefAt (Dn.kOf KX) mg "gather" Lw.s_gather := by
      dsimp only [Dn.kOf]
      refine' Dn.def_mk KX G ?a ?l ?c ?k
      (case a => k_is); (case l => k_is); (case c => k_is); (case k => k_is)
    have d_stretches_of : Dn.DefAt (Dn.kOf KX) mg "stretches_of" Lw.s_stretches_of := by
      dsimp only [Dn.kOf]
      refine' Dn.def_mk KX G ?a ?l ?c ?k
      (case a => k_is); (case l => k_is); (case c => k_is); (case k => k_is)
    have d__law_shared : Dn.DefAt (Dn.kOf KX) mg "_law_shared" Lw.s__law_shared := by
      dsimp only [Dn.kOf]
      refine' Dn.def_mk KX G ?a ?l ?c ?k
      (case a => k_is); (case l => k_is); (case c => k_is); (case k => k_is)
    have d_stretch_many : Dn.DefAt (Dn.kOf KX) mg "stretch_many" Lw.s_stretch_many := by
      dsimp only [Dn.kOf]
      refine' Dn.def_mk KX G ?a ?l ?c ?k
      (case a => k_is); (case l => k_is); (case c => k_is); (case k => k_is)
    have d__law_ranks : Dn.DefAt (Dn.kOf KX) mg "_law_ranks" Lw.s__law_ranks := by
      dsimp only [Dn.kOf]
      refine' Dn.def_mk KX G ?a ?l ?c ?k
      (case a => k_is); (case l => k_is); (case c => k_is); (case k => k_is)
    have d__law_whole : Dn.DefAt (Dn.kOf KX) mg "_law_whole" Lw.s__law_whole := by
      dsimp only [Dn.kOf]
      refine' Dn.def_mk KX G ?a ?l ?c ?k
      (case a => k_is); (case l => k_is); (case c => k_is); (case k => k_is)
    have d__law_pairs : Dn.DefAt (Dn.kOf KX) mg "_law_pairs" Lw.s__law_pairs := by
      dsimp only [Dn.kOf]
      refine' Dn.def_mk KX G ?a ?l ?c ?k
      (case a => k_is); (case l => k_is); (case c => k_is); (case k => k_is)
    have hl : ∃ fd : FuncData, Dn.BindS fd ∧ L2.Fun (Dn.kOf KX) "law" "law" Lw.s_law fa fd := by
      dsimp only [Dn.kOf]
      refine' Dn.law_mk KX G hmg ?a ?l ?c ?k ?b
      (case a => k_is); (case l => k_is); (case c => k_is); (case k => k_is); (case b => exact fun s u => .of_eq rfl)
    obtain ⟨fd, hb, hF⟩ := hl
    have T : Lw.Txt (Dn.kOf KX) mg := ⟨b_bool, b_enumerate, b_int, b_isinstance, b_len, b_list, b_max, b_min, b_range, b_sorted, b_sum, b_tuple, e_BadRow, e_NoSuch, e_Unlike, c_MOST_THINGS⟩
    exact ⟨fd, hb, fun base _ _ => Lw.all_ok T d__law_cell_at d__law_things d__law_mixed d__law_drawn d__law_joined d__law_nested d__law_pair_of_lines d_look_at_line d_look_at_lines d_places_in d_parts_within d_kind_of_parts d_nest_at d_shared_by d_reach_over d_reach_back d_strong_by d_nest_of d_gather d_stretches_of d__law_shared d_stretch_many d__law_ranks d__law_whole d__law_pairs hF Lw.law_true⟩

