import PyProof.Rows.All
import Wide.All
import OpenK.AllK
import Wide.FinOn
import HandS.ForMost
import HandS.Walk
import HandS.IsInst
import HandS.Conv
import HandS.Wide
import HandS.SortInts
import HandS.TupAny
import HandS.Zip
import HandS.Rev
import HandS.Exc
import HandS.TryOnly
import HandS.ExcOwn
import HandS.ExcIs
import HandS.WordsExc
import HandS.SuiteRaise
import HandS.Deep
import KE.GoesEnum
import HandS.EndBits
import HandS.More
import HandS.SetFor
import HandS.ExcValue
import HandS.Small
import PyProof.ListStr
import HandS.Text
import HandS.RaiseMore
import KE.DataMinMax
import HandS.TupLe
import PyProof.Rows.StrMul
import HandS.Strs
import HandS.SortKw
import KE.KDictWalk
import HandS.SortRule
import KE.KSortTupAny
import KE.LtData
import KE.KDictCopyH
import HandS.WideBits
import KE.KeyNested
import HandS.TupSets
import HandS.SetBool
import PyProof.EqKinds
import KE.KDictDisplayH
import PyProof.DictUpdate
import KE.KSliceW
import KE.GoesRaise
import HandS.TupMul
import HandS.HotCalls
import PySem.Challenge.RW_claspwork_k10_whole_texts_of_works
set_option Elab.async false
set_option linter.all false
set_option maxRecDepth 100000
set_option maxHeartbeats 4000000
namespace Dn
open PySem L2
inductive M (α : Type) where
  | ok (a : α) | exc (n : Str) | stuck
def M.bind {α β : Type} (x : M α) (f : α → M β) : M β := match x with
  | .ok a => f a
  | .exc n => .exc n
  | .stuck => .stuck
@[simp] theorem M.bind_ok {α β : Type} (a : α) (f : α → M β) : (M.ok a).bind f = f a := rfl
@[simp] theorem M.bind_exc {α β : Type} (n : Str) (f : α → M β) : (M.exc n : M α).bind f = .exc n := rfl
@[simp] theorem M.bind_stuck {α β : Type} (f : α → M β) : (M.stuck : M α).bind f = .stuck := rfl
abbrev D := PyData
/-- what may change: a list, a dict with keys that are ints and texts, one with keys that are tuples of such -/
inductive OD where
  | lst (ds : List D) | dK (kvs : List (Key × D)) | dT (kvs : List (List Key × D))
/-- a slot: empty, a value, a thing of one's own that may change, the thing handed in to be changed, an error -/
inductive S where
  | none | val (d : D) | own (o : OD) | pin (o : OD) | err (n : Str)
def keyD : Key → D
  | .inl i => .int i
  | .inr x => .str x
def dkD (kvs : List (Key × D)) : List (D × D) := (.bool false, .none) :: kvs.map fun p => (keyD p.1, p.2)
def dtD (kvs : List (List Key × D)) : List (D × D) := (.bool true, .none) :: kvs.map fun p => (.tuple (p.1.map keyD), p.2)
/-- a dict that is known to its object, as data -/
def kdK (kvs : List (Key × D)) : List (D × D) := (.bool false, .bool true) :: kvs.map fun p => (keyD p.1, p.2)
def kdT (kvs : List (List Key × D)) : List (D × D) := (.bool true, .bool true) :: kvs.map fun p => (.tuple (p.1.map keyD), p.2)
/-- no tuple -/
def NTup (o : HO) : Prop := ∀ xs, o ≠ .tup xs
/-- a thing as data -/
def OD.d : OD → D
  | .lst ds => .list ds
  | .dK kvs => .dict (dkD kvs)
  | .dT kvs => .dict (dtD kvs)
abbrev Fr := List S
abbrev ME := Fr → M D
abbrev ML := Fr → M (List D)
abbrev MT := Fr → M Bool
inductive Out where
  | nx (ρ : Fr) | ret (d : D) (ρ : Fr) | retL (ds : List D) (ρ : Fr) | brk (ρ : Fr) | cont (ρ : Fr) | exc (n : Str) (ρ : Fr) | stuck
abbrev MS := Fr → Out
/-- an error that is held: an object at a, of the own class at C -/
def ExH (C a : Addr) : HO := .ext fun h => ∃ (oe : Obj) (vs : Array Value), h.get? a = some oe ∧ Zc (.ref C) none oe ∧ oe.data = .fields vs
/-- the own class of errors named n -/
def Nm (K : PySem.W.Frag) (C : Addr) (n : Str) : Prop := PySem.W.nsIn K mainGlobals n = some (some (.ref C)) ∧ ExcC K C
/-- a tuple whose object is known, as data -/
abbrev ktD (ds : List D) : D := .dict [(.none, .tuple ds)]
/-- a def of one's own, as data -/
abbrev fnD (n : Str) : D := .dict [(.str n, .none)]
/-- .. as data -/
def excD (n : Str) : D := .dict [(.int 0, .str n)]
section
variable (K : PySem.W.Frag)
mutual
inductive Rep (H : Hp) : V → D → Prop
  | non : Rep H .non .none
  | bl (b : Bool) : Rep H (.bl b) (.bool b)
  | int (i : Int) : Rep H (.int i) (.int i)
  | str (x : Str) : Rep H (.str x) (.str x)
  | lst {a : Addr} {xs : List V} {ds : List D} : H a = some (.lst xs) → RepL H xs ds → Rep H (.ref a) (.list ds)
  | tup {a : Addr} {xs : List V} {ds : List D} : H a = some (.tup xs) → RepL H xs ds → Rep H (.ref a) (.tuple ds)
  | scr {a : Addr} {xs : List V} {ds : List D} {es : List (D × D)} : SqL K H a xs → RepL H xs ds → es = [(.none, .list ds)] → Rep H (.ref a) (.dict es)
  | dK {a : Addr} {xs : List (Key × V)} {ds : List (Key × D)} {es : List (D × D)} : H a = some (.dK xs) → RepK H xs ds → es = dkD ds → Rep H (.ref a) (.dict es)
  | dT {a : Addr} {xs : List (List Key × V)} {ds : List (List Key × D)} {es : List (D × D)} : H a = some (.dT xs) → RepT H xs ds → es = dtD ds → Rep H (.ref a) (.dict es)
  | dKf {a : Addr} {xs : List (Key × V)} {ds : List (Key × D)} {es : List (D × D)} {o : Obj} : H a = some (.frz o (.dK xs)) → RepK H xs ds → es = kdK ds → Rep H (.ref a) (.dict es)
  | dTf {a : Addr} {xs : List (List Key × V)} {ds : List (List Key × D)} {es : List (D × D)} {o : Obj} : H a = some (.frz o (.dT xs)) → RepT H xs ds → es = kdT ds → Rep H (.ref a) (.dict es)
  | ktp {a : Addr} {xs : List V} {ds : List D} {es : List (D × D)} {o : Obj} : H a = some (.frz o (.tup xs)) → o.cls = .type "tuple" → o.dict = none → RepL H xs ds → es = [(.none, .tuple ds)] → Rep H (.ref a) (.dict es)
  | fnc {a : Addr} {n : Str} {es : List (D × D)} : PySem.W.nsIn K mainGlobals n = some (some (.ref a)) → es = [(.str n, .none)] → Rep H (.ref a) (.dict es)
  | exc {a C : Addr} {n : Str} {es : List (D × D)} : H a = some (ExH C a) → Nm K C n → es = [(.int 0, .str n)] → Rep H (.ref a) (.dict es)
inductive RepL (H : Hp) : List V → List D → Prop
  | nil : RepL H [] []
  | cons {v : V} {vs : List V} {d : D} {ds : List D} : Rep H v d → RepL H vs ds → RepL H (v :: vs) (d :: ds)
inductive RepK (H : Hp) : List (Key × V) → List (Key × D) → Prop
  | nil : RepK H [] []
  | cons {k : Key} {v : V} {vs : List (Key × V)} {d : D} {ds : List (Key × D)} : Rep H v d → RepK H vs ds → RepK H ((k, v) :: vs) ((k, d) :: ds)
inductive RepT (H : Hp) : List (List Key × V) → List (List Key × D) → Prop
  | nil : RepT H [] []
  | cons {k : List Key} {v : V} {vs : List (List Key × V)} {d : D} {ds : List (List Key × D)} : Rep H v d → RepT H vs ds → RepT H ((k, v) :: vs) ((k, d) :: ds)
end
/-- a thing as it stands -/
inductive RepO (H : Hp) : HO → OD → Prop
  | lst {vs : List V} {ds : List D} : RepL K H vs ds → RepO H (.lst vs) (.lst ds)
  | dK {vs : List (Key × V)} {ds : List (Key × D)} : RepK K H vs ds → RepO H (.dK vs) (.dK ds)
  | dT {vs : List (List Key × V)} {ds : List (List Key × D)} : RepT K H vs ds → RepO H (.dT vs) (.dT ds)
end
def Ex (H H' : Hp) : Prop := ∀ a o, H a = some o → H' a = some o
theorem Ex.refl (H : Hp) : Ex H H := fun _ _ h => h
theorem Ex.trans {H H1 H2 : Hp} (a : Ex H H1) (b : Ex H1 H2) : Ex H H2 := fun x o h => b x o (a x o h)
theorem Ex.new {H : Hp} {p : Addr} {o : HO} (h : H p = none) : Ex H (upd H p o) := fun a u e => by
  rw [upd_ne (ne_of_none e h)]
  exact e
theorem Ex.free {H H' : Hp} {p : Addr} (e : Ex H H') (h : H' p = none) : H p = none := by
  cases h1 : H p with
  | none => rfl
  | some o =>
    rw [e p o h1] at h
    cases h
theorem ex_rd {H H' : Hp} {a : Addr} {u : HO} (e : Ex H H') (h : Rd H a u) : Rd H' a u := by
  rcases h with h | ⟨o, h⟩
  · exact Or.inl (e a _ h)
  · exact Or.inr ⟨o, e a _ h⟩
theorem ex_l {K : PySem.W.Frag} {H H' : Hp} {a : Addr} {xs : List V} (e : Ex H H') (h : SqL K H a xs) : SqL K H' a xs := by
  rcases h with h | h
  · exact Or.inl (ex_rd e h)
  · exact Or.inr h
theorem ex_t {K : PySem.W.Frag} {H H' : Hp} {a : Addr} {xs : List V} (e : Ex H H') (h : SqT K H a xs) : SqT K H' a xs := by
  rcases h with h | h
  · exact Or.inl (ex_rd e h)
  · exact Or.inr h
mutual
theorem Rep.mono {K : PySem.W.Frag} {H H' : Hp} (e : Ex H H') : ∀ {v : V} {d : D}, Rep K H v d → Rep K H' v d
  | _, _, .non => .non
  | _, _, .bl b => .bl b
  | _, _, .int i => .int i
  | _, _, .str x => .str x
  | _, _, .lst h r => .lst (e _ _ h) (RepL.mono e r)
  | _, _, .scr h r q => .scr (ex_l e h) (RepL.mono e r) q
  | _, _, .dK h r q => .dK (e _ _ h) (RepK.mono e r) q
  | _, _, .dT h r q => .dT (e _ _ h) (RepT.mono e r) q
  | _, _, .dKf h r q => .dKf (e _ _ h) (RepK.mono e r) q
  | _, _, .dTf h r q => .dTf (e _ _ h) (RepT.mono e r) q
  | _, _, .exc h r q => .exc (e _ _ h) r q
  | _, _, .ktp h c d r q => .ktp (e _ _ h) c d (RepL.mono e r) q
  | _, _, .fnc h q => .fnc h q
  | _, _, .tup h r => .tup (e _ _ h) (RepL.mono e r)
theorem RepL.mono {K : PySem.W.Frag} {H H' : Hp} (e : Ex H H') : ∀ {vs : List V} {ds : List D}, RepL K H vs ds → RepL K H' vs ds
  | _, _, .nil => .nil
  | _, _, .cons h r => .cons (Rep.mono e h) (RepL.mono e r)
theorem RepK.mono {K : PySem.W.Frag} {H H' : Hp} (e : Ex H H') : ∀ {vs : List (Key × V)} {ds : List (Key × D)}, RepK K H vs ds → RepK K H' vs ds
  | _, _, .nil => .nil
  | _, _, .cons h r => .cons (Rep.mono e h) (RepK.mono e r)
theorem RepT.mono {K : PySem.W.Frag} {H H' : Hp} (e : Ex H H') : ∀ {vs : List (List Key × V)} {ds : List (List Key × D)}, RepT K H vs ds → RepT K H' vs ds
  | _, _, .nil => .nil
  | _, _, .cons h r => .cons (Rep.mono e h) (RepT.mono e r)
end
theorem RepO.mono {K : PySem.W.Frag} {H H' : Hp} (e : Ex H H') {ho : HO} {o : OD} (h : RepO K H ho o) : RepO K H' ho o := by
  cases h with
  | lst r => exact .lst (r.mono e)
  | dK r => exact .dK (r.mono e)
  | dT r => exact .dT (r.mono e)
theorem RepO.nt {K : PySem.W.Frag} {H : Hp} {ho : HO} {o : OD} (h : RepO K H ho o) : NTup ho := by
  cases h <;> exact fun xs z => nomatch z
theorem RepO.frz {K : PySem.W.Frag} {H : Hp} {a : Addr} {ho : HO} {o : OD} (h : RepO K H ho o) (e : H a = some ho) : Rep K H (.ref a) o.d := by
  cases h with
  | lst r => exact .lst e r
  | dK r => exact .dK e r rfl
  | dT r => exact .dT e r rfl
mutual
theorem Rep.dp {K : PySem.W.Frag} {H : Hp} : ∀ {v : V} {d : D}, d.canLay0 = true → Rep K H v d → Dp K H v d
  | _, _, _, .non => .non
  | _, _, _, .bl b => .bl b
  | _, _, _, .int i => .int i
  | _, _, _, .str x => .str x
  | _, _, c, .lst h r => .lst (SqL.of h) (RepL.dp (by simpa [PyData.canLay0] using c) r)
  | _, _, c, .tup h r => .tup (.inl (.inl h)) (RepL.dp (by simpa [PyData.canLay0] using c) r)
  | _, _, c, .scr h r q => by simp [PyData.canLay0] at c
  | _, _, c, .dK h r q => by simp [PyData.canLay0] at c
  | _, _, c, .dT h r q => by simp [PyData.canLay0] at c
  | _, _, c, .dKf h r q => by simp [PyData.canLay0] at c
  | _, _, c, .dTf h r q => by simp [PyData.canLay0] at c
  | _, _, c, .ktp h _ _ r q => by simp [PyData.canLay0] at c
  | _, _, c, .fnc h q => by simp [PyData.canLay0] at c
theorem RepL.dp {K : PySem.W.Frag} {H : Hp} : ∀ {vs : List V} {ds : List D}, PyData.canLayAll0 ds = true → RepL K H vs ds → DpAll K H vs ds
  | _, _, _, .nil => .nil
  | _, _, c, .cons h r => by
    simp [PyData.canLayAll0] at c
    exact .cons (Rep.dp c.1 h) (RepL.dp c.2 r)
end
section
variable {K : PySem.W.Frag} {H : Hp} {vs ws : List V} {ds es : List D}
theorem RepL.length (h : RepL K H vs ds) : vs.length = ds.length := by
  induction ds generalizing vs with
  | nil => cases h; rfl
  | cons d ds ih =>
    cases h with
    | cons _ r => rw [List.length_cons, List.length_cons, ih r]
theorem RepL.append (h : RepL K H vs ds) (g : RepL K H ws es) : RepL K H (vs ++ ws) (ds ++ es) := by
  induction ds generalizing vs with
  | nil => cases h; exact g
  | cons d ds ih =>
    cases h with
    | cons a r => exact .cons a (ih r)
theorem RepL.get (h : RepL K H vs ds) {i : Nat} {v : V} (e : vs[i]? = some v) : ∃ d, ds[i]? = some d ∧ Rep K H v d := by
  induction ds generalizing vs i with
  | nil => cases h; simp at e
  | cons d ds ih =>
    cases h with
    | cons a r =>
      cases i with
      | zero => simp at e; subst e; exact ⟨d, rfl, a⟩
      | succ i => simp at e; simpa using ih r e
theorem RepL.get' (h : RepL K H vs ds) {i : Nat} {d : D} (e : ds[i]? = some d) : ∃ v, vs[i]? = some v ∧ Rep K H v d := by
  induction ds generalizing vs i with
  | nil => simp at e
  | cons d ds ih =>
    cases h with
    | cons a r =>
      cases i with
      | zero => simp at e; subst e; exact ⟨_, rfl, a⟩
      | succ i => simp at e; simpa using ih r e
theorem RepL.set (h : RepL K H vs ds) {v : V} {d : D} (r : Rep K H v d) (i : Nat) : RepL K H (vs.set i v) (ds.set i d) := by
  induction ds generalizing vs i with
  | nil => cases h; exact .nil
  | cons e ds ih =>
    cases h with
    | cons a q =>
      cases i with
      | zero => exact .cons r q
      | succ i => exact .cons a (ih q i)
theorem RepL.take (h : RepL K H vs ds) (n : Nat) : RepL K H (vs.take n) (ds.take n) := by
  induction ds generalizing vs n with
  | nil => cases h; simp; exact .nil
  | cons e ds ih =>
    cases h with
    | cons a q =>
      cases n with
      | zero => simp; exact .nil
      | succ n => simp only [List.take_succ_cons]; exact .cons a (ih q n)
theorem RepL.drop (h : RepL K H vs ds) (n : Nat) : RepL K H (vs.drop n) (ds.drop n) := by
  induction ds generalizing vs n with
  | nil => cases h; simp; exact .nil
  | cons e ds ih =>
    cases h with
    | cons a q =>
      cases n with
      | zero => exact .cons a q
      | succ n => simp only [List.drop_succ_cons]; exact ih q n
theorem RepL.reverse (h : RepL K H vs ds) : RepL K H vs.reverse ds.reverse := by
  induction ds generalizing vs with
  | nil => cases h; exact .nil
  | cons e ds ih =>
    cases h with
    | cons a q => simp only [List.reverse_cons]; exact (ih q).append (.cons a .nil)
theorem repL_ints (ns : List Int) : RepL K H (ns.map V.int) (ns.map PyData.int) := by
  induction ns with
  | nil => exact .nil
  | cons n ns ih => exact .cons (.int n) ih
/-- a list of ints in data is one of ints in values -/
theorem RepL.ints {ns : List Int} (h : RepL K H vs (ns.map PyData.int)) : vs = ns.map V.int := by
  induction ns generalizing vs with
  | nil => cases h; rfl
  | cons n ns ih =>
    cases h with
    | cons a r =>
      cases a
      rw [ih r]
      rfl
end
/-- one step: the frozen heap F and the heap H grow, what is newly frozen is new -/
structure Step (F H F' H' : Hp) : Prop where
  ff : Ex F F'
  hh : Ex H H'
  nw : ∀ a o, F a = none → H a = some o → NTup o → F' a = none
  fh : Ex F' H'
section
variable {F H F' H' F'' H'' : Hp}
theorem Step.refl (e : Ex F H) : Step F H F H := ⟨Ex.refl _, Ex.refl _, fun _ _ h _ _ => h, e⟩
theorem Step.trans (s : Step F H F' H') (t : Step F' H' F'' H'') : Step F H F'' H'' :=
  ⟨s.ff.trans t.ff, s.hh.trans t.hh, fun a o h1 h2 h3 => t.nw a o (s.nw a o h1 h2 h3) (s.hh a o h2) h3, t.fh⟩
theorem Ex.upd {p : Addr} {o : HO} (e : Ex F H) : Ex (upd F p o) (upd H p o) := fun a u h => by
  by_cases q : a = p
  · subst q; rw [upd_same] at h ⊢; exact h
  · rw [upd_ne q] at h ⊢; exact e a u h
/-- a new object, frozen -/
theorem Step.new {p : Addr} {o : HO} (e : Ex F H) (h : H p = none) : Step F H (L2.upd F p o) (L2.upd H p o) :=
  ⟨Ex.new (e.free h), Ex.new h, fun a o' h1 h2 _ => by
    have q : a ≠ p := ne_of_none h2 h
    rw [upd_ne q]; exact h1, e.upd⟩
/-- a new object, not frozen -/
theorem Step.new0 {p : Addr} {o : HO} (e : Ex F H) (h : H p = none) : Step F H F (L2.upd H p o) :=
  ⟨Ex.refl _, Ex.new h, fun a o' h1 h2 _ => h1, e.trans (Ex.new h)⟩
end
section
variable (K : PySem.W.Frag)
/-- a value that stands for data now: frozen, or a thing as it stands -/
inductive RepB (F H : Hp) : V → D → Prop
  | frz {v : V} {d : D} : Rep K F v d → RepB F H v d
  | thg {a : Addr} {ho : HO} {o : OD} : H a = some ho → RepO K F ho o → RepB F H (.ref a) o.d
/-- what a slot holds; L: where the thing handed in stands, where the error that is held -/
def SlotR (L : Addr × Addr) (F H0 H : Hp) : S → Option V → Prop
  | .none, _ => True
  | .val d, o => ∃ v, o = some v ∧ Rep K F v d
  | .own od, o => ∃ l ho, o = some (.ref l) ∧ F l = none ∧ H0 l = none ∧ H l = some ho ∧ RepO K F ho od
  | .pin od, o => o = some (.ref L.1) ∧ F L.1 = none ∧ H0 L.1 = none ∧ ∃ ho, H L.1 = some ho ∧ RepO K F ho od
  | .err _, o => o = some (.ref L.2)
def ownO : Option S → Option OD
  | some (.own o) => some o
  | some (.pin o) => some o
  | _ => none
def isOwn (s : Option S) : Prop := (ownO s).isSome = true
structure Env (L : Addr × Addr) (F0 H0 F H : Hp) (σ : St) (ρ : Fr) : Prop where
  st : Step F0 H0 F H
  len : σ.length = ρ.length
  sl : ∀ (i : Nat) (s : S), ρ[i]? = some s → SlotR K L F H0 H s (σ[i]?.join)
  sep : ∀ (i j : Nat) (l : Addr), isOwn ρ[i]? → isOwn ρ[j]? → σ[i]? = some (some (.ref l)) → σ[j]? = some (some (.ref l)) → i = j
end
section
variable {K : PySem.W.Frag} {L : Addr × Addr} {F0 H0 F H F' H' : Hp} {σ : St} {ρ : Fr} {v : V} {d : D}
theorem RepB.step (s : Step F H F' H') (h : RepB K F H v d) : RepB K F' H' v d := by
  cases h with
  | frz r => exact .frz (r.mono s.ff)
  | thg q r => exact .thg (s.hh _ _ q) (r.mono s.ff)
/-- for reading, all is as if frozen -/
theorem RepB.now (e : Ex F H) (h : RepB K F H v d) : Rep K H v d := by
  cases h with
  | frz r => exact r.mono e
  | thg q r => exact (r.mono e).frz q
theorem Env.step (E : Env K L F0 H0 F H σ ρ) (s : Step F H F' H') : Env K L F0 H0 F' H' σ ρ where
  st := E.st.trans s
  len := E.len
  sep := E.sep
  sl := fun i t h => by
    have q := E.sl i t h
    cases t with
    | none => trivial
    | err n => exact q
    | val d => obtain ⟨v, e, r⟩ := q; exact ⟨v, e, r.mono s.ff⟩
    | own ds =>
      obtain ⟨l, ho, e, f, h0, hl, r⟩ := q
      exact ⟨l, ho, e, s.nw l ho f hl r.nt, h0, s.hh _ _ hl, r.mono s.ff⟩
    | pin ds =>
      obtain ⟨e, f, h0, ho, hl, r⟩ := q
      exact ⟨e, s.nw L.1 ho f hl r.nt, h0, ho, s.hh _ _ hl, r.mono s.ff⟩
theorem join_some {α : Type} {o : Option (Option α)} {x : α} (h : o.join = some x) : o = some (some x) := by
  cases o with
  | none => cases h
  | some y => simp at h; rw [h]
theorem Env.var (E : Env K L F0 H0 F H σ ρ) {i : Nat} (h : ρ[i]? = some (.val d)) : ∃ v, σ[i]? = some (some v) ∧ Rep K F v d := by
  obtain ⟨v, e, r⟩ := E.sl i _ h
  exact ⟨v, join_some e, r⟩
theorem Env.ownv (E : Env K L F0 H0 F H σ ρ) {i : Nat} {o : OD} (h : ownO ρ[i]? = some o) : ∃ l ho, σ[i]? = some (some (.ref l)) ∧ F l = none ∧ H0 l = none ∧ H l = some ho ∧ RepO K F ho o ∧ (∀ o', ρ[i]? = some (.pin o') → l = L.1) := by
  cases q : ρ[i]? with
  | none => rw [q] at h; cases h
  | some s =>
    rw [q] at h
    cases s with
    | own od =>
      cases h
      obtain ⟨l, ho, e, r1, r2, r3, r4⟩ := E.sl i _ q
      exact ⟨l, ho, join_some e, r1, r2, r3, r4, fun o' z => by cases z⟩
    | pin od =>
      cases h
      obtain ⟨e, r1, r2, ho, r3, r4⟩ := E.sl i _ q
      exact ⟨L.1, ho, join_some e, r1, r2, r3, r4, fun _ _ => rfl⟩
    | none => cases h
    | val d => cases h
    | err n => cases h
theorem set_get {α : Type} {l : List α} {i j : Nat} {x y : α} (h : (l.set i x)[j]? = some y) : (i = j ∧ y = x ∧ i < l.length) ∨ (i ≠ j ∧ l[j]? = some y) := by
  rw [List.getElem?_set] at h
  by_cases q : i = j
  · rw [if_pos q] at h
    split at h
    · left; exact ⟨q, (Option.some.inj h).symm, by assumption⟩
    · cases h
  · rw [if_neg q] at h
    exact .inr ⟨q, h⟩
/-- a slot that is no thing of one's own any more -/
theorem own_ne {i j : Nat} {s : S} (hs : ownO (some s) = none) (h : isOwn (ρ.set i s)[j]?) : i ≠ j := fun z => by
  subst z
  unfold isOwn at h
  by_cases q : i < ρ.length
  · rw [List.getElem?_set_self q, hs] at h; cases h
  · rw [List.getElem?_eq_none (by rw [List.length_set]; omega)] at h; cases h
/-- a slot gets a value, or is emptied -/
theorem Env.setx (E : Env K L F0 H0 F H σ ρ) {s : S} {o : Option V} (hs : ownO (some s) = none) (r : SlotR K L F H0 H s o) (i : Nat) : Env K L F0 H0 F H (σ.set i o) (ρ.set i s) where
  st := E.st
  len := by rw [List.length_set, List.length_set]; exact E.len
  sl := fun j t h => by
    rcases set_get h with ⟨e, es, hl⟩ | ⟨ne, h'⟩
    · subst e; subst es
      rw [List.getElem?_set_self (by rw [E.len]; exact hl)]
      exact r
    · rw [List.getElem?_set_ne ne]
      exact E.sl j t h'
  sep := fun j k l h1 h2 e1 e2 => by
    have nj := own_ne hs h1
    have nk := own_ne hs h2
    rw [List.getElem?_set_ne nj] at h1 e1
    rw [List.getElem?_set_ne nk] at h2 e2
    exact E.sep j k l h1 h2 e1 e2
theorem Env.setv (E : Env K L F0 H0 F H σ ρ) (r : Rep K F v d) (i : Nat) : Env K L F0 H0 F H (σ.set i (some v)) (ρ.set i (.val d)) := E.setx (s := .val d) rfl (show SlotR K L F H0 H (.val d) (some v) from ⟨v, rfl, r⟩) i
/-- a slot gets a new thing -/
theorem Env.seto (E : Env K L F0 H0 F H σ ρ) {p : Addr} {ho : HO} {o : OD} (hp : H p = none) (r : RepO K F ho o) (i : Nat) : Env K L F0 H0 F (upd H p ho) (σ.set i (some (.ref p))) (ρ.set i (.own o)) where
  st := E.st.trans (Step.new0 E.st.fh hp)
  len := by rw [List.length_set, List.length_set]; exact E.len
  sl := fun j s h => by
    rcases set_get h with ⟨e, es, hl⟩ | ⟨ne, h'⟩
    · subst e; subst es
      rw [List.getElem?_set_self (by rw [E.len]; exact hl)]
      exact ⟨p, ho, rfl, E.st.fh.free hp, E.st.hh.free hp, upd_same, r⟩
    · rw [List.getElem?_set_ne ne]
      exact (E.step (Step.new0 E.st.fh hp)).sl j s h'
  sep := fun j k l h1 h2 e1 e2 => by
    have no : ∀ {m : Nat}, isOwn ρ[m]? → σ[m]? = some (some (.ref p)) → False := fun {m} hm em => by
      cases q : ownO ρ[m]? with
      | none => unfold isOwn at hm; rw [q] at hm; cases hm
      | some o =>
        obtain ⟨l', ho', el, _, _, hl, _⟩ := E.ownv q
        rw [el] at em
        cases em
        rw [hp] at hl
        cases hl
    by_cases nj : i = j
    · by_cases nk : i = k
      · exact nj.symm.trans nk
      · subst nj
        rw [List.getElem?_set_ne nk] at h2 e2
        rw [List.getElem?_set] at e1
        simp at e1
        obtain ⟨_, e1⟩ := e1
        subst e1
        exact (no h2 e2).elim
    · rw [List.getElem?_set_ne nj] at h1 e1
      by_cases nk : i = k
      · subst nk
        rw [List.getElem?_set] at e2
        simp at e2
        obtain ⟨_, e2⟩ := e2
        subst e2
        exact (no h1 e1).elim
      · rw [List.getElem?_set_ne nk] at h2 e2
        exact E.sep j k l h1 h2 e1 e2
/-- the thing of one's own in a slot as it is now -/
def putO (i : Nat) (o : OD) (ρ : Fr) : Fr := match ρ[i]? with
  | some (.pin _) => ρ.set i (.pin o)
  | _ => ρ.set i (.own o)
theorem putO_get {i j : Nat} {o o0 : OD} {s : S} (h0 : ownO ρ[i]? = some o0) (h : (putO i o ρ)[j]? = some s) : (i = j ∧ ((s = .own o ∧ ∃ o', ρ[i]? = some (.own o')) ∨ (s = .pin o ∧ ∃ o', ρ[i]? = some (.pin o')))) ∨ (i ≠ j ∧ ρ[j]? = some s) := by
  unfold putO at h
  cases q : ρ[i]? with
  | none => rw [q] at h0; cases h0
  | some t =>
    rw [q] at h h0
    cases t with
    | own o' =>
      rcases set_get h with ⟨e, es, _⟩ | z
      · exact .inl ⟨e, .inl ⟨es, o', rfl⟩⟩
      · exact .inr z
    | pin o' =>
      rcases set_get h with ⟨e, es, _⟩ | z
      · exact .inl ⟨e, .inr ⟨es, o', rfl⟩⟩
      · exact .inr z
    | none => cases h0
    | val _ => cases h0
    | err _ => cases h0
theorem putO_len {i : Nat} {o : OD} : (putO i o ρ).length = ρ.length := by
  unfold putO
  split <;> rw [List.length_set]
theorem putO_own {i j : Nat} {o o0 : OD} (h0 : ownO ρ[i]? = some o0) (h : isOwn (putO i o ρ)[j]?) : isOwn ρ[j]? := by
  cases q : (putO i o ρ)[j]? with
  | none => rw [q] at h; cases h
  | some s =>
    rcases putO_get h0 q with ⟨e, _⟩ | ⟨_, z⟩
    · subst e; unfold isOwn; rw [h0]; rfl
    · rw [z, ← q]; exact h
/-- another slot's thing stands elsewhere -/
theorem Env.apart (E : Env K L F0 H0 F H σ ρ) {i j : Nat} {l m : Addr} {o u : OD} (h : ownO ρ[i]? = some o) (h' : ownO ρ[j]? = some u) (hl : σ[i]? = some (some (.ref l))) (hm : σ[j]? = some (some (.ref m))) (ne : i ≠ j) : m ≠ l := fun z => by
  subst z
  exact ne (E.sep i j m (by unfold isOwn; rw [h]; rfl) (by unfold isOwn; rw [h']; rfl) hl hm)
/-- the thing of one's own in slot i changes -/
theorem Env.mut (E : Env K L F0 H0 F H σ ρ) {i : Nat} {l : Addr} {o u : OD} {ho : HO} (h : ownO ρ[i]? = some o) (hl : σ[i]? = some (some (.ref l))) (r : RepO K F ho u) : Env K L F0 H0 F (upd H l ho) σ (putO i u ρ) where
  st := by
    obtain ⟨l', ho', e, f, h0, hH, _⟩ := E.ownv h
    rw [hl] at e
    cases e
    refine ⟨E.st.ff, fun a o q => ?_, E.st.nw, fun a o q => ?_⟩
    · rw [upd_ne (ne_of_none q h0)]; exact E.st.hh a o q
    · rw [upd_ne (ne_of_none q f)]; exact E.st.fh a o q
  len := by rw [putO_len]; exact E.len
  sl := fun j s q => by
    obtain ⟨l', ho', e, f, h0, hH, _, hpin⟩ := E.ownv h
    rw [hl] at e
    cases e
    rcases putO_get h q with ⟨e, z⟩ | ⟨ne, h'⟩
    · subst e
      rw [hl]
      rcases z with ⟨rfl, o', ho'⟩ | ⟨rfl, o', ho'⟩
      · exact ⟨l, ho, rfl, f, h0, upd_same, r⟩
      · have el := hpin o' ho'
        subst el
        exact ⟨rfl, f, h0, ho, upd_same, r⟩
    · have z := E.sl j s h'
      cases s with
      | none => trivial
      | err n => exact z
      | val d => exact z
      | own us =>
        obtain ⟨m, ho2, e, f2, h2, hH2, rr⟩ := z
        refine ⟨m, ho2, e, f2, h2, ?_, rr⟩
        rw [upd_ne (E.apart h (by rw [h']; rfl) hl (join_some e) ne)]
        exact hH2
      | pin us =>
        obtain ⟨e, f2, h2, ho2, hH2, rr⟩ := z
        refine ⟨e, f2, h2, ho2, ?_, rr⟩
        rw [upd_ne (E.apart h (by rw [h']; rfl) hl (join_some e) ne)]
        exact hH2
  sep := fun j k m h1 h2 e1 e2 => E.sep j k m (putO_own h h1) (putO_own h h2) e1 e2
/-- the thing of one's own in slot i is frozen -/
theorem Env.frz (E : Env K L F0 H0 F H σ ρ) {i : Nat} {o : OD} (h : ρ[i]? = some (.own o)) : ∃ F', Ex F F' ∧ Env K L F0 H0 F' H σ (ρ.set i (.val o.d)) := by
  have h1 : ownO ρ[i]? = some o := by rw [h]; rfl
  obtain ⟨l, ho, e, f, h0, hH, r, _⟩ := E.ownv h1
  have ef : Ex F (upd F l ho) := Ex.new f
  refine ⟨upd F l ho, ef, ⟨?_, by rw [List.length_set]; exact E.len, fun j s q => ?_, fun j k m h1 h2 e1 e2 => ?_⟩⟩
  · refine ⟨E.st.ff.trans ef, E.st.hh, fun a o' h1 h2 h3 => ?_, fun a o q => ?_⟩
    · rw [upd_ne (ne_of_none h2 h0)]; exact E.st.nw a o' h1 h2 h3
    · by_cases z : a = l
      · subst z; rw [upd_same] at q; cases q; exact hH
      · rw [upd_ne z] at q; exact E.st.fh a o q
  · rcases set_get q with ⟨e', es', hl'⟩ | ⟨ne, h'⟩
    · subst e'; subst es'
      rw [e]
      exact ⟨.ref l, rfl, (r.mono ef).frz upd_same⟩
    · have z := E.sl j s h'
      cases s with
      | none => trivial
      | err n => exact z
      | val d => obtain ⟨v, e, rr⟩ := z; exact ⟨v, e, rr.mono ef⟩
      | own us =>
        obtain ⟨m, vs', e', f', h0', hH', rr⟩ := z
        refine ⟨m, vs', e', ?_, h0', hH', rr.mono ef⟩
        rw [upd_ne (E.apart h1 (by rw [h']; rfl) e (join_some e') ne)]
        exact f'
      | pin us =>
        obtain ⟨e', f', h0', ho', hH', rr⟩ := z
        refine ⟨e', ?_, h0', ho', hH', rr.mono ef⟩
        rw [upd_ne (E.apart h1 (by rw [h']; rfl) e (join_some e') ne)]
        exact f'
  · have nj := own_ne rfl h1
    have nk := own_ne rfl h2
    rw [List.getElem?_set_ne nj] at h1
    rw [List.getElem?_set_ne nk] at h2
    exact E.sep j k m h1 h2 e1 e2
/-- the heap without one object -/
def del (H : Hp) (p : Addr) : Hp := fun b => if b = p then none else H b
theorem del_same {p : Addr} : del H p p = none := if_pos rfl
theorem del_ne {p b : Addr} (h : b ≠ p) : del H p b = H b := if_neg h
theorem del_upd {p : Addr} {o : HO} (h : H p = some o) : upd (del H p) p o = H := by
  funext b
  by_cases q : b = p
  · subst q; rw [upd_same, h]
  · rw [upd_ne q, del_ne q]
/-- the thing of one's own in slot i is let go -/
theorem Env.drop (E : Env K L F0 H0 F H σ ρ) {i : Nat} {l : Addr} {o : OD} (h : ρ[i]? = some (.own o)) (hl : σ[i]? = some (some (.ref l))) : Env K L F0 H0 F (del H l) σ (ρ.set i .none) where
  st := by
    have h1 : ownO ρ[i]? = some o := by rw [h]; rfl
    obtain ⟨l', ho, e, f, h0, hH, r, _⟩ := E.ownv h1
    rw [hl] at e
    cases e
    refine ⟨E.st.ff, fun a o q => ?_, E.st.nw, fun a o q => ?_⟩
    · rw [del_ne (ne_of_none q h0)]; exact E.st.hh a o q
    · rw [del_ne (ne_of_none q f)]; exact E.st.fh a o q
  len := by rw [List.length_set]; exact E.len
  sl := fun j s q => by
    have h1 : ownO ρ[i]? = some o := by rw [h]; rfl
    rcases set_get q with ⟨e', es', hl'⟩ | ⟨ne, h'⟩
    · subst es'; trivial
    · have z := E.sl j s h'
      cases s with
      | none => trivial
      | err n => exact z
      | val d => exact z
      | own us =>
        obtain ⟨m, vs', e', f', h0', hH', rr⟩ := z
        refine ⟨m, vs', e', f', h0', ?_, rr⟩
        rw [del_ne (E.apart h1 (by rw [h']; rfl) hl (join_some e') ne)]
        exact hH'
      | pin us =>
        obtain ⟨e', f', h0', ho', hH', rr⟩ := z
        refine ⟨e', f', h0', ho', ?_, rr⟩
        rw [del_ne (E.apart h1 (by rw [h']; rfl) hl (join_some e') ne)]
        exact hH'
  sep := fun j k m h1 h2 e1 e2 => by
    have nj := own_ne rfl h1
    have nk := own_ne rfl h2
    rw [List.getElem?_set_ne nj] at h1
    rw [List.getElem?_set_ne nk] at h2
    exact E.sep j k m h1 h2 e1 e2
end
end Dn
set_option Elab.async false
set_option linter.all false
set_option maxRecDepth 100000
set_option maxHeartbeats 4000000
namespace Dn
open PySem L2
def post {α : Type} (m : M α) (kx : α → Prop) (ke : Str → Prop) : Prop := match m with
  | .ok a => kx a
  | .exc n => ke n
  | .stuck => False
@[simp] theorem post_ok {α : Type} {a : α} {kx : α → Prop} {ke : Str → Prop} : post (.ok a) kx ke = kx a := rfl
@[simp] theorem post_exc {α : Type} {n : Str} {kx : α → Prop} {ke : Str → Prop} : post (.exc n : M α) kx ke = ke n := rfl
@[simp] theorem post_stuck {α : Type} {kx : α → Prop} {ke : Str → Prop} : post (.stuck : M α) kx ke = False := rfl
theorem post_mono {α : Type} {m : M α} {kx kx' : α → Prop} {ke ke' : Str → Prop} (h : post m kx ke) (f : ∀ a, kx a → kx' a) (g : ∀ n, ke n → ke' n) : post m kx' ke' := by
  cases m with
  | ok a => exact f a h
  | exc n => exact g n h
  | stuck => exact h
theorem post_bind {α β : Type} {m : M α} {f : α → M β} {kx : β → Prop} {ke : Str → Prop} (h : post (m.bind f) kx ke) : post m (fun a => post (f a) kx ke) ke := by
  cases m with
  | ok a => exact h
  | exc n => exact h
  | stuck => exact h
inductive RepBL (K : PySem.W.Frag) (F H : Hp) : List V → List D → Prop
  | nil : RepBL K F H [] []
  | cons {v : V} {vs : List V} {d : D} {ds : List D} : RepB K F H v d → RepBL K F H vs ds → RepBL K F H (v :: vs) (d :: ds)
theorem RepBL.step {K : PySem.W.Frag} {F H F' H' : Hp} (s : Step F H F' H') : ∀ {vs : List V} {ds : List D}, RepBL K F H vs ds → RepBL K F' H' vs ds
  | _, _, .nil => .nil
  | _, _, .cons r t => .cons (r.step s) (RepBL.step s t)
theorem RepL.b {K : PySem.W.Frag} {F H : Hp} : ∀ {vs : List V} {ds : List D}, RepL K F vs ds → RepBL K F H vs ds
  | _, _, .nil => .nil
  | _, _, .cons r t => .cons (.frz r) (RepL.b t)
section
variable (K : PySem.W.Frag) (L : Addr × Addr) (mg : Str → Option Value) (W : WX)
def Wm (n : Str) (σ : St) (H : Hp) : Prop := ∀ C, mg n = some (.ref C) → W (.ref C) none σ H
/-- what is wanted of a value -/
abbrev WV (F H : Hp) (d : D) (Q : VK) : Prop := ∀ F' H' v, Step F H F' H' → RepB K F' H' v d → Q v H'
abbrev WF (F H : Hp) (d : D) (Q : VK) : Prop := ∀ F' H' v, Step F H F' H' → Rep K F' v d → Q v H'
abbrev WN (F H : Hp) (ds : List D) (Q : VK) : Prop := ∀ F' H1 p vs, Step F H F' H1 → H1 p = none → RepL K F' vs ds → Q (.ref p) (upd H1 p (.lst vs))
abbrev WE' (F H : Hp) (σ : St) (n : Str) : Prop := ∀ F' H', Step F H F' H' → Wm mg W n σ H'
/-- an expression, as it is -/
def DE (t : TE) (f : ME) : Prop := ∀ F0 H0 F H σ ρ Q, Env K L F0 H0 F H σ ρ → post (f ρ) (fun d => WV K F H d Q) (WE' mg W F H σ) → t σ H Q
/-- .. frozen -/
def DF (t : TE) (f : ME) : Prop := ∀ F0 H0 F H σ ρ Q, Env K L F0 H0 F H σ ρ → post (f ρ) (fun d => WF K F H d Q) (WE' mg W F H σ) → t σ H Q
/-- .. a new list -/
def DL (t : TE) (f : ML) : Prop := ∀ F0 H0 F H σ ρ Q, Env K L F0 H0 F H σ ρ → post (f ρ) (fun ds => WN K F H ds Q) (WE' mg W F H σ) → t σ H Q
/-- a test -/
def DT (t : TT) (f : MT) : Prop := ∀ F0 H0 F H σ ρ Q, Env K L F0 H0 F H σ ρ → post (f ρ) (fun b => ∀ F' H', Step F H F' H' → Q b H') (WE' mg W F H σ) → t σ H Q
/-- arguments, as they are; frozen -/
def DA (t : TA) (f : ML) : Prop := ∀ F0 H0 F H σ ρ (Q : List V → Hp → Prop), Env K L F0 H0 F H σ ρ → post (f ρ) (fun ds => ∀ F' H' vs, Step F H F' H' → RepBL K F' H' vs ds → Q vs H') (WE' mg W F H σ) → t σ H Q
def DAF (t : TA) (f : ML) : Prop := ∀ F0 H0 F H σ ρ (Q : List V → Hp → Prop), Env K L F0 H0 F H σ ρ → post (f ρ) (fun ds => ∀ F' H' vs, Step F H F' H' → RepL K F' vs ds → Q vs H') (WE' mg W F H σ) → t σ H Q
/-- a slice's part -/
def DO (t : TO) (f : Fr → M (Option Int)) : Prop := ∀ F0 H0 F H σ ρ (Q : Option Int → Hp → Prop), Env K L F0 H0 F H σ ρ → post (f ρ) (fun o => ∀ F' H', Step F H F' H' → Q o H') (WE' mg W F H σ) → t σ H Q
/-- an operation on values -/
def R2D (r : R2) (f : D → D → Option D) : Prop := ∀ F H x y d e Q z, Ex F H → RepB K F H x d → RepB K F H y e → f d e = some z → WF K F H z Q → r x y H Q
def R1D (r : V → Hp → VK → Prop) (f : D → Option D) : Prop := ∀ F H x d Q z, Ex F H → RepB K F H x d → f d = some z → WF K F H z Q → r x H Q
def RCD (r : List V → Hp → VK → Prop) (f : List D → Option D) : Prop := ∀ F H xs ds Q z, Ex F H → RepBL K F H xs ds → f ds = some z → WF K F H z Q → r xs H Q
def RCL (r : List V → Hp → VK → Prop) (f : List D → Option (List D)) : Prop := ∀ F H xs ds Q z, Ex F H → RepBL K F H xs ds → f ds = some z → WN K F H z Q → r xs H Q
def RSD (r : V → Option Int → Option Int → Hp → VK → Prop) (f : D → Option Int → Option Int → Option D) : Prop := ∀ F H x d lo hi Q z, Ex F H → RepB K F H x d → f d lo hi = some z → WF K F H z Q → r x lo hi H Q
end
def eC (d : D) : ME := fun _ => .ok d
def eVar (i : Nat) : ME := fun ρ => match ρ[i]? with
  | some (.val d) => .ok d
  | some (.own o) => .ok o.d
  | some (.pin o) => .ok o.d
  | _ => .stuck
def eVarF (i : Nat) : ME := fun ρ => match ρ[i]? with
  | some (.val d) => .ok d
  | _ => .stuck
def lift {α : Type} : Option α → M α
  | some a => .ok a
  | none => .stuck
@[simp] theorem lift_some {α : Type} {a : α} : lift (some a) = .ok a := rfl
@[simp] theorem lift_none {α : Type} : lift (none : Option α) = .stuck := rfl
def e2 (f : D → D → Option D) (a b : ME) : ME := fun ρ => (a ρ).bind fun x => (b ρ).bind fun y => lift (f x y)
def e2L (f : D → D → Option (List D)) (a b : ME) : ML := fun ρ => (a ρ).bind fun x => (b ρ).bind fun y => lift (f x y)
def e1 (f : D → Option D) (a : ME) : ME := fun ρ => (a ρ).bind fun x => lift (f x)
def eL (f : ML) : ME := fun ρ => (f ρ).bind fun ds => .ok (.list ds)
def toB : D → M Bool
  | .bool b => .ok b
  | _ => .stuck
def tE (a : ME) : MT := fun ρ => (a ρ).bind toB
def tA (a b : MT) : MT := fun ρ => (a ρ).bind fun c => if c = true then b ρ else .ok false
def tO (a b : MT) : MT := fun ρ => (a ρ).bind fun c => if c = true then .ok true else b ρ
def tN (a : MT) : MT := fun ρ => (a ρ).bind fun c => .ok (!c)
def eAnd (a b : ME) : ME := fun ρ => (a ρ).bind fun x => (toB x).bind fun c => if c = true then b ρ else .ok (.bool false)
def eOr (a b : ME) : ME := fun ρ => (a ρ).bind fun x => (toB x).bind fun c => if c = true then .ok (.bool true) else b ρ
def eNot (a : ME) : ME := fun ρ => (a ρ).bind fun x => (toB x).bind fun c => .ok (.bool (!c))
def eIf (t : MT) (a b : ME) : ME := fun ρ => (t ρ).bind fun c => if c = true then a ρ else b ρ
def aNil : ML := fun _ => .ok []
def aCons (a : ME) (as : ML) : ML := fun ρ => (a ρ).bind fun d => (as ρ).bind fun ds => .ok (d :: ds)
/-- a call of a def of one's own -/
def eCall (f : List D → M D) (as : ML) : ME := fun ρ => (as ρ).bind f
/-- of a built-in -/
def eB (f : List D → Option D) (as : ML) : ME := fun ρ => (as ρ).bind fun ds => lift (f ds)
def eBL (f : List D → Option (List D)) (as : ML) : ML := fun ρ => (as ρ).bind fun ds => lift (f ds)
def eTup (as : ML) : ME := fun ρ => (as ρ).bind fun ds => .ok (.tuple ds)
def oNone : Fr → M (Option Int) := fun _ => .ok none
def toI : D → M Int
  | .int i => .ok i
  | _ => .stuck
def oSome (a : ME) : Fr → M (Option Int) := fun ρ => (a ρ).bind fun d => (toI d).bind fun i => .ok (some i)
def eSl (f : D → Option Int → Option Int → Option D) (a : ME) (lo hi : Fr → M (Option Int)) : ME := fun ρ => (a ρ).bind fun x => (lo ρ).bind fun l => (hi ρ).bind fun h => lift (f x l h)
def eSlL (f : D → Option Int → Option Int → Option (List D)) (a : ME) (lo hi : Fr → M (Option Int)) : ML := fun ρ => (a ρ).bind fun x => (lo ρ).bind fun l => (hi ρ).bind fun h => lift (f x l h)
def eCh (f g : D → D → Option D) (a b c : ME) : ME := fun ρ => (a ρ).bind fun x => (b ρ).bind fun y => (lift (f x y)).bind fun z => (toB z).bind fun k => if k = true then (c ρ).bind fun w => lift (g y w) else .ok (.bool false)
section
variable {K : PySem.W.Frag} {L : Addr × Addr} {mg : Str → Option Value} {W : WX} {t ta tb tc : TE} {f a b c : ME} {r r' : R2} {g g' : D → D → Option D} {tt uu : TT} {tf uf : MT} {tas : TA} {as : ML}
theorem DF.e (h : DF K L mg W t f) : DE K L mg W t f := fun F0 H0 F H σ ρ Q E p => h F0 H0 F H σ ρ Q E (post_mono p (fun d k F' H' v s r => k F' H' v s (.frz r)) fun _ z => z)
theorem DL.fz {fl : ML} (h : DL K L mg W t fl) : DF K L mg W t (eL fl) := fun F0 H0 F H σ ρ Q E p => by
  refine h F0 H0 F H σ ρ Q E ?_
  refine post_mono (post_bind p) (fun ds k F' H1 q vs s n r => ?_) fun _ z => z
  exact k _ _ _ (s.trans (Step.new s.fh n)) (.lst upd_same (r.mono (Ex.new (s.fh.free n))))
theorem de_var {i : Nat} : DE K L mg W (tVar i) (eVar i) := fun F0 H0 F H σ ρ Q E p => by
  unfold eVar at p
  cases q : ρ[i]? with
  | none => rw [q] at p; exact p.elim
  | some s =>
    rw [q] at p
    cases s with
    | none => exact p.elim
    | err n => exact p.elim
    | val d =>
      obtain ⟨v, e, r⟩ := E.var q
      exact ⟨v, e, p F H v (Step.refl E.st.fh) (.frz r)⟩
    | own o =>
      obtain ⟨l, vs, e, _, _, hl, r, _⟩ := E.ownv (i := i) (o := o) (by rw [q]; rfl)
      exact ⟨_, e, p F H _ (Step.refl E.st.fh) (.thg hl r)⟩
    | pin o =>
      obtain ⟨l, vs, e, _, _, hl, r, _⟩ := E.ownv (i := i) (o := o) (by rw [q]; rfl)
      exact ⟨_, e, p F H _ (Step.refl E.st.fh) (.thg hl r)⟩
theorem df_var {i : Nat} : DF K L mg W (tVar i) (eVarF i) := fun F0 H0 F H σ ρ Q E p => by
  unfold eVarF at p
  cases q : ρ[i]? with
  | none => rw [q] at p; exact p.elim
  | some s =>
    rw [q] at p
    cases s with
    | none => exact p.elim
    | err n => exact p.elim
    | own _ => exact p.elim
    | pin _ => exact p.elim
    | val d =>
      obtain ⟨v, e, r⟩ := E.var q
      exact ⟨v, e, p F H v (Step.refl E.st.fh) r⟩
theorem df_int {i : Int} : DF K L mg W (tC (.int i)) (eC (.int i)) := fun F0 H0 F H σ ρ Q E p => p F H _ (Step.refl E.st.fh) (.int i)
theorem df_bl {b : Bool} : DF K L mg W (tC (.bl b)) (eC (.bool b)) := fun F0 H0 F H σ ρ Q E p => p F H _ (Step.refl E.st.fh) (.bl b)
theorem df_str {x : Str} : DF K L mg W (tC (.str x)) (eC (.str x)) := fun F0 H0 F H σ ρ Q E p => p F H _ (Step.refl E.st.fh) (.str x)
theorem df_non : DF K L mg W (tC .non) (eC .none) := fun F0 H0 F H σ ρ Q E p => p F H _ (Step.refl E.st.fh) .non
theorem WV.on {F H F1 H1 : Hp} {d : D} {Q : VK} (s : Step F H F1 H1) (k : WV K F H d Q) : WV K F1 H1 d Q := fun F' H' v s' r => k F' H' v (s.trans s') r
theorem WF.on {F H F1 H1 : Hp} {d : D} {Q : VK} (s : Step F H F1 H1) (k : WF K F H d Q) : WF K F1 H1 d Q := fun F' H' v s' r => k F' H' v (s.trans s') r
theorem WN.on {F H F1 H1 : Hp} {d : List D} {Q : VK} (s : Step F H F1 H1) (k : WN K F H d Q) : WN K F1 H1 d Q := fun F' H' p vs s' r => k F' H' p vs (s.trans s') r
theorem WE'.on {F H F1 H1 : Hp} {σ : St} {n : Str} (s : Step F H F1 H1) (k : WE' mg W F H σ n) : WE' mg W F1 H1 σ n := fun F' H' s' => k F' H' (s.trans s')
theorem post_lift {α : Type} {o : Option α} {kx : α → Prop} {ke : Str → Prop} (h : post (lift o) kx ke) : ∃ a, o = some a ∧ kx a := by
  cases o with
  | none => exact h.elim
  | some a => exact ⟨a, rfl, h⟩
theorem df_op (hr : R2D K r g) (ha : DE K L mg W ta a) (hb : DE K L mg W tb b) : DF K L mg W (tOp r ta tb) (e2 g a b) := fun F0 H0 F H σ ρ Q E p => by
  refine ha F0 H0 F H σ ρ _ E (post_mono (post_bind p) (fun d k F1 H1 x s1 r1 => ?_) fun _ z => z)
  refine hb F0 H0 F1 H1 σ ρ _ (E.step s1) (post_mono (post_bind k) (fun e k2 F2 H2 y s2 r2 => ?_) fun n z => WE'.on s1 z)
  obtain ⟨z, ez, k3⟩ := post_lift k2
  exact hr F2 H2 x y d e Q z s2.fh (r1.step s2) r2 ez (WF.on (s1.trans s2) k3)
theorem df_un {r : V → Hp → VK → Prop} {g : D → Option D} (hr : R1D K r g) (ha : DE K L mg W ta a) : DF K L mg W (tUn r ta) (e1 g a) := fun F0 H0 F H σ ρ Q E p => by
  refine ha F0 H0 F H σ ρ _ E (post_mono (post_bind p) (fun d k F1 H1 x s1 r1 => ?_) fun _ z => z)
  obtain ⟨z, ez, k3⟩ := post_lift k
  exact hr F1 H1 x d Q z s1.fh r1 ez (WF.on s1 k3)
theorem toB_post {d : D} {kx : Bool → Prop} {ke : Str → Prop} (h : post (toB d) kx ke) : ∃ c, d = .bool c ∧ kx c := by
  cases d with
  | bool b => exact ⟨b, rfl, h⟩
  | none => exact h.elim
  | int _ => exact h.elim
  | str _ => exact h.elim
  | list _ => exact h.elim
  | tuple _ => exact h.elim
  | dict _ => exact h.elim
theorem RepB.isb {F H : Hp} {v : V} {c : Bool} (r : RepB K F H v (.bool c)) : v = .bl c := by
  generalize hd : ((.bool c) : D) = d at r
  cases r with
  | frz r => subst hd; cases r; rfl
  | thg h r => cases r <;> cases hd
theorem RepB.isi {F H : Hp} {v : V} {c : Int} (r : RepB K F H v (.int c)) : v = .int c := by
  generalize hd : ((.int c) : D) = d at r
  cases r with
  | frz r => subst hd; cases r; rfl
  | thg h r => cases r <;> cases hd
theorem RepB.iss {F H : Hp} {v : V} {c : Str} (r : RepB K F H v (.str c)) : v = .str c := by
  generalize hd : ((.str c) : D) = d at r
  cases r with
  | frz r => subst hd; cases r; rfl
  | thg h r => cases r <;> cases hd
theorem RepB.isn {F H : Hp} {v : V} (r : RepB K F H v .none) : v = .non := by
  generalize hd : (.none : D) = d at r
  cases r with
  | frz r => subst hd; cases r; rfl
  | thg h r => cases r <;> cases hd
theorem dt_B (ha : DE K L mg W ta a) : DT K L mg W (tB ta) (tE a) := fun F0 H0 F H σ ρ Q E p => by
  refine ha F0 H0 F H σ ρ _ E (post_mono (post_bind p) (fun d k F1 H1 x s1 r1 => ?_) fun _ z => z)
  obtain ⟨c, rfl, k⟩ := toB_post k
  exact ⟨c, r1.isb, k F1 H1 s1⟩
theorem dt_test (ha : DE K L mg W ta a) : DT K L mg W (tTest ta) (tE a) := dt_B ha
theorem dt_and (ha : DT K L mg W tt tf) (hb : DT K L mg W uu uf) : DT K L mg W (tAnd tt uu) (tA tf uf) := fun F0 H0 F H σ ρ Q E p => by
  refine ha F0 H0 F H σ ρ _ E (post_mono (post_bind p) (fun c k F1 H1 s1 => ?_) fun _ z => z)
  cases c with
  | true =>
    refine iteT ?_
    exact hb F0 H0 F1 H1 σ ρ Q (E.step s1) (post_mono k (fun b k F' H' s' => k F' H' (s1.trans s')) fun n z => WE'.on s1 z)
  | false => exact iteF (k F1 H1 s1)
theorem dt_or (ha : DT K L mg W tt tf) (hb : DT K L mg W uu uf) : DT K L mg W (tOr tt uu) (tO tf uf) := fun F0 H0 F H σ ρ Q E p => by
  refine ha F0 H0 F H σ ρ _ E (post_mono (post_bind p) (fun c k F1 H1 s1 => ?_) fun _ z => z)
  cases c with
  | true => exact iteT (k F1 H1 s1)
  | false =>
    refine iteF ?_
    exact hb F0 H0 F1 H1 σ ρ Q (E.step s1) (post_mono k (fun b k F' H' s' => k F' H' (s1.trans s')) fun n z => WE'.on s1 z)
theorem dt_not (ha : DT K L mg W tt tf) : DT K L mg W (tNot tt) (tN tf) := fun F0 H0 F H σ ρ Q E p => by
  refine ha F0 H0 F H σ ρ _ E (post_mono (post_bind p) (fun c k F1 H1 s1 => ?_) fun _ z => z)
  exact k F1 H1 s1
theorem de_and (ha : DE K L mg W ta a) (hb : DE K L mg W tb b) : DE K L mg W (tAndV ta tb) (eAnd a b) := fun F0 H0 F H σ ρ Q E p => by
  refine ha F0 H0 F H σ ρ _ E (post_mono (post_bind p) (fun d k F1 H1 x s1 r1 => ?_) fun _ z => z)
  obtain ⟨c, rfl, k⟩ := toB_post (post_bind k)
  refine ⟨c, r1.isb, ?_⟩
  cases c with
  | true =>
    refine iteT ?_
    exact hb F0 H0 F1 H1 σ ρ Q (E.step s1) (post_mono k (fun b k => WV.on s1 k) fun n z => WE'.on s1 z)
  | false => exact iteF (k F1 H1 _ s1 (.frz (.bl false)))
theorem de_or (ha : DE K L mg W ta a) (hb : DE K L mg W tb b) : DE K L mg W (tOrV ta tb) (eOr a b) := fun F0 H0 F H σ ρ Q E p => by
  refine ha F0 H0 F H σ ρ _ E (post_mono (post_bind p) (fun d k F1 H1 x s1 r1 => ?_) fun _ z => z)
  obtain ⟨c, rfl, k⟩ := toB_post (post_bind k)
  refine ⟨c, r1.isb, ?_⟩
  cases c with
  | true => exact iteT (k F1 H1 _ s1 (.frz (.bl true)))
  | false =>
    refine iteF ?_
    exact hb F0 H0 F1 H1 σ ρ Q (E.step s1) (post_mono k (fun b k => WV.on s1 k) fun n z => WE'.on s1 z)
theorem df_not (ha : DE K L mg W ta a) : DF K L mg W (tNotV ta) (eNot a) := fun F0 H0 F H σ ρ Q E p => by
  refine ha F0 H0 F H σ ρ _ E (post_mono (post_bind p) (fun d k F1 H1 x s1 r1 => ?_) fun _ z => z)
  obtain ⟨c, rfl, k⟩ := toB_post (post_bind k)
  exact ⟨c, r1.isb, k F1 H1 _ s1 (.bl _)⟩
theorem df_if (ht : DT K L mg W tt tf) (ha : DF K L mg W ta a) (hb : DF K L mg W tb b) : DF K L mg W (tIf tt ta tb) (eIf tf a b) := fun F0 H0 F H σ ρ Q E p => by
  refine ht F0 H0 F H σ ρ _ E (post_mono (post_bind p) (fun c k F1 H1 s1 => ?_) fun _ z => z)
  cases c with
  | true =>
    refine iteT ?_
    exact ha F0 H0 F1 H1 σ ρ Q (E.step s1) (post_mono k (fun b k => WF.on s1 k) fun n z => WE'.on s1 z)
  | false =>
    refine iteF ?_
    exact hb F0 H0 F1 H1 σ ρ Q (E.step s1) (post_mono k (fun b k => WF.on s1 k) fun n z => WE'.on s1 z)
theorem da_nil : DA K L mg W tNil aNil := fun F0 H0 F H σ ρ Q E p => p F H _ (Step.refl E.st.fh) .nil
theorem da_cons (ha : DE K L mg W ta a) (hb : DA K L mg W tas as) : DA K L mg W (tCons ta tas) (aCons a as) := fun F0 H0 F H σ ρ Q E p => by
  refine ha F0 H0 F H σ ρ _ E (post_mono (post_bind p) (fun d k F1 H1 x s1 r1 => ?_) fun _ z => z)
  refine hb F0 H0 F1 H1 σ ρ _ (E.step s1) (post_mono (post_bind k) (fun e k2 F2 H2 ys s2 r2 => ?_) fun n z => WE'.on s1 z)
  exact k2 F2 H2 _ (s1.trans s2) (.cons (r1.step s2) r2)
theorem daf_nil : DAF K L mg W tNil aNil := fun F0 H0 F H σ ρ Q E p => p F H _ (Step.refl E.st.fh) .nil
theorem daf_cons (ha : DF K L mg W ta a) (hb : DAF K L mg W tas as) : DAF K L mg W (tCons ta tas) (aCons a as) := fun F0 H0 F H σ ρ Q E p => by
  refine ha F0 H0 F H σ ρ _ E (post_mono (post_bind p) (fun d k F1 H1 x s1 r1 => ?_) fun _ z => z)
  refine hb F0 H0 F1 H1 σ ρ _ (E.step s1) (post_mono (post_bind k) (fun e k2 F2 H2 ys s2 r2 => ?_) fun n z => WE'.on s1 z)
  exact k2 F2 H2 _ (s1.trans s2) (.cons (r1.mono s2.ff) r2)
theorem df_B {r : List V → Hp → VK → Prop} {g : List D → Option D} (hr : RCD K r g) (ha : DA K L mg W tas as) : DF K L mg W (tCB r tas) (eB g as) := fun F0 H0 F H σ ρ Q E p => by
  refine ha F0 H0 F H σ ρ _ E (post_mono (post_bind p) (fun ds k F1 H1 xs s1 r1 => ?_) fun _ z => z)
  obtain ⟨z, ez, k3⟩ := post_lift k
  exact hr F1 H1 xs ds Q z s1.fh r1 ez (WF.on s1 k3)
theorem dl_B {r : List V → Hp → VK → Prop} {g : List D → Option (List D)} (hr : RCL K r g) (ha : DA K L mg W tas as) : DL K L mg W (tCB r tas) (eBL g as) := fun F0 H0 F H σ ρ Q E p => by
  refine ha F0 H0 F H σ ρ _ E (post_mono (post_bind p) (fun ds k F1 H1 xs s1 r1 => ?_) fun _ z => z)
  obtain ⟨z, ez, k3⟩ := post_lift k
  exact hr F1 H1 xs ds Q z s1.fh r1 ez (WN.on s1 k3)
/-- a tuple, a list made -/
theorem lt_line {n : Nat} (h : n ≤ 100000) : n ≤ sizeLine := Nat.le_trans h (by decide)
def fewA (f : ML) (n : Nat) : Prop := ∀ ρ ds, f ρ = .ok ds → ds.length = n
theorem few_nil : fewA aNil 0 := fun ρ ds h => by cases h; rfl
theorem few_cons {n : Nat} (h : fewA as n) : fewA (aCons a as) (n + 1) := fun ρ ds q => by
  unfold aCons at q
  cases e : a ρ with
  | ok d =>
    rw [e] at q
    cases e2 : as ρ with
    | ok es => rw [M.bind_ok, e2] at q; cases q; rw [List.length_cons, h ρ es e2]
    | exc n => rw [M.bind_ok, e2] at q; cases q
    | stuck => rw [M.bind_ok, e2] at q; cases q
  | exc n => rw [e] at q; cases q
  | stuck => rw [e] at q; cases q
theorem df_tup {n : Nat} (ha : DAF K L mg W tas as) (hf : fewA as n) (hn : n ≤ 100000 := by decide) : DF K L mg W (tTup tas) (eTup as) := fun F0 H0 F H σ ρ Q E p => by
  refine ha F0 H0 F H σ ρ _ E ?_
  cases q : as ρ with
  | ok ds =>
    unfold eTup at p
    rw [q] at p
    intro F1 H1 xs s1 r1
    refine ⟨lt_line (by rw [r1.length, hf ρ ds q]; exact hn), fun l hl => ?_⟩
    exact p _ _ _ (s1.trans (Step.new s1.fh hl)) (.tup upd_same (r1.mono (Ex.new (s1.fh.free hl))))
  | exc n => unfold eTup at p; rw [q] at p; exact p
  | stuck => unfold eTup at p; rw [q] at p; exact p
theorem dl_lst {n : Nat} (ha : DAF K L mg W tas as) (hf : fewA as n) (hn : n ≤ 100000 := by decide) : DL K L mg W (tLst tas) as := fun F0 H0 F H σ ρ Q E p => by
  refine ha F0 H0 F H σ ρ _ E ?_
  cases q : as ρ with
  | ok ds =>
    rw [q] at p
    intro F1 H1 xs s1 r1
    refine ⟨lt_line (by rw [r1.length, hf ρ ds q]; exact hn), fun l hl => ?_⟩
    exact p _ _ _ _ s1 hl r1
  | exc n => rw [q] at p; exact p
  | stuck => rw [q] at p; exact p
theorem toI_post {d : D} {kx : Int → Prop} {ke : Str → Prop} (h : post (toI d) kx ke) : ∃ c, d = .int c ∧ kx c := by
  cases d with
  | int b => exact ⟨b, rfl, h⟩
  | none => exact h.elim
  | bool _ => exact h.elim
  | str _ => exact h.elim
  | list _ => exact h.elim
  | tuple _ => exact h.elim
  | dict _ => exact h.elim
theorem do_none : DO K L mg W tNoPart oNone := fun F0 H0 F H σ ρ Q E p => p F H (Step.refl E.st.fh)
theorem do_some (ha : DE K L mg W ta a) : DO K L mg W (tPart ta) (oSome a) := fun F0 H0 F H σ ρ Q E p => by
  refine ha F0 H0 F H σ ρ _ E (post_mono (post_bind p) (fun d k F1 H1 x s1 r1 => ?_) fun _ z => z)
  obtain ⟨c, rfl, k⟩ := toI_post (post_bind k)
  exact ⟨c, r1.isi, k F1 H1 s1⟩
theorem df_sl {r : V → Option Int → Option Int → Hp → VK → Prop} {g : D → Option Int → Option Int → Option D} {tl th : TO} {fl fh : Fr → M (Option Int)} (hr : RSD K r g) (ha : DE K L mg W ta a) (hl : DO K L mg W tl fl) (hh : DO K L mg W th fh) :
    DF K L mg W (tSl r ta tl th) (eSl g a fl fh) := fun F0 H0 F H σ ρ Q E p => by
  refine ha F0 H0 F H σ ρ _ E (post_mono (post_bind p) (fun d k F1 H1 x s1 r1 => ?_) fun _ z => z)
  refine hl F0 H0 F1 H1 σ ρ _ (E.step s1) (post_mono (post_bind k) (fun lo k2 F2 H2 s2 => ?_) fun n z => WE'.on s1 z)
  refine hh F0 H0 F2 H2 σ ρ _ ((E.step s1).step s2) (post_mono (post_bind k2) (fun hi k3 F3 H3 s3 => ?_) fun n z => WE'.on (s1.trans s2) z)
  obtain ⟨z, ez, k4⟩ := post_lift k3
  exact hr F3 H3 x d lo hi Q z s3.fh (r1.step (s2.trans s3)) ez (WF.on ((s1.trans s2).trans s3) k4)
end
end Dn
set_option Elab.async false
set_option linter.all false
set_option maxRecDepth 100000
set_option maxHeartbeats 4000000
namespace Dn
open PySem L2
def rOr (r s : R2) : R2 := fun x y H Q => r x y H Q ∨ s x y H Q
theorem opOr {X : Cx} {f : Value → Value → Sem Value} {r s : R2} (h : OpR X f r) (k : OpR X f s) : OpR X f (rOr r s) := by
  intro pins s' σ H x y v u Q I rx ry q
  rcases q with q | q
  · exact h pins s' σ H x y v u Q I rx ry q
  · exact k pins s' σ H x y v u Q I rx ry q
section
variable {K : PySem.W.Frag} {F H : Hp} {v : V} {ds : List D}
theorem RepB.isl (e : Ex F H) (r : RepB K F H v (.list ds)) : ∃ l vs, v = .ref l ∧ H l = some (.lst vs) ∧ RepL K F vs ds := by
  generalize hd : ((.list ds) : D) = d at r
  cases r with
  | frz r => subst hd; cases r with
    | lst h q => exact ⟨_, _, rfl, e _ _ h, q⟩
  | thg h q => cases q with
    | lst r => cases hd; exact ⟨_, _, rfl, h, r⟩
    | dK r => cases hd
    | dT r => cases hd
theorem RepB.ist (e : Ex F H) (r : RepB K F H v (.tuple ds)) : ∃ l vs, v = .ref l ∧ SqT K H l vs ∧ RepL K F vs ds ∧ Rep K F v (.tuple ds) := by
  generalize hd : ((.tuple ds) : D) = d at r
  cases r with
  | frz r => subst hd; cases r with
    | tup h q => exact ⟨_, _, rfl, .inl (.inl (e _ _ h)), q, .tup h q⟩
  | thg h q => cases q <;> cases hd
theorem dkD_scr {kvs : List (Key × D)} (h : dkD kvs = [(.none, .list ds)]) : False := by
  unfold dkD at h
  injection h with h1 _
  injection h1 with h2 _
  cases h2
theorem dtD_scr {kvs : List (List Key × D)} (h : dtD kvs = [(.none, .list ds)]) : False := by
  unfold dtD at h
  injection h with h1 _
  injection h1 with h2 _
  cases h2
theorem Rep.iscr (r : Rep K F v (.dict [(.none, .list ds)])) : ∃ l vs, v = .ref l ∧ SqL K F l vs ∧ RepL K F vs ds := by
  cases r with
  | scr h q e => injection e with e1 _; injection e1 with _ e2; injection e2 with e3; subst e3; exact ⟨_, _, rfl, h, q⟩
  | dK h q e => exact (dkD_scr e.symm).elim
  | dT h q e => exact (dtD_scr e.symm).elim
  | dKf h q e => unfold kdK at e; injection e with e1 _; injection e1 with e2 _; cases e2
  | dTf h q e => unfold kdT at e; injection e with e1 _; injection e1 with e2 _; cases e2
  | exc h q e => injection e with e1 _; injection e1 with e2 _; cases e2
  | ktp h _ _ q e => injection e with e1 _; injection e1 with _ e2; cases e2
  | fnc h e => injection e with e1 _; injection e1 with e2 _; cases e2
/-- a tuple whose object is known -/
theorem Rep.iktp (r : Rep K F v (ktD ds)) : ∃ l vs o, v = .ref l ∧ F l = some (.frz o (.tup vs)) ∧ o.cls = .type "tuple" ∧ o.dict = none ∧ RepL K F vs ds := by
  cases r with
  | ktp h c d q e => injection e with e1 _; injection e1 with _ e2; injection e2 with e3; subst e3; exact ⟨_, _, _, rfl, h, c, d, q⟩
  | scr h q e => injection e with e1 _; injection e1 with _ e2; cases e2
  | dK h q e => unfold dkD at e; injection e with e1 _; injection e1 with e2 _; cases e2
  | dT h q e => unfold dtD at e; injection e with e1 _; injection e1 with e2 _; cases e2
  | dKf h q e => unfold kdK at e; injection e with e1 _; injection e1 with e2 _; cases e2
  | dTf h q e => unfold kdT at e; injection e with e1 _; injection e1 with e2 _; cases e2
  | exc h q e => injection e with e1 _; injection e1 with e2 _; cases e2
  | fnc h e => injection e with e1 _; injection e1 with e2 _; cases e2
theorem RepB.iktp {H : Hp} (r : RepB K F H v (ktD ds)) : ∃ l vs o, v = .ref l ∧ F l = some (.frz o (.tup vs)) ∧ o.cls = .type "tuple" ∧ o.dict = none ∧ RepL K F vs ds ∧ Rep K F v (ktD ds) := by
  have z : Rep K F v (ktD ds) := by
    generalize hd : (ktD ds : D) = d at r
    cases r with
    | frz r => subst hd; exact r
    | thg h q => cases q with
      | lst r => cases hd
      | dK r => injection hd with hd; unfold dkD at hd; injection hd with e1 _; injection e1 with e2 _; cases e2
      | dT r => injection hd with hd; unfold dtD at hd; injection hd with e1 _; injection e1 with e2 _; cases e2
  obtain ⟨l, vs, o, h1, h2, h3, h4, h5⟩ := z.iktp
  exact ⟨l, vs, o, h1, h2, h3, h4, h5, z⟩
theorem RepB.iktT {H : Hp} (e : Ex F H) (r : RepB K F H v (ktD ds)) : ∃ l vs, v = .ref l ∧ SqT K H l vs ∧ RepL K F vs ds ∧ Rep K F v (ktD ds) := by
  obtain ⟨l, vs, o, rfl, h2, _, _, h5, h6⟩ := r.iktp
  exact ⟨l, vs, rfl, .inl (.inr ⟨o, e _ _ h2⟩), h5, h6⟩
theorem RepB.iscrF (r : RepB K F H v (.dict [(.none, .list ds)])) : Rep K F v (.dict [(.none, .list ds)]) := by
  generalize hd : ((.dict [(.none, .list ds)]) : D) = d at r
  cases r with
  | frz r => subst hd; exact r
  | thg h q => cases q with
    | lst r => cases hd
    | dK r => injection hd with hd; exact (dkD_scr hd.symm).elim
    | dT r => injection hd with hd; exact (dtD_scr hd.symm).elim
theorem RepB.iscr (e : Ex F H) (r : RepB K F H v (.dict [(.none, .list ds)])) : ∃ l vs, v = .ref l ∧ SqL K H l vs ∧ RepL K F vs ds := by
  obtain ⟨l, vs, h1, h2, h3⟩ := r.iscrF.iscr
  exact ⟨l, vs, h1, ex_l e h2, h3⟩
/-- frozen at a new place -/
theorem WF.newT {z : List D} {Q : VK} {vs : List V} (e : Ex F H) (k : WF K F H (.tuple z) Q) (r : RepL K F vs z) : ∀ p, H p = none → Q (.ref p) (upd H p (.tup vs)) :=
  fun p hp => k _ _ _ (Step.new e hp) (.tup upd_same (r.mono (Ex.new (e.free hp))))
theorem WF.newL {z : List D} {Q : VK} {vs : List V} (e : Ex F H) (k : WF K F H (.list z) Q) (r : RepL K F vs z) : ∀ p, H p = none → Q (.ref p) (upd H p (.lst vs)) :=
  fun p hp => k _ _ _ (Step.new e hp) (.lst upd_same (r.mono (Ex.new (e.free hp))))
theorem WF.here {d : D} {Q : VK} (e : Ex F H) (k : WF K F H d Q) (r : Rep K F v d) : Q v H := k F H v (Step.refl e) r
theorem WN.new {z : List D} {Q : VK} {vs : List V} (e : Ex F H) (k : WN K F H z Q) (r : RepL K F vs z) : ∀ p, H p = none → Q (.ref p) (upd H p (.lst vs)) :=
  fun p hp => k F H p vs (Step.refl e) hp r
end
theorem canLay_sh {d : PyData} (h : SeqAt.shaped d = true) : d.canLay0 = true := (Bool.and_eq_true_iff.mp h).1
/-- within the bounds of an index, of a range -/
def In63 (i : Int) : Prop := -(2 ^ 63) ≤ i ∧ i < 2 ^ 63
def In62 (i : Int) : Prop := -(2 ^ 62) ≤ i ∧ i < 2 ^ 62
theorem in63 {i : Int} (h : -1000000000 ≤ i ∧ i ≤ 1000000000) : In63 i := by unfold In63; omega
theorem in62 {i : Int} (h : -1000000000 ≤ i ∧ i ≤ 1000000000) : In62 i := by unfold In62; omega
section
variable {K : PySem.W.Frag}
open Classical in
noncomputable def addD : D → D → Option D
  | .int i, .int j => some (.int (i + j))
  | .str x, .str y => if x.length + y.length ≤ sizeLine then some (.str (x ++ y)) else none
  | .tuple a, .tuple b => if a.length + b.length ≤ sizeLine then some (.tuple (a ++ b)) else none
  | .dict [(.none, .tuple a)], .tuple b => if a.length + b.length ≤ sizeLine then some (if b = [] ∧ a ≠ [] then ktD a else .tuple (a ++ b)) else none
  | .tuple a, .dict [(.none, .tuple b)] => if a.length + b.length ≤ sizeLine then some (if a = [] then ktD b else .tuple (a ++ b)) else none
  | .list a, .list b => if a.length + b.length ≤ sizeLine then some (.list (a ++ b)) else none
  | _, _ => none
def rStrAdd : R2 := fun x y H Q => ∃ i j, x = .str i ∧ y = .str j ∧ i.length + j.length ≤ sizeLine ∧ Q (.str (i ++ j)) H
def oAdd (K : PySem.W.Frag) : R2 := rOr (rI0 fun i j => .int (i + j)) (rOr rStrAdd (rOr (rCatA K) rCat))
theorem op_addU {X : Cx} : OpR X (binaryOp .Add) (oAdd X.K) := opOr op_add (opOr op_add_str (opOr op_catA op_cat))
theorem rd_add : R2D K (oAdd K) addD := by
  intro F H x y d e Q z ex rx ry h k
  unfold addD at h
  split at h
  · cases h; obtain rfl := rx.isi; obtain rfl := ry.isi
    exact .inl ⟨_, _, rfl, rfl, k.here ex (.int _)⟩
  · split at h
    · cases h; obtain rfl := rx.iss; obtain rfl := ry.iss
      exact .inr (.inl ⟨_, _, rfl, rfl, by assumption, k.here ex (.str _)⟩)
    · cases h
  · split at h
    · rename_i a b hz
      cases h
      obtain ⟨l, vs, rfl, h1, r1, f1⟩ := rx.ist ex
      obtain ⟨m, ws, rfl, h2, r2, f2⟩ := ry.ist ex
      refine .inr (.inr (.inl ⟨l, m, vs, ws, rfl, rfl, h1, h2, by rw [r1.length, r2.length]; exact hz, fun e => ?_, fun e e2 => ?_, fun _ _ => ?_⟩))
      · subst e; cases r1; exact k.here ex f2
      · subst e2; cases r2; refine k.here ex ?_; rw [List.append_nil]; exact f1
      · exact k.newT ex (r1.append r2)
    · cases h
  · split at h
    · rename_i a b hz
      cases h
      obtain ⟨l, vs, rfl, h1, r1, f1⟩ := rx.iktT ex
      obtain ⟨m, ws, rfl, h2, r2, f2⟩ := ry.ist ex
      refine .inr (.inr (.inl ⟨l, m, vs, ws, rfl, rfl, h1, h2, by rw [r1.length, r2.length]; exact hz, fun e => ?_, fun e e2 => ?_, fun n1 n2 => ?_⟩))
      · subst e; cases r1; rw [if_neg (fun z => z.2 rfl)] at k; exact k.here ex f2
      · subst e2; cases r2
        rw [if_pos ⟨rfl, fun z => e (by subst z; cases r1; rfl)⟩] at k
        exact k.here ex f1
      · rw [if_neg (fun z => n2 (by have := z.1; subst this; cases r2; rfl))] at k
        exact k.newT ex (r1.append r2)
    · cases h
  · split at h
    · rename_i a b hz
      cases h
      obtain ⟨l, vs, rfl, h1, r1, f1⟩ := rx.ist ex
      obtain ⟨m, ws, rfl, h2, r2, f2⟩ := ry.iktT ex
      refine .inr (.inr (.inl ⟨l, m, vs, ws, rfl, rfl, h1, h2, by rw [r1.length, r2.length]; exact hz, fun e => ?_, fun e e2 => ?_, fun n1 n2 => ?_⟩))
      · subst e; cases r1; rw [if_pos rfl] at k; exact k.here ex f2
      · subst e2; cases r2
        rw [if_neg (fun z => e (by subst z; cases r1; rfl))] at k
        refine k.here ex ?_
        rw [List.append_nil]; exact f1
      · rw [if_neg (fun z => n1 (by subst z; cases r1; rfl))] at k
        exact k.newT ex (r1.append r2)
    · cases h
  · split at h
    · rename_i a b hz
      cases h
      obtain ⟨l, vs, rfl, h1, r1⟩ := rx.isl ex
      obtain ⟨m, ws, rfl, h2, r2⟩ := ry.isl ex
      exact .inr (.inr (.inr ⟨l, m, vs, ws, rfl, rfl, h1, h2, by rw [r1.length, r2.length]; exact hz, k.newL ex (r1.append r2)⟩))
    · cases h
  · cases h
def subD : D → D → Option D
  | .int i, .int j => some (.int (i - j))
  | _, _ => none
theorem rd_sub : R2D K (rI0 fun i j => .int (i - j)) subD := by
  intro F H x y d e Q z ex rx ry h k
  unfold subD at h
  split at h
  · cases h; obtain rfl := rx.isi; obtain rfl := ry.isi
    exact ⟨_, _, rfl, rfl, k.here ex (.int _)⟩
  · cases h
open Classical in
noncomputable def mulD : D → D → Option D
  | .int i, .int j => if CMul i j ∨ CMulW i j then some (.int (i * j)) else none
  | .list a, .int k => if In63 k ∧ a.length * k.toNat ≤ sizeLine then some (.list (List.replicate k.toNat a).flatten) else none
  | _, _ => none
def oMul : R2 := rOr (rI CMul fun i j => .int (i * j)) (rOr (rI CMulW fun i j => .int (i * j)) rRep)
theorem op_mulU {X : Cx} : OpR X (binaryOp .Mult) oMul := opOr op_mul (opOr op_mulW op_rep)
theorem RepL.rep {F : Hp} {vs : List V} {ds : List D} (r : RepL K F vs ds) : ∀ n : Nat, RepL K F (List.replicate n vs).flatten (List.replicate n ds).flatten
  | 0 => .nil
  | n + 1 => by
    rw [List.replicate_succ, List.replicate_succ, List.flatten_cons, List.flatten_cons]
    exact r.append (RepL.rep r n)
theorem rd_mul : R2D K oMul mulD := by
  intro F H x y d e Q z ex rx ry h k
  unfold mulD at h
  split at h
  · split at h
    · rename_i c
      cases h; obtain rfl := rx.isi; obtain rfl := ry.isi
      rcases c with c | c
      · exact .inl ⟨_, _, rfl, rfl, c, k.here ex (.int _)⟩
      · exact .inr (.inl ⟨_, _, rfl, rfl, c, k.here ex (.int _)⟩)
    · cases h
  · split at h
    · rename_i c
      cases h
      obtain ⟨l, vs, rfl, h1, r1⟩ := rx.isl ex
      obtain rfl := ry.isi
      exact .inr (.inr ⟨l, _, vs, rfl, rfl, h1, c.1.1, c.1.2, by rw [r1.length]; exact c.2, k.newL ex (r1.rep _)⟩)
    · cases h
  · cases h
open Classical in
noncomputable def divD : D → D → Option D
  | .int i, .int j => if 0 < j ∧ j.natAbs.log2 < 9000 then some (.int (i / j)) else none
  | _, _ => none
theorem rd_div : R2D K (rI CDivW fun i j => .int (i / j)) divD := by
  intro F H x y d e Q z ex rx ry h k
  unfold divD at h
  split at h
  · split at h
    · rename_i c
      cases h; obtain rfl := rx.isi; obtain rfl := ry.isi
      exact ⟨_, _, rfl, rfl, c, k.here ex (.int _)⟩
    · cases h
  · cases h
open Classical in
noncomputable def modD : D → D → Option D
  | .int i, .int j => if 0 < j then some (.int (i % j)) else none
  | _, _ => none
theorem rd_mod : R2D K (rI (fun _ j => 0 < j) fun i j => .int (i % j)) modD := by
  intro F H x y d e Q z ex rx ry h k
  unfold modD at h
  split at h
  · split at h
    · rename_i c
      cases h; obtain rfl := rx.isi; obtain rfl := ry.isi
      exact ⟨_, _, rfl, rfl, c, k.here ex (.int _)⟩
    · cases h
  · cases h
def negD : D → Option D
  | .int i => some (.int (-i))
  | _ => none
theorem rd_neg : R1D K (rU fun i => .int (-i)) negD := by
  intro F H x d Q z ex rx h k
  unfold negD at h
  split at h
  · cases h; obtain rfl := rx.isi
    exact ⟨_, rfl, k.here ex (.int _)⟩
  · cases h
def cmpD (p : Int → Int → Bool) : D → D → Option D
  | .int i, .int j => some (.bool (p i j))
  | _, _ => none
theorem rd_cmp {p : Int → Int → Bool} : R2D K (rI0 fun i j => .bl (p i j)) (cmpD p) := by
  intro F H x y d e Q z ex rx ry h k
  unfold cmpD at h
  split at h
  · cases h; obtain rfl := rx.isi; obtain rfl := ry.isi
    exact ⟨_, _, rfl, rfl, k.here ex (.bl _)⟩
  · cases h
abbrev ltD := cmpD fun i j => decide (i < j)
abbrev gtD := cmpD fun i j => decide (j < i)
abbrev geD := cmpD fun i j => decide (j ≤ i)
/-- a tuple whose object is known as any tuple -/
def unk : D → D
  | .dict [(.none, .tuple ds)] => .tuple ds
  | d => d
/-- == -/
def eqB0 : D → D → Option Bool
  | .int i, .int j => some (decide (i = j))
  | .str i, .str j => some (decide (i = j))
  | .bool i, .bool j => some (decide (i = j))
  | .none, .none => some true
  | d, e => if SeqAt.shaped d && SeqAt.shaped e then some (PyData.eqv d e) else none
def eqB (d e : D) : Option Bool := eqB0 (unk d) (unk e)
def eqD (d e : D) : Option D := (eqB d e).map .bool
def neD (d e : D) : Option D := (eqB d e).map fun b => .bool (!b)
def oEq (K : PySem.W.Frag) : R2 := rOr rEq (rEqD K)
def oNe (K : PySem.W.Frag) : R2 := rOr rNe (rNeD K)
theorem op_eqU {X : Cx} (hu : X.A.units + 64 < cLine) : OpR X (compareOp .Eq) (oEq X.K) := opOr op_eq (op_eqD hu)
theorem op_neU {X : Cx} (hu : X.A.units + 64 < cLine) : OpR X (compareOp .NotEq) (oNe X.K) := opOr op_ne (op_neD hu)
theorem scal_dp {F H : Hp} {x : V} {d : D} (ex : Ex F H) (rx : RepB K F H x d) (c : SeqAt.shaped (unk d) = true) : Dp K H x (unk d) := by
  by_cases h : ∃ ds, d = ktD ds
  · obtain ⟨ds, rfl⟩ := h
    obtain ⟨l, vs, rfl, a, b, _⟩ := rx.iktT ex
    have c2 : (PyData.tuple ds).canLay0 = true := canLay_sh c
    exact .tup (a.elim (fun z => .inl z) (fun z => .inr z)) (RepL.dp (by simpa [PyData.canLay0] using c2) (b.mono ex))
  · have e : unk d = d := by
      unfold unk
      split
      · rename_i ds; exact (h ⟨ds, rfl⟩).elim
      · rfl
    rw [e] at c ⊢
    exact (rx.now ex).dp (canLay_sh c)
theorem unk_i {d : D} {i : Int} (h : unk d = .int i) : d = .int i := by unfold unk at h; split at h <;> first | exact h | cases h
theorem unk_s {d : D} {i : Str} (h : unk d = .str i) : d = .str i := by unfold unk at h; split at h <;> first | exact h | cases h
theorem unk_b {d : D} {i : Bool} (h : unk d = .bool i) : d = .bool i := by unfold unk at h; split at h <;> first | exact h | cases h
theorem unk_n {d : D} (h : unk d = .none) : d = .none := by unfold unk at h; split at h <;> first | exact h | cases h
theorem eqB_cases {F H : Hp} {x y : V} {d e : D} {b : Bool} (ex : Ex F H) (rx : RepB K F H x d) (ry : RepB K F H y e) (h : eqB d e = some b) :
    (scal x y = true ∧ b = decide (x = y)) ∨ (∃ d e, Dp K H x d ∧ Dp K H y e ∧ SeqAt.shaped d = true ∧ SeqAt.shaped e = true ∧ b = PyData.eqv d e) := by
  unfold eqB eqB0 at h
  split at h
  · rename_i q1 q2
    rw [unk_i q1] at rx
    rw [unk_i q2] at ry
    cases h; obtain rfl := rx.isi; obtain rfl := ry.isi
    exact .inl ⟨rfl, by simp⟩
  · rename_i q1 q2
    rw [unk_s q1] at rx
    rw [unk_s q2] at ry
    cases h; obtain rfl := rx.iss; obtain rfl := ry.iss
    exact .inl ⟨rfl, by simp⟩
  · rename_i q1 q2
    rw [unk_b q1] at rx
    rw [unk_b q2] at ry
    cases h; obtain rfl := rx.isb; obtain rfl := ry.isb
    exact .inl ⟨rfl, by simp⟩
  · rename_i q1 q2
    rw [unk_n q1] at rx
    rw [unk_n q2] at ry
    cases h; obtain rfl := rx.isn; obtain rfl := ry.isn
    exact .inl ⟨rfl, by simp⟩
  · split at h
    · rename_i c
      cases h
      rw [Bool.and_eq_true] at c
      exact .inr ⟨_, _, scal_dp ex rx c.1, scal_dp ex ry c.2, c.1, c.2, rfl⟩
    · cases h
theorem rd_eq : R2D K (oEq K) eqD := by
  intro F H x y d e Q z ex rx ry h k
  unfold eqD at h
  cases q : eqB d e with
  | none => rw [q] at h; cases h
  | some b =>
    rw [q] at h
    cases h
    rcases eqB_cases ex rx ry q with ⟨s, rfl⟩ | ⟨d', e', h1, h2, s1, s2, rfl⟩
    · exact .inl ⟨s, k.here ex (.bl _)⟩
    · exact .inr ⟨d', e', h1, h2, s1, s2, k.here ex (.bl _)⟩
theorem rd_ne : R2D K (oNe K) neD := by
  intro F H x y d e Q z ex rx ry h k
  unfold neD at h
  cases q : eqB d e with
  | none => rw [q] at h; cases h
  | some b =>
    rw [q] at h
    cases h
    rcases eqB_cases ex rx ry q with ⟨s, rfl⟩ | ⟨d', e', h1, h2, s1, s2, rfl⟩
    · exact .inl ⟨s, k.here ex (.bl _)⟩
    · exact .inr ⟨d', e', h1, h2, s1, s2, k.here ex (.bl _)⟩
def isNone : D → Bool
  | .none => true
  | _ => false
def isD : D → D → Option D
  | d, .none => some (.bool (isNone d))
  | _, _ => none
def isnD : D → D → Option D
  | d, .none => some (.bool (!isNone d))
  | _, _ => none
theorem none_iff {F H : Hp} {x : V} {d : D} (rx : RepB K F H x d) : decide (x = .non) = isNone d := by
  cases rx with
  | frz r => cases r <;> rfl
  | thg _ r => cases r <;> rfl
def oIs : R2 := fun x y H Q => y = .non ∧ Q (.bl (decide (x = .non))) H
def oIsn : R2 := fun x y H Q => y = .non ∧ Q (.bl (!decide (x = .non))) H
theorem op_isU {X : Cx} : OpR X (compareOp .Is) oIs := op_isN
theorem op_isnU {X : Cx} : OpR X (compareOp .IsNot) oIsn := op_notN
theorem rd_is : R2D K oIs isD := by
  intro F H x y d e Q z ex rx ry h k
  unfold isD at h
  split at h
  · cases h; obtain rfl := ry.isn
    exact ⟨rfl, by rw [none_iff rx]; exact k.here ex (.bl _)⟩
  · cases h
theorem rd_isn : R2D K oIsn isnD := by
  intro F H x y d e Q z ex rx ry h k
  unfold isnD at h
  split at h
  · cases h; obtain rfl := ry.isn
    exact ⟨rfl, by rw [none_iff rx]; exact k.here ex (.bl _)⟩
  · cases h
end
end Dn
set_option Elab.async false
set_option linter.all false
set_option maxRecDepth 100000
set_option maxHeartbeats 4000000
namespace Dn
open PySem L2
def ints? : List D → Option (List Int)
  | [] => some []
  | .int i :: ds => (ints? ds).map (i :: ·)
  | _ => none
@[simp] theorem ints?_map (ns : List Int) : ints? (ns.map PyData.int) = some ns := by
  induction ns with
  | nil => rfl
  | cons n ns ih => show (ints? (ns.map PyData.int)).map (n :: ·) = some (n :: ns); rw [ih]; rfl
theorem ints?_eq : ∀ {ds : List D} {ns : List Int}, ints? ds = some ns → ds = ns.map PyData.int
  | [], _, h => by cases h; rfl
  | .int i :: ds, ns, h => by
    unfold ints? at h
    cases q : ints? ds with
    | none => rw [q] at h; cases h
    | some ms => rw [q] at h; cases h; rw [ints?_eq q]; rfl
  | .none :: _, _, h => by cases h
  | .bool _ :: _, _, h => by cases h
  | .str _ :: _, _, h => by cases h
  | .list _ :: _, _, h => by cases h
  | .tuple _ :: _, _, h => by cases h
  | .dict _ :: _, _, h => by cases h
/-- a list or a tuple, or the script: its items -/
def seq? : D → Option (List D)
  | .list ds => some ds
  | .tuple ds => some ds
  | .dict [(.none, .list ds)] => some ds
  | .dict [(.none, .tuple ds)] => some ds
  | _ => none
section
variable {K : PySem.W.Frag}
theorem RepB.seq {F H : Hp} {v : V} {d : D} {ds : List D} (ex : Ex F H) (r : RepB K F H v d) (h : seq? d = some ds) : ∃ l vs, v = .ref l ∧ (SqL K H l vs ∨ SqT K H l vs) ∧ RepL K F vs ds := by
  unfold seq? at h
  split at h
  · cases h; obtain ⟨l, vs, e, a, b⟩ := r.isl ex; exact ⟨l, vs, e, .inl (.of a), b⟩
  · cases h; obtain ⟨l, vs, e, a, b, _⟩ := r.ist ex; exact ⟨l, vs, e, .inr a, b⟩
  · cases h; obtain ⟨l, vs, e, a, b⟩ := r.iscr ex; exact ⟨l, vs, e, .inl a, b⟩
  · cases h; obtain ⟨l, vs, e, a, b, _⟩ := r.iktT ex; exact ⟨l, vs, e, .inr a, b⟩
  · cases h
theorem RepBL.one {F H : Hp} {xs : List V} {d : D} (r : RepBL K F H xs [d]) : ∃ x, xs = [x] ∧ RepB K F H x d := by
  cases r with
  | cons a b => cases b; exact ⟨_, rfl, a⟩
theorem RepBL.two {F H : Hp} {xs : List V} {d e : D} (r : RepBL K F H xs [d, e]) : ∃ x y, xs = [x, y] ∧ RepB K F H x d ∧ RepB K F H y e := by
  cases r with
  | cons a b =>
    obtain ⟨y, rfl, c⟩ := b.one
    exact ⟨_, _, rfl, a, c⟩
open Classical in
/-- len -/
noncomputable def lenD : List D → Option D
  | [.str s] => if s.length ≤ sizeLine then some (.int s.length) else none
  | [d] => (seq? d).map fun ds => .int ds.length
  | _ => none
def oLen (K : PySem.W.Frag) : List V → Hp → VK → Prop := fun xs H Q => ∃ x n, xs = [x] ∧ LenV K x H n ∧ Q (.int n) H
theorem call_lenU {X : Cx} : CallR X (.builtin "len") (oLen X.K) := call_len
theorem rc_len : RCD K (oLen K) lenD := by
  intro F H xs ds Q z ex rx h k
  unfold lenD at h
  split at h
  · obtain ⟨x, rfl, r⟩ := rx.one
    split at h
    · cases h
      obtain rfl := r.iss
      exact ⟨_, _, rfl, ⟨by assumption, rfl⟩, k.here ex (.int _)⟩
    · cases h
  · obtain ⟨x, rfl, r⟩ := rx.one
    cases q : seq? _ with
    | none => rw [q] at h; cases h
    | some es =>
      rw [q] at h
      cases h
      obtain ⟨l, vs, rfl, a, b⟩ := r.seq ex q
      refine ⟨_, es.length, rfl, ?_, k.here ex (.int _)⟩
      rcases a with a | a
      · exact .inl ⟨vs, a, b.length.symm⟩
      · exact .inr ⟨vs, a, b.length.symm⟩
  · cases h
/-- list(..) of a list, a tuple -/
def listD : List D → Option (List D)
  | [d] => seq? d
  | _ => none
def oList (K : PySem.W.Frag) : List V → Hp → VK → Prop := fun xs H Q => ∃ p ys, xs = [.ref p] ∧ (SqL K H p ys ∨ SqT K H p ys) ∧ ∀ l, H l = none → Q (.ref l) (upd H l (.lst ys))
theorem call_listU {X : Cx} : CallR X (.type "list") (oList X.K) := call_list_of
theorem rc_list : RCL K (oList K) listD := by
  intro F H xs ds Q z ex rx h k
  unfold listD at h
  split at h
  · obtain ⟨x, rfl, r⟩ := rx.one
    obtain ⟨l, vs, rfl, a, b⟩ := r.seq ex h
    exact ⟨l, vs, rfl, a, k.new ex b⟩
  · cases h
/-- tuple(..) of a list, a tuple -/
def tupOf : D → List D → D
  | .dict [(.none, .tuple _)], ds => ktD ds
  | _, ds => .tuple ds
def tupleD : List D → Option D
  | [d] => (seq? d).map (tupOf d)
  | _ => none
def oTuple (K : PySem.W.Frag) : List V → Hp → VK → Prop := fun xs H Q => ∃ p ys, xs = [.ref p] ∧ ((SqL K H p ys ∧ ∀ l, H l = none → Q (.ref l) (upd H l (.tup ys))) ∨ (SqT K H p ys ∧ Q (.ref p) H))
theorem call_tupleU {X : Cx} : CallR X (.type "tuple") (oTuple X.K) := call_tuple_of
theorem rc_tuple : RCD K (oTuple K) tupleD := by
  intro F H xs ds Q z ex rx h k
  unfold tupleD at h
  split at h
  · obtain ⟨x, rfl, r⟩ := rx.one
    rename_i d
    cases q : seq? d with
    | none => rw [q] at h; cases h
    | some es =>
      rw [q] at h
      cases h
      unfold seq? at q
      split at q
      · cases q; obtain ⟨l, vs, rfl, a, b⟩ := r.isl ex
        exact ⟨l, vs, rfl, .inl ⟨.of a, k.newT ex b⟩⟩
      · cases q; obtain ⟨l, vs, rfl, a, b, c⟩ := r.ist ex
        exact ⟨l, vs, rfl, .inr ⟨a, k.here ex c⟩⟩
      · cases q; obtain ⟨l, vs, rfl, a, b⟩ := r.iscr ex
        exact ⟨l, vs, rfl, .inl ⟨a, k.newT ex b⟩⟩
      · cases q; obtain ⟨l, vs, rfl, a, b, c⟩ := r.iktT ex
        exact ⟨l, vs, rfl, .inr ⟨a, k.here ex c⟩⟩
      · cases q
  · cases h
/-- sorted of a list of ints -/
def sortI (ns : List Int) : List Int := ns.mergeSort (fun a b => decide (a ≤ b))
theorem sortI_perm (ns : List Int) : (sortI ns).Perm ns := List.mergeSort_perm _ _
theorem sortI_sorted (ns : List Int) : (sortI ns).Pairwise (· ≤ ·) := by
  have h := List.pairwise_mergeSort (le := fun a b : Int => decide (a ≤ b)) (fun a b c h1 h2 => by simp at *; omega) (fun a b => by simp; omega) ns
  exact h.imp fun h => by simpa using h
theorem sorted_one : ∀ {xs ys : List Int}, xs.Perm ys → xs.Pairwise (· ≤ ·) → ys.Pairwise (· ≤ ·) → xs = ys := fun {xs ys} p h1 h2 =>
  List.Perm.eq_of_pairwise (le := (· ≤ ·)) (fun a b _ _ h1 h2 => Int.le_antisymm h1 h2) h1 h2 p
def oInt : List V → Hp → VK → Prop := fun xs H Q => (∃ i, xs = [.int i] ∧ Q (.int i) H) ∨ ∃ k, xs = [.bl k] ∧ Q (.int (if k then 1 else 0)) H
theorem call_intU {X : Cx} : CallR X (.type "int") oInt := call_int1
/-- isinstance(x, T), T a built-in type -/
def tyN : D → String
  | .none => "NoneType" | .bool _ => "bool" | .int _ => "int" | .str _ => "str" | .list _ => "list" | .tuple _ => "tuple" | .dict [(.none, .list _)] => "list" | .dict [(.none, .tuple _)] => "tuple" | .dict _ => "dict"
/-- an error that is held -/
def isExc : D → Bool
  | .dict [(.int _, _)] => true
  | .dict [(.str _, _)] => true
  | .dict ((.bool true, .bool true) :: _) => true
  | _ => false
def isiD (T : String) (d : D) : Option D := if isExc d = true then none else (kitB (tyN d) T).map .bool
theorem ty_of {F H : Hp} {v : V} {d : D} (ex : Ex F H) (r : RepB K F H v d) (he : isExc d = false) : TyX K H v (.type (tyN d)) := by
  cases r with
  | thg h q => cases q with
    | lst r => exact .base (.lst h)
    | dK r => exact .base (.dK h)
    | dT r => exact .base (.dT h)
  | frz r =>
    cases r with
    | non => exact .base .non
    | bl b => exact .base (.bl b)
    | int i => exact .base (.int i)
    | str x => exact .base (.str x)
    | lst h q => exact .base (.lst (ex _ _ h))
    | dK h q e => subst e; exact .base (.dK (ex _ _ h))
    | dT h q e => subst e; exact .base (.dT (ex _ _ h))
    | dKf h q e => subst e; exact .fDict (ex _ _ h)
    | dTf h q e => subst e; cases he
    | exc h q e => subst e; cases he
    | fnc h e => subst e; cases he
    | ktp h _ _ q e => subst e; exact .fTuple (ex _ _ h)
    | tup h q => exact .base (.tup (ex _ _ h))
    | scr h q e =>
      subst e
      rcases h with (h | ⟨o, h⟩) | ⟨o, its, n, h, c, _⟩
      · exact .base (.lst (ex _ _ h))
      · exact .base (.frz (ex _ _ h))
      · exact .kList h c
theorem df_isi {L : Addr × Addr} {mg : Str → Option Value} {W : WX} {ta : TE} {a : ME} {T : String} (ha : DE K L mg W ta a) : DF K L mg W (tCB (rIsi K) (tCons ta (tCons (tC (.ty T)) tNil))) (e1 (isiD T) a) := fun F0 H0 F H σ ρ Q E p => by
  refine ha F0 H0 F H σ ρ _ E (post_mono (post_bind p) (fun d k F1 H1 x s1 r1 => ?_) fun _ z => z)
  obtain ⟨z, ez, k3⟩ := post_lift k
  unfold isiD at ez
  cases he : isExc d with
  | true => rw [if_pos he] at ez; cases ez
  | false =>
  rw [if_neg (by rw [he]; exact Bool.false_ne_true)] at ez
  cases q : kitB (tyN d) T with
  | none => rw [q] at ez; cases ez
  | some b =>
    rw [q] at ez
    cases ez
    exact ⟨x, .ty T, _, _, b, rfl, .ty T, ty_of s1.fh r1 he, kit_ty q, k3 F1 H1 _ s1 (.bl _)⟩
open Classical in
/-- a[i] -/
noncomputable def ixD : D → D → Option D
  | .str z, .int i => if z.length ≤ sizeLine then (atI z.cps.toList i).map fun c => .str ⟨#[c]⟩ else none
  | d, .int i => (seq? d).bind fun ds => atI ds i
  | _, _ => none
theorem RepL.at {F : Hp} {vs : List V} {ds : List D} (r : RepL K F vs ds) {i : Int} {d : D} (h : atI ds i = some d) : ∃ v, atI vs i = some v ∧ Rep K F v d := by
  unfold atI at h ⊢
  rw [r.length]
  cases q : ixN ds.length i with
  | none => rw [q] at h; cases h
  | some j => rw [q] at h; exact r.get' h
theorem rd_ix : R2D K (rIx K) ixD := by
  intro F H x y d e Q z ex rx ry h k
  unfold ixD at h
  split at h
  · obtain rfl := rx.iss
    obtain rfl := ry.isi
    split at h
    · rename_i zz i hz
      cases q : atI zz.cps.toList i with
      | none => rw [q] at h; cases h
      | some c =>
        rw [q] at h
        cases h
        exact .inr (.inr ⟨_, _, c, rfl, rfl, hz, q, k.here ex (.str _)⟩)
    · cases h
  · obtain rfl := ry.isi
    cases q : seq? d with
    | none => rw [q] at h; cases h
    | some ds =>
      rw [q] at h
      obtain ⟨l, vs, rfl, a, b⟩ := rx.seq ex q
      obtain ⟨v, hv, rv⟩ := b.at h
      rcases a with a | a
      · exact .inl ⟨l, vs, _, v, rfl, rfl, a, hv, k.here ex rv⟩
      · exact .inr (.inl ⟨l, vs, _, v, rfl, rfl, a, hv, k.here ex rv⟩)
  · cases h
/-- a[lo:hi] -/
def cutL {α : Type} (xs : List α) (lo hi : Option Int) : List α := (xs.drop (HT.sIx xs.length 0 lo)).take (HT.sIx xs.length xs.length hi - HT.sIx xs.length 0 lo)
theorem RepL.cut {F : Hp} {vs : List V} {ds : List D} (r : RepL K F vs ds) (lo hi : Option Int) : RepL K F (cutV vs lo hi) (cutL ds lo hi) := by
  unfold cutV cutL
  rw [r.length]
  exact (r.drop _).take _
open Classical in
noncomputable def slD : D → Option Int → Option Int → Option D
  | .str z, lo, hi => if z.length ≤ sizeLine then some (.str (cutS z lo hi)) else none
  | .tuple ds, lo, hi => some (.tuple (cutL ds lo hi))
  | .list ds, lo, hi => some (.list (cutL ds lo hi))
  | .dict [(.none, .list ds)], lo, hi => some (.list (cutL ds lo hi))
  | .dict [(.none, .tuple ds)], lo, hi => some (if (cutL ds lo hi).length = ds.length then ktD ds else .tuple (cutL ds lo hi))
  | _, _, _ => none
def slLD : D → Option Int → Option Int → Option (List D)
  | .list ds, lo, hi => some (cutL ds lo hi)
  | .dict [(.none, .list ds)], lo, hi => some (cutL ds lo hi)
  | _, _, _ => none
def oSl (K : PySem.W.Frag) : V → Option Int → Option Int → Hp → VK → Prop := fun x lo hi H Q => rSlL K x lo hi H Q ∨ (fun x lo hi H Q => rSlA K x lo hi H Q ∨ rSlS x lo hi H Q) x lo hi H Q
theorem sl_any {X : Cx} : SlR X (oSl X.K) := sl_list.or (sl_tupA.or sl_str)
theorem sIx_le' (n d : Nat) (hd : d ≤ n) (o : Option Int) : HT.sIx n d o ≤ n := HT.sIx_le n d hd o
theorem rs_sl : RSD K (oSl K) slD := by
  intro F H x d lo hi Q z ex rx h k
  unfold slD at h
  split at h
  · split at h
    · cases h
      obtain rfl := rx.iss
      exact .inr (.inr ⟨_, rfl, by assumption, k.here ex (.str _)⟩)
    · cases h
  · cases h
    obtain ⟨l, vs, rfl, a, b, c⟩ := rx.ist ex
    refine .inr (.inl ⟨l, vs, rfl, a, fun hw => ?_, fun _ => k.newT ex (b.cut lo hi)⟩)
    refine k.here ex ?_
    rename_i ds
    have e : cutL ds lo hi = ds := by
      unfold cutL
      rw [← b.length, hw.1, hw.2, List.drop_zero]
      rw [b.length, Nat.sub_zero, List.take_length]
    rw [e]
    exact c
  · cases h
    obtain ⟨l, vs, rfl, a, b⟩ := rx.isl ex
    exact .inl ⟨l, vs, rfl, .of a, k.newL ex (b.cut lo hi)⟩
  · cases h
    obtain ⟨l, vs, rfl, a, b⟩ := rx.iscr ex
    exact .inl ⟨l, vs, rfl, a, k.newL ex (b.cut lo hi)⟩
  · cases h
    rename_i ds
    obtain ⟨l, vs, rfl, a, b, c⟩ := rx.iktT ex
    have l1 := sIx_le' ds.length 0 (Nat.zero_le _) lo
    have l2 := sIx_le' ds.length ds.length (Nat.le_refl _) hi
    have cl : (cutL ds lo hi).length = min (HT.sIx ds.length ds.length hi - HT.sIx ds.length 0 lo) (ds.length - HT.sIx ds.length 0 lo) := by
      unfold cutL
      rw [List.length_take, List.length_drop]
    refine .inr (.inl ⟨l, vs, rfl, a, fun hw => ?_, fun hw => ?_⟩)
    · rw [b.length] at hw
      rw [if_pos (by omega)] at k
      exact k.here ex c
    · rw [b.length] at hw
      rw [if_neg (by omega)] at k
      exact k.newT ex (b.cut lo hi)
  · cases h
/-- x in y -/
def inB : D → D → Option Bool
  | d, .list ds => if SeqAt.shaped d && SeqAt.shaped (.list ds) then some (ds.any fun z => PyData.eqv z d) else none
  | _, _ => none
def ninD (d e : D) : Option D := (inB d e).map fun b => .bool (!b)
def oNin (K : PySem.W.Frag) : R2 := rOr (rNotInD K) (rIn K true)
theorem op_ninU {X : Cx} (hu : X.A.units + 65 < cLine) : OpR X (compareOp .NotIn) (oNin X.K) := opOr (op_notInD hu) op_notIn_seq
theorem rd_nin : R2D K (oNin K) ninD := by
  intro F H x y d e Q z ex rx ry h k
  unfold ninD inB at h
  split at h
  · split at h
    · rename_i ds c
      cases h
      rw [Bool.and_eq_true] at c
      exact .inl ⟨d, ds, (rx.now ex).dp (canLay_sh c.1), (ry.now ex).dp (canLay_sh c.2), c.1, c.2, k.here ex (.bl _)⟩
    · cases h
  · cases h
end
end Dn
set_option Elab.async false
set_option linter.all false
set_option maxRecDepth 100000
set_option maxHeartbeats 4000000
namespace Dn
open PySem L2
section
variable (K : PySem.W.Frag)
/-- what is wanted of an outcome -/
def WO (mg : Str → Option Value) (W : WX) (L : Addr × Addr) (F0 H0 F : Hp) (D : Ends) : Out → Prop
  | .nx ρ => ∀ F' H' σ', Ex F F' → Env K L F0 H0 F' H' σ' ρ → D.nx σ' H'
  | .brk ρ => ∀ F' H' σ', Ex F F' → Env K L F0 H0 F' H' σ' ρ → D.bk σ' H'
  | .cont ρ => ∀ F' H' σ', Ex F F' → Env K L F0 H0 F' H' σ' ρ → D.ct σ' H'
  | .ret d ρ => ∀ F' H' σ' v, Ex F F' → Env K L F0 H0 F' H' σ' ρ → Rep K F' v d → D.rt v H'
  | .retL ds ρ => ∀ F' H1 σ' p vs, Ex F F' → Env K L F0 H0 F' H1 σ' ρ → H1 p = none → RepL K F' vs ds → D.rt (.ref p) (upd H1 p (.lst vs))
  | .exc n ρ => ∀ F' H' σ', Ex F F' → Env K L F0 H0 F' H' σ' ρ → Wm mg W n σ' H'
  | .stuck => False
variable (L : Addr × Addr) (mg : Str → Option Value) (W : WX)
def DS (t : TS) (g : MS) : Prop := ∀ F0 H0 F H σ ρ D, Env K L F0 H0 F H σ ρ → WO K mg W L F0 H0 F D (g ρ) → t D σ H
/-- a target: what it does, the slots that it fills -/
def DG (g : TG) (tg : D → Fr → Option Fr) (is : List Nat) : Prop := ∀ F0 H0 F H σ ρ v d (Q : St → Hp → Prop) ρ', Env K L F0 H0 F H σ ρ → Rep K F v d → tg d ρ = some ρ' →
  (∀ σ', Env K L F0 H0 F H σ' ρ' → (∀ vs : List Nat, (∀ i ∈ is, i ∈ vs) → wipe σ' vs = wipe σ vs) → Q σ' H) → g v σ H Q
def DGs (g : TGs) (tg : List D → Fr → Option Fr) (is : List Nat) : Prop := ∀ F0 H0 F H σ ρ vs ds (Q : St → Hp → Prop) ρ', Env K L F0 H0 F H σ ρ → RepL K F vs ds → tg ds ρ = some ρ' →
  (∀ σ', Env K L F0 H0 F H σ' ρ' → (∀ vs : List Nat, (∀ i ∈ is, i ∈ vs) → wipe σ' vs = wipe σ vs) → Q σ' H) → g vs σ H Q
/-- what is walked: items that stay, items that stand as long as nothing is written -/
def Src (J : It) (F1 : Hp) (ds : List D) : Prop := ∃ G Y, Walk J ds.length G Y ∧ (∀ F H, Ex F1 F → Ex F H → G H) ∧
  (∀ i F H x H', i < ds.length → Ex F1 F → Ex F H → Y i H x H' → ∃ F' d, Step F H F' H' ∧ ds[i]? = some d ∧ Rep K F' x d)
def SrcB (J : It) (F1 H1 : Hp) (ds : List D) : Prop := ∃ G Y, Walk J ds.length G Y ∧ (∀ F H, Ex F1 F → Ex H1 H → Ex F H → G H) ∧
  (∀ i F H x H', i < ds.length → Ex F1 F → Ex H1 H → Ex F H → Y i H x H' → ∃ F' d, Step F H F' H' ∧ ds[i]? = some d ∧ Rep K F' x d)
def DI (wi : TI) (f : ML) : Prop := ∀ F0 H0 F H σ ρ (R : It → Hp → Prop), Env K L F0 H0 F H σ ρ → post (f ρ) (fun ds => ∀ F' H' J, Step F H F' H' → Src K J F' ds → R J H') (WE' mg W F H σ) → wi σ H R
def DIB (wi : TI) (f : ML) : Prop := ∀ F0 H0 F H σ ρ (R : It → Hp → Prop), Env K L F0 H0 F H σ ρ → post (f ρ) (fun ds => ∀ F' H' J, Step F H F' H' → SrcB K J F' H' ds → R J H') (WE' mg W F H σ) → wi σ H R
end
def Out.of {α : Type} (m : M α) (ρ : Fr) (k : α → Out) : Out := match m with
  | .ok a => k a
  | .exc n => .exc n ρ
  | .stuck => .stuck
@[simp] theorem of_ok {α : Type} {a : α} {ρ : Fr} {k : α → Out} : Out.of (.ok a) ρ k = k a := rfl
@[simp] theorem of_exc {α : Type} {n : Str} {ρ : Fr} {k : α → Out} : Out.of (.exc n : M α) ρ k = .exc n ρ := rfl
@[simp] theorem of_stuck {α : Type} {ρ : Fr} {k : α → Out} : Out.of (.stuck : M α) ρ k = .stuck := rfl
def Out.ofO {α : Type} (m : Option α) (k : α → Out) : Out := match m with
  | some a => k a
  | none => .stuck
@[simp] theorem ofO_some {α : Type} {a : α} {k : α → Out} : Out.ofO (some a) k = k a := rfl
@[simp] theorem ofO_none {α : Type} {k : α → Out} : Out.ofO (none : Option α) k = .stuck := rfl
def sNext : MS := fun ρ => .nx ρ
def sSeq (a b : MS) : MS := fun ρ => match a ρ with
  | .nx ρ' => b ρ'
  | o => o
def sAsg (tg : D → Fr → Option Fr) (e : ME) : MS := fun ρ => Out.of (e ρ) ρ fun d => Out.ofO (tg d ρ) .nx
def sAsgL (i : Nat) (e : ML) : MS := fun ρ => Out.of (e ρ) ρ fun ds => .nx (ρ.set i (.own (.lst ds)))
def sExpr (e : ME) : MS := fun ρ => Out.of (e ρ) ρ fun _ => .nx ρ
def sRet (e : ME) : MS := fun ρ => Out.of (e ρ) ρ fun d => .ret d ρ
def sRetL (e : ML) : MS := fun ρ => Out.of (e ρ) ρ fun ds => .retL ds ρ
/-- the list of one's own in slot i is handed back -/
def sRetO (i : Nat) : MS := fun ρ => match ρ[i]? with
  | some (.own (.lst ds)) => .retL ds (ρ.set i .none)
  | _ => .stuck
def sRaise (n : Str) : MS := fun ρ => .exc n ρ
def sIf (t : MT) (a b : MS) : MS := fun ρ => Out.of (t ρ) ρ fun c => if c = true then a ρ else b ρ
/-- the list in slot i is from here on nobody's -/
def frz (i : Nat) (ρ : Fr) : Fr := match ρ[i]? with
  | some (.own o) => ρ.set i (.val o.d)
  | _ => ρ
def sFrz (i : Nat) (g : MS) : MS := fun ρ => g (frz i ρ)
def loopFor (body : D → Fr → Out) : List D → Fr → Out
  | [], ρ => .nx ρ
  | d :: ds, ρ => match body d ρ with
    | .nx ρ' => loopFor body ds ρ'
    | .cont ρ' => loopFor body ds ρ'
    | .brk ρ' => .nx ρ'
    | o => o
def forB (tg : D → Fr → Option Fr) (g : MS) : D → Fr → Out := fun d ρ => Out.ofO (tg d ρ) g
def sFor (f : ML) (tg : D → Fr → Option Fr) (g : MS) : MS := fun ρ => Out.of (f ρ) ρ fun ds => loopFor (forB tg g) ds ρ
def loopWhile (c : MT) (g : MS) : Nat → Fr → Out
  | 0, _ => .stuck
  | n + 1, ρ => Out.of (c ρ) ρ fun b => if b = true then (match g ρ with
      | .nx ρ' => loopWhile c g n ρ'
      | .cont ρ' => loopWhile c g n ρ'
      | .brk ρ' => .nx ρ'
      | o => o) else .nx ρ
@[irreducible] def fuel : Nat := 1000000
def sWhile (c : MT) (g : MS) : MS := fun ρ => loopWhile c g fuel ρ
def gN (i : Nat) : D → Fr → Option Fr := fun d ρ => some (ρ.set i (.val d))
def gNil' : List D → Fr → Option Fr := fun ds ρ => match ds with
  | [] => some ρ
  | _ => none
def gC (g : D → Fr → Option Fr) (gs : List D → Fr → Option Fr) : List D → Fr → Option Fr := fun ds ρ => match ds with
  | d :: ds => (g d ρ).bind fun ρ' => gs ds ρ'
  | [] => none
def gT (gs : List D → Fr → Option Fr) : D → Fr → Option Fr := fun d ρ => match d with
  | .tuple ds => gs ds ρ
  | _ => none
def gL (gs : List D → Fr → Option Fr) : D → Fr → Option Fr := fun d ρ => match d with
  | .list ds => gs ds ρ
  | _ => none
def ownAt (i : Nat) (ρ : Fr) : Option (List D) := match ρ[i]? with
  | some (.own (.lst ds)) => some ds
  | some (.pin (.lst ds)) => some ds
  | _ => none
def setL (ds : List D) (k v : D) : Option (List D) := match k with
  | .int j => (ixN ds.length j).map fun n => ds.set n v
  | _ => none
def putL (i : Nat) (ds : List D) (ρ : Fr) : Fr := putO i (.lst ds) ρ
/-- l[k] = v in slot i -/
def sSet (i : Nat) (k e : ME) : MS := fun ρ => Out.of (e ρ) ρ fun v => Out.ofO (ownAt i ρ) fun ds => Out.of (k ρ) ρ fun j => Out.ofO (setL ds j v) fun ds' => .nx (putL i ds' ρ)
/-- a method that changes the list in slot i -/
def sMut (i : Nat) (fm : List D → List D → Option (List D × D)) (as : ML) : MS := fun ρ => Out.ofO (ownAt i ρ) fun ds => Out.of (as ρ) ρ fun es => Out.ofO (fm ds es) fun r => .nx (putL i r.1 ρ)
def sMutA (j i : Nat) (fm : List D → List D → Option (List D × D)) (as : ML) : MS := fun ρ => Out.ofO (ownAt i ρ) fun ds => Out.of (as ρ) ρ fun es => Out.ofO (fm ds es) fun r => .nx ((putL i r.1 ρ).set j (.val r.2))
/-- what a def hands back -/
def Out.m : Out → M D
  | .nx _ => .ok .none
  | .ret d _ => .ok d
  | .retL ds _ => .ok (.list ds)
  | .exc n _ => .exc n
  | _ => .stuck
def start' (N : Nat) (ds : List D) : Fr := ds.map .val ++ List.replicate (N - ds.length) .none
def mFn (np N : Nat) (g : MS) (ds : List D) : M D := if ds.length = np then (g (start' N ds)).m else .stuck
/-- comprehensions -/
def wipeF (ρ : Fr) : List Nat → Fr
  | [] => ρ
  | v :: vs => (wipeF ρ vs).set v .none
def noX {α : Type} : M α → M α
  | .exc _ => .stuck
  | m => m
def loopLc (tg : D → Fr → Option Fr) (t : MT) (e : ME) (vs : List Nat) (ρ : Fr) : List D → List D → M (List D)
  | [], acc => .ok acc
  | d :: ds, acc => match tg d (wipeF ρ vs) with
    | none => .stuck
    | some ρ' => (noX (t ρ')).bind fun b => if b = true then (noX (e ρ')).bind fun y => if acc.length < sizeLine then loopLc tg t e vs ρ ds (acc ++ [y]) else .stuck else loopLc tg t e vs ρ ds acc
def eLc (f : ML) (tg : D → Fr → Option Fr) (t : MT) (e : ME) (vs : List Nat) : ML := fun ρ => (f ρ).bind fun ds => loopLc tg t e vs ρ ds []
def tYesF : MT := fun _ => .ok true
section
variable {K : PySem.W.Frag} {mg : Str → Option Value} {W : WX} {te ta : TE} {e a : ME} {t u : TS} {g h : MS} {L : Addr × Addr} {F0 H0 F H F' H' : Hp} {D : Ends} {σ : St} {ρ : Fr} {tt : TT} {tf : MT} {gg : TG} {tg : Dn.D → Fr → Option Fr} {is : List Nat}
theorem WO.mono {o : Out} (s : Ex F F') (w : WO K mg W L F0 H0 F D o) : WO K mg W L F0 H0 F' D o := by
  cases o with
  | nx ρ => exact fun F1 H1 σ1 e => w F1 H1 σ1 (s.trans e)
  | brk ρ => exact fun F1 H1 σ1 e => w F1 H1 σ1 (s.trans e)
  | cont ρ => exact fun F1 H1 σ1 e => w F1 H1 σ1 (s.trans e)
  | ret d ρ => exact fun F1 H1 σ1 v e => w F1 H1 σ1 v (s.trans e)
  | retL ds ρ => exact fun F1 H1 σ1 p vs e => w F1 H1 σ1 p vs (s.trans e)
  | exc n ρ => exact fun F1 H1 σ1 e => w F1 H1 σ1 (s.trans e)
  | stuck => exact w
/-- an expression ahead -/
theorem WO.of {α : Type} {m : M α} {k : α → Out} (E : Env K L F0 H0 F H σ ρ) (w : WO K mg W L F0 H0 F D (Out.of m ρ k)) : post m (fun a => WO K mg W L F0 H0 F D (k a)) (WE' mg W F H σ) := by
  cases m with
  | ok a => exact w
  | exc n => exact fun F1 H1 s => w F1 H1 σ s.ff (E.step s)
  | stuck => exact w.elim
theorem WO.ofO {α : Type} {m : Option α} {k : α → Out} (w : WO K mg W L F0 H0 F D (Out.ofO m k)) : ∃ a, m = some a ∧ WO K mg W L F0 H0 F D (k a) := by
  cases m with
  | some a => exact ⟨a, rfl, w⟩
  | none => exact w.elim
theorem ds_next : DS K L mg W tNext sNext := fun F0 H0 F H σ ρ D E w => w F H σ (Ex.refl _) E
theorem ds_seq (h1 : DS K L mg W t g) (h2 : DS K L mg W u h) : DS K L mg W (tSeq t u) (sSeq g h) := fun F0 H0 F H σ ρ D E w => by
  refine h1 F0 H0 F H σ ρ _ E ?_
  unfold sSeq at w
  cases q : g ρ with
  | nx ρ' => rw [q] at w; exact fun F1 H1 σ1 e E1 => h2 F0 H0 F1 H1 σ1 ρ' D E1 (w.mono e)
  | brk ρ => rw [q] at w; exact w
  | cont ρ => rw [q] at w; exact w
  | ret d ρ => rw [q] at w; exact w
  | retL ds ρ => rw [q] at w; exact w
  | exc n ρ => rw [q] at w; exact w
  | stuck => rw [q] at w; exact w
theorem ds_asg (he : DF K L mg W te e) (hg : DG K L gg tg is) : DS K L mg W (tAsg te gg) (sAsg tg e) := fun F0 H0 F H σ ρ D E w => by
  refine he F0 H0 F H σ ρ _ E (post_mono (WO.of E w) (fun d k F1 H1 v s r => ?_) fun _ z => z)
  obtain ⟨ρ', q, k⟩ := WO.ofO k
  exact hg F0 H0 F1 H1 σ ρ v d _ ρ' (E.step s) r q fun σ' E' _ => k F1 H1 σ' s.ff E'
theorem ds_asgL {i : Nat} {f : ML} (he : DL K L mg W te f) : DS K L mg W (tAsg te (gName i)) (sAsgL i f) := fun F0 H0 F H σ ρ D E w => by
  refine he F0 H0 F H σ ρ _ E (post_mono (WO.of E w) (fun ds k F1 H1 p vs s n r => ?_) fun _ z => z)
  exact k F1 _ _ s.ff ((E.step s).seto n (.lst r) i)
theorem ds_ret (he : DF K L mg W te e) : DS K L mg W (tRet te) (sRet e) := fun F0 H0 F H σ ρ D E w => by
  refine he F0 H0 F H σ ρ _ E (post_mono (WO.of E w) (fun d k F1 H1 v s r => ?_) fun _ z => z)
  exact k F1 H1 σ v s.ff (E.step s) r
theorem ds_raise {n : Str} {C : Addr} (hC : mg n = some (.ref C)) : DS K L mg W (fun _ σ H => W (.ref C) none σ H) (sRaise n) := fun F0 H0 F H σ ρ D E w => w F H σ (Ex.refl _) E C hC
theorem ds_if (ht : DT K L mg W tt tf) (h1 : DS K L mg W t g) (h2 : DS K L mg W u h) : DS K L mg W (tIfS tt t u) (sIf tf g h) := fun F0 H0 F H σ ρ D E w => by
  refine ht F0 H0 F H σ ρ _ E (post_mono (WO.of E w) (fun c k F1 H1 s => ?_) fun _ z => z)
  cases c with
  | true => exact iteT (h1 F0 H0 F1 H1 σ ρ D (E.step s) (WO.mono s.ff k))
  | false => exact iteF (h2 F0 H0 F1 H1 σ ρ D (E.step s) (WO.mono s.ff k))
theorem ds_frz {i : Nat} (h1 : DS K L mg W t g) : DS K L mg W t (sFrz i g) := fun F0 H0 F H σ ρ D E w => by
  unfold sFrz frz at w
  cases q : ρ[i]? with
  | none => rw [q] at w; exact h1 F0 H0 F H σ ρ D E w
  | some s =>
    rw [q] at w
    cases s with
    | own ds =>
      obtain ⟨F', ef, E'⟩ := E.frz q
      exact h1 F0 H0 F' H σ _ D E' (WO.mono ef w)
    | none => exact h1 F0 H0 F H σ ρ D E w
    | pin _ => exact h1 F0 H0 F H σ ρ D E w
    | val d => exact h1 F0 H0 F H σ ρ D E w
    | err n => exact h1 F0 H0 F H σ ρ D E w
theorem wipe_get (σ : St) : ∀ (vs : List Nat) (j : Nat), (wipe σ vs)[j]? = if j ∈ vs then (σ[j]?).map (fun _ => none) else σ[j]?
  | [], j => by simp [wipe]
  | v :: vs, j => by
    unfold wipe
    rw [List.getElem?_set, wipe_length]
    by_cases q : v = j
    · subst q
      simp
      cases r : σ[v]? with
      | none => rw [List.getElem?_eq_none_iff] at r; rw [if_neg (by omega)]; rfl
      | some o => obtain ⟨hl, _⟩ := List.getElem?_eq_some_iff.mp r; rw [if_pos hl]; rfl
    · rw [if_neg q, wipe_get σ vs j]
      have e : (j ∈ v :: vs) ↔ j ∈ vs := ⟨fun h => (List.mem_cons.mp h).resolve_left fun z => q z.symm, List.mem_cons_of_mem _⟩
      simp only [e]
theorem wipe_set {σ : St} {i : Nat} {o : Option V} {vs : List Nat} (h : i ∈ vs) : wipe (σ.set i o) vs = wipe σ vs := by
  refine List.ext_getElem? fun j => ?_
  rw [wipe_get, wipe_get, List.getElem?_set]
  by_cases q : i = j
  · subst q
    rw [if_pos h, if_pos h, if_pos rfl]
    split
    · rw [List.getElem?_eq_getElem (by assumption)]; rfl
    · rw [List.getElem?_eq_none (by omega)]
  · rw [if_neg q]
theorem wipe_wipe {σ : St} {vs : List Nat} : wipe (wipe σ vs) vs = wipe σ vs := by
  refine List.ext_getElem? fun j => ?_
  rw [wipe_get, wipe_get]
  split
  · cases σ[j]? <;> rfl
  · rfl
theorem dg_name {i : Nat} : DG K L (gName i) (gN i) [i] := fun F0 H0 F H σ ρ v d Q ρ' E r q k => by
  cases q
  exact k _ (E.setv r i) fun vs h => wipe_set (h i (List.mem_singleton.mpr rfl))
theorem dgs_nil : DGs K L gNil gNil' [] := fun F0 H0 F H σ ρ vs ds Q ρ' E r q k => by
  unfold gNil' at q
  split at q
  · cases q; cases r; exact ⟨rfl, k σ E fun _ _ => rfl⟩
  · cases q
theorem dgs_cons {gs : TGs} {tgs : List Dn.D → Fr → Option Fr} {js : List Nat} (h1 : DG K L gg tg is) (h2 : DGs K L gs tgs js) : DGs K L (gCons gg gs) (gC tg tgs) (is ++ js) := fun F0 H0 F H σ ρ vs ds Q ρ' E r q k => by
  unfold gC at q
  split at q
  · rename_i d ds
    cases r with
    | cons r1 r2 =>
      cases q1 : tg d ρ with
      | none => rw [q1] at q; cases q
      | some ρ1 =>
        rw [q1] at q
        refine ⟨_, _, rfl, ?_⟩
        refine h1 F0 H0 F H σ ρ _ d _ ρ1 E r1 q1 fun σ1 E1 w1 => ?_
        refine h2 F0 H0 F H σ1 ρ1 _ ds _ ρ' E1 r2 q fun σ2 E2 w2 => ?_
        exact k σ2 E2 fun vs h => (w2 vs fun i hi => h i (List.mem_append_right _ hi)).trans (w1 vs fun i hi => h i (List.mem_append_left _ hi))
  · cases q
theorem dg_tup {gs : TGs} {tgs : List Dn.D → Fr → Option Fr} {n : Nat} (h : DGs K L gs tgs is) (hn : ∀ ds ρ ρ', tgs ds ρ = some ρ' → ds.length = n) : DG K L (gTup K n gs) (gT tgs) is := fun F0 H0 F H σ ρ v d Q ρ' E r q k => by
  unfold gT at q
  split at q
  · cases r with
    | tup a b => exact ⟨_, _, rfl, ex_t E.st.fh (.inl (.inl a)), by rw [b.length]; exact hn _ _ _ q, h F0 H0 F H σ ρ _ _ Q ρ' E b q k⟩
  · cases q
theorem gnil_len {ds : List Dn.D} {ρ ρ' : Fr} (h : gNil' ds ρ = some ρ') : ds.length = 0 := by
  unfold gNil' at h
  split at h
  · rfl
  · cases h
theorem gC_len {tgs : List Dn.D → Fr → Option Fr} {n : Nat} (hn : ∀ ds ρ ρ', tgs ds ρ = some ρ' → ds.length = n) (ds : List Dn.D) (ρ ρ' : Fr) (h : gC tg tgs ds ρ = some ρ') : ds.length = n + 1 := by
  unfold gC at h
  split at h
  · rename_i d ds
    cases q1 : tg d ρ with
    | none => rw [q1] at h; cases h
    | some ρ1 => rw [q1] at h; rw [List.length_cons, hn _ _ _ h]
  · cases h
theorem ownAt_eq {i : Nat} {ds : List Dn.D} (h : ownAt i ρ = some ds) : ownO ρ[i]? = some (.lst ds) := by
  unfold ownAt at h
  split at h
  · cases h; rename_i q; rw [q]; rfl
  · cases h; rename_i q; rw [q]; rfl
  · cases h
theorem RepO.isl {ho : HO} {ds : List Dn.D} (r : RepO K F ho (.lst ds)) : ∃ vs, ho = .lst vs ∧ RepL K F vs ds := by
  cases r with
  | lst r => exact ⟨_, rfl, r⟩
theorem ds_set {i : Nat} {tk : TE} {k : ME} (he : DF K L mg W te e) (hk : DE K L mg W tk k) : DS K L mg W (tAsg te (gSub (tVar i) tk rSetL)) (sSet i k e) := fun F0 H0 F H σ ρ D E w => by
  refine he F0 H0 F H σ ρ _ E (post_mono (WO.of E w) (fun d w1 F1 H1 v s r => ?_) fun _ z => z)
  have E1 := E.step s
  obtain ⟨ds, q, w2⟩ := WO.ofO w1
  have q := ownAt_eq q
  obtain ⟨l, ho, el, _⟩ := E1.ownv q
  refine ⟨_, el, ?_⟩
  refine hk F0 H0 F1 H1 σ ρ _ E1 (post_mono (WO.of E1 (WO.mono s.ff w2)) (fun j w3 F2 H2 x s2 r2 => ?_) fun _ z => z)
  have E2 := E1.step s2
  obtain ⟨ds', q3, w4⟩ := WO.ofO w3
  obtain ⟨l', ho', el', _, _, hl, rl, _⟩ := E2.ownv q
  rw [el] at el'
  cases el'
  obtain ⟨vs', rfl, rl'⟩ := rl.isl
  unfold setL at q3
  split at q3
  · rename_i jj
    cases qj : ixN ds.length jj with
    | none => rw [qj] at q3; cases q3
    | some n =>
      rw [qj] at q3
      cases q3
      obtain rfl := r2.isi
      refine ⟨l, vs', jj, n, rfl, rfl, hl, by rw [rl'.length]; exact qj, ?_⟩
      exact w4 F2 _ σ s2.ff (E2.mut q el (.lst (rl'.set (r.mono s2.ff) n)))
  · cases q3
/-- a method of a list that changes it -/
def RMD (K : PySem.W.Frag) (r : V → List V → Hp → VK → Prop) (fm : List Dn.D → List Dn.D → Option (List Dn.D × Dn.D)) : Prop :=
  ∀ F H l vs ds xs es ds' z (Q : VK), Ex F H → H l = some (.lst vs) → RepL K F vs ds → RepL K F xs es → fm ds es = some (ds', z) → (∀ ws v, RepL K F ws ds' → Rep K F v z → Q v (upd H l (.lst ws))) → r (.ref l) xs H Q
theorem tm_core {i : Nat} {r : V → List V → Hp → VK → Prop} {fm : List Dn.D → List Dn.D → Option (List Dn.D × Dn.D)} {tas : TA} {as : ML} (hr : RMD K r fm) (ha : DAF K L mg W tas as) (F0 H0 F H : Hp) (σ : St) (ρ : Fr) (D : Ends) (Q : VK) (kk : List Dn.D × Dn.D → Out) (E : Env K L F0 H0 F H σ ρ)
    (w : WO K mg W L F0 H0 F D (Out.ofO (ownAt i ρ) fun ds => Out.of (as ρ) ρ fun es => Out.ofO (fm ds es) kk))
    (kq : ∀ ds' z F1 H1 v, Ex F F1 → WO K mg W L F0 H0 F1 D (kk (ds', z)) → Env K L F0 H0 F1 H1 σ (putL i ds' ρ) → Rep K F1 v z → Q v H1) :
    tBM K "list" r (tVar i) tas σ H Q := by
  obtain ⟨ds, q, w2⟩ := WO.ofO w
  have q := ownAt_eq q
  obtain ⟨l, ho, el, _, _, hl0, rl0, _⟩ := E.ownv q
  obtain ⟨vs, rfl, _⟩ := rl0.isl
  refine ⟨_, el, .inl ⟨rfl, _, .of hl0⟩, ?_⟩
  refine ha F0 H0 F H σ ρ _ E (post_mono (WO.of E w2) (fun es w3 F1 H1 xs s r1 => ?_) fun _ z => z)
  have E1 := E.step s
  obtain ⟨⟨ds', z⟩, q3, w4⟩ := WO.ofO w3
  obtain ⟨l', ho', el', _, _, hl, rl, _⟩ := E1.ownv q
  rw [el] at el'
  cases el'
  obtain ⟨vs', rfl, rl'⟩ := rl.isl
  refine hr F1 H1 l vs' ds xs es ds' z _ s.fh hl rl' r1 q3 fun ws v rw' rz => ?_
  exact kq ds' z F1 _ v s.ff (WO.mono s.ff w4) (E1.mut q el (.lst rw')) rz
theorem ds_mut {i : Nat} {r : V → List V → Hp → VK → Prop} {fm : List Dn.D → List Dn.D → Option (List Dn.D × Dn.D)} {tas : TA} {as : ML} (hr : RMD K r fm) (ha : DAF K L mg W tas as) : DS K L mg W (tDrop (tBM K "list" r (tVar i) tas)) (sMut i fm as) := fun F0 H0 F H σ ρ D E w =>
  tm_core hr ha F0 H0 F H σ ρ D _ _ E w fun ds' z F1 H1 v e w1 E1 rz => w1 F1 H1 σ (Ex.refl _) E1
theorem ds_for {wi : TI} {f : ML} (hi : DI K L mg W wi f) (hg : DG K L gg tg is) (hb : DS K L mg W t g) : DS K L mg W (tFor wi gg t) (sFor f tg g) := fun F0 H0 F H σ ρ D E w => by
  refine hi F0 H0 F H σ ρ _ E (post_mono (WO.of E w) (fun ds w1 F1 H1 J s src => ?_) fun _ z => z)
  obtain ⟨G, Y, wk, hG, hY⟩ := src
  refine for_it wk (fun i σ H => ∃ F ρ, Ex F1 F ∧ Env K L F0 H0 F H σ ρ ∧ WO K mg W L F0 H0 F D (loopFor (forB tg g) (ds.drop i) ρ)) ⟨F1, ρ, Ex.refl _, E.step s, by rw [List.drop_zero]; exact WO.mono s.ff w1⟩
    (fun i σ H _ ⟨F, ρ, e, E, _⟩ => hG F H e E.st.fh) ?_ ?_
  · rintro i x σ2 H2 H3 hlt ⟨F2, ρ2, e2, E2, w2⟩ y
    obtain ⟨F3, d, s3, hd, r3⟩ := hY i F2 H2 x H3 hlt e2 E2.st.fh y
    have ed : ds.drop i = d :: ds.drop (i + 1) := by
      obtain ⟨h1, h2⟩ := List.getElem?_eq_some_iff.mp hd
      rw [List.drop_eq_getElem_cons h1, h2]
    rw [ed] at w2
    have w3 := WO.mono s3.ff w2
    unfold loopFor forB at w3
    cases q : tg d ρ2 with
    | none => rw [q] at w3; exact w3.elim
    | some ρ3 =>
      rw [q] at w3
      refine hg F0 H0 F3 H3 σ2 ρ2 x d _ ρ3 (E2.step s3) r3 q fun σ3 E3 _ => ?_
      refine hb F0 H0 F3 H3 σ3 ρ3 _ E3 ?_
      have w4 : WO K mg W L F0 H0 F3 D (match g ρ3 with
        | .nx ρ' => loopFor (forB tg g) (ds.drop (i + 1)) ρ'
        | .cont ρ' => loopFor (forB tg g) (ds.drop (i + 1)) ρ'
        | .brk ρ' => .nx ρ'
        | o => o) := w3
      cases qq : g ρ3 with
      | nx ρ4 => rw [qq] at w4; exact fun F4 H4 σ4 e4 E4 => ⟨F4, ρ4, e2.trans (s3.ff.trans e4), E4, WO.mono e4 w4⟩
      | cont ρ4 => rw [qq] at w4; exact fun F4 H4 σ4 e4 E4 => ⟨F4, ρ4, e2.trans (s3.ff.trans e4), E4, WO.mono e4 w4⟩
      | brk ρ4 => rw [qq] at w4; exact w4
      | ret d ρ => rw [qq] at w4; exact w4
      | retL ds ρ => rw [qq] at w4; exact w4
      | exc n ρ => rw [qq] at w4; exact w4
      | stuck => rw [qq] at w4; exact w4
  · rintro σ2 H2 ⟨F2, ρ2, e2, E2, w2⟩
    rw [List.drop_length] at w2
    exact w2 F2 H2 σ2 (Ex.refl _) E2
theorem ds_while (hc : DT K L mg W tt tf) (hb : DS K L mg W t g) : DS K L mg W (tWhile tt t) (sWhile tf g) := fun F0 H0 F H σ ρ D E w => by
  refine ⟨fun m σ H => ∃ F ρ, Env K L F0 H0 F H σ ρ ∧ WO K mg W L F0 H0 F D (loopWhile tf g m ρ), ⟨fuel, F, ρ, E, w⟩, ?_⟩
  rintro m σ2 H2 ⟨F2, ρ2, E2, w2⟩
  cases m with
  | zero => exact w2.elim
  | succ m =>
    have w3 : WO K mg W L F0 H0 F2 D (Out.of (tf ρ2) ρ2 fun b => if b = true then (match g ρ2 with
      | .nx ρ' => loopWhile tf g m ρ'
      | .cont ρ' => loopWhile tf g m ρ'
      | .brk ρ' => .nx ρ'
      | o => o) else .nx ρ2) := w2
    refine hc F0 H0 F2 H2 σ2 ρ2 _ E2 (post_mono (WO.of E2 w3) (fun b w4 F3 H3 s3 => ?_) fun _ z => z)
    cases b with
    | false => exact iteF ((WO.mono s3.ff w4) F3 H3 σ2 (Ex.refl _) (E2.step s3))
    | true =>
      refine iteT ⟨fun σ' H' => ∃ m', m' < m + 1 ∧ ∃ F ρ, Env K L F0 H0 F H' σ' ρ ∧ WO K mg W L F0 H0 F D (loopWhile tf g m' ρ), fun _ _ z => z, ?_⟩
      refine hb F0 H0 F3 H3 σ2 ρ2 _ (E2.step s3) ?_
      have w5 := WO.mono s3.ff w4
      rw [if_pos rfl] at w5
      cases qq : g ρ2 with
      | nx ρ4 => rw [qq] at w5; exact fun F4 H4 σ4 e4 E4 => ⟨m, Nat.lt_succ_self _, F4, ρ4, E4, WO.mono e4 w5⟩
      | cont ρ4 => rw [qq] at w5; exact fun F4 H4 σ4 e4 E4 => ⟨m, Nat.lt_succ_self _, F4, ρ4, E4, WO.mono e4 w5⟩
      | brk ρ4 => rw [qq] at w5; exact w5
      | ret d ρ => rw [qq] at w5; exact w5
      | retL ds ρ => rw [qq] at w5; exact w5
      | exc n ρ => rw [qq] at w5; exact w5
      | stuck => rw [qq] at w5; exact w5
theorem Env.setn (E : Env K L F0 H0 F H σ ρ) (i : Nat) : Env K L F0 H0 F H (σ.set i none) (ρ.set i .none) := E.setx (s := .none) rfl trivial i
theorem Env.wipe (E : Env K L F0 H0 F H σ ρ) : ∀ vs : List Nat, Env K L F0 H0 F H (L2.wipe σ vs) (wipeF ρ vs)
  | [] => E
  | v :: vs => (E.wipe vs).setn v
theorem post_noX {α : Type} {m : M α} {kx : α → Prop} {ke : Str → Prop} (h : ∃ z, noX m = .ok z ∧ kx z) : post m kx ke := by
  obtain ⟨z, q, k⟩ := h
  cases m with
  | ok a => cases q; exact k
  | exc n => cases q
  | stuck => cases q
/-- a step beside a new object that is not frozen -/
theorem Step.beside {p : Addr} {o : HO} (ho : NTup o) (hp : H p = none) (hF : F p = none) (s : Step F (upd H p o) F' H') : Step F H F' (del H' p) ∧ F' p = none ∧ H' p = some o := by
  have h1 : F' p = none := s.nw p o hF upd_same ho
  have h2 : H' p = some o := s.hh p o upd_same
  refine ⟨⟨s.ff, fun a u q => ?_, fun a u f h h3 => ?_, fun a u q => ?_⟩, h1, h2⟩
  · have ne : a ≠ p := ne_of_none q hp
    rw [del_ne ne]
    exact s.hh a u (by rw [upd_ne ne]; exact q)
  · have ne : a ≠ p := ne_of_none h hp
    exact s.nw a u f (by rw [upd_ne ne]; exact h) h3
  · have ne : a ≠ p := ne_of_none q h1
    rw [del_ne ne]
    exact s.fh a u q
theorem dl_lc {wi : TI} {f : ML} {vs : List Nat} (hi : DIB K L mg W wi f) (hg : DG K L gg tg is) (hv : ∀ i ∈ is, i ∈ vs) (ht : DT K L mg (fun _ _ _ _ => False) tt tf) (he : DF K L mg (fun _ _ _ _ => False) te e) :
    DL K L mg W (tLc wi gg tt te vs) (eLc f tg tf e vs) := fun F0 H0 F H σ ρ Q E p => by
  refine hi F0 H0 F H σ ρ _ E (post_mono (post_bind p) (fun ds k F1 H1 J s src => ?_) fun _ z => z)
  obtain ⟨G, Y, wk, hG, hY⟩ := src
  intro Z hZ
  have E1 := E.step s
  refine lc_it wk (fun i Hc => ∃ F2 H2 acc accd, Step F1 H1 F2 H2 ∧ F2 Z = none ∧ H2 Z = none ∧ Hc = upd H2 Z (.lst acc) ∧ RepL K F2 acc accd ∧ post (loopLc tg tf e vs ρ (ds.drop i) accd) (fun ds => WN K F H ds Q) (WE' mg W F H σ))
    ⟨F1, H1, [], [], Step.refl s.fh, s.fh.free hZ, hZ, rfl, .nil, by rw [List.drop_zero]; exact k⟩ ?_ ?_ ?_
  · rintro i Hc _ ⟨F2, H2, acc, accd, s2, f2, l2, rfl, r2, k2⟩
    exact hG F2 _ s2.ff (s2.hh.trans (Ex.new l2)) (s2.fh.trans (Ex.new l2))
  · rintro i x Hc Hy hlt ⟨F2, H2, acc, accd, s2, f2, l2, rfl, r2, k2⟩ y
    obtain ⟨F3, d, s3, hd, r3⟩ := hY i F2 _ x Hy hlt s2.ff (s2.hh.trans (Ex.new l2)) (s2.fh.trans (Ex.new l2)) y
    have ed : ds.drop i = d :: ds.drop (i + 1) := by
      obtain ⟨h1, h2⟩ := List.getElem?_eq_some_iff.mp hd
      rw [List.drop_eq_getElem_cons h1, h2]
    rw [ed] at k2
    unfold loopLc at k2
    cases q : tg d (wipeF ρ vs) with
    | none => rw [q] at k2; exact k2.elim
    | some ρ' =>
      rw [q] at k2
      have E2 : Env K L F0 H0 F2 (upd H2 Z (.lst acc)) σ ρ := (E1.step s2).step (Step.new0 s2.fh l2)
      have E3 := (E2.step s3).wipe vs
      refine hg F0 H0 F3 Hy _ _ x d _ ρ' E3 r3 q fun σ' E4 wz => ⟨(wz vs hv).trans wipe_wipe, ?_⟩
      refine ht F0 H0 F3 Hy σ' ρ' _ E4 (post_noX ?_)
      have k2 : post ((noX (tf ρ')).bind fun b => if b = true then (noX (e ρ')).bind fun y => if accd.length < sizeLine then loopLc tg tf e vs ρ (ds.drop (i + 1)) (accd ++ [y]) else .stuck else loopLc tg tf e vs ρ (ds.drop (i + 1)) accd) (fun ds => WN K F H ds Q) (WE' mg W F H σ) := k2
      cases qt : noX (tf ρ') with
      | exc n =>
        exfalso
        cases z : tf ρ' with
        | ok a => rw [z] at qt; cases qt
        | exc n => rw [z] at qt; cases qt
        | stuck => rw [z] at qt; cases qt
      | stuck => rw [qt] at k2; exact k2.elim
      | ok b =>
        rw [qt, M.bind_ok] at k2
        refine ⟨b, rfl, fun F4 H4 s4 => ?_⟩
        have s24 := s3.trans s4
        cases b with
        | false =>
          rw [if_neg Bool.false_ne_true] at k2
          refine iteF ?_
          obtain ⟨sb, fb, hb⟩ := Step.beside (o := .lst _) (fun _ z => nomatch z) l2 f2 s24
          exact ⟨F4, del H4 Z, acc, accd, s2.trans sb, fb, del_same, (del_upd hb).symm, r2.mono s24.ff, k2⟩
        | true =>
          rw [if_pos rfl] at k2
          refine iteT ?_
          refine he F0 H0 F4 H4 σ' ρ' _ (E4.step s4) (post_noX ?_)
          cases qe : noX (e ρ') with
          | exc n =>
            exfalso
            cases z : e ρ' with
            | ok a => rw [z] at qe; cases qe
            | exc n => rw [z] at qe; cases qe
            | stuck => rw [z] at qe; cases qe
          | stuck => rw [qe] at k2; exact k2.elim
          | ok yd =>
            rw [qe, M.bind_ok] at k2
            refine ⟨yd, rfl, fun F5 H5 v s5 r5 => ?_⟩
            have s25 := s24.trans s5
            obtain ⟨sb, fb, hb⟩ := Step.beside (o := .lst _) (fun _ z => nomatch z) l2 f2 s25
            have ra := r2.mono s25.ff
            split at k2
            · rename_i hz
              refine ⟨acc, hb, by rw [ra.length]; exact hz, ?_⟩
              refine ⟨F5, del H5 Z, acc ++ [v], accd ++ [yd], s2.trans sb, fb, del_same, ?_, ra.append (.cons r5 .nil), k2⟩
              funext b
              by_cases qb : b = Z
              · subst qb; rw [upd_same, upd_same]
              · rw [upd_ne qb, upd_ne qb, del_ne qb]
            · exact k2.elim
  · rintro Hc ⟨F2, H2, acc, accd, s2, f2, l2, rfl, r2, k2⟩
    rw [List.drop_length] at k2
    exact k2 F2 H2 Z acc (s.trans s2) l2 r2
theorem dt_yes : DT K L mg W tYes tYesF := fun F0 H0 F H σ ρ Q E p => p F H (Step.refl E.st.fh)
/-- a def that reckons f -/
def spD (K : PySem.W.Frag) (mg : Str → Option Value) (f : List Dn.D → M Dn.D) : Sp := fun vs H Q E => ∃ F ds, Ex F H ∧ RepL K F vs ds ∧
  post (f ds) (fun d => WF K F H d Q) (fun n => ∀ F' H', Step F H F' H' → ∀ C, mg n = some (.ref C) → E (.ref C) none H')
theorem df_call {f : List Dn.D → M Dn.D} {tas : TA} {as : ML} (ha : DAF K L mg W tas as) : DF K L mg W (tCallS (spD K mg f) (WE W) tas) (eCall f as) := fun F0 H0 F H σ ρ Q E p => by
  refine ha F0 H0 F H σ ρ _ E (post_mono (post_bind p) (fun ds k F1 H1 xs s1 r1 => ?_) fun _ z => z)
  refine ⟨F1, ds, s1.fh, r1, post_mono k (fun d k2 => WF.on s1 k2) fun n z F' H' s' C hC => z F' H' (s1.trans s') C hC⟩
mutual
def scalD : Dn.D → Bool
  | .none => true
  | .bool _ => true
  | .int _ => true
  | .str _ => true
  | .tuple ds => scalDs ds
  | .list _ => false
  | .dict _ => false
def scalDs : List Dn.D → Bool
  | [] => true
  | d :: ds => scalD d && scalDs ds
end
def eCallS (f : List Dn.D → M Dn.D) (as : ML) : ME := fun ρ => (as ρ).bind fun ds => (f ds).bind fun d => if scalD d = true then .ok d else .stuck
end
def eCallL (f : List Dn.D → M (List Dn.D)) (as : ML) : ML := fun ρ => (as ρ).bind f
theorem env_start {K : PySem.W.Frag} {L : Addr × Addr} {F H : Hp} {N : List Str} {vs : List V} {ds : List D} (ex : Ex F H) (r : RepL K F vs ds) : Env K L F H F H (L2.start N vs) (start' N.length ds) where
  st := Step.refl ex
  len := by unfold L2.start start'; simp [r.length]
  sl := fun i s h => by
    unfold start' at h
    unfold L2.start
    rw [List.getElem?_append] at h ⊢
    simp only [List.length_map] at h ⊢
    rw [r.length]
    split at h
    · rename_i hl
      rw [if_pos hl]
      rw [List.getElem?_map] at h ⊢
      cases q : ds[i]? with
      | none => rw [q] at h; cases h
      | some d =>
        rw [q] at h
        cases h
        obtain ⟨v, e, rv⟩ := r.get' q
        rw [e]
        exact ⟨v, rfl, rv⟩
    · rw [List.getElem?_replicate] at h
      split at h
      · cases h; trivial
      · cases h
  sep := fun i j l h1 => by
    exfalso
    unfold start' isOwn at h1
    rw [List.getElem?_append] at h1
    split at h1
    · rw [List.getElem?_map] at h1
      cases q : ds[i]? with
      | none => rw [q] at h1; cases h1
      | some d => rw [q] at h1; cases h1
    · rw [List.getElem?_replicate] at h1
      split at h1 <;> cases h1
theorem body_ok {K : PySem.W.Frag} {mg : Str → Option Value} {t : TS} {g : MS} {N : List Str} {np : Nat} {vs : List V} {H : Hp} {Q : VK} {E : XK} (h : ∀ L, DS K L mg (fun cls d _ H => E cls d H) t g) (hs : spD K mg (mFn np N.length g) vs H Q E) :
    t { nx := fun _ H' => Q .non H', rt := Q } (L2.start N vs) H := by
  obtain ⟨F, ds, ex, r, p⟩ := hs
  refine h (0, 0) F H F H _ _ _ (env_start (N := N) ex r) ?_
  unfold mFn at p
  split at p
  · cases q : g (start' N.length ds) with
    | nx ρ => rw [q] at p; exact fun F' H' σ' e E' => p F' H' .non E'.st .non
    | ret d ρ => rw [q] at p; exact fun F' H' σ' v e E' rv => p F' H' v E'.st rv
    | retL ds ρ => rw [q] at p; exact fun F' H1 σ' l vs e E' n rv => p _ _ _ (E'.st.trans (Step.new E'.st.fh n)) (.lst upd_same (rv.mono (Ex.new (E'.st.fh.free n))))
    | exc n ρ => rw [q] at p; exact fun F' H' σ' e E' C hC => p F' H' E'.st C hC
    | brk ρ => rw [q] at p; exact p.elim
    | cont ρ => rw [q] at p; exact p.elim
    | stuck => rw [q] at p; exact p.elim
  · exact p.elim
/-- .. that gives a new list -/
def Out.l : Out → M (List D)
  | .retL ds _ => .ok ds
  | .exc n _ => .exc n
  | _ => .stuck
end Dn
set_option Elab.async false
set_option linter.all false
set_option maxRecDepth 100000
set_option maxHeartbeats 4000000
namespace PySem
set_option maxHeartbeats 2000000 in
theorem dn_enum_new1 {v : Value} {o : Obj} {H : Heap → Prop} (B : Begins v o H) :
    Meets (Builtin.«enumerate.__new__» ⟨[.type "enumerate", v], []⟩) (fun _ R s => H s.heap ∧
      R (.ok (.ret (.ref (s.heap.push o).objs.size))) { s with heap := (s.heap.push o).push { cls := .type "enumerate", data := .fields #[.none, .bool false, .ref s.heap.objs.size, rawInt 0, .none, .none] } }) :=
  .of_wp fun prog w A R s h => by
    obtain ⟨hp, g, d, tk, os⟩ := s; obtain ⟨h1, h⟩ := h
    have hsub := sub_enumerate
    have q1 : ∀ {A' : Around} {E : Value → Shared → Prop} {Q : Value → Shared → Prop}, Q (.ref hp.objs.size) ⟨hp.push o, g, d, tk, os⟩ → wpAny (model prog w) A' (pyIter v) Q E ⟨hp, g, d, tk, os⟩ :=
      fun q => B.iter prog w _ _ ⟨hp, g, d, tk, os⟩ _ h1 q
    wp_walk using q1
    refine wpAny_stack_any fun st => wpAny_pure ?_
    split
    · rename_i c _ _ _ _ _
      cases (c == Value.type "enumerate")
      · wp_walk using q1
        exact ⟨_, rfl, h⟩
      · wp_walk using q1
        exact ⟨_, rfl, h⟩
    · wp_walk using q1
      exact ⟨_, rfl, h⟩
section
variable {prog : Program} {w : World} {A : Around} {E : Value → Shared → Prop} {s : Shared}
theorem dn_enum_begins {v : Value} {o : Obj} {H : Heap → Prop} {Q : Value → Shared → Prop} (B : Begins v o H) (h1 : H s.heap)
    (h : ∀ h', IsEnum h' (s.heap.objs.size + 1) s.heap.objs.size 0 .none → h'.get? s.heap.objs.size = some o → h'.objs.size = s.heap.objs.size + 2 →
      (∀ b o, s.heap.get? b = some o → h'.get? b = some o) → Q (.ref (s.heap.objs.size + 1)) { s with heap := h' }) :
    wpAny (model prog w) A (call (.type "enumerate") [v]) Q E s := by
  refine callType_new F.called_enumerate (by decide) (F.typeCall_enumerate_1 _) (F.newCall_enumerate_1 _) (fun obj => F.args_object_init_2 obj _) F.entry_enumerate_new
    (dn_enum_new1 B) ⟨h1, ?_⟩
  have hz : (s.heap.push o).objs.size = s.heap.objs.size + 1 := Heap.size_push ..
  show _ ∧ _
  rw [hz]
  have he : IsEnum ((s.heap.push o).push { cls := .type "enumerate", data := .fields #[.none, .bool false, .ref s.heap.objs.size, rawInt 0, .none, .none] }) (s.heap.objs.size + 1) s.heap.objs.size 0 .none := by
    have := Heap.get?_push_size (s.heap.push o) (o := { cls := .type "enumerate", data := .fields #[.none, .bool false, .ref s.heap.objs.size, rawInt 0, .none, .none] }) rfl
    rw [hz] at this; exact this
  refine ⟨⟨_, he, rfl⟩, h _ he (Heap.get?_push_of_some _ (Heap.get?_push_size _ B.free)) (by rw [Heap.size_push, hz]) fun b o x => Heap.get?_push_of_some _ (Heap.get?_push_of_some _ x)⟩
end
end PySem
namespace Dn
open PySem PySem.Spec PyProof.Rows L2
/-- the tuple at a as it stands at each turn, each item in a new pair -/
def IteT (K : PySem.W.Frag) (a : Addr) : It :=
  ⟨fun i H => ∃ (xs : List V) (x : V), SqT K H a xs ∧ xs[i]? = some x, fun i H v H' => ∃ T x, v = .ref T ∧ H T = none ∧ H' = upd H T (.tup [.int (i : Nat), x]) ∧ ∀ xs, SqT K H a xs → xs[i]? = some x, fun i H => ∃ xs : List V, SqT K H a xs ∧ xs.length = i⟩
theorem turn_enumT {P : Program} {w : World} {K : PySem.W.Frag} {elts : List Expr} {kk : Nat} {tpos : Pos} (a e it : Addr) :
    Turn P w K (.Tuple elts kk tpos) (IteT K a) [e, it] e (fun i h => (∃ old, IsEnum h e it ((i : Nat) : Int) old) ∧ h.IsTupleIter it a i ∧ e ≠ it) where
  mem := by simp
  obj := fun i h st b hb => by
    obtain ⟨⟨old, he⟩, ⟨o, ho, hc, hd⟩, _⟩ := st
    have e' : b = e ∨ b = it := by simpa using hb
    rcases e' with z | z
    · rw [z]; exact ⟨_, he, fun v q => nomatch q⟩
    · rw [z]; exact ⟨o, ho, fun v q => by rw [hd] at q; cases q⟩
  keep := fun i h h' st k => let ⟨⟨old, he⟩, hi, hne⟩ := st; ⟨⟨old, k e (by simp) _ he⟩, hi.at fun o q => k it (by simp) o q, hne⟩
  item := by
    intro X hP hw hK hc i pins s σ H E I hf st hg
    subst hP hw hK
    obtain ⟨⟨old, he⟩, hit, hne⟩ := st
    obtain ⟨xs, x, hq, hx⟩ := hg
    obtain ⟨its, rv, p, hz⟩ := I.tuple hq
    obtain ⟨u, hu, ru⟩ := rv.get hx
    have hel : e < s.heap.objs.size := Heap.lt_size he
    have hil : it < s.heap.objs.size := by obtain ⟨_, q, _⟩ := hit; exact Heap.lt_size q
    have hae : a ≠ e := fun z => by
      obtain ⟨o, ho, hc, _⟩ := p
      rw [z] at ho
      rw [show s.heap.get? e = some _ from he] at ho
      cases ho
      injection hc with z2
      exact absurd z2 (by decide)
    have hai : a ≠ it := fun z => by
      obtain ⟨o, ho, hc, _⟩ := p
      obtain ⟨o2, ho2, hc2, _⟩ := hit
      rw [z, ho2] at ho
      cases ho
      rw [hc2] at hc
      injection hc with z2
      exact absurd z2 (by decide)
    have Dr := Draws.tuple (prog := X.prog) (w := X.w) (A := X.A.in1) (I.ok.hd hc) it a hai its.toArray
    have hlt : i < its.toArray.size := by
      rw [List.size_toArray]
      exact (List.getElem?_eq_some_iff.mp hu).1
    refine wpAny_pyNext_enum_itemC (c := ((i : Nat) : Int)) (i := i) Dr he ⟨hit, p⟩ hlt hne (by simp; exact ⟨hne, fun z => hae z.symm⟩) fun y h' tk hy ho st' hT hsz hk => ?_
    have hyu : y = u := by
      have hu' : its.toArray[i]? = some u := by simpa using hu
      rw [hu'] at hy
      exact (Option.some.inj hy).symm
    subst hyu
    refine ⟨_, rfl, wpAny_letOwnedTupleGo_enum (s := { s with heap := h', toks := tk + 1 }) ho fun h'' he' sb => ?_⟩
    have hT2 : h''.get? s.heap.objs.size = some { cls := .type "tuple", data := .seq #[.int i tk, y] } := (sb.2 _ (Nat.ne_of_gt hel)).trans hT
    have new : ObjOk X.prog X.w (upd H s.heap.objs.size (.tup [.int (i : Nat), x])) h'' s.heap.objs.size (.tup [.int (i : Nat), x]) :=
      ⟨by show 2 ≤ sizeLine; decide, [.int i tk, y], .cons ⟨_, rfl⟩ (.cons ru .nil), ⟨_, hT2, rfl, _, rfl⟩⟩
    have I1 : Inv X pins σ (upd H s.heap.objs.size (.tup [.int (i : Nat), x])) { s with heap := h'', toks := tk + 1 } :=
      I.turnedNew (ch := [e, it]) (fun b ob hb q => (sb.2 b (fun z => hb (by simp [z]))).trans (hk b ob (fun z => hb (by simp [z])) (fun z => hb (by simp [z])) q)) hf (Nat.le_refl _) new
    refine ⟨.ref s.heap.objs.size, _, I1, rfl, ⟨_, x, rfl, I.hok.fresh (Nat.le_refl _), rfl, fun ys hy => by rw [I.tuple_inj hy hq]; exact hx⟩, ⟨⟨y, ?_⟩, st'.1.at fun o q => (sb.2 it (Ne.symm hne)).trans q, hne⟩, fun b hb => ?_⟩
    · have e1 : ((i + 1 : Nat) : Int) = (i : Int) + 1 := by omega
      rw [e1]; exact he'
    · have hb' : b < s.heap.objs.size := by
        have e' : b = e ∨ b = it := by simpa using hb
        rcases e' with z | z
        · rw [z]; exact hel
        · rw [z]; exact hil
      rw [upd_ne (Nat.ne_of_lt hb')]
      exact (hf b hb).1
  done := by
    intro X hP hw hK hc i pins s σ H E I hf st hg
    subst hP hw hK
    obtain ⟨⟨old, he⟩, hit, hne⟩ := st
    obtain ⟨xs, hq, hx⟩ := hg
    obtain ⟨its, rv, p, hz⟩ := I.tuple hq
    obtain ⟨f0, f1, f2, f3, f4, f5⟩ := hf it (by simp)
    have hl := rv.length
    have hae : a ≠ e := fun z => by
      obtain ⟨o, ho, hc, _⟩ := p
      rw [z] at ho
      rw [show s.heap.get? e = some _ from he] at ho
      cases ho
      injection hc with z2
      exact absurd z2 (by decide)
    have hai : a ≠ it := fun z => by
      obtain ⟨o, ho, hc, _⟩ := p
      obtain ⟨o2, ho2, hc2, _⟩ := hit
      rw [z, ho2] at ho
      cases ho
      rw [hc2] at hc
      injection hc with z2
      exact absurd z2 (by decide)
    have Dr := Draws.tuple (prog := X.prog) (w := X.w) (A := X.A.in1) (I.ok.hd hc) it a hai its.toArray
    have ei : i = its.toArray.size := by rw [List.size_toArray]; omega
    subst ei
    exact wpAny_pyNext_enum_endD Dr he ⟨hit, p⟩ fun h' eb => ⟨rfl, I.turned (t' := s.toks) (fun b o hb q => eb b o hb q) f0 f1 f3 f4 f5⟩
  self := fun A i s Q E st h => let ⟨⟨_, he⟩, _⟩ := st; wpAny_pyIter_enum he h
/-- enumerate(x), x a list or a tuple -/
def iEnumU (K : PySem.W.Frag) (ta : TA) : TI := fun σ H R => ta σ H fun vs H1 => ∃ a xs, vs = [.ref a] ∧ ((SqL K H1 a xs ∧ R (Ite K a) H1) ∨ (SqT K H1 a xs ∧ R (IteT K a) H1))
theorem pi_enumU {X : Cx} {e : Expr} {ta : TA} {p pos tpos : Pos} {elts : List Expr} {kk : Nat} (hg : Gl X "enumerate") (hm : X.mg "enumerate" = none) (ha : PA X [e] ta) (hs : starEach [e] X.env = [(false, eval e X.env)] := by rfl) :
    PI X (.Tuple elts kk tpos) (.Call (.Name "enumerate" p) [e] [] pos) (iEnumU X.K ta) := by
  refine ⟨fun pins s σ H R I h => ?_⟩
  refine Call_ (ld_blt I hg hm boot_enumerate (PyProof.Rows.callWith_type1 (thn (ha.run pos pins s σ H _ I h) fun us s1 ⟨vs, H1, I1, r1, q1⟩ => ?_) hs rfl))
  obtain ⟨a, xs, ex, q⟩ := q1
  subst ex
  cases r1 with
  | cons r rr =>
    cases rr
    cases r
    have fin : ∀ (b : Addr), (b = s1.heap.objs.size + 1 ∨ b = s1.heap.objs.size) → FpOk X pins H1 b := fun b e' => by
      have hle : s1.heap.objs.size ≤ b := by
        rcases e' with z | z
        · rw [z]; exact Nat.le_add_right _ _
        · rw [z]; exact Nat.le_refl _
      exact I1.fpOk hle (I1.hok.fresh hle)
    rcases q with ⟨hq, q⟩ | ⟨hq, q⟩
    · obtain ⟨its, rv, p', hz⟩ := I1.list hq
      refine call_enumerate_list p'.isList fun h' he hit hsz hk => wpAny_pyIter_enum he ?_
      have I2 : Inv X pins σ H1 { s1 with heap := h' } := I1.kept (t' := s1.toks) hk
      exact ⟨s1.heap.objs.size + 1, [s1.heap.objs.size + 1, s1.heap.objs.size], _, _, H1, rfl, I2, turn_enum a (s1.heap.objs.size + 1) s1.heap.objs.size, ⟨⟨.none, he⟩, hit, Nat.succ_ne_self _⟩, fun b hb => fin b (by simpa using hb), q⟩
    · obtain ⟨its, rv, p', hz⟩ := I1.tuple hq
      refine dn_enum_begins (begins_tuple a its.toArray) p' fun h' he hit hsz hk => wpAny_pyIter_enum he ?_
      have I2 : Inv X pins σ H1 { s1 with heap := h' } := I1.kept (t' := s1.toks) hk
      exact ⟨s1.heap.objs.size + 1, [s1.heap.objs.size + 1, s1.heap.objs.size], _, _, H1, rfl, I2, turn_enumT a (s1.heap.objs.size + 1) s1.heap.objs.size, ⟨⟨.none, he⟩, ⟨_, hit, rfl, rfl⟩, Nat.succ_ne_self _⟩, fun b hb => fin b (by simpa using hb), q⟩
/-- x a list or a tuple -/
def iSq (K : PySem.W.Frag) (tl : TE) : TI := fun σ H R => tl σ H fun x H1 => ∃ a xs, x = .ref a ∧ ((SqL K H1 a xs ∧ R (Itl K a) H1) ∨ (SqT K H1 a xs ∧ R (Itt K a) H1))
theorem pi_sq {X : Cx} {tg : Expr} {l : Expr} {tl : TE} (hl : PE X l tl) : PI X tg l (iSq X.K tl) := by
  refine ⟨fun pins s σ H R I h => ?_⟩
  refine thn (hl.run pins s σ H _ I h) fun v s1 ⟨x, H1, I1, r1, q1⟩ => ?_
  obtain ⟨a, xs, e, q⟩ := q1
  subst e
  cases r1
  rcases q with ⟨hq, q⟩ | ⟨hq, q⟩
  · obtain ⟨its, rv, p, hz⟩ := I1.list hq
    refine wpAny_pyIter_list p.isList ?_
    refine ⟨s1.heap.objs.size, [s1.heap.objs.size], _, _, H1, rfl, I1.kept (t' := s1.toks) fun b o e => Heap.get?_push_of_some _ e, turn_list a _, ⟨_, Heap.get?_push_size _ rfl, rfl, rfl⟩, fun b hb => ?_, q⟩
    have e : b = s1.heap.objs.size := by simpa using hb
    subst e
    exact I1.fpOk (Nat.le_refl _) (I1.hok.fresh (Nat.le_refl _))
  · obtain ⟨its, rv, p, hz⟩ := I1.tuple hq
    refine wpAny_pyIter_tuple (show s1.heap.IsTuple a its.toArray from p) ?_
    refine ⟨s1.heap.objs.size, [s1.heap.objs.size], _, _, H1, rfl, I1.kept (t' := s1.toks) fun b o e => Heap.get?_push_of_some _ e, turn_tuple a _, ⟨_, Heap.get?_push_size _ rfl, rfl, rfl⟩, fun b hb => ?_, q⟩
    have e : b = s1.heap.objs.size := by simpa using hb
    subst e
    exact I1.fpOk (Nat.le_refl _) (I1.hok.fresh (Nat.le_refl _))
theorem walk_enumT {K : PySem.W.Frag} {a : Addr} {xs : List V} : Walk (IteT K a) xs.length (fun H => SqT K H a xs) (YPair (fun i => some (.int (i : Nat))) (fun i => xs[i]?)) where
  goes := fun i H hi g => ⟨xs, xs[i], g, by simp [hi]⟩
  stops := fun H g => ⟨xs, g, rfl⟩
  yields := fun i H v H' hi g y => by
    obtain ⟨T, x, e, n, eh, q⟩ := y
    exact ⟨T, _, x, e, n, eh, rfl, q xs g⟩
def itemsD (d : D) : M (List D) := lift (seq? d)
def iE (e : ME) : ML := fun ρ => (e ρ).bind itemsD
def enumL (ds : List D) : List D := ds.mapIdx fun i d => .tuple [.int i, d]
def iEn (as : ML) : ML := fun ρ => (as ρ).bind fun xs => match xs with
  | [d] => (itemsD d).bind fun ds => .ok (enumL ds)
  | _ => .stuck
def rngL (lo hi : Int) : List D := (List.range (hi - lo).toNat).map fun i => .int (lo + (i : Nat))
open Classical in
noncomputable def iR1 (as : ML) : ML := fun ρ => (as ρ).bind fun xs => match xs with
  | [.int j] => if In62 j then .ok (rngL 0 j) else .stuck
  | _ => .stuck
open Classical in
noncomputable def iR2 (as : ML) : ML := fun ρ => (as ρ).bind fun xs => match xs with
  | [.int i, .int j] => if In62 i ∧ In62 j then .ok (rngL i j) else .stuck
  | _ => .stuck
def iRev' (e : ME) : ML := fun ρ => (e ρ).bind fun d => (itemsD d).bind fun ds => .ok ds.reverse
def iS (e : ME) : ML := fun ρ => (e ρ).bind fun d => match d with
  | .str z => .ok (z.cps.toList.map fun c => .str ⟨#[c]⟩)
  | _ => .stuck
section
variable {K : PySem.W.Frag} {L : Addr × Addr} {mg : Str → Option Value} {W : WX} {te : TE} {e : ME} {ta : TA} {as : ML} {F H F' H' : Hp} {J : It} {ds : List D} {a : Addr} {vs : List V}
theorem Src.b (h : Src K J F ds) : SrcB K J F H ds := by
  obtain ⟨G, Y, w, g, y⟩ := h
  exact ⟨G, Y, w, fun F1 H1 e1 _ e3 => g F1 H1 e1 e3, fun i F1 H1 x H2 hi e1 _ e3 => y i F1 H1 x H2 hi e1 e3⟩
theorem di_b {wi : TI} {f : ML} (h : DI K L mg W wi f) : DIB K L mg W wi f := fun F0 H0 F H σ ρ R E p =>
  h F0 H0 F H σ ρ R E (post_mono p (fun ds k F' H' J s q => k F' H' J s q.b) fun _ z => z)
theorem src_tup (h : SqT K F a vs) (r : RepL K F vs ds) : Src K (Itt K a) F ds :=
  ⟨_, _, r.length ▸ walk_tup (xs := vs), fun F1 H1 e1 e2 => ex_t (e1.trans e2) h, fun i F1 H1 x H2 hi e1 e2 y => by
    obtain ⟨rfl, q⟩ := y
    obtain ⟨d, hd, rd⟩ := r.get q
    exact ⟨F1, d, Step.refl e2, hd, rd.mono e1⟩⟩
theorem src_lst (h : SqL K F a vs) (r : RepL K F vs ds) : Src K (Itl K a) F ds :=
  ⟨_, _, r.length ▸ walk_list (xs := vs), fun F1 H1 e1 e2 => ex_l (e1.trans e2) h, fun i F1 H1 x H2 hi e1 e2 y => by
    obtain ⟨rfl, q⟩ := y
    obtain ⟨d, hd, rd⟩ := r.get q
    exact ⟨F1, d, Step.refl e2, hd, rd.mono e1⟩⟩
theorem srcB_lst (h : H a = some (.lst vs)) (r : RepL K F vs ds) : SrcB K (Itl K a) F H ds :=
  ⟨_, _, r.length ▸ walk_list (xs := vs), fun F1 H1 e1 e2 e3 => .of (e2 _ _ h), fun i F1 H1 x H2 hi e1 e2 e3 y => by
    obtain ⟨rfl, q⟩ := y
    obtain ⟨d, hd, rd⟩ := r.get q
    exact ⟨F1, d, Step.refl e3, hd, rd.mono e1⟩⟩
theorem enum_get {i : Nat} {d : D} (h : ds[i]? = some d) : (enumL ds)[i]? = some (.tuple [.int i, d]) := by
  unfold enumL
  rw [List.getElem?_mapIdx, h]
  rfl
theorem enum_y {F1 H1 H2 : Hp} {x : V} {i : Nat} (r : RepL K F vs ds) (e1 : Ex F F1) (e2 : Ex F1 H1) (y : YPair (fun i => some (.int (i : Nat))) (fun i => vs[i]?) i H1 x H2) : ∃ F' d, Step F1 H1 F' H2 ∧ (enumL ds)[i]? = some d ∧ Rep K F' x d := by
  obtain ⟨T, x1, y1, rfl, hn, rfl, h1, h2⟩ := y
  cases h1
  obtain ⟨d, hd, rd⟩ := r.get h2
  refine ⟨_, _, Step.new e2 hn, enum_get hd, .tup upd_same ?_⟩
  exact .cons (.int _) (.cons ((rd.mono e1).mono (Ex.new (e2.free hn))) .nil)
theorem enum_len : (enumL ds).length = ds.length := by unfold enumL; simp
theorem src_enumT (h : SqT K F a vs) (r : RepL K F vs ds) : Src K (IteT K a) F (enumL ds) :=
  ⟨_, _, (enum_len.trans r.length.symm) ▸ walk_enumT (xs := vs), fun F1 H1 e1 e2 => ex_t (e1.trans e2) h, fun i F1 H1 x H2 hi e1 e2 y => enum_y r e1 e2 y⟩
theorem src_enumL (h : SqL K F a vs) (r : RepL K F vs ds) : Src K (Ite K a) F (enumL ds) :=
  ⟨_, _, (enum_len.trans r.length.symm) ▸ walk_enum (xs := vs), fun F1 H1 e1 e2 => ex_l (e1.trans e2) h, fun i F1 H1 x H2 hi e1 e2 y => enum_y r e1 e2 y⟩
theorem di_sq (he : DF K L mg W te e) : DI K L mg W (iSq K te) (iE e) := fun F0 H0 F H σ ρ R E p => by
  refine he F0 H0 F H σ ρ _ E (post_mono (post_bind p) (fun d k F1 H1 x s1 r1 => ?_) fun _ z => z)
  obtain ⟨ds, q, k⟩ := post_lift k
  unfold seq? at q
  split at q
  · cases q
    cases r1 with
    | lst h r => exact ⟨_, _, rfl, .inl ⟨.of (s1.fh _ _ h), k F1 H1 _ s1 (src_lst (.of h) r)⟩⟩
  · cases q
    cases r1 with
    | tup h r => exact ⟨_, _, rfl, .inr ⟨ex_t s1.fh (.inl (.inl h)), k F1 H1 _ s1 (src_tup (.inl (.inl h)) r)⟩⟩
  · cases q
    obtain ⟨l, vs, rfl, h, r⟩ := r1.iscr
    exact ⟨_, _, rfl, .inl ⟨ex_l s1.fh h, k F1 H1 _ s1 (src_lst h r)⟩⟩
  · cases q
    obtain ⟨l, vs, o, rfl, h, _, _, r⟩ := r1.iktp
    have h : SqT K F1 l vs := .inl (.inr ⟨o, h⟩)
    exact ⟨_, _, rfl, .inr ⟨ex_t s1.fh h, k F1 H1 _ s1 (src_tup h r)⟩⟩
  · cases q
theorem dib_sq (he : DE K L mg W te e) : DIB K L mg W (iSq K te) (iE e) := fun F0 H0 F H σ ρ R E p => by
  refine he F0 H0 F H σ ρ _ E (post_mono (post_bind p) (fun d k F1 H1 x s1 r1 => ?_) fun _ z => z)
  obtain ⟨ds, q, k⟩ := post_lift k
  unfold seq? at q
  split at q
  · cases q
    obtain ⟨l, vs, rfl, h, r⟩ := r1.isl s1.fh
    exact ⟨_, _, rfl, .inl ⟨.of h, k F1 H1 _ s1 (srcB_lst h r)⟩⟩
  · cases q
    obtain ⟨_, _, _, _, _, r1⟩ := r1.ist s1.fh
    cases r1 with
    | tup h r => exact ⟨_, _, rfl, .inr ⟨ex_t s1.fh (.inl (.inl h)), k F1 H1 _ s1 (src_tup (.inl (.inl h)) r).b⟩⟩
  · cases q
    obtain ⟨l, vs, rfl, h, r⟩ := r1.iscrF.iscr
    exact ⟨_, _, rfl, .inl ⟨ex_l s1.fh h, k F1 H1 _ s1 (src_lst h r).b⟩⟩
  · cases q
    obtain ⟨l, vs, o, rfl, h, _, _, r, _⟩ := r1.iktp
    have h : SqT K F1 l vs := .inl (.inr ⟨o, h⟩)
    exact ⟨_, _, rfl, .inr ⟨ex_t s1.fh h, k F1 H1 _ s1 (src_tup h r).b⟩⟩
  · cases q
theorem RepL.one' {d : D} (r : RepL K F vs [d]) : ∃ x, vs = [x] ∧ Rep K F x d := by
  cases r with
  | cons a b => cases b; exact ⟨_, rfl, a⟩
theorem di_enum (ha : DAF K L mg W ta as) : DI K L mg W (iEnumU K ta) (iEn as) := fun F0 H0 F H σ ρ R E p => by
  refine ha F0 H0 F H σ ρ _ E (post_mono (post_bind p) (fun xs k F1 H1 ys s1 r1 => ?_) fun _ z => z)
  split at k
  · obtain ⟨x, rfl, r2⟩ := r1.one'
    obtain ⟨ds, q, k⟩ := post_lift (post_bind k)
    unfold seq? at q
    split at q
    · cases q
      cases r2 with
      | lst h r => exact ⟨_, _, rfl, .inl ⟨.of (s1.fh _ _ h), k F1 H1 _ s1 (src_enumL (.of h) r)⟩⟩
    · cases q
      cases r2 with
      | tup h r => exact ⟨_, _, rfl, .inr ⟨ex_t s1.fh (.inl (.inl h)), k F1 H1 _ s1 (src_enumT (.inl (.inl h)) r)⟩⟩
    · cases q
      obtain ⟨l, vs, rfl, h, r⟩ := r2.iscr
      exact ⟨_, _, rfl, .inl ⟨ex_l s1.fh h, k F1 H1 _ s1 (src_enumL h r)⟩⟩
    · cases q
      obtain ⟨l, vs, o, rfl, h, _, _, r⟩ := r2.iktp
      have h : SqT K F1 l vs := .inl (.inr ⟨o, h⟩)
      exact ⟨_, _, rfl, .inr ⟨ex_t s1.fh h, k F1 H1 _ s1 (src_enumT h r)⟩⟩
    · cases q
  · exact k.elim
theorem rng_len {lo hi : Int} : (rngL lo hi).length = (hi - lo).toNat := by unfold rngL; simp
theorem src_rng {lo hi : Int} : Src K (Itr lo (hi - lo).toNat) F (rngL lo hi) := by
  have wk : Walk (Itr lo (hi - lo).toNat) (rngL lo hi).length (fun _ => True) (YFn fun i => .int (lo + i)) := by rw [rng_len]; exact walk_range
  refine ⟨_, _, wk, fun _ _ _ _ => trivial, fun i F1 H1 x H2 hi e1 e2 y => ?_⟩
  obtain ⟨rfl, rfl⟩ := y
  refine ⟨F1, .int (lo + i), Step.refl e2, ?_, .int _⟩
  rw [rng_len] at hi
  unfold rngL
  rw [List.getElem?_map, List.getElem?_range hi]
  rfl
theorem di_rng1 (ha : DA K L mg W ta as) : DI K L mg W (iRng1 ta) (iR1 as) := fun F0 H0 F H σ ρ R E p => by
  refine ha F0 H0 F H σ ρ _ E (post_mono (post_bind p) (fun xs k F1 H1 ys s1 rr => ?_) fun _ z => z)
  split at k
  · split at k
    · rename_i j c
      obtain ⟨x, rfl, r1⟩ := rr.one
      obtain rfl := r1.isi
      have q := src_rng (K := K) (F := F1) (lo := 0) (hi := j)
      rw [Int.sub_zero] at q
      exact ⟨_, rfl, c.1, c.2, k F1 H1 _ s1 q⟩
    · exact k.elim
  · exact k.elim
theorem di_rng2 (ha : DA K L mg W ta as) : DI K L mg W (iRng2 ta) (iR2 as) := fun F0 H0 F H σ ρ R E p => by
  refine ha F0 H0 F H σ ρ _ E (post_mono (post_bind p) (fun xs k F1 H1 ys s1 rr => ?_) fun _ z => z)
  split at k
  · split at k
    · rename_i i j c
      obtain ⟨x, y, rfl, r1, r2⟩ := rr.two
      obtain rfl := r1.isi
      obtain rfl := r2.isi
      exact ⟨_, _, rfl, ⟨c.1.1, c.1.2, c.2.1, c.2.2⟩, k F1 H1 _ s1 src_rng⟩
    · exact k.elim
  · exact k.elim
/-- reversed(x) -/
theorem src_rev (h : SqL K F a vs) (r : RepL K F vs ds) : Src K (Itv K a vs.length) F ds.reverse := by
  have wk : Walk (Itv K a vs.length) ds.reverse.length (fun H => SqL K H a vs) (fun i H x H' => H' = H ∧ vs[vs.length - 1 - i]? = some x) := by rw [List.length_reverse, ← r.length]; exact walk_rev
  refine ⟨_, _, wk, fun F1 H1 e1 e2 => ex_l (e1.trans e2) h, fun i F1 H1 x H2 hi e1 e2 y => ?_⟩
  obtain ⟨rfl, q⟩ := y
  obtain ⟨d, hd, rd⟩ := r.get q
  rw [List.length_reverse] at hi
  refine ⟨F1, d, Step.refl e2, ?_, rd.mono e1⟩
  rw [List.getElem?_reverse hi, ← r.length]
  exact hd
theorem walk_revT {xs : List V} : Walk (RT.ItvT K a xs.length) xs.length (fun H => SqT K H a xs) (fun i H x H' => H' = H ∧ xs[xs.length - 1 - i]? = some x) where
  goes := fun i H hi g => ⟨hi, xs, xs[xs.length - 1 - i]'(by omega), g, by simp [show xs.length - 1 - i < xs.length by omega]⟩
  stops := fun H g => Nat.le_refl _
  yields := fun i H v H' hi g y => by
    obtain ⟨e, q⟩ := y
    exact ⟨e, q xs g⟩
theorem src_revT (h : SqT K F a vs) (r : RepL K F vs ds) : Src K (RT.ItvT K a vs.length) F ds.reverse := by
  have wk : Walk (RT.ItvT K a vs.length) ds.reverse.length (fun H => SqT K H a vs) (fun i H x H' => H' = H ∧ vs[vs.length - 1 - i]? = some x) := by rw [List.length_reverse, ← r.length]; exact walk_revT
  refine ⟨_, _, wk, fun F1 H1 e1 e2 => ex_t (e1.trans e2) h, fun i F1 H1 x H2 hi e1 e2 y => ?_⟩
  obtain ⟨rfl, q⟩ := y
  obtain ⟨d, hd, rd⟩ := r.get q
  rw [List.length_reverse] at hi
  refine ⟨F1, d, Step.refl e2, ?_, rd.mono e1⟩
  rw [List.getElem?_reverse hi, ← r.length]
  exact hd
theorem di_rev (he : DF K L mg W te e) : DI K L mg W (RT.iRevA K te) (iRev' e) := fun F0 H0 F H σ ρ R E p => by
  refine he F0 H0 F H σ ρ _ E (post_mono (post_bind p) (fun d k F1 H1 x s1 r1 => ?_) fun _ z => z)
  obtain ⟨ds, q, k⟩ := post_lift (post_bind k)
  unfold seq? at q
  split at q
  · cases q
    cases r1 with
    | lst h r => exact ⟨_, _, rfl, .inl ⟨.of (s1.fh _ _ h), k F1 H1 _ s1 (src_rev (.of h) r)⟩⟩
  · cases q
    cases r1 with
    | tup h r => exact ⟨_, _, rfl, .inr ⟨ex_t s1.fh (.inl (.inl h)), k F1 H1 _ s1 (src_revT (.inl (.inl h)) r)⟩⟩
  · cases q
    obtain ⟨l, vs, rfl, h, r⟩ := r1.iscr
    exact ⟨_, _, rfl, .inl ⟨ex_l s1.fh h, k F1 H1 _ s1 (src_rev h r)⟩⟩
  · cases q
    obtain ⟨l, vs, o, rfl, h, _, _, r⟩ := r1.iktp
    have h : SqT K F1 l vs := .inl (.inr ⟨o, h⟩)
    exact ⟨_, _, rfl, .inr ⟨ex_t s1.fh h, k F1 H1 _ s1 (src_revT h r)⟩⟩
  · cases q
/-- a text, sign by sign -/
theorem src_str {z : Str} : Src K (Its z) F (z.cps.toList.map fun c => .str ⟨#[c]⟩) := by
  have wk : Walk (Its z) (z.cps.toList.map fun c => (.str ⟨#[c]⟩ : D)).length (fun _ => True) (fun i H v H' => H' = H ∧ ∃ c, z.cps[i]? = some c ∧ v = .str ⟨#[c]⟩) := by rw [List.length_map, Array.length_toList]; exact walk_str
  refine ⟨_, _, wk, fun _ _ _ _ => trivial, fun i F1 H1 x H2 hi e1 e2 y => ?_⟩
  obtain ⟨rfl, c, q, rfl⟩ := y
  refine ⟨F1, .str ⟨#[c]⟩, Step.refl e2, ?_, .str _⟩
  rw [List.getElem?_map, Array.getElem?_toList, q]
  rfl
theorem di_str (he : DE K L mg W te e) : DI K L mg W (iStr te) (iS e) := fun F0 H0 F H σ ρ R E p => by
  refine he F0 H0 F H σ ρ _ E (post_mono (post_bind p) (fun d k F1 H1 x s1 r1 => ?_) fun _ z => z)
  split at k
  · obtain rfl := r1.iss
    exact ⟨_, rfl, k F1 H1 _ s1 src_str⟩
  · exact k.elim
open Classical in
noncomputable def rgLD (i j : Int) : M (List D) := if RgOk i j then .ok (rngL i j) else .stuck
theorem rgV_eq {i j : Int} : RepL K F (rgV i j) (rngL i j) := by
  have e : rngL i j = ((List.range (j - i).toNat).map fun k => i + (k : Nat)).map PyData.int := by unfold rngL; rw [List.map_map]; rfl
  have e2 : rgV i j = ((List.range (j - i).toNat).map fun k => i + (k : Nat)).map V.int := by unfold rgV; rw [List.map_map]; rfl
  rw [e, e2]
  exact repL_ints _
noncomputable def eRg1 (a : ME) : ML := fun ρ => (a ρ).bind fun x => (toI x).bind fun j => rgLD 0 j
noncomputable def eRg2 (a b : ME) : ML := fun ρ => (a ρ).bind fun x => (b ρ).bind fun y => (toI x).bind fun i => (toI y).bind fun j => rgLD i j
theorem rgLD_post {i j : Int} {kx : List D → Prop} {ke : Str → Prop} (h : post (rgLD i j) kx ke) : RgOk i j ∧ kx (rngL i j) := by
  unfold rgLD at h
  split at h
  · exact ⟨by assumption, h⟩
  · exact h.elim
variable {tb : TE} {b : ME}
theorem dl_rg1 (ha : DE K L mg W te e) : DL K L mg W (tLstRg (tRg1 te)) (eRg1 e) := fun F0 H0 F H σ ρ Q E p => by
  refine ha F0 H0 F H σ ρ _ E (post_mono (post_bind p) (fun d k F1 H1 x s1 r1 => ?_) fun _ z => z)
  obtain ⟨j, rfl, k⟩ := toI_post (post_bind k)
  obtain ⟨h1, k⟩ := rgLD_post k
  exact ⟨j, r1.isi, h1, fun q hq => k F1 H1 q _ s1 hq rgV_eq⟩
def eTL (f : ML) : ME := fun ρ => (f ρ).bind fun ds => .ok (.tuple ds)
def appM (ds es : List D) : Option (List D × D) := match es with
  | [e] => if ds.length < sizeLine then some (ds ++ [e], .none) else none
  | _ => none
theorem rm_append : RMD K rAppend appM := by
  intro F H l vs ds xs es ds' z Q ex hl r ra h k
  unfold appM at h
  split at h
  · split at h
    · rename_i hz
      cases h
      obtain ⟨x, rfl, rx⟩ := ra.one'
      exact ⟨l, vs, x, rfl, rfl, hl, by rw [r.length]; exact hz, k _ _ (r.append (.cons rx .nil)) .non⟩
    · cases h
  · cases h
def extM (ds es : List D) : Option (List D × D) := match es with
  | [.list zs] => if ds.length + zs.length ≤ sizeLine then some (ds ++ zs, .none) else none
  | _ => none
theorem rm_extend : RMD K rExtend extM := by
  intro F H l vs ds xs es ds' z Q ex hl r ra h k
  unfold extM at h
  split at h
  · split at h
    · rename_i hz
      cases h
      obtain ⟨x, rfl, rx⟩ := ra.one'
      cases rx with
      | lst hb rb => exact ⟨l, _, vs, _, rfl, rfl, hl, ex _ _ hb, by rw [r.length, rb.length]; exact hz, k _ _ (r.append rb) .non⟩
    · cases h
  · cases h
theorem RepL.dropLast (r : RepL K F vs ds) : RepL K F vs.dropLast ds.dropLast := by
  rw [List.dropLast_eq_take, List.dropLast_eq_take, r.length]
  exact r.take _
open Classical in
noncomputable def popAtM (ds es : List D) : Option (List D × D) := match es with
  | [.int i] => if In63 i then (seqIndex? i ds.length).bind fun k => (ds[k]?).map fun y => (ds.eraseIdx k, y) else none
  | _ => none
theorem RepL.erase (h : RepL K F vs ds) (i : Nat) : RepL K F (vs.eraseIdx i) (ds.eraseIdx i) := by
  induction ds generalizing vs i with
  | nil => cases h; exact .nil
  | cons e ds ih =>
    cases h with
    | cons a q =>
      cases i with
      | zero => exact q
      | succ i => exact .cons a (ih q i)
theorem rm_popAt : RMD K rPopAt popAtM := by
  intro F H l vs ds xs es ds' z Q ex hl r ra h k
  unfold popAtM at h
  split at h
  · split at h
    · rename_i hz
      obtain ⟨x, rfl, rx⟩ := ra.one'
      cases rx
      cases q : seqIndex? _ ds.length with
      | none => rw [q] at h; cases h
      | some j =>
        rw [q] at h
        cases q2 : ds[j]? with
        | none => rw [Option.bind_some, q2] at h; cases h
        | some y =>
          rw [Option.bind_some, q2] at h
          cases h
          obtain ⟨v, hv, rv⟩ := r.get' q2
          exact ⟨l, vs, _, j, v, rfl, rfl, hl, hz.1, hz.2, by rw [r.length]; exact q, hv, k _ _ (r.erase j) rv⟩
    · cases h
  · cases h
open Classical in
noncomputable def insM (ds es : List D) : Option (List D × D) := match es with
  | [.int i, y] => if ds.length < sizeLine ∧ 0 ≤ i ∧ In63 i then some (ds.take i.toNat ++ [y] ++ ds.drop i.toNat, .none) else none
  | _ => none
def rInsert : V → List V → Hp → VK → Prop := fun x vs H Q => ∃ (l : Addr) (xs : List V) (i : Int) (y : V), x = .ref l ∧ vs = [.int i, y] ∧ H l = some (.lst xs) ∧ xs.length < sizeLine ∧ 0 ≤ i ∧ i < 2 ^ 63 ∧
    Q .non (upd H l (.lst (xs.take i.toNat ++ [y] ++ xs.drop i.toNat)))
theorem rm_insert : RMD K rInsert insM := by
  intro F H l vs ds xs es ds' z Q ex hl r ra h k
  unfold insM at h
  split at h
  · split at h
    · rename_i hz
      cases h
      cases ra with
      | cons r1 ra =>
        obtain ⟨x, rfl, rx⟩ := ra.one'
        cases r1
        exact ⟨l, vs, _, x, rfl, rfl, hl, by rw [r.length]; exact hz.1, hz.2.1, hz.2.2.2, k _ _ (((r.take _).append (.cons rx .nil)).append (r.drop _)) .non⟩
    · cases h
  · cases h
def revM (ds es : List D) : Option (List D × D) := match es with
  | [] => some (ds.reverse, .none)
  | _ => none
def clrM (ds es : List D) : Option (List D × D) := match es with
  | [] => some ([], .none)
  | _ => none
end
end Dn
set_option Elab.async false
set_option linter.all false
set_option maxRecDepth 100000
set_option maxHeartbeats 4000000
namespace Dn
open PySem PySem.Spec PyProof.Rows L2
theorem hu65 {A : Around} {k : Nat} (h : Room k A) : A.units + 65 < cLine := by have := h.un; omega
theorem hu64 {A : Around} {k : Nat} (h : Room k A) : A.units + 64 < cLine := by have := h.un; omega
/-- a def of the top -/
def DefAt (K : PySem.W.Frag) (mg : Str → Option Value) (x : Str) (st : Stmt) : Prop := ∃ f fd, mg x = some (.ref f) ∧ Fun K x x st f fd
def FnAt (P : Program) (w : World) (K : PySem.W.Frag) (mg : Str → Option Value) (base : Heap) (x : Str) (ps : List Str) (k : Nat) (f : List D → M D) : Prop :=
  ∃ a fd, mg x = some (.ref a) ∧ PySem.W.keepIn K (.ref a) = true ∧ Binds K fd ps [] ∧ FnOk P w K mg base (L2.CX P w) k a fd ps (spD K mg f)
/-- a class of errors of the top, over ValueError; bs the names above it, from the nearest on -/
structure ExcAt (K : PySem.W.Frag) (mg : Str → Option Value) (x : Str) (C : Addr) (bm : List Value) : Prop where
  g : mg x = some (.ref C)
  e : PySem.W.excIn K C bm "ValueError.__new__" = true
  k : PySem.W.keepIn K (.ref C) = true
  b : PySem.W.subIn K (.ref C) (.type "BaseException") = some true
  t : PySem.W.typeIn K (.ref C) = some (.type "type")
section
variable {P : Program} {w : World} {K : PySem.W.Frag} {mg : Str → Option Value} {base : Heap}
theorem spD_len {np N : Nat} {g : MS} {vs : List V} {H : Hp} {Q : VK} {E : XK} (h : spD K mg (mFn np N g) vs H Q E) : vs.length = np := by
  obtain ⟨F, ds, ex, r, p⟩ := h
  unfold mFn at p
  split at p
  · rw [r.length]; assumption
  · exact p.elim
theorem fn_at {x : Str} {st : Stmt} {N ps : List Str} {k : Nat} {g : MS} (Df : DefAt K mg x st) (S : FnScope N ps (defScope st))
    (hb : ∀ (kV doc pm : Value) (an : Option Addr) (cdv ct : Value) (us : List Value), us.length = ps.length → bindArgs (PySem.W.fnOf x x (defArgs st) (defBody st) (defScope st) .none kV doc pm an cdv ct) ⟨us, []⟩ = pure (ps.zip us))
    (h : ∀ (f : Addr) (cdv : Value) (A : Around) (outer : List PySem.Env) (s : Shared) (H : Hp) (E : XK), Room k (A.deeper (envOfC x (defScope st) s.heap.objs.size f cdv)) →
      ∃ t, PSs (cxOf (L2.CX P w) P w K mg base N x (defScope st) f cdv A outer s H E) (defBody st) t ∧ ∀ L, DS K L mg (fun cls d _ H => E cls d H) t g) :
    FnAt P w K mg base x ps (k + 1) (mFn ps.length N.length g) := by
  obtain ⟨f, fd, hm, F⟩ := Df
  refine ⟨f, fd, hm, F.kp, F.binds hb, ?_⟩
  refine F.okX S (fun vs H Q E h => spD_len h) fun cdv A outer s H vs Q E hr hs => ?_
  obtain ⟨t, h1, h2⟩ := h f cdv A outer s H E hr
  exact ⟨t, h1, body_ok h2 hs⟩
/-- the law's promise -/
def scrD (ns : List Int) : D := .dict [(.none, .list (ns.map .int))]
def Scr (ns : List Int) : Prop := ns.length ≤ 63 ∧ ∀ z ∈ ns, Builtin.Int.intBits z ≤ 1048576
def spLaw (K : PySem.W.Frag) : Sp := fun vs H Q _ => ∃ (a : Addr) (ns : List Int), vs = [.ref a] ∧ SqL K H a (ns.map V.int) ∧ Scr ns ∧ ∀ H', Q (.bl true) H'
theorem law_at {st : Stmt} {N : List Str} {k : Nat} {g : MS} (S : FnScope N ["script"] (defScope st)) {f : Addr} {fd : FuncData} (F : Fun K "law" "law" st f fd)
    (h : ∀ (f : Addr) (cdv : Value) (A : Around) (outer : List PySem.Env) (s : Shared) (H : Hp) (E : XK), Room k (A.deeper (envOfC "law" (defScope st) s.heap.objs.size f cdv)) →
      ∃ t, PSs (cxOf CX0 P w K mg base N "law" (defScope st) f cdv A outer s H E).nox (defBody st) t ∧ ∀ L, DS K L mg (fun _ _ _ _ => False) t g)
    (law : ∀ ns, Scr ns → mFn 1 N.length g [scrD ns] = .ok (.bool true)) : FnOk P w K mg base CX0 (k + 1) f fd ["script"] (spLaw K) := by
  refine F.ok S (fun vs H Q E h => ?_) fun cdv A outer s H vs Q E hr hs => ?_
  · obtain ⟨a, ns, rfl, _⟩ := h; rfl
  · obtain ⟨t, h1, h2⟩ := h f cdv A outer s H E hr
    refine ⟨t, h1, ?_⟩
    obtain ⟨a, ns, rfl, hS, hn, kq⟩ := hs
    have e := law ns hn
    refine body_ok (K := K) (mg := mg) (np := 1) (E := fun _ _ _ => False) h2 ⟨H, [scrD ns], Ex.refl _, .cons (.scr hS (repL_ints ns) rfl) .nil, ?_⟩
    rw [e]
    intro F' H' v s r
    cases r
    exact kq H'
end
end Dn
set_option Elab.async false
set_option linter.all false
set_option maxRecDepth 100000
set_option maxHeartbeats 4000000
namespace Dn
open PySem PySem.Spec PyProof.Rows L2
inductive RepJ (K : PySem.W.Frag) (F : Hp) (l : Addr) (ws : List V) : Nat → List V → List D → Prop
  | here {es : List D} {vs : List V} {ds : List D} : RepL K F ws es → RepL K F vs ds → RepJ K F l ws 0 (.ref l :: vs) (.list es :: ds)
  | next {j : Nat} {v : V} {d : D} {vs : List V} {ds : List D} : Rep K F v d → RepJ K F l ws j vs ds → RepJ K F l ws (j + 1) (v :: vs) (d :: ds)
section
variable {K : PySem.W.Frag} {mg : Str → Option Value} {W : WX} {L : Addr × Addr} {F0 H0 F H F' H' : Hp} {σ : L2.St} {ρ : Fr} {l : Addr} {ws : List V} {j : Nat} {vs : List V} {ds : List D}
theorem RepJ.mono (e : Ex F F') (h : RepJ K F l ws j vs ds) : RepJ K F' l ws j vs ds := by
  induction h with
  | here r q => exact .here (r.mono e) (q.mono e)
  | next r _ ih => exact .next (r.mono e) ih
theorem RepJ.len (h : RepJ K F l ws j vs ds) : vs.length = ds.length := by
  induction h with
  | here r q => simp [q.length]
  | next r _ ih => simp [ih]
def sCallM (i : Nat) (f : List D → M (List D × D)) (as : ML) (k : D → Fr → Out) : MS := fun ρ => Out.ofO (ownAt i ρ) fun _ => Out.of (as ρ) ρ fun ds => match f ds with
  | .ok r => k r.2 (putL i r.1 ρ)
  | _ => .stuck
def eCallT (f : List D → M (List D × D)) (as : ML) : ME := fun ρ => (as ρ).bind fun ds => (noX (f ds)).bind fun r => .ok r.2
end
end Dn
set_option Elab.async false
set_option linter.all false
set_option maxRecDepth 100000
set_option maxHeartbeats 4000000
namespace Dn
open PySem PySem.Spec PyProof.Rows L2
def eBool (a : ME) : ME := fun ρ => (a ρ).bind fun d => (toB d).bind fun b => .ok (.bool b)
section
variable {K : PySem.W.Frag} {L : Addr × Addr} {mg : Str → Option Value} {W : WX} {ta : TE} {a : ME} {tas : TA} {as : ML}
theorem df_ofE_bool (ha : DE K L mg W ta a) : DF K L mg W ta (eBool a) := fun F0 H0 F H σ ρ Q E p => by
  refine ha F0 H0 F H σ ρ _ E (post_mono (post_bind p) (fun d k F1 H1 x s1 r1 => ?_) fun _ z => z)
  obtain ⟨b, rfl, k⟩ := toB_post (post_bind k)
  obtain rfl := r1.isb
  exact k F1 H1 _ s1 (.bl b)
end
section
variable {X : Cx} {K : PySem.W.Frag}
theorem kAdd (h : X.K = K := by rfl) : OpR X (binaryOp .Add) (oAdd K) := h ▸ op_addU
theorem kEq (hu : X.A.units + 64 < cLine) (h : X.K = K := by rfl) : OpR X (compareOp .Eq) (oEq K) := h ▸ op_eqU hu
theorem kNe (hu : X.A.units + 64 < cLine) (h : X.K = K := by rfl) : OpR X (compareOp .NotEq) (oNe K) := h ▸ op_neU hu
theorem kNin (hu : X.A.units + 65 < cLine) (h : X.K = K := by rfl) : OpR X (compareOp .NotIn) (oNin K) := h ▸ op_ninU hu
theorem kIx (h : X.K = K := by rfl) : IxR X (rIx K) := h ▸ ix_seq
theorem kSl (h : X.K = K := by rfl) : SlR X (oSl K) := h ▸ sl_any
theorem kLen (h : X.K = K := by rfl) : CallR X (.builtin "len") (oLen K) := h ▸ call_lenU
theorem kList (h : X.K = K := by rfl) : CallR X (.type "list") (oList K) := h ▸ call_listU
theorem kTuple (h : X.K = K := by rfl) : CallR X (.type "tuple") (oTuple K) := h ▸ call_tupleU
theorem kIsi (h : X.K = K := by rfl) : CallR X (.builtin "isinstance") (rIsi K) := h ▸ call_isi
theorem pi_sqK {tg l : Expr} {tl : TE} (hl : PE X l tl) (h : X.K = K := by rfl) : PI X tg l (iSq K tl) := h ▸ pi_sq hl
theorem pi_enumK {e : Expr} {ta : TA} {p pos tpos : Pos} {elts : List Expr} {kk : Nat} (hg : Gl X "enumerate") (hm : X.mg "enumerate" = none) (ha : PA X [e] ta) (h : X.K = K := by rfl) (hs : starEach [e] X.env = [(false, eval e X.env)] := by rfl) :
    PI X (.Tuple elts kk tpos) (.Call (.Name "enumerate" p) [e] [] pos) (iEnumU K ta) := h ▸ pi_enumU hg hm ha hs
theorem pi_revK {tg e : Expr} {te : TE} {p pos : Pos} (hg : Gl X "reversed") (hm : X.mg "reversed" = none) (he : PE X e te) (h : X.K = K := by rfl) (hs : starEach [e] X.env = (false, eval e X.env) :: starEach [] X.env := by rfl) : PI X tg (.Call (.Name "reversed" p) [e] [] pos) (RT.iRevA K te) := h ▸ RT.pi_revA hg hm he hs
theorem pg_tupK {es : List Expr} {k : Nat} {pos : Pos} {t : TGs} {n : Nat} (hc : X.calm = true) (hp : PGs X es t) (h : X.K = K := by rfl)
    (hn : (assignEach es X.env).length = n := by rfl) (hst : (assignEach es X.env).findIdx? (·.1) = none := by rfl) : PG X (.Tuple es k pos) (gTup K n t) := h ▸ pg_tup hc hp hn hst
end
end Dn
set_option Elab.async false
set_option linter.all false
set_option maxRecDepth 100000
set_option maxHeartbeats 4000000
namespace Dn
open PySem PySem.Spec PyProof.Rows L2
section
variable {K : PySem.W.Frag} {h : Heap} {mg : Str → Option Value}
theorem def_mk {x : Str} {st : Stmt} {f : Addr} {oc : Value} {od an : Option Addr} {osl : Array (Option Value)} {kV doc pm cdv ct : Value} (X : K.In h) (G : h.Ns mainGlobals mg)
    (a : PySem.W.nsIn K mainGlobals x = some (some (.ref f)))
    (l : K.lookup f = some ⟨oc, od, .func (PySem.W.fnOf x x (defArgs st) (defBody st) (defScope st) .none kV doc pm an cdv ct), osl⟩)
    (c : PySem.W.codeIn K cdv x = true) (k : PySem.W.keepIn K (.ref f) = true) : DefAt K mg x st := ⟨f, _, PySem.W.mg_of X G a, fun_mk l c k⟩
def BindS (fd : FuncData) : Prop := ∀ (s : Shared) (u : Value), BindsTo s fd ⟨[u], []⟩ [("script", u)]
theorem law_mk {st : Stmt} {fa f : Addr} {oc : Value} {od an : Option Addr} {osl : Array (Option Value)} {kV doc pm cdv ct : Value} (X : K.In h) (G : h.Ns mainGlobals mg) (hfa : mg "law" = some (.ref fa))
    (a : PySem.W.nsIn K mainGlobals "law" = some (some (.ref f)))
    (l : K.lookup f = some ⟨oc, od, .func (PySem.W.fnOf "law" "law" (defArgs st) (defBody st) (defScope st) .none kV doc pm an cdv ct), osl⟩)
    (c : PySem.W.codeIn K cdv "law" = true) (k : PySem.W.keepIn K (.ref f) = true)
    (hb : ∀ (s : Shared) (u : Value), BindsTo s (PySem.W.fnOf "law" "law" (defArgs st) (defBody st) (defScope st) .none kV doc pm an cdv ct) ⟨[u], []⟩ [("script", u)]) :
    ∃ fd : FuncData, BindS fd ∧ Fun K "law" "law" st fa fd := by
  have e := hfa.symm.trans (PySem.W.mg_of X G a)
  cases e
  exact ⟨_, hb, fun_mk l c k⟩
theorem exc_mk {x : Str} {C : Addr} {bm : List Value} (X : K.In h) (G : h.Ns mainGlobals mg) (a : PySem.W.nsIn K mainGlobals x = some (some (.ref C))) (e : PySem.W.excIn K C bm "ValueError.__new__" = true)
    (k : PySem.W.keepIn K (.ref C) = true) (b : PySem.W.subIn K (.ref C) (.type "BaseException") = some true) (t : PySem.W.typeIn K (.ref C) = some (.type "type")) : ∃ C, ExcAt K mg x C bm := ⟨C, PySem.W.mg_of X G a, e, k, b, t⟩
end
abbrev kOf {K : PySem.W.Frag} {h : Heap} (_ : K.In h) : PySem.W.Frag := K
theorem walk_law {l : PySem.W.OpenLaw} {k : Nat} {q : Program} {loose : List Str} {XP : (Str → Option Value) → Heap → Prop} {YP : World → Heap → Prop} {d : DefRec} {K : Params → PySem.W.Frag} (hn : l.most = some 63) (hdf : d.params.defaults = []) (hr : Room k callerA)
    (hY : ∀ (w : World) (h : Heap), YP w h → (K w.params).In h)
    (F : ∀ (w : World) (mg : Str → Option Value) (fa : Addr) (h : Heap), (K w.params).In h → h.Ns mainGlobals mg → mg d.name = some (.ref fa) →
      ∃ fd : FuncData, (∀ (s : Shared) (u : Value), BindsTo s fd ⟨[u], []⟩ [("script", u)]) ∧ ∀ base : Heap, (K w.params).In base → base.Ns mainGlobals mg → FnOk l.prog w (K w.params) mg base CX0 k fa fd ["script"] (spLaw (K w.params))) :
    PySem.W.WalkO q loose XP YP l.row.toRowW d [] (fun f vs => PySem.call f vs) :=
  L2.walk_ofB (n := 63) (k := k) (x := "script") (CX := fun _ => CX0) (sp := fun w => spLaw (K w.params)) hn (by decide) hdf hr hY F (fun _ _ a ns hl hb _ hS => ⟨a, ns, rfl, hS, ⟨hl, hb⟩, fun _ => rfl⟩) fun _ _ _ _ _ z => z
end Dn
set_option Elab.async false
set_option linter.all false
set_option maxRecDepth 100000
set_option maxHeartbeats 4000000
namespace Dn
open PySem L2
variable {ρ : Fr} {a b c : ME} {as : ML} {tf uf : MT} {g h : MS} {i j : Nat}
def getV : Option S → M D
  | some (.val d) => .ok d
  | _ => .stuck
@[simp] theorem getV_val {d : D} : getV (some (.val d)) = .ok d := rfl
def getB : Option S → M D
  | some (.val d) => .ok d
  | some (.own o) => .ok o.d
  | some (.pin o) => .ok o.d
  | _ => .stuck
@[simp] theorem getB_val {d : D} : getB (some (.val d)) = .ok d := rfl
@[simp] theorem getB_own {ds : List D} : getB (some (.own (.lst ds))) = .ok (.list ds) := rfl
@[simp] theorem getB_pin {ds : List D} : getB (some (.pin (.lst ds))) = .ok (.list ds) := rfl
@[simp] theorem eVarF_ap : eVarF i ρ = getV ρ[i]? := rfl
@[simp] theorem eVar_ap : eVar i ρ = getB ρ[i]? := rfl
@[simp] theorem eC_ap {d : D} : eC d ρ = .ok d := rfl
@[simp] theorem e2_ap {f : D → D → Option D} : e2 f a b ρ = (a ρ).bind fun x => (b ρ).bind fun y => lift (f x y) := rfl
@[simp] theorem e2L_ap {f : D → D → Option (List D)} : e2L f a b ρ = (a ρ).bind fun x => (b ρ).bind fun y => lift (f x y) := rfl
@[simp] theorem e1_ap {f : D → Option D} : e1 f a ρ = (a ρ).bind fun x => lift (f x) := rfl
@[simp] theorem eL_ap : eL as ρ = (as ρ).bind fun ds => .ok (.list ds) := rfl
@[simp] theorem toB_bool {b : Bool} : toB (.bool b) = .ok b := rfl
@[simp] theorem tE_ap : tE a ρ = (a ρ).bind toB := rfl
@[simp] theorem tA_ap : tA tf uf ρ = (tf ρ).bind fun c => if c = true then uf ρ else .ok false := rfl
@[simp] theorem tO_ap : tO tf uf ρ = (tf ρ).bind fun c => if c = true then .ok true else uf ρ := rfl
@[simp] theorem tN_ap : tN tf ρ = (tf ρ).bind fun c => .ok (!c) := rfl
@[simp] theorem eAnd_ap : eAnd a b ρ = (a ρ).bind fun x => (toB x).bind fun c => if c = true then b ρ else .ok (.bool false) := rfl
@[simp] theorem eOr_ap : eOr a b ρ = (a ρ).bind fun x => (toB x).bind fun c => if c = true then .ok (.bool true) else b ρ := rfl
@[simp] theorem eNot_ap : eNot a ρ = (a ρ).bind fun x => (toB x).bind fun c => .ok (.bool (!c)) := rfl
@[simp] theorem eIf_ap : eIf tf a b ρ = (tf ρ).bind fun c => if c = true then a ρ else b ρ := rfl
@[simp] theorem eBool_ap : eBool a ρ = (a ρ).bind fun d => (toB d).bind fun b => .ok (.bool b) := rfl
@[simp] theorem aNil_ap : aNil ρ = .ok [] := rfl
@[simp] theorem aCons_ap : aCons a as ρ = (a ρ).bind fun d => (as ρ).bind fun ds => .ok (d :: ds) := rfl
@[simp] theorem eCall_ap {f : List D → M D} : eCall f as ρ = (as ρ).bind f := rfl
@[simp] theorem eCallL_ap {f : List D → M (List D)} : eCallL f as ρ = (as ρ).bind f := rfl
@[simp] theorem eCallS_ap {f : List D → M D} : eCallS f as ρ = (as ρ).bind fun ds => (f ds).bind fun d => if scalD d = true then .ok d else .stuck := rfl
@[simp] theorem scalD_b {x : Bool} : scalD (.bool x) = true := by simp [scalD]
@[simp] theorem scalD_i {x : Int} : scalD (.int x) = true := by simp [scalD]
@[simp] theorem scalD_s {x : Str} : scalD (.str x) = true := by simp [scalD]
@[simp] theorem scalD_n : scalD .none = true := by simp [scalD]
@[simp] theorem eB_ap {f : List D → Option D} : eB f as ρ = (as ρ).bind fun ds => lift (f ds) := rfl
@[simp] theorem eBL_ap {f : List D → Option (List D)} : eBL f as ρ = (as ρ).bind fun ds => lift (f ds) := rfl
@[simp] theorem eTup_ap : eTup as ρ = (as ρ).bind fun ds => .ok (.tuple ds) := rfl
@[simp] theorem oNone_ap : oNone ρ = .ok none := rfl
@[simp] theorem toI_int {i : Int} : toI (.int i) = .ok i := rfl
@[simp] theorem oSome_ap : oSome a ρ = (a ρ).bind fun d => (toI d).bind fun i => .ok (some i) := rfl
@[simp] theorem eSl_ap {f : D → Option Int → Option Int → Option D} {lo hi : Fr → M (Option Int)} : eSl f a lo hi ρ = (a ρ).bind fun x => (lo ρ).bind fun l => (hi ρ).bind fun h => lift (f x l h) := rfl
@[simp] theorem eSlL_ap {f : D → Option Int → Option Int → Option (List D)} {lo hi : Fr → M (Option Int)} : eSlL f a lo hi ρ = (a ρ).bind fun x => (lo ρ).bind fun l => (hi ρ).bind fun h => lift (f x l h) := rfl
@[simp] theorem eCh_ap {f g : D → D → Option D} : eCh f g a b c ρ = (a ρ).bind fun x => (b ρ).bind fun y => (lift (f x y)).bind fun z => (toB z).bind fun k => if k = true then (c ρ).bind fun w => lift (g y w) else .ok (.bool false) := rfl
@[simp] theorem eRg1_ap : eRg1 a ρ = (a ρ).bind fun x => (toI x).bind fun j => rgLD 0 j := rfl
@[simp] theorem eRg2_ap : eRg2 a b ρ = (a ρ).bind fun x => (b ρ).bind fun y => (toI x).bind fun i => (toI y).bind fun j => rgLD i j := rfl
@[simp] theorem eTL_ap : eTL as ρ = (as ρ).bind fun ds => .ok (.tuple ds) := rfl
@[simp] theorem tYesF_ap : tYesF ρ = .ok true := rfl
theorem scalDs_map {α : Type} {f : α → D} (h : ∀ a, scalD (f a) = true) : ∀ xs : List α, scalDs (xs.map f) = true
  | [] => by simp [scalDs]
  | x :: xs => by rw [List.map_cons]; simp [scalDs, h x, scalDs_map h xs]
theorem scalD_map {α : Type} {f : α → D} (h : ∀ a, scalD (f a) = true) (xs : List α) : scalD (.tuple (xs.map f)) = true := by
  rw [scalD]
  exact scalDs_map h xs
@[simp] theorem scalD_it {xs : List Int} : scalD (.tuple (xs.map .int)) = true := scalD_map (fun _ => by simp) xs
@[simp] theorem addD_int {x y : Int} : addD (.int x) (.int y) = some (.int (x + y)) := rfl
@[simp] theorem subD_int {x y : Int} : subD (.int x) (.int y) = some (.int (x - y)) := rfl
@[simp] theorem negD_int {x : Int} : negD (.int x) = some (.int (-x)) := rfl
@[simp] theorem cmpD_int {p : Int → Int → Bool} {x y : Int} : cmpD p (.int x) (.int y) = some (.bool (p x y)) := rfl
@[simp] theorem eqD_int {x y : Int} : eqD (.int x) (.int y) = some (.bool (decide (x = y))) := rfl
@[simp] theorem neD_int {x y : Int} : neD (.int x) (.int y) = some (.bool (!decide (x = y))) := rfl
@[simp] theorem eqD_bool {x y : Bool} : eqD (.bool x) (.bool y) = some (.bool (decide (x = y))) := rfl
@[simp] theorem neD_bool {x y : Bool} : neD (.bool x) (.bool y) = some (.bool (!decide (x = y))) := rfl
@[simp] theorem eqD_str {x y : Str} : eqD (.str x) (.str y) = some (.bool (decide (x = y))) := rfl
@[simp] theorem neD_str {x y : Str} : neD (.str x) (.str y) = some (.bool (!decide (x = y))) := rfl
@[simp] theorem isD_none {d : D} : isD d .none = some (.bool (isNone d)) := rfl
@[simp] theorem isnD_none {d : D} : isnD d .none = some (.bool (!isNone d)) := rfl
@[simp] theorem isNone_i {x : Int} : isNone (.int x) = false := rfl
@[simp] theorem isNone_t {x : List D} : isNone (.tuple x) = false := rfl
@[simp] theorem isNone_l {x : List D} : isNone (.list x) = false := rfl
@[simp] theorem isNone_n : isNone .none = true := rfl
@[simp] theorem mulD_small {x y : Int} (h : -(2 ^ 64) < x ∧ x < 2 ^ 64) : mulD (.int x) (.int y) = some (.int (x * y)) := if_pos (.inl (.inl h))
@[simp] theorem mulD_smallR {x y : Int} (h : -(2 ^ 64) < y ∧ y < 2 ^ 64) : mulD (.int x) (.int y) = some (.int (x * y)) := if_pos (.inl (.inr h))
theorem log_small {y : Int} (h : 0 < y) (h2 : y < 2 ^ 62) : y.natAbs.log2 < 9000 := by
  have h3 : y.natAbs < 2 ^ 62 := by omega
  have h4 : y.natAbs ≠ 0 := by omega
  have h5 := (Nat.log2_lt h4).mpr h3
  omega
@[simp] theorem divD_pos {x y : Int} (h : 0 < y) (h2 : y < 2 ^ 62) : divD (.int x) (.int y) = some (.int (x / y)) := if_pos ⟨h, log_small h h2⟩
@[simp] theorem modD_pos {x y : Int} (h : 0 < y) : modD (.int x) (.int y) = some (.int (x % y)) := if_pos h
def Out.seq (o : Out) (b : MS) : Out := match o with
  | .nx ρ' => b ρ'
  | o => o
@[simp] theorem seq_nx {b : MS} : (Out.nx ρ).seq b = b ρ := rfl
@[simp] theorem seq_brk {b : MS} : (Out.brk ρ).seq b = .brk ρ := rfl
@[simp] theorem seq_cont {b : MS} : (Out.cont ρ).seq b = .cont ρ := rfl
@[simp] theorem seq_ret {b : MS} {d : D} : (Out.ret d ρ).seq b = .ret d ρ := rfl
@[simp] theorem seq_retL {b : MS} {d : List D} : (Out.retL d ρ).seq b = .retL d ρ := rfl
@[simp] theorem seq_exc {b : MS} {n : Str} : (Out.exc n ρ).seq b = .exc n ρ := rfl
@[simp] theorem seq_stuck {b : MS} : (Out.stuck).seq b = .stuck := rfl
@[simp] theorem sNext_ap : sNext ρ = .nx ρ := rfl
@[simp] theorem sSeq_ap : sSeq g h ρ = (g ρ).seq h := by unfold sSeq Out.seq; cases g ρ <;> rfl
@[simp] theorem sAsg_ap {tg : D → Fr → Option Fr} : sAsg tg a ρ = Out.of (a ρ) ρ fun d => Out.ofO (tg d ρ) .nx := rfl
@[simp] theorem sAsgL_ap : sAsgL i as ρ = Out.of (as ρ) ρ fun ds => .nx (ρ.set i (.own (.lst ds))) := rfl
@[simp] theorem sExpr_ap : sExpr a ρ = Out.of (a ρ) ρ fun _ => .nx ρ := rfl
@[simp] theorem sRet_ap : sRet a ρ = Out.of (a ρ) ρ fun d => .ret d ρ := rfl
@[simp] theorem sRetL_ap : sRetL as ρ = Out.of (as ρ) ρ fun d => .retL d ρ := rfl
@[simp] theorem sRaise_ap {n : Str} : sRaise n ρ = .exc n ρ := rfl
@[simp] theorem sIf_ap : sIf tf g h ρ = Out.of (tf ρ) ρ fun c => if c = true then g ρ else h ρ := rfl
@[simp] theorem sFrz_ap : sFrz i g ρ = g (frz i ρ) := rfl
def frzS : Option S → Fr → Nat → Fr
  | some (.own o), ρ, i => ρ.set i (.val o.d)
  | _, ρ, _ => ρ
@[simp] theorem frzS_own {ds : List D} : frzS (some (.own (.lst ds))) ρ i = ρ.set i (.val (.list ds)) := rfl
@[simp] theorem frzS_val {d : D} : frzS (some (.val d)) ρ i = ρ := rfl
@[simp] theorem frz_ap : frz i ρ = frzS ρ[i]? ρ i := by
  unfold frz frzS
  cases ρ[i]? with
  | none => rfl
  | some s => cases s <;> rfl
@[simp] theorem sFor_ap {tg : D → Fr → Option Fr} : sFor as tg g ρ = Out.of (as ρ) ρ fun ds => loopFor (forB tg g) ds ρ := rfl
@[simp] theorem forB_ap {tg : D → Fr → Option Fr} {d : D} : forB tg g d ρ = Out.ofO (tg d ρ) g := rfl
@[simp] theorem gN_ap {d : D} : gN i d ρ = some (ρ.set i (.val d)) := rfl
@[simp] theorem gNil_ap : gNil' [] ρ = some ρ := rfl
@[simp] theorem gC_ap {tg : D → Fr → Option Fr} {tgs : List D → Fr → Option Fr} {d : D} {ds : List D} : gC tg tgs (d :: ds) ρ = (tg d ρ).bind fun ρ' => tgs ds ρ' := rfl
@[simp] theorem gT_ap {tgs : List D → Fr → Option Fr} {ds : List D} : gT tgs (.tuple ds) ρ = tgs ds ρ := rfl
@[simp] theorem gL_ap {tgs : List D → Fr → Option Fr} {ds : List D} : gL tgs (.list ds) ρ = tgs ds ρ := rfl
def ownL : Option S → Option (List D)
  | some (.own (.lst ds)) => some ds
  | some (.pin (.lst ds)) => some ds
  | _ => none
@[simp] theorem ownL_own {ds : List D} : ownL (some (.own (.lst ds))) = some ds := rfl
@[simp] theorem ownL_pin {ds : List D} : ownL (some (.pin (.lst ds))) = some ds := rfl
@[simp] theorem ownAt_ap : ownAt i ρ = ownL ρ[i]? := rfl
def putS : Option S → List D → S
  | some (.pin _), ds => .pin (.lst ds)
  | _, ds => .own (.lst ds)
@[simp] theorem putS_own {o : OD} {ds : List D} : putS (some (.own o)) ds = .own (.lst ds) := rfl
@[simp] theorem putS_pin {o : OD} {ds : List D} : putS (some (.pin o)) ds = .pin (.lst ds) := rfl
@[simp] theorem putL_ap {ds : List D} : putL i ds ρ = ρ.set i (putS ρ[i]? ds) := by
  unfold putL putO putS
  cases ρ[i]? with
  | none => rfl
  | some s => cases s <;> rfl
@[simp] theorem sSet_ap {k e : ME} : sSet i k e ρ = Out.of (e ρ) ρ fun v => Out.ofO (ownAt i ρ) fun ds => Out.of (k ρ) ρ fun j => Out.ofO (setL ds j v) fun ds' => .nx (putL i ds' ρ) := rfl
@[simp] theorem sMut_ap {fm : List D → List D → Option (List D × D)} : sMut i fm as ρ = Out.ofO (ownAt i ρ) fun ds => Out.of (as ρ) ρ fun es => Out.ofO (fm ds es) fun r => .nx (putL i r.1 ρ) := rfl
@[simp] theorem sMutA_ap {fm : List D → List D → Option (List D × D)} : sMutA j i fm as ρ = Out.ofO (ownAt i ρ) fun ds => Out.of (as ρ) ρ fun es => Out.ofO (fm ds es) fun r => .nx ((putL i r.1 ρ).set j (.val r.2)) := rfl
@[simp] theorem m_nx : (Out.nx ρ).m = .ok .none := rfl
@[simp] theorem m_ret {d : D} : (Out.ret d ρ).m = .ok d := rfl
@[simp] theorem m_retL {d : List D} : (Out.retL d ρ).m = .ok (.list d) := rfl
@[simp] theorem m_exc {n : Str} : (Out.exc n ρ).m = .exc n := rfl
@[simp] theorem l_retL {d : List D} : (Out.retL d ρ).l = .ok d := rfl
@[simp] theorem l_exc {n : Str} : (Out.exc n ρ).l = .exc n := rfl
@[simp] theorem iE_ap : iE a ρ = (a ρ).bind itemsD := rfl
@[simp] theorem itemsD_l {ds : List D} : itemsD (.list ds) = .ok ds := rfl
@[simp] theorem itemsD_t {ds : List D} : itemsD (.tuple ds) = .ok ds := rfl
@[simp] theorem itemsD_s {ns : List Int} : itemsD (scrD ns) = .ok (ns.map .int) := rfl
@[simp] theorem seq_l {ds : List D} : seq? (.list ds) = some ds := rfl
@[simp] theorem seq_t {ds : List D} : seq? (.tuple ds) = some ds := rfl
@[simp] theorem seq_s {ns : List Int} : seq? (scrD ns) = some (ns.map .int) := rfl
def enumM : List D → M (List D)
  | [d] => (itemsD d).bind fun ds => .ok (enumL ds)
  | _ => .stuck
@[simp] theorem enumM_one {d : D} : enumM [d] = (itemsD d).bind fun ds => .ok (enumL ds) := rfl
@[simp] theorem iEn_ap : iEn as ρ = (as ρ).bind enumM := rfl
open Classical in
noncomputable def rngM1 : List D → M (List D)
  | [.int j] => if In62 j then .ok (rngL 0 j) else .stuck
  | _ => .stuck
open Classical in
noncomputable def rngM2 : List D → M (List D)
  | [.int i, .int j] => if In62 i ∧ In62 j then .ok (rngL i j) else .stuck
  | _ => .stuck
theorem rngM1_ok {j : Int} (h : In62 j) : rngM1 [.int j] = .ok (rngL 0 j) := if_pos h
theorem rngM2_ok {i j : Int} (h : In62 i) (h' : In62 j) : rngM2 [.int i, .int j] = .ok (rngL i j) := if_pos ⟨h, h'⟩
@[simp] theorem iR1_ap : iR1 as ρ = (as ρ).bind rngM1 := Eq.trans rfl rfl
@[simp] theorem iR2_ap : iR2 as ρ = (as ρ).bind rngM2 := Eq.trans rfl rfl
@[simp] theorem eLc_ap {tg : D → Fr → Option Fr} {vs : List Nat} : eLc as tg tf a vs ρ = (as ρ).bind fun ds => loopLc tg tf a vs ρ ds [] := rfl
theorem rgLD_ok {i j : Int} (h : RgOk i j) : rgLD i j = .ok (rngL i j) := if_pos h
/-- what is wanted behind a turn -/
def Turn' (Post : Out → Prop) (I : Fr → Prop) : Out → Prop
  | .nx ρ => I ρ
  | .cont ρ => I ρ
  | .brk ρ => Post (.nx ρ)
  | o => Post o
theorem loopFor_inv {body : D → Fr → Out} {Post : Out → Prop} (I : Nat → Fr → Prop) : ∀ (ds : List D) (k : Nat) (ρ : Fr), I k ρ →
    (∀ i d ρ, ds[i]? = some d → I (k + i) ρ → Turn' Post (I (k + i + 1)) (body d ρ)) → (∀ ρ, I (k + ds.length) ρ → Post (.nx ρ)) → Post (loopFor body ds ρ)
  | [], k, ρ, h0, _, hd => hd ρ h0
  | d :: ds, k, ρ, h0, hs, hd => by
    have h1 := hs 0 d ρ rfl h0
    have rc : ∀ ρ', I (k + 1) ρ' → Post (loopFor body ds ρ') := fun ρ' h => loopFor_inv I ds (k + 1) ρ' h
      (fun i d' ρ' q hi => by
        have z := hs (i + 1) d' ρ' (by simpa using q) (by rw [show k + (i + 1) = k + 1 + i by omega]; exact hi)
        rw [show k + (i + 1) + 1 = k + 1 + i + 1 by omega] at z
        exact z)
      (fun ρ' h => hd ρ' (by rw [List.length_cons, show k + (ds.length + 1) = k + 1 + ds.length by omega]; exact h))
    unfold loopFor
    cases q : body d ρ with
    | nx ρ' => rw [q] at h1; exact rc ρ' h1
    | cont ρ' => rw [q] at h1; exact rc ρ' h1
    | brk ρ' => rw [q] at h1; exact h1
    | ret d ρ => rw [q] at h1; exact h1
    | retL d ρ => rw [q] at h1; exact h1
    | exc n ρ => rw [q] at h1; exact h1
    | stuck => rw [q] at h1; exact h1
/-- a loop by an invariant -/
theorem for_inv {body : D → Fr → Out} {Post : Out → Prop} {ds : List D} {ρ : Fr} (I : Nat → Fr → Prop) (h0 : I 0 ρ)
    (hs : ∀ i d ρ, ds[i]? = some d → I i ρ → Turn' Post (I (i + 1)) (body d ρ)) (hd : ∀ ρ, I ds.length ρ → Post (.nx ρ)) : Post (loopFor body ds ρ) :=
  loopFor_inv I ds 0 ρ h0 (fun i d ρ q h => by rw [Nat.zero_add] at h ⊢; exact hs i d ρ q h) (fun ρ h => hd ρ (by rw [Nat.zero_add] at h; exact h))
theorem kit_NoneType_int : L2.kitB "NoneType" "int" = some false := by decide +kernel
@[simp] theorem isi_NoneType_int  : isiD "int" .none = some (.bool false) := by show (L2.kitB "NoneType" "int").map _ = _; rw [kit_NoneType_int]; rfl
theorem kit_bool_int : L2.kitB "bool" "int" = some true := by decide +kernel
@[simp] theorem isi_bool_int {x : Bool} : isiD "int" (.bool x) = some (.bool true) := by show (L2.kitB "bool" "int").map _ = _; rw [kit_bool_int]; rfl
theorem kit_int_int : L2.kitB "int" "int" = some true := by decide +kernel
@[simp] theorem isi_int_int {x : Int} : isiD "int" (.int x) = some (.bool true) := by show (L2.kitB "int" "int").map _ = _; rw [kit_int_int]; rfl
theorem kit_str_int : L2.kitB "str" "int" = some false := by decide +kernel
@[simp] theorem isi_str_int {x : Str} : isiD "int" (.str x) = some (.bool false) := by show (L2.kitB "str" "int").map _ = _; rw [kit_str_int]; rfl
theorem kit_list_int : L2.kitB "list" "int" = some false := by decide +kernel
@[simp] theorem isi_list_int {x : List D} : isiD "int" (.list x) = some (.bool false) := by show (L2.kitB "list" "int").map _ = _; rw [kit_list_int]; rfl
theorem kit_tuple_int : L2.kitB "tuple" "int" = some false := by decide +kernel
@[simp] theorem isi_tuple_int {x : List D} : isiD "int" (.tuple x) = some (.bool false) := by show (L2.kitB "tuple" "int").map _ = _; rw [kit_tuple_int]; rfl
theorem kit_NoneType_bool : L2.kitB "NoneType" "bool" = some false := by decide +kernel
@[simp] theorem isi_NoneType_bool  : isiD "bool" .none = some (.bool false) := by show (L2.kitB "NoneType" "bool").map _ = _; rw [kit_NoneType_bool]; rfl
theorem kit_bool_bool : L2.kitB "bool" "bool" = some true := by decide +kernel
@[simp] theorem isi_bool_bool {x : Bool} : isiD "bool" (.bool x) = some (.bool true) := by show (L2.kitB "bool" "bool").map _ = _; rw [kit_bool_bool]; rfl
theorem kit_int_bool : L2.kitB "int" "bool" = some false := by decide +kernel
@[simp] theorem isi_int_bool {x : Int} : isiD "bool" (.int x) = some (.bool false) := by show (L2.kitB "int" "bool").map _ = _; rw [kit_int_bool]; rfl
theorem kit_str_bool : L2.kitB "str" "bool" = some false := by decide +kernel
@[simp] theorem isi_str_bool {x : Str} : isiD "bool" (.str x) = some (.bool false) := by show (L2.kitB "str" "bool").map _ = _; rw [kit_str_bool]; rfl
theorem kit_list_bool : L2.kitB "list" "bool" = some false := by decide +kernel
@[simp] theorem isi_list_bool {x : List D} : isiD "bool" (.list x) = some (.bool false) := by show (L2.kitB "list" "bool").map _ = _; rw [kit_list_bool]; rfl
theorem kit_tuple_bool : L2.kitB "tuple" "bool" = some false := by decide +kernel
@[simp] theorem isi_tuple_bool {x : List D} : isiD "bool" (.tuple x) = some (.bool false) := by show (L2.kitB "tuple" "bool").map _ = _; rw [kit_tuple_bool]; rfl
theorem kit_NoneType_str : L2.kitB "NoneType" "str" = some false := by decide +kernel
@[simp] theorem isi_NoneType_str  : isiD "str" .none = some (.bool false) := by show (L2.kitB "NoneType" "str").map _ = _; rw [kit_NoneType_str]; rfl
theorem kit_bool_str : L2.kitB "bool" "str" = some false := by decide +kernel
@[simp] theorem isi_bool_str {x : Bool} : isiD "str" (.bool x) = some (.bool false) := by show (L2.kitB "bool" "str").map _ = _; rw [kit_bool_str]; rfl
theorem kit_int_str : L2.kitB "int" "str" = some false := by decide +kernel
@[simp] theorem isi_int_str {x : Int} : isiD "str" (.int x) = some (.bool false) := by show (L2.kitB "int" "str").map _ = _; rw [kit_int_str]; rfl
theorem kit_str_str : L2.kitB "str" "str" = some true := by decide +kernel
@[simp] theorem isi_str_str {x : Str} : isiD "str" (.str x) = some (.bool true) := by show (L2.kitB "str" "str").map _ = _; rw [kit_str_str]; rfl
theorem kit_list_str : L2.kitB "list" "str" = some false := by decide +kernel
@[simp] theorem isi_list_str {x : List D} : isiD "str" (.list x) = some (.bool false) := by show (L2.kitB "list" "str").map _ = _; rw [kit_list_str]; rfl
theorem kit_tuple_str : L2.kitB "tuple" "str" = some false := by decide +kernel
@[simp] theorem isi_tuple_str {x : List D} : isiD "str" (.tuple x) = some (.bool false) := by show (L2.kitB "tuple" "str").map _ = _; rw [kit_tuple_str]; rfl
theorem kit_NoneType_list : L2.kitB "NoneType" "list" = some false := by decide +kernel
@[simp] theorem isi_NoneType_list  : isiD "list" .none = some (.bool false) := by show (L2.kitB "NoneType" "list").map _ = _; rw [kit_NoneType_list]; rfl
theorem kit_bool_list : L2.kitB "bool" "list" = some false := by decide +kernel
@[simp] theorem isi_bool_list {x : Bool} : isiD "list" (.bool x) = some (.bool false) := by show (L2.kitB "bool" "list").map _ = _; rw [kit_bool_list]; rfl
theorem kit_int_list : L2.kitB "int" "list" = some false := by decide +kernel
@[simp] theorem isi_int_list {x : Int} : isiD "list" (.int x) = some (.bool false) := by show (L2.kitB "int" "list").map _ = _; rw [kit_int_list]; rfl
theorem kit_str_list : L2.kitB "str" "list" = some false := by decide +kernel
@[simp] theorem isi_str_list {x : Str} : isiD "list" (.str x) = some (.bool false) := by show (L2.kitB "str" "list").map _ = _; rw [kit_str_list]; rfl
theorem kit_list_list : L2.kitB "list" "list" = some true := by decide +kernel
@[simp] theorem isi_list_list {x : List D} : isiD "list" (.list x) = some (.bool true) := by show (L2.kitB "list" "list").map _ = _; rw [kit_list_list]; rfl
theorem kit_tuple_list : L2.kitB "tuple" "list" = some false := by decide +kernel
@[simp] theorem isi_tuple_list {x : List D} : isiD "list" (.tuple x) = some (.bool false) := by show (L2.kitB "tuple" "list").map _ = _; rw [kit_tuple_list]; rfl
theorem kit_NoneType_tuple : L2.kitB "NoneType" "tuple" = some false := by decide +kernel
@[simp] theorem isi_NoneType_tuple  : isiD "tuple" .none = some (.bool false) := by show (L2.kitB "NoneType" "tuple").map _ = _; rw [kit_NoneType_tuple]; rfl
theorem kit_bool_tuple : L2.kitB "bool" "tuple" = some false := by decide +kernel
@[simp] theorem isi_bool_tuple {x : Bool} : isiD "tuple" (.bool x) = some (.bool false) := by show (L2.kitB "bool" "tuple").map _ = _; rw [kit_bool_tuple]; rfl
theorem kit_int_tuple : L2.kitB "int" "tuple" = some false := by decide +kernel
@[simp] theorem isi_int_tuple {x : Int} : isiD "tuple" (.int x) = some (.bool false) := by show (L2.kitB "int" "tuple").map _ = _; rw [kit_int_tuple]; rfl
theorem kit_str_tuple : L2.kitB "str" "tuple" = some false := by decide +kernel
@[simp] theorem isi_str_tuple {x : Str} : isiD "tuple" (.str x) = some (.bool false) := by show (L2.kitB "str" "tuple").map _ = _; rw [kit_str_tuple]; rfl
theorem kit_list_tuple : L2.kitB "list" "tuple" = some false := by decide +kernel
@[simp] theorem isi_list_tuple {x : List D} : isiD "tuple" (.list x) = some (.bool false) := by show (L2.kitB "list" "tuple").map _ = _; rw [kit_list_tuple]; rfl
theorem kit_tuple_tuple : L2.kitB "tuple" "tuple" = some true := by decide +kernel
@[simp] theorem isi_tuple_tuple {x : List D} : isiD "tuple" (.tuple x) = some (.bool true) := by show (L2.kitB "tuple" "tuple").map _ = _; rw [kit_tuple_tuple]; rfl
@[simp] theorem lenD_t {ds : List D} : lenD [.tuple ds] = some (.int ds.length) := rfl
@[simp] theorem lenD_l {ds : List D} : lenD [.list ds] = some (.int ds.length) := rfl
@[simp] theorem lenD_s {ns : List Int} : lenD [scrD ns] = some (.int ns.length) := by show some (PyData.int ((ns.map PyData.int).length : Nat)) = _; rw [List.length_map]
@[simp] theorem tupleD_l {ds : List D} : tupleD [.list ds] = some (.tuple ds) := rfl
@[simp] theorem tupleD_t {ds : List D} : tupleD [.tuple ds] = some (.tuple ds) := rfl
@[simp] theorem listD_l {ds : List D} : listD [.list ds] = some ds := rfl
@[simp] theorem listD_t {ds : List D} : listD [.tuple ds] = some ds := rfl
end Dn
set_option Elab.async false
set_option linter.all false
set_option maxRecDepth 100000
set_option maxHeartbeats 4000000
namespace Dn
open PySem PySem.Spec PyProof.Rows L2
def isErr : S → Bool
  | .err _ => true
  | _ => false
def noErr (ρ : Fr) : Bool := ρ.all fun s => !isErr s
def lk (l : List (Str × Bool)) (n : Str) : Option Bool := l.lookup n
/-- isinstance(e, X), e the error that slot i holds, its class the one named n -/
def eIsE (i : Nat) (tab : List (Str × Bool)) (n : Str) : ME := fun ρ => match ρ[i]? with
  | some (.err _) => lift ((lk tab n).map .bool)
  | _ => .stuck
/-- behind the suite -/
def outE (i : Nat) : Out → Out
  | .nx ρ => if noErr (ρ.set i .none) = true then .nx (ρ.set i .none) else .stuck
  | .brk ρ => if noErr (ρ.set i .none) = true then .brk (ρ.set i .none) else .stuck
  | .cont ρ => if noErr (ρ.set i .none) = true then .cont (ρ.set i .none) else .stuck
  | .ret d ρ => if noErr (ρ.set i .none) = true then .ret d (ρ.set i .none) else .stuck
  | _ => .stuck
def sTryAs (i : Nat) (tab : List (Str × Bool)) (gb : MS) (gs : Str → MS) : MS := fun ρ => match gb ρ with
  | .exc n ρ' => match lk tab n with
    | some true => if noErr ρ' = true then outE i (gs n (ρ'.set i (.err n))) else .stuck
    | some false => .exc n ρ'
    | none => .stuck
  | o => o
def sTryOnly (tab : List (Str × Bool)) (gb : MS) (gs : MS) : MS := fun ρ => match gb ρ with
  | .exc n ρ' => match lk tab n with
    | some true => (match gs ρ' with
      | .exc _ _ => .stuck
      | o => o)
    | some false => .exc n ρ'
    | none => .stuck
  | o => o
section
variable {K : PySem.W.Frag} {L : Addr × Addr} {mg : Str → Option Value} {W : WX} {F0 H0 F H F' H' : Hp} {σ : L2.St} {ρ : Fr}
theorem Env.relL (E : Env K L F0 H0 F H σ ρ) (h : noErr ρ = true) (a : Addr) : Env K (L.1, a) F0 H0 F H σ ρ where
  st := E.st
  len := E.len
  sep := E.sep
  sl := fun i s q => by
    have z := E.sl i s q
    cases s with
    | none => trivial
    | val d => exact z
    | own o => exact z
    | pin o => exact z
    | err n =>
      unfold noErr at h
      rw [List.all_eq_true] at h
      have := h _ (List.mem_of_getElem? q)
      simp [isErr] at this
theorem noErr_set {i : Nat} (h : noErr ρ = true) (s : S) (hs : isErr s = false) : noErr (ρ.set i s) = true := by
  unfold noErr at h ⊢
  rw [List.all_eq_true] at h ⊢
  intro x hx
  rcases List.mem_or_eq_of_mem_set hx with hx | hx
  · exact h x hx
  · subst hx; simp [hs]
/-- what the clause wishes, met by the pure suite -/
theorem try_core {i : Nat} {c : Value} {tab : List (Str × Bool)} {ts : Addr → Value → Option Addr → TS} {gs : Str → MS} {D : Ends} {n : Str}
    (hx : ∀ n b C, lk tab n = some b → mg n = some (.ref C) → PySem.W.exmOne K (.ref C) c = some b)
    (hs : ∀ a n C l, lk tab n = some true → mg n = some (.ref C) → DS K (l, a) mg (fun _ _ _ _ => False) (ts a (.ref C) none) (gs n))
    (w : WO K mg W L F0 H0 F D (match lk tab n with
      | some true => if noErr ρ = true then outE i (gs n (ρ.set i (.err n))) else .stuck
      | some false => .exc n ρ
      | none => .stuck)) (E : Env K L F0 H0 F H σ ρ) : Wm mg (wAs K c i ts W D) n σ H := by
  intro C hC
  cases q : lk tab n with
  | none => rw [q] at w; exact w.elim
  | some b =>
    rw [q] at w
    refine ⟨b, hx n b C q hC, fun hb => ?_, fun hb => ?_⟩
    · subst hb
      intro a ha
      have w : WO K mg W L F0 H0 F D (if noErr ρ = true then outE i (gs n (ρ.set i (.err n))) else .stuck) := w
      split at w
      · rename_i hn
        have E1 := (E.relL hn a).setx (s := .err n) (o := some (.ref a)) rfl (show SlotR K (L.1, a) F H0 H (.err n) (some (.ref a)) from rfl) i
        refine hs a n C L.1 q hC F0 H0 F H _ _ _ E1 ?_
        have back : ∀ {F' H' : Hp} {σ' : L2.St} {ρ' : Fr}, Env K (L.1, a) F0 H0 F' H' σ' ρ' → noErr (ρ'.set i .none) = true → Env K L F0 H0 F' H' (σ'.set i none) (ρ'.set i .none) := fun {F' H' σ' ρ'} E' hn' => (E'.setn i).relL hn' L.2
        cases qg : gs n (ρ.set i (.err n)) with
        | nx ρ' =>
          rw [qg] at w
          have w : WO K mg W L F0 H0 F D (if noErr (ρ'.set i .none) = true then .nx (ρ'.set i .none) else .stuck) := w
          split at w
          · rename_i hn'
            exact fun F' H' σ' e E' => w F' H' _ e (back E' hn')
          · exact w.elim
        | brk ρ' =>
          rw [qg] at w
          have w : WO K mg W L F0 H0 F D (if noErr (ρ'.set i .none) = true then .brk (ρ'.set i .none) else .stuck) := w
          split at w
          · rename_i hn'
            exact fun F' H' σ' e E' => w F' H' _ e (back E' hn')
          · exact w.elim
        | cont ρ' =>
          rw [qg] at w
          have w : WO K mg W L F0 H0 F D (if noErr (ρ'.set i .none) = true then .cont (ρ'.set i .none) else .stuck) := w
          split at w
          · rename_i hn'
            exact fun F' H' σ' e E' => w F' H' _ e (back E' hn')
          · exact w.elim
        | ret d ρ' =>
          rw [qg] at w
          have w : WO K mg W L F0 H0 F D (if noErr (ρ'.set i .none) = true then .ret d (ρ'.set i .none) else .stuck) := w
          split at w
          · rename_i hn'
            exact fun F' H' σ' v e E' => w F' H' _ v e (back E' hn')
          · exact w.elim
        | retL ds ρ' => rw [qg] at w; exact w.elim
        | exc n ρ' => rw [qg] at w; exact w.elim
        | stuck => rw [qg] at w; exact w.elim
      · exact w.elim
    · subst hb
      exact w F H σ (Ex.refl _) E C hC
theorem ds_tryAs {i : Nat} {c : Value} {tab : List (Str × Bool)} {tb : WX → TS} {ts : Addr → Value → Option Addr → TS} {gb : MS} {gs : Str → MS}
    (hx : ∀ n b C, lk tab n = some b → mg n = some (.ref C) → PySem.W.exmOne K (.ref C) c = some b)
    (hb : ∀ W, DS K L mg W (tb W) gb)
    (hs : ∀ a n C l, lk tab n = some true → mg n = some (.ref C) → DS K (l, a) mg (fun _ _ _ _ => False) (ts a (.ref C) none) (gs n)) :
    DS K L mg W (fun D σ H => tb (wAs K c i ts W D) D σ H) (sTryAs i tab gb gs) := fun F0 H0 F H σ ρ D E w => by
  refine hb _ F0 H0 F H σ ρ D E ?_
  unfold sTryAs at w
  cases q : gb ρ with
  | exc n ρ' =>
    rw [q] at w
    exact fun F' H' σ' e E' => try_core hx hs (WO.mono e w) E'
  | nx ρ' => rw [q] at w; exact w
  | brk ρ' => rw [q] at w; exact w
  | cont ρ' => rw [q] at w; exact w
  | ret d ρ' => rw [q] at w; exact w
  | retL ds ρ' => rw [q] at w; exact w
  | stuck => rw [q] at w; exact w
/-- isinstance(e, c) in the suite -/
def rIsX (K : PySem.W.Frag) (cls : Value) (d : Option Addr) (a : Addr) : List V → Hp → VK → Prop := fun xs H Q => ∃ D, cls = .ref D ∧ d = none ∧ ExcC K D ∧ rIsE K D a xs H Q
theorem call_isX {X : Cx} {a : Addr} {cls : Value} {d : Option Addr} {oe : Obj} {pn : List (Addr × Obj)} (hz : Zc cls d oe) (hf : ∃ vs, oe.data = .fields vs) (h : X.K = K := by rfl) : CallR (X.suite a ((a, oe) :: pn)) (.builtin "isinstance") (rIsX K cls d a) := by
  subst h
  intro pins s σ H xs us Q I r q
  obtain ⟨D, rfl, rfl, C, q⟩ := q
  exact call_isE C hz hf pins s σ H xs us Q I r q
theorem df_isX {i : Nat} {tab : List (Str × Bool)} {n : Str} {C : Addr} {a l : Addr} {c : V} {cv : Value} (hC : ExcC K C) (hc : ∀ u, L2.RelV c u → u = cv)
    (hk : ∀ b, lk tab n = some b → PySem.W.kitOne K (.ref C) cv = some b) : DF K (l, a) mg W (tCB (rIsX K (.ref C) none a) (tCons (tVar i) (tCons (tC c) tNil))) (eIsE i tab n) := fun F0 H0 F H σ ρ Q E p => by
  unfold eIsE at p
  split at p
  · rename_i m q
    obtain ⟨z, ez, k⟩ := post_lift p
    cases qb : lk tab n with
    | none => rw [qb] at ez; cases ez
    | some b =>
      rw [qb] at ez
      cases ez
      have e := join_some (E.sl i _ q)
      exact ⟨_, e, C, rfl, rfl, hC, c, cv, b, rfl, hc, hk b qb, k F H _ (Step.refl E.st.fh) (.bl b)⟩
  · exact p.elim
end
end Dn
set_option Elab.async false
set_option linter.all false
set_option maxRecDepth 100000
set_option maxHeartbeats 4000000
namespace Dn
open PySem PySem.Spec PyProof.Rows L2
theorem pssId {X : Cx} {body : List Stmt} {t' : TS} (t : TS) (h : PSs X body t) (e : t = t') : PSs X body t' := e ▸ h
theorem boot_ValueError : bootBuiltins "ValueError" = some (.type "ValueError") := by decide +kernel
theorem bmK {X : Cx} {K : PySem.W.Frag} {e : Expr} {T : String} {r : V → List V → Hp → VK → Prop} {to : TE} {t : TA} (p : PE X e (tBM X.K T r to t)) (h : X.K = K := by rfl) : PE X e (tBM K T r to t) := h ▸ p
structure ClsF (K : PySem.W.Frag) (C : Addr) : Prop where
  x : ExcC K C
  t : PySem.W.typeIn K (.ref C) = some (.type "type")
  s : PySem.W.subIn K (.ref C) (.ref C) = some true
/-- an own class by its name -/
def ClsAt (K : PySem.W.Frag) (mg : Str → Option Value) (n : Str) : Prop := ∃ C, mg n = some (.ref C) ∧ ClsF K C
/-- the class named n is below the class named m, or it is not -/
def Below (K : PySem.W.Frag) (mg : Str → Option Value) (n m : Str) (b : Bool) : Prop := ∀ C D, mg n = some (.ref C) → mg m = some (.ref D) → PySem.W.subIn K (.ref C) (.ref D) = some b
def BelowT (K : PySem.W.Frag) (mg : Str → Option Value) (n : Str) (T : String) (b : Bool) : Prop := ∀ C, mg n = some (.ref C) → PySem.W.subIn K (.ref C) (.type T) = some b
/-- all of a table -/
def Tab (K : PySem.W.Frag) (mg : Str → Option Value) (m : Str) (tab : List (Str × Bool)) : Prop := ∀ n b, lk tab n = some b → Below K mg n m b
/-- the classes of a table -/
def Cls (K : PySem.W.Frag) (mg : Str → Option Value) (tab : List (Str × Bool)) : Prop := ∀ n b C, lk tab n = some b → mg n = some (.ref C) → ClsF K C
def TabT (K : PySem.W.Frag) (mg : Str → Option Value) (T : String) (tab : List (Str × Bool)) : Prop := ∀ n b, lk tab n = some b → BelowT K mg n T b
section
variable {K : PySem.W.Frag} {mg : Str → Option Value} {m : Str} {T : String} {tab : List (Str × Bool)}
theorem tab_nil : Tab K mg m [] := fun n b h => nomatch h
theorem tab_cons {n0 : Str} {b0 : Bool} (h : Below K mg n0 m b0) (r : Tab K mg m tab) : Tab K mg m ((n0, b0) :: tab) := fun n b e => by
  unfold lk at e
  rw [List.lookup_cons] at e
  split at e
  · rename_i q
    have : n = n0 := by simpa using q
    subst this
    cases e
    exact h
  · exact r n b e
theorem cls_nil : Cls K mg [] := fun n b C h => nomatch h
theorem cls_cons {n0 : Str} {b0 : Bool} (h : ClsAt K mg n0) (r : Cls K mg tab) : Cls K mg ((n0, b0) :: tab) := fun n b C e hn => by
  unfold lk at e
  rw [List.lookup_cons] at e
  split at e
  · rename_i q
    have : n = n0 := by simpa using q
    subst this
    obtain ⟨D, hD, F⟩ := h
    rw [hD] at hn
    cases hn
    exact F
  · exact r n b C e hn
theorem tabT_nil : TabT K mg T [] := fun n b h => nomatch h
theorem tabT_cons {n0 : Str} {b0 : Bool} (h : BelowT K mg n0 T b0) (r : TabT K mg T tab) : TabT K mg T ((n0, b0) :: tab) := fun n b e => by
  unfold lk at e
  rw [List.lookup_cons] at e
  split at e
  · rename_i q
    have : n = n0 := by simpa using q
    subst this
    cases e
    exact h
  · exact r n b e
theorem exm_at {n : Str} {b : Bool} {C D : Addr} (F : ClsF K D) (hm : mg m = some (.ref D)) (t : Tab K mg m tab) (e : lk tab n = some b) (hn : mg n = some (.ref C)) : PySem.W.exmOne K (.ref C) (.ref D) = some b :=
  PySem.W.exm_ref F.x.hs F.x.hd F.t (t n b e C D hn hm)
theorem kit_at {n : Str} {b : Bool} {C D : Addr} (F : ClsF K D) (hm : mg m = some (.ref D)) (t : Tab K mg m tab) (e : lk tab n = some b) (hn : mg n = some (.ref C)) : PySem.W.kitOne K (.ref C) (.ref D) = some b := by
  have h4 := t n b e C D hn hm
  obtain ⟨cd, hc, _⟩ := PySem.W.any_some F.x.hd
  have e2 : ((PySem.W.clsIn K D).isSome && PySem.W.typeIn K (.ref D) == some (.type "type")) = true := by rw [hc, F.t] <;> rfl
  unfold PySem.W.kitOne
  split
  · rename_i q
    have q : Value.ref C = Value.ref D := beq_iff_eq.mp q
    cases q
    rw [F.s] at h4
    exact h4
  · show (if _ then _ else none) = _
    rw [if_pos e2]
    exact h4
theorem kitT_at {n : Str} {b : Bool} {C : Addr} (hT : PySem.W.kitMeta T = true) (t : TabT K mg T tab) (e : lk tab n = some b) (hn : mg n = some (.ref C)) : PySem.W.kitOne K (.ref C) (.type T) = some b := by
  have h4 := t n b e C hn
  unfold PySem.W.kitOne
  rw [if_neg (by intro q; cases (beq_iff_eq.mp q))]
  show (if PySem.W.kitMeta T = true then PySem.W.subIn K (.ref C) (.type T) else none) = _
  rw [if_pos hT]
  exact h4
theorem sub_mk {h : Heap} {n : Str} {C0 D0 : Addr} {b : Bool} (X : K.In h) (G : h.Ns mainGlobals mg) (a : PySem.W.nsIn K mainGlobals n = some (some (.ref C0))) (c : PySem.W.nsIn K mainGlobals m = some (some (.ref D0)))
    (s : PySem.W.subIn K (.ref C0) (.ref D0) = some b) : Below K mg n m b := fun C D hn hm => by
  have e := hn.symm.trans (PySem.W.mg_of X G a)
  cases e
  have e := hm.symm.trans (PySem.W.mg_of X G c)
  cases e
  exact s
theorem subT_mk {h : Heap} {n : Str} {C0 : Addr} {b : Bool} (X : K.In h) (G : h.Ns mainGlobals mg) (a : PySem.W.nsIn K mainGlobals n = some (some (.ref C0)))
    (s : PySem.W.subIn K (.ref C0) (.type T) = some b) : BelowT K mg n T b := fun C hn => by
  have e := hn.symm.trans (PySem.W.mg_of X G a)
  cases e
  exact s
theorem cls_mk {h : Heap} {n : Str} {C : Addr} (X : K.In h) (G : h.Ns mainGlobals mg) (a : PySem.W.nsIn K mainGlobals n = some (some (.ref C)))
    (hg : PySem.W.findIn K (.ref C) "__getattribute__" = some (some (.builtin "BaseException.__getattribute__")))
    (hk : PySem.W.findIn K (.ref C) "__getattr__" = some none)
    (hs : PySem.W.subIn K (.ref C) (.type "BaseException") = some true)
    (hd : PySem.W.hasDictIn K C = true)
    (ha : PySem.W.findIn K (.ref C) "__class__" = some (some (.builtin "object.__class__")))
    (hn : PySem.W.specialIn K (.builtin "object.__class__") "__get__" = some (some (.builtin "getset_descriptor.__get__")))
    (ht : PySem.W.takesIn K (.builtin "object.__class__") = some true)
    (hm : PySem.W.mroIn K C (.type "object") = some true)
    (t : PySem.W.typeIn K (.ref C) = some (.type "type"))
    (s : PySem.W.subIn K (.ref C) (.ref C) = some true) : ClsAt K mg n := ⟨C, PySem.W.mg_of X G a, ⟨hg, hk, hs, hd, ha, hn, ht, hm⟩, t, s⟩
/-- isinstance(e, X) for the own class X -/
theorem df_isC {W : WX} {i : Nat} {n : Str} {C D a l : Addr} (hC : ClsF K C) (hn : mg n = some (.ref C)) (F : ClsF K D) (hm : mg m = some (.ref D)) (t : Tab K mg m tab) :
    DF K (l, a) mg W (tCB (rIsX K (.ref C) none a) (tCons (tVar i) (tCons (tC (.ref D)) tNil))) (eIsE i tab n) :=
  df_isX (cv := .ref D) hC.x (fun _ r => r) fun b e => kit_at F hm t e hn
theorem df_isTy {W : WX} {i : Nat} {n : Str} {C a l : Addr} (hC : ClsF K C) (hn : mg n = some (.ref C)) (hT : PySem.W.kitMeta T = true) (t : TabT K mg T tab) :
    DF K (l, a) mg W (tCB (rIsX K (.ref C) none a) (tCons (tVar i) (tCons (tC (.ty T)) tNil))) (eIsE i tab n) :=
  df_isX (cv := .type T) hC.x (fun _ r => r) fun b e => kitT_at hT t e hn
end
end Dn
set_option Elab.async false
set_option linter.all false
set_option maxRecDepth 100000
set_option maxHeartbeats 4000000
namespace Dn
open PySem L2
structure Gr {α : Type} [DecidableEq α] (n : Nat) (f : α → D) : Prop where
  can : ∀ a, (f a).canLay0 = true
  dep : ∀ a, (f a).depth ≤ n
  eqv : ∀ a b, PyData.eqv (f a) (f b) = decide (a = b)
section
variable {α β : Type} [DecidableEq α] [DecidableEq β] {n m : Nat} {f : α → D} {g : β → D}
theorem gr_int : Gr 0 PyData.int := ⟨fun _ => by simp [PyData.canLay0], fun _ => by simp [PyData.depth], fun a b => by simp only [PyData.eqv]; exact (Bool.beq_eq_decide_eq a b)⟩
theorem gr_bool : Gr 0 PyData.bool := ⟨fun _ => by simp [PyData.canLay0], fun _ => by simp [PyData.depth], fun a b => by simp only [PyData.eqv]; exact (Bool.beq_eq_decide_eq a b)⟩
theorem Gr.canAll (G : Gr n f) : ∀ xs : List α, PyData.canLayAll0 (xs.map f) = true
  | [] => by simp [PyData.canLayAll0]
  | x :: xs => by rw [List.map_cons]; simp [PyData.canLayAll0, G.can x, G.canAll xs]
theorem Gr.depAll (G : Gr n f) : ∀ xs : List α, PyData.depthAll (xs.map f) ≤ n
  | [] => by simp [PyData.depthAll]
  | x :: xs => by
    rw [List.map_cons]
    have h1 := G.dep x
    have h2 := G.depAll xs
    simp only [PyData.depthAll]
    omega
theorem Gr.eqAll (G : Gr n f) : ∀ xs ys : List α, PyData.eqvAll (xs.map f) (ys.map f) = decide (xs = ys)
  | [], [] => by simp [PyData.eqvAll]
  | x :: xs, y :: ys => by
    rw [List.map_cons, List.map_cons]
    simp only [PyData.eqvAll, G.eqv x y, G.eqAll xs ys]
    by_cases h1 : x = y <;> by_cases h2 : xs = ys <;> simp [h1, h2]
  | [], _ :: _ => by simp [PyData.eqvAll]
  | _ :: _, [] => by simp [PyData.eqvAll]
theorem gr_list (G : Gr n f) : Gr (n + 1) (fun xs : List α => PyData.list (xs.map f)) :=
  ⟨fun xs => by simp only [PyData.canLay0]; exact G.canAll xs, fun xs => by simp only [PyData.depth]; have := G.depAll xs; omega, fun xs ys => by simp only [PyData.eqv]; exact G.eqAll xs ys⟩
theorem gr_tup (G : Gr n f) : Gr (n + 1) (fun xs : List α => PyData.tuple (xs.map f)) :=
  ⟨fun xs => by simp only [PyData.canLay0]; exact G.canAll xs, fun xs => by simp only [PyData.depth]; have := G.depAll xs; omega, fun xs ys => by simp only [PyData.eqv]; exact G.eqAll xs ys⟩
theorem Gr.shaped (G : Gr n f) (h : n ≤ 64) (a : α) : SeqAt.shaped (f a) = true := by
  unfold SeqAt.shaped
  rw [G.can a, Bool.true_and, decide_eq_true_eq]
  exact Nat.le_trans (G.dep a) h
theorem eqD_l (G : Gr n f) (h : n ≤ 63) (xs ys : List α) : eqD (.list (xs.map f)) (.list (ys.map f)) = some (.bool (decide (xs = ys))) := by
  have e : eqB (.list (xs.map f)) (.list (ys.map f)) = if SeqAt.shaped (.list (xs.map f)) && SeqAt.shaped (.list (ys.map f)) then some (PyData.eqv (.list (xs.map f)) (.list (ys.map f))) else none := rfl
  unfold eqD
  rw [e, (gr_list G).shaped (by omega) xs, (gr_list G).shaped (by omega) ys, (gr_list G).eqv xs ys]
  rfl
theorem eqD_t (G : Gr n f) (h : n ≤ 63) (xs ys : List α) : eqD (.tuple (xs.map f)) (.tuple (ys.map f)) = some (.bool (decide (xs = ys))) := by
  have e : eqB (.tuple (xs.map f)) (.tuple (ys.map f)) = if SeqAt.shaped (.tuple (xs.map f)) && SeqAt.shaped (.tuple (ys.map f)) then some (PyData.eqv (.tuple (xs.map f)) (.tuple (ys.map f))) else none := rfl
  unfold eqD
  rw [e, (gr_tup G).shaped (by omega) xs, (gr_tup G).shaped (by omega) ys, (gr_tup G).eqv xs ys]
  rfl
theorem neD_of {d e : D} {b : Bool} (h : eqD d e = some (.bool b)) : neD d e = some (.bool (!b)) := by
  unfold eqD at h
  unfold neD
  cases q : eqB d e with
  | none => rw [q] at h; cases h
  | some c => rw [q] at h; cases h; rfl
theorem neD_l (G : Gr n f) (h : n ≤ 63) (xs ys : List α) : neD (.list (xs.map f)) (.list (ys.map f)) = some (.bool (!decide (xs = ys))) := neD_of (eqD_l G h xs ys)
theorem neD_t (G : Gr n f) (h : n ≤ 63) (xs ys : List α) : neD (.tuple (xs.map f)) (.tuple (ys.map f)) = some (.bool (!decide (xs = ys))) := neD_of (eqD_t G h xs ys)
end
@[simp] theorem eqD_il {xs ys : List Int} : eqD (.list (xs.map .int)) (.list (ys.map .int)) = some (.bool (decide (xs = ys))) := eqD_l gr_int (by decide) xs ys
@[simp] theorem neD_il {xs ys : List Int} : neD (.list (xs.map .int)) (.list (ys.map .int)) = some (.bool (!decide (xs = ys))) := neD_l gr_int (by decide) xs ys
@[simp] theorem eqD_it {xs ys : List Int} : eqD (.tuple (xs.map .int)) (.tuple (ys.map .int)) = some (.bool (decide (xs = ys))) := eqD_t gr_int (by decide) xs ys
@[simp] theorem neD_it {xs ys : List Int} : neD (.tuple (xs.map .int)) (.tuple (ys.map .int)) = some (.bool (!decide (xs = ys))) := neD_t gr_int (by decide) xs ys
def retO : Option S → Fr → Nat → Out
  | some (.own (.lst ds)), ρ, i => .retL ds (ρ.set i .none)
  | _, _, _ => .stuck
@[simp] theorem retO_own {ds : List D} {ρ : Fr} {i : Nat} : retO (some (.own (.lst ds))) ρ i = .retL ds (ρ.set i .none) := rfl
@[simp] theorem sRetO_ap {ρ : Fr} {i : Nat} : sRetO i ρ = retO ρ[i]? ρ i := by
  unfold sRetO retO
  cases ρ[i]? with
  | none => rfl
  | some s => cases s with
    | own o => cases o <;> rfl
    | _ => rfl
def resM (m : M (List D × D)) (k : List D × D → Out) : Out := match m with
  | .ok r => k r
  | _ => .stuck
@[simp] theorem resM_ok {r : List D × D} {k : List D × D → Out} : resM (.ok r) k = k r := rfl
@[simp] theorem sCallM_ap {i : Nat} {f : List D → M (List D × D)} {as : ML} {k : D → Fr → Out} {ρ : Fr} : sCallM i f as k ρ = Out.ofO (ownAt i ρ) fun _ => Out.of (as ρ) ρ fun ds => resM (f ds) fun r => k r.2 (putL i r.1 ρ) := rfl
@[simp] theorem noX_ok {α : Type} {x : α} : noX (M.ok x) = .ok x := rfl
@[simp] theorem eCallT_ap {f : List D → M (List D × D)} {as : ML} {ρ : Fr} : eCallT f as ρ = (as ρ).bind fun ds => (noX (f ds)).bind fun r => .ok r.2 := rfl
def isEr : Option S → M D → M D
  | some (.err _), m => m
  | _, _ => .stuck
@[simp] theorem isEr_err {n : Str} {m : M D} : isEr (some (.err n)) m = m := rfl
@[simp] theorem eIsE_ap {i : Nat} {tab : List (Str × Bool)} {n : Str} {ρ : Fr} : eIsE i tab n ρ = isEr ρ[i]? (lift ((lk tab n).map .bool)) := by
  unfold eIsE isEr
  cases ρ[i]? with
  | none => rfl
  | some s => cases s <;> rfl
/-- the exception or the rest -/
def onExc (o : Out) (h : Str → Fr → Out) : Out := match o with
  | .exc n ρ => h n ρ
  | o => o
@[simp] theorem onExc_exc {n : Str} {ρ : Fr} {h : Str → Fr → Out} : onExc (.exc n ρ) h = h n ρ := rfl
@[simp] theorem onExc_nx {ρ : Fr} {h : Str → Fr → Out} : onExc (.nx ρ) h = .nx ρ := rfl
@[simp] theorem onExc_ret {ρ : Fr} {d : D} {h : Str → Fr → Out} : onExc (.ret d ρ) h = .ret d ρ := rfl
def hitE (o : Option Bool) (a b : Out) : Out := match o with
  | some true => a
  | some false => b
  | none => .stuck
@[simp] theorem hitE_t {a b : Out} : hitE (some true) a b = a := rfl
@[simp] theorem hitE_f {a b : Out} : hitE (some false) a b = b := rfl
@[simp] theorem sTryAs_ap {i : Nat} {tab : List (Str × Bool)} {gb : MS} {gs : Str → MS} {ρ : Fr} : sTryAs i tab gb gs ρ = onExc (gb ρ) fun n ρ' => hitE (lk tab n) (if noErr ρ' = true then outE i (gs n (ρ'.set i (.err n))) else .stuck) (.exc n ρ') := by
  unfold sTryAs onExc hitE
  cases gb ρ with
  | exc n ρ' => cases q : lk tab n with
    | none => simp [q]
    | some b => cases b <;> simp [q]
  | _ => rfl
def calm (o : Out) : Out := match o with
  | .exc _ _ => .stuck
  | o => o
@[simp] theorem calm_nx {ρ : Fr} : calm (.nx ρ) = .nx ρ := rfl
@[simp] theorem calm_ret {ρ : Fr} {d : D} : calm (.ret d ρ) = .ret d ρ := rfl
@[simp] theorem sTryOnly_ap {tab : List (Str × Bool)} {gb gs : MS} {ρ : Fr} : sTryOnly tab gb gs ρ = onExc (gb ρ) fun n ρ' => hitE (lk tab n) (calm (gs ρ')) (.exc n ρ') := by
  unfold sTryOnly onExc hitE
  cases gb ρ with
  | exc n ρ' => cases q : lk tab n with
    | none => simp [q]
    | some b => cases b <;> simp [q, calm] <;> cases gs ρ' <;> rfl
  | _ => rfl
@[simp] theorem outE_nx {i : Nat} {ρ : Fr} : outE i (.nx ρ) = if noErr (ρ.set i .none) = true then .nx (ρ.set i .none) else .stuck := rfl
@[simp] theorem outE_ret {i : Nat} {ρ : Fr} {d : D} : outE i (.ret d ρ) = if noErr (ρ.set i .none) = true then .ret d (ρ.set i .none) else .stuck := rfl
@[simp] theorem noErr_nil : noErr [] = true := rfl
@[simp] theorem noErr_cons {s : S} {ρ : Fr} : noErr (s :: ρ) = (!isErr s && noErr ρ) := rfl
@[simp] theorem isErr_none : isErr .none = false := rfl
@[simp] theorem isErr_val {d : D} : isErr (.val d) = false := rfl
@[simp] theorem isErr_own {d : OD} : isErr (.own d) = false := rfl
@[simp] theorem isErr_pin {d : OD} : isErr (.pin d) = false := rfl
@[simp] theorem isErr_err {n : Str} : isErr (.err n) = true := rfl
@[simp] theorem slD_l {ds : List D} {lo hi : Option Int} : slD (.list ds) lo hi = some (.list (cutL ds lo hi)) := Eq.trans rfl rfl
@[simp] theorem slD_t {ds : List D} {lo hi : Option Int} : slD (.tuple ds) lo hi = some (.tuple (cutL ds lo hi)) := Eq.trans rfl rfl
@[simp] theorem slD_s {ns : List Int} {lo hi : Option Int} : slD (scrD ns) lo hi = some (.list (cutL (ns.map .int) lo hi)) := Eq.trans rfl rfl
@[simp] theorem slLD_l {ds : List D} {lo hi : Option Int} : slLD (.list ds) lo hi = some (cutL ds lo hi) := rfl
@[simp] theorem slLD_s {ns : List Int} {lo hi : Option Int} : slLD (scrD ns) lo hi = some (cutL (ns.map .int) lo hi) := rfl
theorem cutL_from {α : Type} (xs : List α) (k : Nat) : cutL xs (some (k : Int)) none = xs.drop k := by
  unfold cutL
  have e : HT.sIx xs.length xs.length none = xs.length := by unfold HT.sIx; rfl
  have e2 : HT.sIx xs.length 0 (some (k : Int)) = min k xs.length := by
    unfold HT.sIx
    simp
    try omega
  rw [e, e2]
  by_cases h : k ≤ xs.length
  · rw [Nat.min_eq_left h, List.take_of_length_le]
    simp
  · rw [Nat.min_eq_right (by omega), List.drop_eq_nil_of_le (by omega), List.drop_eq_nil_of_le (by omega), List.take_nil]
@[simp] theorem appM_ok {ds : List D} {e : D} (h : ds.length < 16777216) : appM ds [e] = some (ds ++ [e], .none) := if_pos (show ds.length < sizeLine from h)
@[simp] theorem extM_ok {ds es : List D} (h : ds.length + es.length ≤ 16777216) : extM ds [.list es] = some (ds ++ es, .none) := if_pos (show ds.length + es.length ≤ sizeLine from h)
theorem insM_ok {ds : List D} {i : Int} {y : D} (h : ds.length < 16777216) (h0 : 0 ≤ i) (h1 : i ≤ 1000000000) : insM ds [.int i, y] = some (ds.take i.toNat ++ [y] ++ ds.drop i.toNat, .none) := if_pos ⟨h, h0, in63 (by omega)⟩
theorem popAtM_ok {ds : List D} {i : Nat} (h : i < ds.length) (h1 : i ≤ 1000000000) : popAtM ds [.int (i : Int)] = some (ds.eraseIdx i, ds[i]) := by
  unfold popAtM
  refine (if_pos (in63 (by omega))).trans ?_
  have e : seqIndex? (i : Int) ds.length = some i := by
    unfold seqIndex?
    simp
    omega
  rw [e]
  simp [List.getElem?_eq_getElem h]
@[simp] theorem mulD_rep {ds : List D} {k : Nat} (h : ds.length * k ≤ 16777216) (h1 : k ≤ 1000000000) : mulD (.list ds) (.int (k : Int)) = some (.list (List.replicate k ds).flatten) := by
  refine (if_pos ⟨in63 (by omega), by rw [show ((k : Int)).toNat = k from rfl]; exact h⟩).trans ?_
  simp
@[simp] theorem addD_l {a b : List D} (h : a.length + b.length ≤ 16777216) : addD (.list a) (.list b) = some (.list (a ++ b)) := if_pos (show _ ≤ sizeLine from h)
@[simp] theorem addD_t {a b : List D} (h : a.length + b.length ≤ 16777216) : addD (.tuple a) (.tuple b) = some (.tuple (a ++ b)) := if_pos (show _ ≤ sizeLine from h)
theorem atI_nat {α : Type} {xs : List α} {i : Int} (h0 : 0 ≤ i) (h : i < xs.length) : atI xs i = xs[i.toNat]? := by
  unfold atI ixN
  rw [if_pos h0, if_pos h]
  rfl
theorem ixD_il {ms : List Int} {i : Int} {v : Int} (h0 : 0 ≤ i) (h : ms[i.toNat]? = some v) : ixD (.list (ms.map .int)) (.int i) = some (.int v) := by
  have hl : i.toNat < ms.length := (List.getElem?_eq_some_iff.mp h).1
  show atI (ms.map PyData.int) i = _
  rw [atI_nat h0 (by rw [List.length_map]; omega), List.getElem?_map, h]
  rfl
theorem ixD_it {ms : List Int} {i : Int} {v : Int} (h0 : 0 ≤ i) (h : ms[i.toNat]? = some v) : ixD (.tuple (ms.map .int)) (.int i) = some (.int v) := by
  have hl : i.toNat < ms.length := (List.getElem?_eq_some_iff.mp h).1
  show atI (ms.map PyData.int) i = _
  rw [atI_nat h0 (by rw [List.length_map]; omega), List.getElem?_map, h]
  rfl
theorem ixD_is {ms : List Int} {i : Int} {v : Int} (h0 : 0 ≤ i) (h : ms[i.toNat]? = some v) : ixD (scrD ms) (.int i) = some (.int v) := by
  have hl : i.toNat < ms.length := (List.getElem?_eq_some_iff.mp h).1
  show atI (ms.map PyData.int) i = _
  rw [atI_nat h0 (by rw [List.length_map]; omega), List.getElem?_map, h]
  rfl
theorem setL_int {ms : List Int} {i : Int} {v : Int} (h0 : 0 ≤ i) (h : i < ms.length) : setL (ms.map .int) (.int i) (.int v) = some ((ms.set i.toNat v).map .int) := by
  unfold setL
  simp [ixN, h0, h, List.map_set]
end Dn
set_option Elab.async false
set_option linter.all false
set_option maxRecDepth 100000
set_option maxHeartbeats 4000000
namespace Dn
open PySem L2
theorem fuel_is : fuel = 1000000 := by unfold fuel; rfl
theorem loopWhile_inv {tf : MT} {g : MS} {Post : Out → Prop} (I : Nat → Fr → Prop)
    (hs : ∀ m ρ, I m ρ → (tf ρ = .ok false ∧ Post (.nx ρ)) ∨ (tf ρ = .ok true ∧ Turn' Post (fun ρ' => ∃ m', m' < m ∧ I m' ρ') (g ρ))) : ∀ (n m : Nat) (ρ : Fr), m < n → I m ρ → Post (loopWhile tf g n ρ)
  | 0, m, ρ, h, _ => by omega
  | n + 1, m, ρ, h, hi => by
    unfold loopWhile
    rcases hs m ρ hi with ⟨e, p⟩ | ⟨e, p⟩
    · rw [e]
      exact p
    · rw [e]
      rw [of_ok, if_pos rfl]
      cases q : g ρ with
      | nx ρ' => rw [q] at p; obtain ⟨m', hm, hi'⟩ := p; exact loopWhile_inv I hs n m' ρ' (by omega) hi'
      | cont ρ' => rw [q] at p; obtain ⟨m', hm, hi'⟩ := p; exact loopWhile_inv I hs n m' ρ' (by omega) hi'
      | brk ρ' => rw [q] at p; exact p
      | ret d ρ => rw [q] at p; exact p
      | retL d ρ => rw [q] at p; exact p
      | exc n ρ => rw [q] at p; exact p
      | stuck => rw [q] at p; exact p
/-- while, by an invariant that tells how many turns are left at most -/
theorem while_inv {tf : MT} {g : MS} {Post : Out → Prop} {ρ : Fr} (I : Nat → Fr → Prop) (m : Nat) (h0 : I m ρ) (hm : m < 1000000)
    (hs : ∀ m ρ, I m ρ → (tf ρ = .ok false ∧ Post (.nx ρ)) ∨ (tf ρ = .ok true ∧ Turn' Post (fun ρ' => ∃ m', m' < m ∧ I m' ρ') (g ρ))) : Post (sWhile tf g ρ) :=
  loopWhile_inv I hs fuel m ρ (by rw [fuel_is]; exact hm) h0
end Dn
set_option Elab.async false
set_option linter.all false
set_option maxRecDepth 100000
set_option maxHeartbeats 4000000
namespace Dn
open PySem PySem.Spec PyProof.Rows L2
def keepS : S → S
  | .err n => .val (excD n)
  | s => s
/-- no error but n -/
def errOnly (n : Str) (ρ : Fr) : Bool := ρ.all fun s => match s with
  | .err m => decide (m = n)
  | _ => true
def outK (i : Nat) (n : Str) : Out → Out
  | .nx ρ => if errOnly n ρ = true then .nx ((ρ.set i .none).map keepS) else .stuck
  | .brk ρ => if errOnly n ρ = true then .brk ((ρ.set i .none).map keepS) else .stuck
  | .cont ρ => if errOnly n ρ = true then .cont ((ρ.set i .none).map keepS) else .stuck
  | .ret d ρ => if errOnly n ρ = true then .ret d ((ρ.set i .none).map keepS) else .stuck
  | _ => .stuck
def sTryK (i : Nat) (tab : List (Str × Bool)) (gb : MS) (gs : Str → MS) : MS := fun ρ => match gb ρ with
  | .exc n ρ' => match lk tab n with
    | some true => if noErr ρ' = true then outK i n (gs n (ρ'.set i (.err n))) else .stuck
    | some false => .exc n ρ'
    | none => .stuck
  | o => o
/-- j = e, in the suite -/
def sErr (j i : Nat) : MS := fun ρ => match ρ[i]? with
  | some (.err n) => .nx (ρ.set j (.err n))
  | _ => .stuck
/-- isinstance(d, X): d an error that is held, or None -/
def isvD (tab : List (Str × Bool)) : D → Option D
  | .none => some (.bool false)
  | .dict [(.int _, .str n)] => (lk tab n).map .bool
  | _ => none
section
variable {K : PySem.W.Frag} {L : Addr × Addr} {mg : Str → Option Value} {W : WX} {ta : TE} {a : ME} {tab tab' : List (Str × Bool)} {c c' : V} {u u' : Value}
/-- isinstance(d, (X, Y)) -/
def isv2D (t1 t2 : List (Str × Bool)) (d : D) : Option D := match isvD t1 d, isvD t2 d with
  | some (.bool true), some _ => some (.bool true)
  | some (.bool false), r => r
  | _, _ => none
end
end Dn
set_option Elab.async false
set_option linter.all false
set_option maxRecDepth 100000
set_option maxHeartbeats 4000000
namespace Dn
open PySem L2
def okE (n : Str) : S → Bool
  | .err m => decide (m = n)
  | _ => true
@[simp] theorem okE_none {n : Str} : okE n .none = true := rfl
@[simp] theorem okE_val {n : Str} {d : D} : okE n (.val d) = true := rfl
@[simp] theorem okE_own {n : Str} {o : OD} : okE n (.own o) = true := rfl
@[simp] theorem okE_pin {n : Str} {o : OD} : okE n (.pin o) = true := rfl
@[simp] theorem okE_err {n m : Str} : okE n (.err m) = decide (m = n) := rfl
@[simp] theorem errOnly_nil {n : Str} : errOnly n [] = true := rfl
@[simp] theorem errOnly_cons {n : Str} {s : S} {ρ : Fr} : errOnly n (s :: ρ) = (okE n s && errOnly n ρ) := by cases s <;> rfl
@[simp] theorem keepS_none : keepS .none = .none := rfl
@[simp] theorem keepS_val {d : D} : keepS (.val d) = .val d := rfl
@[simp] theorem keepS_own {o : OD} : keepS (.own o) = .own o := rfl
@[simp] theorem keepS_pin {o : OD} : keepS (.pin o) = .pin o := rfl
@[simp] theorem keepS_err {n : Str} : keepS (.err n) = .val (excD n) := rfl
@[simp] theorem outK_nx {i : Nat} {n : Str} {ρ : Fr} : outK i n (.nx ρ) = if errOnly n ρ = true then .nx ((ρ.set i .none).map keepS) else .stuck := rfl
@[simp] theorem outK_ret {i : Nat} {n : Str} {ρ : Fr} {d : D} : outK i n (.ret d ρ) = if errOnly n ρ = true then .ret d ((ρ.set i .none).map keepS) else .stuck := rfl
@[simp] theorem sTryK_ap {i : Nat} {tab : List (Str × Bool)} {gb : MS} {gs : Str → MS} {ρ : Fr} : sTryK i tab gb gs ρ = onExc (gb ρ) fun n ρ' => hitE (lk tab n) (if noErr ρ' = true then outK i n (gs n (ρ'.set i (.err n))) else .stuck) (.exc n ρ') := by
  unfold sTryK onExc hitE
  cases gb ρ with
  | exc n ρ' => cases q : lk tab n with
    | none => simp [q]
    | some b => cases b <;> simp [q]
  | _ => rfl
def errS (o : Option S) (k : Str → Out) : Out := match o with
  | some (.err n) => k n
  | _ => .stuck
@[simp] theorem errS_err {n : Str} {k : Str → Out} : errS (some (.err n)) k = k n := rfl
@[simp] theorem sErr_ap {i j : Nat} {ρ : Fr} : sErr j i ρ = errS ρ[i]? fun n => .nx (ρ.set j (.err n)) := by
  unfold sErr errS
  cases ρ[i]? with
  | none => rfl
  | some s => cases s <;> rfl
@[simp] theorem isNone_x {n : Str} : isNone (excD n) = false := rfl
@[simp] theorem isvD_none {tab : List (Str × Bool)} : isvD tab .none = some (.bool false) := rfl
@[simp] theorem isvD_x {tab : List (Str × Bool)} {n : Str} : isvD tab (excD n) = (lk tab n).map .bool := rfl
@[simp] theorem isv2D_none {tab tab' : List (Str × Bool)} : isv2D tab tab' .none = some (.bool false) := rfl
def orO : Option Bool → Option Bool → Option D
  | some true, some _ => some (.bool true)
  | some false, some b => some (.bool b)
  | _, _ => none
@[simp] theorem orO_t {b : Bool} : orO (some true) (some b) = some (.bool true) := rfl
@[simp] theorem orO_f {b : Bool} : orO (some false) (some b) = some (.bool b) := rfl
@[simp] theorem isv2D_x {tab tab' : List (Str × Bool)} {n : Str} : isv2D tab tab' (excD n) = orO (lk tab n) (lk tab' n) := by
  unfold isv2D
  rw [isvD_x, isvD_x]
  cases lk tab n with
  | none => rfl
  | some b => cases b <;> cases lk tab' n <;> rfl
end Dn
set_option Elab.async false
set_option linter.all false
set_option maxRecDepth 100000
set_option maxHeartbeats 4000000
namespace Dn
open PySem L2
theorem rng_get {n : Nat} {j : Nat} {d : D} (h : (rngL 0 (n : Int))[j]? = some d) : j < n ∧ d = .int (j : Int) := by
  unfold rngL at h
  rw [List.getElem?_map] at h
  obtain ⟨y, hy, rfl⟩ := Option.map_eq_some_iff.mp h
  obtain ⟨hl, e⟩ := List.getElem?_eq_some_iff.mp hy
  rw [List.getElem_range] at e
  rw [List.length_range] at hl
  subst e
  exact ⟨by omega, by simp⟩
theorem rng_len0 (n : Nat) : (rngL 0 (n : Int)).length = n := by rw [rng_len]; omega
theorem ixD_l {ds : List D} {i : Int} {v : D} (h0 : 0 ≤ i) (h : ds[i.toNat]? = some v) : ixD (.list ds) (.int i) = some v := by
  have hl : i.toNat < ds.length := (List.getElem?_eq_some_iff.mp h).1
  show atI ds i = _
  rw [atI_nat h0 (by omega), h]
theorem set_range_map {α : Type} (n : Nat) (f : Nat → α) (i : Nat) (v : α) : ((List.range n).map f).set i v = (List.range n).map fun j => if j = i then v else f j := by
  refine List.ext_getElem? fun j => ?_
  rw [List.getElem?_set, List.getElem?_map, List.getElem?_map]
  by_cases h : j < n
  · by_cases e : i = j
    · subst e; simp [h]
    · have e' : ¬ j = i := fun z => e z.symm
      simp [h, e, e']
  · by_cases e : i = j
    · subst e; simp [h]
    · simp [h, e]
theorem cutL_to {α : Type} (xs : List α) (k : Nat) : cutL xs none (some (k : Int)) = xs.take k := by
  unfold cutL
  have e : HT.sIx xs.length 0 none = 0 := by unfold HT.sIx; rfl
  have e2 : HT.sIx xs.length xs.length (some (k : Int)) = min k xs.length := by
    unfold HT.sIx
    simp
    try omega
  rw [e, e2, List.drop_zero]
  by_cases h : k ≤ xs.length
  · rw [Nat.min_eq_left h, Nat.sub_zero]
  · rw [Nat.min_eq_right (by omega), List.take_of_length_le (by omega), List.take_of_length_le (by omega)]
section
variable {body : D → Fr → Out} {d : D} {ds : List D} {ρ ρ' : Fr}
theorem loop_nx (h : body d ρ = .nx ρ') : loopFor body (d :: ds) ρ = loopFor body ds ρ' := by rw [loopFor, h]
end
/-- a range of the natural numbers -/
theorem rng_nat (n : Nat) : rngL 0 (n : Int) = (List.range n).map fun j : Nat => .int (j : Int) := by
  unfold rngL
  rw [show ((n : Int) - 0).toNat = n by omega]
  exact List.map_congr_left fun j _ => by rw [Int.zero_add]
theorem rng_nat2 (a b : Nat) : rngL (a : Int) (b : Int) = (List.range (b - a)).map fun j : Nat => .int ((a + j : Nat) : Int) := by
  unfold rngL
  rw [show ((b : Int) - (a : Int)).toNat = b - a by omega]
  exact List.map_congr_left fun j _ => by rw [Int.natCast_add]
@[simp] theorem iRev_ap {e : ME} {ρ : Fr} : iRev' e ρ = (e ρ).bind fun d => (itemsD d).bind fun ds => .ok ds.reverse := rfl
@[simp] theorem listD_s {ns : List Int} : listD [scrD ns] = some (ns.map .int) := rfl
end Dn
set_option Elab.async false
set_option linter.all false
set_option maxRecDepth 100000
set_option maxHeartbeats 4000000
namespace Dn
open PySem PySem.Spec PyProof.Rows L2
def key? : D → Option Key
  | .int i => some (.inl i)
  | .str x => some (.inr x)
  | _ => none
def keys? : List D → Option (List Key)
  | [] => some []
  | d :: ds => (key? d).bind fun k => (keys? ds).map (k :: ·)
def keyT? : D → Option (List Key)
  | .tuple ds => keys? ds
  | _ => none
section
variable {κ α : Type} [DecidableEq κ]
def vget (kvs : List (κ × α)) (k : κ) : Option α := (kvs.find? fun p => decide (p.1 = k)).map (·.2)
def vput (kvs : List (κ × α)) (k : κ) (v : α) : List (κ × α) := if (kvs.any fun p => decide (p.1 = k)) = true then kvs.map (fun p => if p.1 = k then (p.1, v) else p) else kvs ++ [(k, v)]
theorem vget_pos {p : κ × α} {r : List (κ × α)} {k : κ} (e : p.1 = k) : vget (p :: r) k = some p.2 := by simp [vget, List.find?_cons, e]
theorem vget_neg {p : κ × α} {r : List (κ × α)} {k : κ} (e : ¬ p.1 = k) : vget (p :: r) k = vget r k := by simp [vget, List.find?_cons, e]
theorem vget_any (k : κ) : ∀ kvs : List (κ × α), (kvs.any fun p => decide (p.1 = k)) = (vget kvs k).isSome
  | [] => rfl
  | p :: r => by
    rw [List.any_cons]
    by_cases e : p.1 = k
    · simp only [vget_pos e, decide_eq_true e, Bool.true_or, Option.isSome_some]
    · rw [vget_neg e, decide_eq_false e, Bool.false_or]; exact vget_any k r
theorem vget_map (k j : κ) (y : α) : ∀ kvs : List (κ × α), vget (kvs.map fun p => if p.1 = k then (p.1, y) else p) j = (vget kvs j).map fun x => if j = k then y else x
  | [] => rfl
  | p :: r => by
    rw [List.map_cons]
    by_cases e : p.1 = k
    · rw [if_pos e]
      by_cases e2 : p.1 = j
      · rw [vget_pos (p := (p.1, y)) e2, vget_pos e2, Option.map_some, if_pos (e2.symm.trans e)]
      · rw [vget_neg (p := (p.1, y)) e2, vget_neg e2, vget_map k j y r]
    · rw [if_neg e]
      by_cases e2 : p.1 = j
      · rw [vget_pos e2, vget_pos e2, Option.map_some, if_neg (fun z => e (e2.trans z))]
      · rw [vget_neg e2, vget_neg e2, vget_map k j y r]
theorem vget_snoc (k j : κ) (y : α) : ∀ kvs : List (κ × α), vget kvs k = none → vget (kvs ++ [(k, y)]) j = if j = k then some y else vget kvs j
  | [], _ => by
    by_cases e : k = j
    · rw [if_pos e.symm]; exact vget_pos (p := (k, y)) e
    · rw [if_neg (fun z => e z.symm)]; exact vget_neg (p := (k, y)) e
  | p :: r, hn => by
    rw [List.cons_append]
    have hk : ¬ p.1 = k := fun e => by rw [vget_pos e] at hn; cases hn
    have hr : vget r k = none := by rw [vget_neg hk] at hn; exact hn
    by_cases e : p.1 = j
    · rw [vget_pos e, vget_pos e, if_neg (fun z => hk (e.trans z))]
    · rw [vget_neg e, vget_neg e, vget_snoc k j y r hr]
theorem vget_put (kvs : List (κ × α)) (k j : κ) (y : α) : vget (vput kvs k y) j = if j = k then some y else vget kvs j := by
  unfold vput
  rw [vget_any]
  cases q : vget kvs k with
  | none => simp only [Option.isSome_none, Bool.false_eq_true, if_false]; exact vget_snoc k j y kvs q
  | some x =>
    simp only [Option.isSome_some, if_true]
    rw [vget_map]
    by_cases e : j = k
    · subst e; rw [q, if_pos rfl, Option.map_some, if_pos rfl]
    · rw [if_neg e]
      cases vget kvs j with
      | none => rfl
      | some x => rw [Option.map_some, if_neg e]
theorem vput_len (kvs : List (κ × α)) (k : κ) (y : α) : (vput kvs k y).length ≤ kvs.length + 1 := by
  unfold vput
  split
  · rw [List.length_map]; omega
  · rw [List.length_append]; exact Nat.le_refl _
end
def decK : List (D × D) → Option (List (Key × D))
  | [] => some []
  | (k, v) :: r => (key? k).bind fun k' => (decK r).map ((k', v) :: ·)
def decT : List (D × D) → Option (List (List Key × D))
  | [] => some []
  | (k, v) :: r => (keyT? k).bind fun k' => (decT r).map ((k', v) :: ·)
def od? : D → Option OD
  | .dict ((.bool false, _) :: ps) => (decK ps).map .dK
  | .dict ((.bool true, _) :: ps) => (decT ps).map .dT
  | _ => none
@[simp] theorem key_int {i : Int} : key? (.int i) = some (.inl i) := rfl
@[simp] theorem key_str {x : Str} : key? (.str x) = some (.inr x) := rfl
theorem key_keyD : ∀ k : Key, key? (keyD k) = some k
  | .inl _ => rfl
  | .inr _ => rfl
theorem keys_keyD : ∀ ks : List Key, keys? (ks.map keyD) = some ks
  | [] => rfl
  | k :: ks => by
    show (key? (keyD k)).bind (fun k => (keys? (ks.map keyD)).map (k :: ·)) = _
    rw [key_keyD, keys_keyD ks]
    rfl
theorem decK_map : ∀ kvs : List (Key × D), decK (kvs.map fun p => (keyD p.1, p.2)) = some kvs
  | [] => rfl
  | p :: r => by
    show (key? (keyD p.1)).bind (fun k' => (decK (r.map fun p => (keyD p.1, p.2))).map ((k', p.2) :: ·)) = _
    rw [key_keyD, decK_map r]
    rfl
theorem decT_map : ∀ kvs : List (List Key × D), decT (kvs.map fun p => (.tuple (p.1.map keyD), p.2)) = some kvs
  | [] => rfl
  | p :: r => by
    show (keys? (p.1.map keyD)).bind (fun k' => (decT (r.map fun p => (.tuple (p.1.map keyD), p.2))).map ((k', p.2) :: ·)) = _
    rw [keys_keyD, decT_map r]
    rfl
@[simp] theorem od_dK {kvs : List (Key × D)} : od? (.dict (dkD kvs)) = some (.dK kvs) := by
  show (decK _).map OD.dK = _
  rw [decK_map]
  rfl
@[simp] theorem od_dT {kvs : List (List Key × D)} : od? (.dict (dtD kvs)) = some (.dT kvs) := by
  show (decT _).map OD.dT = _
  rw [decT_map]
  rfl
@[simp] theorem od_kdK {kvs : List (Key × D)} : od? (.dict (kdK kvs)) = some (.dK kvs) := by
  show (decK _).map OD.dK = _
  rw [decK_map]
  rfl
@[simp] theorem od_kdT {kvs : List (List Key × D)} : od? (.dict (kdT kvs)) = some (.dT kvs) := by
  show (decT _).map OD.dT = _
  rw [decT_map]
  rfl
def odGet : OD → D → Option (Option D)
  | .dK kvs, k => (key? k).map (vget kvs)
  | .dT kvs, k => (keyT? k).map (vget kvs)
  | .lst _, _ => none
def odPut : OD → D → D → Option OD
  | .dK kvs, k, v => (key? k).bind fun k => if kvs.length < sizeLine then some (.dK (vput kvs k v)) else none
  | .dT kvs, k, v => (keyT? k).bind fun k => if kvs.length < sizeLine then some (.dT (vput kvs k v)) else none
  | .lst _, _, _ => none
section
variable {K : PySem.W.Frag} {F H : Hp}
theorem key_rep {y : V} {d : D} {k : Key} (r : RepB K F H y d) (h : key? d = some k) : y = kV k := by
  unfold key? at h
  split at h
  · cases h; exact r.isi
  · cases h; exact r.iss
  · cases h
theorem keys_rep : ∀ {xs : List V} {ds : List D} {ks : List Key}, RepL K F xs ds → keys? ds = some ks → xs = ks.map kV
  | _, [], _, .nil, h => by cases h; rfl
  | _, d :: ds, ks, .cons a r, h => by
    unfold keys? at h
    cases q : key? d with
    | none => rw [q] at h; cases h
    | some k =>
      cases q2 : keys? ds with
      | none => rw [q, q2] at h; cases h
      | some ks' =>
        rw [q, q2] at h
        cases h
        rw [key_rep (H := F) (.frz a) q, keys_rep r q2]
        rfl
theorem keyT_rep {y : V} {d : D} {ks : List Key} (ex : Ex F H) (r : RepB K F H y d) (h : keyT? d = some ks) : ∃ b, y = .ref b ∧ H b = some (.tup (ks.map kV)) := by
  unfold keyT? at h
  split at h
  · rename_i ds
    generalize hd : ((.tuple ds) : D) = d at r
    cases r with
    | frz r => subst hd; cases r with
      | tup e q => exact ⟨_, rfl, by rw [← keys_rep q h]; exact ex _ _ e⟩
    | thg e q => cases q <;> cases hd
  · cases h
theorem repK_len : ∀ {xs : List (Key × V)} {ds : List (Key × D)}, RepK K F xs ds → xs.length = ds.length
  | _, _, .nil => rfl
  | _, _, .cons _ r => by rw [List.length_cons, List.length_cons, repK_len r]
theorem repT_len : ∀ {xs : List (List Key × V)} {ds : List (List Key × D)}, RepT K F xs ds → xs.length = ds.length
  | _, _, .nil => rfl
  | _, _, .cons _ r => by rw [List.length_cons, List.length_cons, repT_len r]
/-- what is found, here and there -/
def Fnd (K : PySem.W.Frag) (F : Hp) : Option V → Option D → Prop
  | none, none => True
  | some v, some d => Rep K F v d
  | _, _ => False
theorem repK_get (k : Key) : ∀ {xs : List (Key × V)} {ds : List (Key × D)}, RepK K F xs ds → Fnd K F (valV xs k) (vget ds k)
  | _, _, .nil => trivial
  | _, _, .cons (k := k') (v := v) (d := d) a r => by
    by_cases e : k' = k
    · rw [valV_pos (p := (k', v)) e, vget_pos (p := (k', d)) e]; exact a
    · rw [valV_neg (p := (k', v)) e, vget_neg (p := (k', d)) e]; exact repK_get k r
theorem repT_get (k : List Key) : ∀ {xs : List (List Key × V)} {ds : List (List Key × D)}, RepT K F xs ds → Fnd K F (valV xs k) (vget ds k)
  | _, _, .nil => trivial
  | _, _, .cons (k := k') (v := v) (d := d) a r => by
    by_cases e : k' = k
    · rw [valV_pos (p := (k', v)) e, vget_pos (p := (k', d)) e]; exact a
    · rw [valV_neg (p := (k', v)) e, vget_neg (p := (k', d)) e]; exact repT_get k r
theorem repK_any (k : Key) {xs : List (Key × V)} {ds : List (Key × D)} (r : RepK K F xs ds) : (xs.any fun p => decide (p.1 = k)) = (ds.any fun p => decide (p.1 = k)) := by
  rw [valV_any, vget_any]
  have h := repK_get k r
  cases q : valV xs k <;> cases q2 : vget ds k <;> rw [q, q2] at h <;> first | rfl | exact h.elim
theorem repT_any (k : List Key) {xs : List (List Key × V)} {ds : List (List Key × D)} (r : RepT K F xs ds) : (xs.any fun p => decide (p.1 = k)) = (ds.any fun p => decide (p.1 = k)) := by
  rw [valV_any, vget_any]
  have h := repT_get k r
  cases q : valV xs k <;> cases q2 : vget ds k <;> rw [q, q2] at h <;> first | rfl | exact h.elim
theorem repK_app {v : V} {d : D} (k : Key) (rv : Rep K F v d) : ∀ {xs : List (Key × V)} {ds : List (Key × D)}, RepK K F xs ds → RepK K F (xs ++ [(k, v)]) (ds ++ [(k, d)])
  | _, _, .nil => .cons rv .nil
  | _, _, .cons a r => .cons a (repK_app k rv r)
theorem repT_app {v : V} {d : D} (k : List Key) (rv : Rep K F v d) : ∀ {xs : List (List Key × V)} {ds : List (List Key × D)}, RepT K F xs ds → RepT K F (xs ++ [(k, v)]) (ds ++ [(k, d)])
  | _, _, .nil => .cons rv .nil
  | _, _, .cons a r => .cons a (repT_app k rv r)
theorem repK_map {v : V} {d : D} (k : Key) (rv : Rep K F v d) : ∀ {xs : List (Key × V)} {ds : List (Key × D)}, RepK K F xs ds → RepK K F (xs.map fun p => if p.1 = k then (p.1, v) else p) (ds.map fun p => if p.1 = k then (p.1, d) else p)
  | _, _, .nil => .nil
  | _, _, .cons (k := k') a r => by
    rw [List.map_cons, List.map_cons]
    by_cases e : k' = k
    · rw [if_pos e, if_pos e]; exact .cons rv (repK_map k rv r)
    · rw [if_neg e, if_neg e]; exact .cons a (repK_map k rv r)
theorem repT_map {v : V} {d : D} (k : List Key) (rv : Rep K F v d) : ∀ {xs : List (List Key × V)} {ds : List (List Key × D)}, RepT K F xs ds → RepT K F (xs.map fun p => if p.1 = k then (p.1, v) else p) (ds.map fun p => if p.1 = k then (p.1, d) else p)
  | _, _, .nil => .nil
  | _, _, .cons (k := k') a r => by
    rw [List.map_cons, List.map_cons]
    by_cases e : k' = k
    · rw [if_pos e, if_pos e]; exact .cons rv (repT_map k rv r)
    · rw [if_neg e, if_neg e]; exact .cons a (repT_map k rv r)
theorem repK_put {v : V} {d : D} (k : Key) {xs : List (Key × V)} {ds : List (Key × D)} (r : RepK K F xs ds) (rv : Rep K F v d) : RepK K F (putK xs k v) (vput ds k d) := by
  unfold putK vput
  rw [repK_any k r]
  split
  · exact repK_map k rv r
  · exact repK_app k rv r
theorem repT_put {v : V} {d : D} (k : List Key) {xs : List (List Key × V)} {ds : List (List Key × D)} (r : RepT K F xs ds) (rv : Rep K F v d) : RepT K F (putK xs k v) (vput ds k d) := by
  unfold putK vput
  rw [repT_any k r]
  split
  · exact repT_map k rv r
  · exact repT_app k rv r
/-- a dict, as it stands -/
theorem RepB.od {v : V} {d : D} {o : OD} (ex : Ex F H) (r : RepB K F H v d) (h : od? d = some o) : ∃ a ho, v = .ref a ∧ Rd H a ho ∧ RepO K F ho o := by
  cases r with
  | frz r =>
    cases r with
    | dK e q z =>
      rw [z, od_dK] at h
      cases h
      exact ⟨_, _, rfl, .inl (ex _ _ e), .dK q⟩
    | dT e q z =>
      rw [z, od_dT] at h
      cases h
      exact ⟨_, _, rfl, .inl (ex _ _ e), .dT q⟩
    | dKf e q z =>
      rw [z, od_kdK] at h
      cases h
      exact ⟨_, _, rfl, .inr ⟨_, ex _ _ e⟩, .dK q⟩
    | dTf e q z =>
      rw [z, od_kdT] at h
      cases h
      exact ⟨_, _, rfl, .inr ⟨_, ex _ _ e⟩, .dT q⟩
    | scr _ _ z => rw [z] at h; cases h
    | ktp _ _ _ _ z => rw [z] at h; cases h
    | fnc _ z => rw [z] at h; cases h
    | exc _ _ z => rw [z] at h; cases h
    | non => cases h
    | bl _ => cases h
    | int _ => cases h
    | str _ => cases h
    | lst _ _ => cases h
    | tup _ _ => cases h
  | thg e q =>
    cases q with
    | lst r => cases h
    | dK r =>
      have h : od? (.dict (dkD _)) = some o := h
      rw [od_dK] at h
      cases h
      exact ⟨_, _, rfl, .inl e, .dK r⟩
    | dT r =>
      have h : od? (.dict (dtD _)) = some o := h
      rw [od_dT] at h
      cases h
      exact ⟨_, _, rfl, .inl e, .dT r⟩
theorem od_get {a : Addr} {ho : HO} {o : OD} {y : V} {k : D} {r : Option D} (ex : Ex F H) (e : Rd H a ho) (ro : RepO K F ho o) (ry : RepB K F H y k) (h : odGet o k = some r) : ∃ ov, DGet H a y ov ∧ Fnd K F ov r := by
  cases ro with
  | lst _ => cases h
  | dK q =>
    have h : (key? k).map (vget _) = some r := h
    cases qk : key? k with
    | none => rw [qk] at h; cases h
    | some k' =>
      rw [qk] at h
      cases h
      rw [key_rep ry qk]
      exact ⟨_, (.inl ⟨_, _, e, rfl, rfl⟩), repK_get k' q⟩
  | dT q =>
    have h : (keyT? k).map (vget _) = some r := h
    cases qk : keyT? k with
    | none => rw [qk] at h; cases h
    | some k' =>
      rw [qk] at h
      cases h
      obtain ⟨b, rfl, hb⟩ := keyT_rep ex ry qk
      exact ⟨_, (.inr ⟨_, _, _, e, rfl, hb, rfl⟩), repT_get k' q⟩
theorem od_put {a : Addr} {ho : HO} {o o' : OD} {y v : V} {k d : D} (ex : Ex F H) (e : H a = some ho) (ro : RepO K F ho o) (ry : RepB K F H y k) (rv : Rep K F v d) (h : odPut o k d = some o') : ∃ ho', DPut H a y v (upd H a ho') ∧ RepO K F ho' o' := by
  cases ro with
  | lst _ => cases h
  | @dK vs ds q =>
    have h : (key? k).bind (fun k => if ds.length < sizeLine then some (OD.dK (vput ds k d)) else none) = some o' := h
    cases qk : key? k with
    | none => rw [qk] at h; cases h
    | some k' =>
      rw [qk] at h
      have h : (if ds.length < sizeLine then some (OD.dK (vput ds k' d)) else none) = some o' := h
      split at h
      · cases h
        rw [key_rep ry qk]
        exact ⟨_, DPut.k e (by rw [repK_len q]; assumption), .dK (repK_put k' q rv)⟩
      · cases h
  | @dT vs ds q =>
    have h : (keyT? k).bind (fun k => if ds.length < sizeLine then some (OD.dT (vput ds k d)) else none) = some o' := h
    cases qk : keyT? k with
    | none => rw [qk] at h; cases h
    | some k' =>
      rw [qk] at h
      have h : (if ds.length < sizeLine then some (OD.dT (vput ds k' d)) else none) = some o' := h
      split at h
      · cases h
        obtain ⟨b, rfl, hb⟩ := keyT_rep ex ry qk
        exact ⟨_, DPut.t e hb (by rw [repT_len q]; assumption), .dT (repT_put k' q rv)⟩
      · cases h
end
def rDGet : R2 := fun x y H Q => ∃ a v, x = .ref a ∧ DGet H a y (some v) ∧ Q v H
def rDNotIn : R2 := fun y x H Q => ∃ a o, x = .ref a ∧ DGet H a y o ∧ Q (.bl (!o.isSome)) H
def dgetD (d y : D) : Option D := (od? d).bind fun o => (odGet o y).bind id
def dinD (y d : D) : Option D := (od? d).bind fun o => (odGet o y).map fun r => .bool r.isSome
def dninD (y d : D) : Option D := (od? d).bind fun o => (odGet o y).map fun r => .bool (!r.isSome)
section
variable {X : Cx} {o i e f : Expr} {td ty tx : TE} {pos apos cpos : Pos}
theorem set_dictR (hu : X.A.units + 65 < cLine) : PSet X rSetD := set_dict (by omega)
theorem pe_dgetR (hu : X.A.units + 65 < cLine) (ho : PE X o td) (hi : PE X i ty) (hs : NoSl i) : PE X (.Subscript o i pos) (tOp rDGet td ty) := pe_dget (by omega) ho hi hs
theorem pt_dninR (hu : X.A.units + 65 < cLine) (hi : PE X i ty) (ho : PE X o td) (h1 : behindInMarks .NotIn o = false := by rfl) : PT X (.Compare i [.NotIn] [o] pos) (tTest (tOp rDNotIn ty td)) := pt_cmp (pc_dnotin (by omega) hi ho) h1
end
section
variable {K : PySem.W.Frag} {L : Addr × Addr} {mg : Str → Option Value} {W : WX} {ta tb tc : TE} {a b c : ME}
theorem rd_dget : R2D K rDGet dgetD := by
  intro F H x y d e Q z ex rx ry h k
  unfold dgetD at h
  cases q : od? d with
  | none => rw [q] at h; cases h
  | some o =>
    rw [q] at h
    have h : (odGet o e).bind id = some z := h
    obtain ⟨l, ho, rfl, hl, ro⟩ := rx.od ex q
    cases q2 : odGet o e with
    | none => rw [q2] at h; cases h
    | some r =>
      rw [q2] at h
      have h : r = some z := h
      subst h
      obtain ⟨ov, g, fd⟩ := od_get ex hl ro ry q2
      cases ov with
      | none => exact fd.elim
      | some v => exact ⟨l, v, rfl, g, k.here ex fd⟩
theorem rd_dnin : R2D K rDNotIn dninD := by
  intro F H x y d e Q z ex rx ry h k
  unfold dninD at h
  cases q : od? e with
  | none => rw [q] at h; cases h
  | some o =>
    rw [q] at h
    have h : (odGet o d).map _ = some z := h
    obtain ⟨l, ho, rfl, hl, ro⟩ := ry.od ex q
    cases q2 : odGet o d with
    | none => rw [q2] at h; cases h
    | some r =>
      rw [q2] at h
      cases h
      obtain ⟨ov, g, fd⟩ := od_get ex hl ro rx q2
      refine ⟨l, ov, rfl, g, ?_⟩
      have : ov.isSome = r.isSome := by cases ov <;> cases r <;> first | rfl | exact fd.elim
      rw [this]
      exact k.here ex (.bl _)
def eGet2 (a b c : ME) : ME := fun ρ => (a ρ).bind fun x => (lift (od? x)).bind fun o => (b ρ).bind fun y => (c ρ).bind fun z => lift ((odGet o y).map fun r => r.getD z)
end
def sDNew (i : Nat) (o : OD) : MS := fun ρ => .nx (ρ.set i (.own o))
def dictAt (i : Nat) (ρ : Fr) : Option OD := match ownO ρ[i]? with
  | some (.lst _) => none
  | r => r
/-- d[k] = v in slot i -/
def sPut (i : Nat) (k e : ME) : MS := fun ρ => Out.of (e ρ) ρ fun v => Out.ofO (dictAt i ρ) fun o => Out.of (k ρ) ρ fun j => Out.ofO (odPut o j v) fun o' => .nx (putO i o' ρ)
section
variable {K : PySem.W.Frag} {L : Addr × Addr} {mg : Str → Option Value} {W : WX} {te tk : TE} {e k : ME}
theorem ds_dnewK {i : Nat} : DS K L mg W (tAsg tDNewK (gName i)) (sDNew i (.dK [])) := fun F0 H0 F H σ ρ D E w => by
  intro p hp
  exact w F _ _ (Ex.refl _) (E.seto hp (.dK .nil) i)
theorem dictAt_eq {i : Nat} {ρ : Fr} {o : OD} (h : dictAt i ρ = some o) : ownO ρ[i]? = some o ∧ ∀ ds, o ≠ .lst ds := by
  unfold dictAt at h
  split at h
  · cases h
  · rename_i hne
    exact ⟨h, fun ds z => hne ds (by rw [h, z])⟩
theorem ds_put {i : Nat} (he : DF K L mg W te e) (hk : DE K L mg W tk k) : DS K L mg W (tAsg te (gSub (tVar i) tk rSetD)) (sPut i k e) := fun F0 H0 F H σ ρ D E w => by
  refine he F0 H0 F H σ ρ _ E (post_mono (WO.of E w) (fun d w1 F1 H1 v s r => ?_) fun _ z => z)
  have E1 := E.step s
  obtain ⟨o, q, w2⟩ := WO.ofO w1
  obtain ⟨q, nl⟩ := dictAt_eq q
  obtain ⟨l, ho, el, _⟩ := E1.ownv q
  refine ⟨_, el, ?_⟩
  refine hk F0 H0 F1 H1 σ ρ _ E1 (post_mono (WO.of E1 (WO.mono s.ff w2)) (fun j w3 F2 H2 x s2 r2 => ?_) fun _ z => z)
  have E2 := E1.step s2
  obtain ⟨o', q3, w4⟩ := WO.ofO w3
  obtain ⟨l', ho', el', _, _, hl, rl, _⟩ := E2.ownv q
  rw [el] at el'
  cases el'
  obtain ⟨hn, g, ro⟩ := od_put s2.fh hl rl r2 (r.mono s2.ff) q3
  exact ⟨l, _, rfl, g, w4 F2 _ σ s2.ff (E2.mut q el ro)⟩
end
@[simp] theorem sDNew_ap {i : Nat} {o : OD} {ρ : Fr} : sDNew i o ρ = .nx (ρ.set i (.own o)) := rfl
def dictS : Option S → Option OD
  | some (.own (.lst _)) => none
  | some (.pin (.lst _)) => none
  | some (.own o) => some o
  | some (.pin o) => some o
  | _ => none
@[simp] theorem dictS_ownK {kvs : List (Key × D)} : dictS (some (.own (.dK kvs))) = some (.dK kvs) := rfl
@[simp] theorem dictS_ownT {kvs : List (List Key × D)} : dictS (some (.own (.dT kvs))) = some (.dT kvs) := rfl
@[simp] theorem dictAt_ap {i : Nat} {ρ : Fr} : dictAt i ρ = dictS ρ[i]? := by
  unfold dictAt dictS
  cases ρ[i]? with
  | none => rfl
  | some s => cases s with
    | own o => cases o <;> rfl
    | pin o => cases o <;> rfl
    | _ => rfl
def putOS : Option S → OD → S
  | some (.pin _), o => .pin o
  | _, o => .own o
@[simp] theorem putOS_own {o o' : OD} : putOS (some (.own o)) o' = .own o' := rfl
@[simp] theorem putOS_pin {o o' : OD} : putOS (some (.pin o)) o' = .pin o' := rfl
theorem putO_ap {i : Nat} {o : OD} {ρ : Fr} : putO i o ρ = ρ.set i (putOS ρ[i]? o) := by
  unfold putO putOS
  cases ρ[i]? with
  | none => rfl
  | some s => cases s <;> rfl
@[simp] theorem sPut_ap {i : Nat} {k e : ME} {ρ : Fr} : sPut i k e ρ = Out.of (e ρ) ρ fun v => Out.ofO (dictAt i ρ) fun o => Out.of (k ρ) ρ fun j => Out.ofO (odPut o j v) fun o' => .nx (ρ.set i (putOS ρ[i]? o')) := by
  unfold sPut
  simp only [putO_ap]
@[simp] theorem eGet2_ap {a b c : ME} {ρ : Fr} : eGet2 a b c ρ = (a ρ).bind fun x => (lift (od? x)).bind fun o => (b ρ).bind fun y => (c ρ).bind fun z => lift ((odGet o y).map fun r => r.getD z) := rfl
@[simp] theorem getB_ownO {o : OD} : getB (some (.own o)) = .ok o.d := rfl
@[simp] theorem od_d_L {ds : List D} : OD.d (.lst ds) = .list ds := rfl
@[simp] theorem od_d_K {kvs : List (Key × D)} : OD.d (.dK kvs) = .dict (dkD kvs) := rfl
@[simp] theorem od_d_T {kvs : List (List Key × D)} : OD.d (.dT kvs) = .dict (dtD kvs) := rfl
@[simp] theorem frzS_ownO {o : OD} {ρ : Fr} {i : Nat} : frzS (some (.own o)) ρ i = ρ.set i (.val o.d) := rfl
@[simp] theorem odGet_K {kvs : List (Key × D)} {k : D} : odGet (.dK kvs) k = (key? k).map (vget kvs) := rfl
@[simp] theorem odGet_T {kvs : List (List Key × D)} {k : D} : odGet (.dT kvs) k = (keyT? k).map (vget kvs) := rfl
@[simp] theorem dgetD_K {kvs : List (Key × D)} {i : Int} : dgetD (.dict (dkD kvs)) (.int i) = vget kvs (.inl i) := by
  unfold dgetD
  rw [od_dK]
  rfl
@[simp] theorem dinD_K {kvs : List (Key × D)} {i : Int} : dinD (.int i) (.dict (dkD kvs)) = some (.bool (vget kvs (.inl i)).isSome) := by
  unfold dinD
  rw [od_dK]
  rfl
@[simp] theorem dninD_K {kvs : List (Key × D)} {i : Int} : dninD (.int i) (.dict (dkD kvs)) = some (.bool (!(vget kvs (.inl i)).isSome)) := by
  unfold dninD
  rw [od_dK]
  rfl
theorem odPut_K {kvs : List (Key × D)} {i : Int} {v : D} (h : kvs.length < 16777216) : odPut (.dK kvs) (.int i) v = some (.dK (vput kvs (.inl i) v)) := if_pos (show kvs.length < sizeLine from h)
/-- ints as keys: those that are there -/
def inK (kvs : List (Key × D)) (i : Int) : Bool := (vget kvs (.inl i)).isSome
theorem inK_put {kvs : List (Key × D)} {i j : Int} {v : D} : inK (vput kvs (.inl i) v) j = (decide (j = i) || inK kvs j) := by
  unfold inK
  rw [vget_put]
  by_cases h : j = i
  · subst h; simp
  · have : ¬ (Sum.inl j : Key) = Sum.inl i := fun z => h (Sum.inl.inj z)
    rw [if_neg this]
    simp [h]
theorem inK_nil {i : Int} : inK [] i = false := rfl
end Dn
set_option Elab.async false
set_option linter.all false
set_option maxRecDepth 100000
set_option maxHeartbeats 4000000
namespace Dn
open PySem PySem.Spec PyProof.Rows L2 RT
section
variable {X : Cx}
/-- list(reversed(x)) -/
def lrD : D → Option (List D)
  | .list ds => some ds.reverse
  | _ => none
def eLR (a : ME) : ML := fun ρ => (a ρ).bind fun d => lift (lrD d)
variable {K : PySem.W.Frag} {L : Addr × Addr} {mg : Str → Option Value} {W : WX} {ta : TE} {a : ME}
@[simp] theorem eLR_ap {ρ : Fr} : eLR a ρ = (a ρ).bind fun d => lift (lrD d) := rfl
@[simp] theorem lrD_l {ds : List D} : lrD (.list ds) = some ds.reverse := rfl
end
end Dn
set_option Elab.async false
set_option linter.all false
set_option maxRecDepth 100000
set_option maxHeartbeats 4000000
namespace Dn
open PySem PySem.Spec PyProof.Rows L2
def isL : D → Bool
  | .list _ => true
  | .dict [(.none, .list _)] => true
  | _ => false
/-- a method of a list that is read -/
def eML (f : D → List D → Option D) (a : ME) (as : ML) : ME := fun ρ => (a ρ).bind fun d => if isL d = true then (as ρ).bind fun ds => lift (f d ds) else .stuck
section
variable {K : PySem.W.Frag} {L : Addr × Addr} {mg : Str → Option Value} {W : WX} {ta tb : TE} {a b : ME} {tas : TA} {as : ML}
def strs? : List D → Option (List Str)
  | [] => some []
  | .str x :: ds => (strs? ds).map (x :: ·)
  | _ => none
@[simp] theorem strs?_map (xs : List Str) : strs? (xs.map PyData.str) = some xs := by
  induction xs with
  | nil => rfl
  | cons n ns ih => show (strs? (ns.map PyData.str)).map (n :: ·) = some (n :: ns); rw [ih]; rfl
theorem strs?_eq : ∀ {ds : List D} {xs : List Str}, strs? ds = some xs → ds = xs.map PyData.str
  | [], _, h => by cases h; rfl
  | .str i :: ds, ns, h => by
    unfold strs? at h
    cases q : strs? ds with
    | none => rw [q] at h; cases h
    | some ms => rw [q] at h; cases h; rw [strs?_eq q]; rfl
  | .none :: _, _, h => by cases h
  | .bool _ :: _, _, h => by cases h
  | .int _ :: _, _, h => by cases h
  | .list _ :: _, _, h => by cases h
  | .tuple _ :: _, _, h => by cases h
  | .dict _ :: _, _, h => by cases h
theorem repL_strs {F : Hp} (xs : List Str) : RepL K F (xs.map V.str) (xs.map PyData.str) := by
  induction xs with
  | nil => exact .nil
  | cons n ns ih => exact .cons (.str n) ih
theorem RepL.strs {F : Hp} {vs : List V} {xs : List Str} (h : RepL K F vs (xs.map PyData.str)) : vs = xs.map V.str := by
  induction xs generalizing vs with
  | nil => cases h; rfl
  | cons n ns ih =>
    cases h with
    | cons a r => cases a; rw [ih r]; rfl
def isS : D → Bool
  | .str _ => true
  | _ => false
theorem isS_ty {F H : Hp} {x : V} {d : D} (r : RepB K F H x d) (h : isS d = true) : ∃ a, x = .str a := by
  unfold isS at h
  split at h
  · exact ⟨_, r.iss⟩
  · cases h
def eM1 (f : D → D → Option D) (a b : ME) : ME := fun ρ => (a ρ).bind fun d => if isS d = true then (b ρ).bind fun e => lift (f d e) else .stuck
def eM1L (f : D → D → Option (List D)) (a b : ME) : ML := fun ρ => (a ρ).bind fun d => if isS d = true then (b ρ).bind fun e => lift (f d e) else .stuck
def R1S (K : PySem.W.Frag) (r : V → List V → Hp → VK → Prop) (f : D → D → Option D) : Prop := ∀ F H x y d e Q z, Ex F H → RepB K F H x d → RepB K F H y e → f d e = some z → WF K F H z Q → r x [y] H Q
def R1SL (K : PySem.W.Frag) (r : V → List V → Hp → VK → Prop) (f : D → D → Option (List D)) : Prop := ∀ F H x y d e Q z, Ex F H → RepB K F H x d → RepB K F H y e → f d e = some z → WN K F H z Q → r x [y] H Q
theorem df_m1 {r : V → List V → Hp → VK → Prop} {f : D → D → Option D} (hr : R1S K r f) (ha : DE K L mg W ta a) (hb : DE K L mg W tb b) : DF K L mg W (tM1 r ta tb) (eM1 f a b) := fun F0 H0 F H σ ρ Q E p => by
  refine ha F0 H0 F H σ ρ _ E (post_mono (post_bind p) (fun d k F1 H1 x s1 r1 => ?_) fun _ z => z)
  split at k
  · rename_i hl
    refine ⟨isS_ty r1 hl, ?_⟩
    refine hb F0 H0 F1 H1 σ ρ _ (E.step s1) (post_mono (post_bind k) (fun e k2 F2 H2 y s2 r2 => ?_) fun n z => WE'.on s1 z)
    obtain ⟨z, ez, k3⟩ := post_lift k2
    exact hr F2 H2 x y d e Q z s2.fh (r1.step s2) r2 ez (WF.on (s1.trans s2) k3)
  · exact k.elim
theorem dl_m1 {r : V → List V → Hp → VK → Prop} {f : D → D → Option (List D)} (hr : R1SL K r f) (ha : DE K L mg W ta a) (hb : DE K L mg W tb b) : DL K L mg W (tM1 r ta tb) (eM1L f a b) := fun F0 H0 F H σ ρ Q E p => by
  refine ha F0 H0 F H σ ρ _ E (post_mono (post_bind p) (fun d k F1 H1 x s1 r1 => ?_) fun _ z => z)
  split at k
  · rename_i hl
    refine ⟨isS_ty r1 hl, ?_⟩
    refine hb F0 H0 F1 H1 σ ρ _ (E.step s1) (post_mono (post_bind k) (fun e k2 F2 H2 y s2 r2 => ?_) fun n z => WE'.on s1 z)
    obtain ⟨z, ez, k3⟩ := post_lift k2
    exact hr F2 H2 x y d e Q z s2.fh (r1.step s2) r2 ez (WN.on (s1.trans s2) k3)
  · exact k.elim
def rJoin (K : PySem.W.Frag) : V → List V → Hp → VK → Prop := fun x xs H Q => ∃ a p, ∃ ys : List Str, x = .str a ∧ xs = [.ref p] ∧ (SqL K H p (ys.map V.str) ∨ SqT K H p (ys.map V.str)) ∧
  (ys.map (·.length)).sum + ys.length * a.length ≤ 16777216 ∧ Q (.str (Txt.join a ys)) H
def rSplit : V → List V → Hp → VK → Prop := fun x xs H Q => ∃ a b, x = .str a ∧ xs = [.str b] ∧ (b.length == 0) = false ∧ a.length + 2 ≤ sizeLine ∧ rNewStrs (Txt.split a b) H Q
def joinD : D → D → Option D
  | .str a, d => (seq? d).bind fun ds => (strs? ds).bind fun ys => if (ys.map (·.length)).sum + ys.length * a.length ≤ 16777216 then some (.str (Txt.join a ys)) else none
  | _, _ => none
def splitD : D → D → Option (List D)
  | .str a, .str b => if (b.length == 0) = false ∧ a.length + 2 ≤ 16777216 then some ((Txt.split a b).map .str) else none
  | _, _ => none
theorem rs_join : R1S K (rJoin K) joinD := by
  intro F H x y d e Q z ex rx ry h k
  unfold joinD at h
  split at h
  · rename_i a
    obtain rfl := rx.iss
    cases q : seq? e with
    | none => rw [q] at h; cases h
    | some ds =>
      rw [q] at h
      cases q2 : strs? ds with
      | none =>
        have h : (strs? ds).bind _ = some z := h
        rw [q2] at h; cases h
      | some ys =>
        have h : (strs? ds).bind _ = some z := h
        rw [q2] at h
        have h : (if _ then _ else _) = some z := h
        split at h
        · cases h
          obtain ⟨l, vs, rfl, hv, rv⟩ := ry.seq ex q
          obtain rfl := strs?_eq q2
          obtain rfl := rv.strs
          exact ⟨a, l, ys, rfl, rfl, hv, by assumption, k.here ex (.str _)⟩
        · cases h
  · cases h
theorem rs_split : R1SL K rSplit splitD := by
  intro F H x y d e Q z ex rx ry h k
  unfold splitD at h
  split at h
  · split at h
    · rename_i a b c
      cases h
      obtain rfl := rx.iss
      obtain rfl := ry.iss
      exact ⟨a, b, rfl, rfl, c.1, c.2, k.new ex (repL_strs _)⟩
    · cases h
  · cases h
end
section
variable {X : Cx} {K : PySem.W.Frag} {o e : Expr} {to te : TE} {apos pos : Pos}
theorem pe_joinK (ho : PE X o to) (he : PE X e te) (h : X.K = K := by rfl) (hs : starEach [e] X.env = [(false, eval e X.env)] := by rfl) (hbase : attributeBase o "join" X.env (eval o X.env) = eval o X.env := by rfl) (hline : (apos.endLine == pos.line) = true := by rfl) :
    PE X (.Call (.Attribute o "join" apos) [e] [] pos) (tM1 (rJoin K) to te) := h ▸ pe_join ho he hs hbase hline
theorem pe_splitK (ho : PE X o to) (he : PE X e te) (hs : starEach [e] X.env = [(false, eval e X.env)] := by rfl) (hbase : attributeBase o "split" X.env (eval o X.env) = eval o X.env := by rfl) (hline : (apos.endLine == pos.line) = true := by rfl) :
    PE X (.Call (.Attribute o "split" apos) [e] [] pos) (tM1 rSplit to te) := pe_split ho he hs hbase hline
end
section
variable {a b : ME} {as : ML} {ρ : Fr}
@[simp] theorem eML_ap {f : D → List D → Option D} : eML f a as ρ = (a ρ).bind fun d => if isL d = true then (as ρ).bind fun ds => lift (f d ds) else .stuck := rfl
@[simp] theorem eM1_ap {f : D → D → Option D} : eM1 f a b ρ = (a ρ).bind fun d => if isS d = true then (b ρ).bind fun e => lift (f d e) else .stuck := rfl
@[simp] theorem eM1L_ap {f : D → D → Option (List D)} : eM1L f a b ρ = (a ρ).bind fun d => if isS d = true then (b ρ).bind fun e => lift (f d e) else .stuck := rfl
@[simp] theorem isL_l {ds : List D} : isL (.list ds) = true := rfl
@[simp] theorem isS_s {x : Str} : isS (.str x) = true := rfl
end
end Dn
set_option Elab.async false
set_option linter.all false
set_option maxRecDepth 100000
set_option maxHeartbeats 4000000
namespace Dn
open PySem PySem.Spec PyProof.Rows L2
def eCsL (g : D → D → Option D) (b : ME) : D → ME := fun x ρ => (b ρ).bind fun y => lift (g x y)
def eCsC (g : D → D → Option D) (b : ME) (t : D → ME) : D → ME := fun x ρ => (b ρ).bind fun y => (lift (g x y)).bind fun z => (toB z).bind fun k => if k = true then t y ρ else .ok (.bool false)
def eChs (a : ME) (t : D → ME) : ME := fun ρ => (a ρ).bind fun x => t x ρ
@[simp] theorem eCsL_ap {g : D → D → Option D} {b : ME} {x : D} {ρ : Fr} : eCsL g b x ρ = (b ρ).bind fun y => lift (g x y) := rfl
@[simp] theorem eCsC_ap {g : D → D → Option D} {b : ME} {t : D → ME} {x : D} {ρ : Fr} : eCsC g b t x ρ = (b ρ).bind fun y => (lift (g x y)).bind fun z => (toB z).bind fun k => if k = true then t y ρ else .ok (.bool false) := rfl
@[simp] theorem eChs_ap {a : ME} {t : D → ME} {ρ : Fr} : eChs a t ρ = (a ρ).bind fun x => t x ρ := rfl
def oStr : List V → Hp → VK → Prop := fun xs H Q => (∃ i : Int, xs = [.int i] ∧ i.natAbs.log2 < 1920 ∧ Q (.str (toString i)) H) ∨ ∃ a : Str, xs = [.str a] ∧ Q (.str a) H
theorem call_strU {X : Cx} : CallR X (.type "str") oStr := by
  intro pins s σ H xs us Q I r h
  rcases h with h | h
  · exact call_str_int pins s σ H xs us Q I r h
  · exact SkE.call_str_str pins s σ H xs us Q I r h
def strD : List D → Option D
  | [.int i] => if i.natAbs.log2 < 1920 then some (.str (toString i)) else none
  | [.str a] => some (.str a)
  | _ => none
theorem rc_str {K : PySem.W.Frag} : RCD K oStr strD := by
  intro F H xs ds Q z ex r h k
  unfold strD at h
  split at h
  · rename_i i
    split at h
    · rename_i hl
      cases h
      obtain ⟨x, rfl, rx⟩ := r.one
      obtain rfl := rx.isi
      exact .inl ⟨i, rfl, hl, k.here ex (.str _)⟩
    · cases h
  · rename_i a
    cases h
    obtain ⟨x, rfl, rx⟩ := r.one
    obtain rfl := rx.iss
    exact .inr ⟨a, rfl, k.here ex (.str _)⟩
  · cases h
theorem log_lt62 {n : Nat} (h : n < 4611686018427387905) : n.log2 < 1920 := by
  by_cases z : n = 0
  · subst z; decide
  · have := (Nat.log2_lt z (k := 63)).mpr (by omega)
    omega
@[simp] theorem strD_int {i : Int} (h : In62 i) : strD [.int i] = some (.str (toString i)) := by
  unfold In62 at h
  refine if_pos (log_lt62 ?_)
  obtain ⟨h1, h2⟩ := h
  omega
@[simp] theorem strD_str {a : Str} : strD [.str a] = some (.str a) := rfl
end Dn
set_option Elab.async false
set_option linter.all false
set_option maxRecDepth 100000
set_option maxHeartbeats 4000000
namespace Dn.SrtT
open PySem PyProof.Rows Srt SrtO
section
variable {prog : Program} {w : World} {A : Around} {E : Value → Shared → Prop} {s : Shared}
theorem collect_tup {l : Addr} {vs : List Value} {Q : List Value → Shared → Prop} (hl : ∃ o n, s.heap.get? l = some o ∧ o.cls = .type "tuple" ∧ o.data = .seq vs.toArray n)
    (h : Q vs { s with heap := (s.heap.push (seqObj "list" #[] 0)).update s.heap.objs.size (Obj.mapSeq (· ++ vs.toArray)) }) (hsz : vs.length ≤ sizeLine) :
    wpAny (model prog w) A (collect (.ref l)) Q E s := by
  obtain ⟨o, n, ho, hc, hd⟩ := hl
  unfold collect
  refine wpAny_bind (wpAny_runValue (codeAny_builtin entry_proto_collect' ?_))
  show wpAny _ _ (do again (.builtin "list.__iadd__" ⟨[← newList [], .ref l], []⟩)) _ _ s
  refine wpAny_bind (wpAny_newList (wpAny_pure ⟨Code.quiet_builtin _ (by decide +kernel), codeAny_builtin entry_list_iadd' ?_⟩))
  show wpAny _ _ (Builtin.List.listExtendWith (.ref s.heap.objs.size) (.ref l) (.ref s.heap.objs.size)) _ _ { s with heap := s.heap.push (seqObj "list" #[] 0) }
  unfold Builtin.List.listExtendWith
  have ho' : (s.heap.push (seqObj "list" #[] 0)).get? l = some o := Heap.get?_push_of_some _ ho
  refine wpAny_bind (wpAny_typeOf (T := "tuple") ⟨o, ho', hc⟩ ?_)
  have ht : (Value.type "tuple" == Value.type "tuple") = true := by rfl
  rw [if_pos (by rw [ht]; simp)]
  refine wpAny_bind (listItems_at ho' hd ?_)
  refine wpAny_bind (listItems_at (xs := #[]) (n := 0) (Heap.get?_push_size _ rfl) rfl ?_)
  rw [if_neg (by simp)]
  refine wpAny_bind (listUpdate_at (xs := #[]) (n := 0) (Heap.get?_push_size _ rfl) rfl ?_ (Nat.zero_le _) (by show (#[] ++ vs.toArray).size ≤ sizeLine + 1; simp only [Array.size_append, List.size_toArray, List.length_nil]; omega))
  refine wpAny_pure ?_
  show wpAny (model prog w) A (do
      let o ← load s.heap.objs.size
      match o.data with
      | .seq xs _ => pure xs.toList
      | _ => unsupported "internal:collect") Q E { s with heap := (s.heap.push (seqObj "list" #[] 0)).update s.heap.objs.size (Obj.mapSeq (· ++ vs.toArray)) }
  refine wpAny_bind (wpAny_load (get?_update_seq (Heap.get?_push_size _ rfl) _) ?_)
  show wpAny _ _ (pure ((#[] : Array Value) ++ vs.toArray).toList) Q E _
  rw [show ((#[] : Array Value) ++ vs.toArray).toList = vs by simp]
  exact wpAny_pure h
theorem sorted_ordT {l : Addr} {vs : List Value} {ltv : Value → Value → Bool} {Q : Value → Shared → Prop} (O : Swo ltv) (hl : ∃ o n, s.heap.get? l = some o ∧ o.cls = .type "tuple" ∧ o.data = .seq vs.toArray n) (hz : vs.length ≤ sizeLine)
    (hS : 2 ≤ vs.length → ∀ (h₁ : Heap) (a : Addr), SortableO prog w A.in1.in1 { s with heap := h₁ } a vs ltv)
    (h : ∀ out : List Value, Srtd ltv out → Stb ltv out vs → Q (.ref (s.heap.objs.size + 1)) { s with heap := sortedAll s.heap vs out.toArray }) :
    wpAny (model prog w) A (call (.builtin "sorted") [.ref l]) Q E s := by
  refine Calls.call_function_entry kind_sorted plain_sorted entry_sorted (args_sorted1 _) ?_
  unfold Builtin.«sorted»
  refine wpAny_bind (m := checkCount "sorted" 1 1 _) (wpAny_pure ?_)
  refine wpAny_bind (collect_tup hl ?_ hz)
  refine wpAny_bind (wpAny_newList ?_ hz)
  have hsz : ((s.heap.push (seqObj "list" #[] 0)).update s.heap.objs.size (Obj.mapSeq (· ++ vs.toArray))).objs.size = s.heap.objs.size + 1 := by
    rw [Heap.size_update, size_push']
  have hoL : (((s.heap.push (seqObj "list" #[] 0)).update s.heap.objs.size (Obj.mapSeq (· ++ vs.toArray))).push (seqObj "list" vs.toArray 0)).get? (s.heap.objs.size + 1) = some (seqObj "list" vs.toArray 0) := by
    rw [← hsz]; exact Heap.get?_push_size _ rfl
  show wpAny _ _ _ _ _ { s with heap := ((s.heap.push (seqObj "list" #[] 0)).update s.heap.objs.size (Obj.mapSeq (· ++ vs.toArray))).push (seqObj "list" vs.toArray 0) }
  rw [hsz]
  refine wpAny_bind (wpAny_holding (wpAny_call_entry slot_list_sort ⟨_, hoL, rfl⟩ entry_list_sort (list_sort_ord O hoL hz (fun h2 => hS h2 _ _) fun out hs hb => ⟨_, rfl, ?_⟩) (args_list_sort _)))
  exact wpAny_pure ⟨_, rfl, h out hs hb⟩
end
end Dn.SrtT
namespace Dn
open PySem PySem.Spec PyProof.Rows L2
/-- sorted of a list or a tuple of ints -/
def rSortedU (K : PySem.W.Frag) : List V → Hp → VK → Prop := fun vs H Q => ∃ (a : Addr) (ns : List Int), vs = [V.ref a] ∧ (SqL K H a (ns.map V.int) ∨ SqT K H a (ns.map V.int)) ∧
  ∀ (ns' : List Int) (p : Addr), ns'.Perm ns → ns'.Pairwise (· ≤ ·) → H p = none → Q (.ref p) (upd H p (.lst (ns'.map V.int)))
theorem cr_sortedU {X : Cx} : CallR X (.builtin "sorted") (rSortedU X.K) := by
  intro pins s σ H vs us Q I r h
  obtain ⟨a, ns, rfl, hs | hs, q⟩ := h
  · exact cr_sortedI pins s σ H _ us Q I r ⟨a, ns, rfl, hs, q⟩
  · obtain ⟨its, rv, hl, hz⟩ := I.tuple hs
    rw [Vals.ref1 r]
    have hi := rv.ints
    have hl' : ∃ o n, s.heap.get? a = some o ∧ o.cls = .type "tuple" ∧ o.data = .seq its.toArray n := by
      obtain ⟨o, ho, hc, n, hd⟩ := hl
      exact ⟨o, n, ho, hc, hd⟩
    refine SrtT.sorted_ordT SrtO.swo_int hl' (by rw [← rv.length]; exact hz) (fun h2 h₁ a' => SrtO.ints_sortable hi h2) fun out h1 h2 => ?_
    obtain ⟨k1, k2, k3⟩ := SrtO.ints_out hi h1 h2
    obtain ⟨ep, he'⟩ := PyProof.Rows.sortedAll_at s.heap its out.toArray
    have hlen : ((out.map SrtO.iv).map V.int).length ≤ sizeLine := by
      rw [List.length_map, k2.length_eq]
      rw [List.length_map] at hz
      exact hz
    exact ⟨.ref _, upd H (s.heap.objs.size + 1) (.lst ((out.map SrtO.iv).map V.int)), I.laid (t' := s.toks) (fun _ _ => PyProof.Rows.sortedAll_old) (Nat.le_succ _) ⟨hlen, out, ep, vals_of_ints k1, he'⟩, rfl, q _ _ k2 k3 (I.hok.fresh (Nat.le_succ _))⟩
theorem kSortU {X : Cx} {K : PySem.W.Frag} (h : X.K = K := by rfl) : CallR X (.builtin "sorted") (rSortedU K) := h ▸ cr_sortedU
def sortUD : List D → Option (List D)
  | [.list ds] => (ints? ds).map fun ns => (sortI ns).map .int
  | [.tuple ds] => (ints? ds).map fun ns => (sortI ns).map .int
  | [.dict [(.none, .tuple ds)]] => (ints? ds).map fun ns => (sortI ns).map .int
  | _ => none
theorem rc_sortU {K : PySem.W.Frag} : RCL K (rSortedU K) sortUD := by
  intro F H xs ds Q z ex rx h k
  unfold sortUD at h
  split at h
  · obtain ⟨x, rfl, r⟩ := rx.one
    obtain ⟨l, vs, rfl, a, b⟩ := r.isl ex
    rename_i es
    cases q : ints? es with
    | none => rw [q] at h; cases h
    | some ns =>
      rw [q] at h
      cases h
      obtain rfl := ints?_eq q
      obtain rfl := b.ints
      refine ⟨l, ns, rfl, .inl (.of a), fun ns' p hp hs hn => ?_⟩
      have e : ns' = sortI ns := sorted_one (hp.trans (sortI_perm ns).symm) hs (sortI_sorted ns)
      rw [e]
      exact k.new ex (repL_ints _) p hn
  · rename_i es
    obtain ⟨x, rfl, r⟩ := rx.one
    obtain ⟨l, vs, rfl, a, b, _⟩ := r.ist ex
    cases q : ints? es with
    | none => rw [q] at h; cases h
    | some ns =>
      rw [q] at h
      cases h
      obtain rfl := ints?_eq q
      obtain rfl := b.ints
      refine ⟨l, ns, rfl, .inr a, fun ns' p hp hs hn => ?_⟩
      have e : ns' = sortI ns := sorted_one (hp.trans (sortI_perm ns).symm) hs (sortI_sorted ns)
      rw [e]
      exact k.new ex (repL_ints _) p hn
  · rename_i es
    obtain ⟨x, rfl, r⟩ := rx.one
    obtain ⟨l, vs, rfl, a, b, _⟩ := r.iktT ex
    cases q : ints? es with
    | none => rw [q] at h; cases h
    | some ns =>
      rw [q] at h
      cases h
      obtain rfl := ints?_eq q
      obtain rfl := b.ints
      refine ⟨l, ns, rfl, .inr a, fun ns' p hp hs hn => ?_⟩
      have e : ns' = sortI ns := sorted_one (hp.trans (sortI_perm ns).symm) hs (sortI_sorted ns)
      rw [e]
      exact k.new ex (repL_ints _) p hn
  · cases h
@[simp] theorem sortUD_l {ns : List Int} : sortUD [.list (ns.map .int)] = some ((sortI ns).map .int) := by
  show (ints? (ns.map PyData.int)).map _ = _
  rw [ints?_map]
  rfl
@[simp] theorem sortUD_t {ns : List Int} : sortUD [.tuple (ns.map .int)] = some ((sortI ns).map .int) := by
  show (ints? (ns.map PyData.int)).map _ = _
  rw [ints?_map]
  rfl
end Dn
set_option Elab.async false
set_option linter.all false
set_option maxRecDepth 100000
set_option maxHeartbeats 4000000
namespace Dn
open PySem PySem.Spec PyProof.Rows L2
end Dn
set_option Elab.async false
set_option linter.all false
set_option maxRecDepth 100000
set_option maxHeartbeats 4000000
namespace Dn
open PySem PySem.Spec PyProof.Rows L2
end Dn
set_option Elab.async false
set_option linter.all false
set_option maxRecDepth 100000
set_option maxHeartbeats 4000000
namespace Dn
open PySem PySem.Spec PyProof.Rows L2
/-- int(..) of an int, a bool or a text -/
def intWD : List D → Option D
  | [.int i] => some (.int i)
  | [.bool b] => some (.int (if b then 1 else 0))
  | [.str a] => if a.length ≤ 640 then (PySem.intText? a).map .int else none
  | _ => none
def oIntW : List V → Hp → VK → Prop := fun xs H Q => oInt xs H Q ∨ ∃ a n, xs = [.str a] ∧ PySem.intText? a = some n ∧ a.length ≤ 640 ∧ Q (.int n) H
theorem call_intW {X : Cx} : CallR X (.type "int") oIntW := by
  intro pins s σ H xs us Q I r h
  rcases h with h | h
  · exact call_intU pins s σ H xs us Q I r h
  · exact call_int_str pins s σ H xs us Q I r h
theorem rc_intW {K : PySem.W.Frag} : RCD K oIntW intWD := by
  intro F H xs ds Q z ex rx h k
  unfold intWD at h
  split at h
  · cases h
    obtain ⟨x, rfl, r⟩ := rx.one
    obtain rfl := r.isi
    exact .inl (.inl ⟨_, rfl, k.here ex (.int _)⟩)
  · cases h
    obtain ⟨x, rfl, r⟩ := rx.one
    obtain rfl := r.isb
    exact .inl (.inr ⟨_, rfl, k.here ex (.int _)⟩)
  · rename_i a
    split at h
    · rename_i hl
      cases q : PySem.intText? a with
      | none => rw [q] at h; cases h
      | some n =>
        rw [q] at h
        cases h
        obtain ⟨x, rfl, r⟩ := rx.one
        obtain rfl := r.iss
        exact .inr ⟨a, n, rfl, q, hl, k.here ex (.int _)⟩
    · cases h
  · cases h
@[simp] theorem intWD_int {i : Int} : intWD [.int i] = some (.int i) := rfl
/-- one sign in a text -/
def sgnB : D → D → Option Bool
  | .str x, .str z => match x.cps.toList with
    | [c] => some (decide (c ∈ z.cps.toList))
    | _ => none
  | _, _ => none
def inSD (d e : D) : Option D := (sgnB d e).map .bool
def ninSD (d e : D) : Option D := (sgnB d e).map fun b => .bool (!b)
theorem sgnB_eq {d e : D} {b : Bool} (h : sgnB d e = some b) : ∃ (c : Nat) (z : Str), d = .str ⟨#[c]⟩ ∧ e = .str z ∧ b = decide (c ∈ z.cps.toList) := by
  unfold sgnB at h
  split at h
  · rename_i x z
    split at h
    · rename_i c q
      cases h
      refine ⟨c, z, ?_, rfl, rfl⟩
      have : x = ⟨#[c]⟩ := Str.ext' (Array.toList_inj.mp q)
      rw [this]
    · cases h
  · cases h
def rSgn : R2 := fun x y H Q => ∃ (c : Nat) (z : Str), x = .str ⟨#[c]⟩ ∧ y = .str z ∧ Q (.bl (decide (c ∈ z.cps.toList))) H
def rNSgn : R2 := fun x y H Q => ∃ (c : Nat) (z : Str), x = .str ⟨#[c]⟩ ∧ y = .str z ∧ Q (.bl (!decide (c ∈ z.cps.toList))) H
theorem op_sgn {X : Cx} : OpR X (compareOp .In) rSgn := op_in_sign
theorem op_nsgn {X : Cx} : OpR X (compareOp .NotIn) rNSgn := op_notIn_sign
theorem rd_inS {K : PySem.W.Frag} : R2D K rSgn inSD := by
  intro F H x y d e Q z ex rx ry h k
  unfold inSD at h
  cases q : sgnB d e with
  | none => rw [q] at h; cases h
  | some b =>
    rw [q] at h
    cases h
    obtain ⟨c, w, rfl, rfl, rfl⟩ := sgnB_eq q
    obtain rfl := rx.iss
    obtain rfl := ry.iss
    exact ⟨c, w, rfl, rfl, k.here ex (.bl _)⟩
theorem rd_ninS {K : PySem.W.Frag} : R2D K rNSgn ninSD := by
  intro F H x y d e Q z ex rx ry h k
  unfold ninSD at h
  cases q : sgnB d e with
  | none => rw [q] at h; cases h
  | some b =>
    rw [q] at h
    cases h
    obtain ⟨c, w, rfl, rfl, rfl⟩ := sgnB_eq q
    obtain rfl := rx.iss
    obtain rfl := ry.iss
    exact ⟨c, w, rfl, rfl, k.here ex (.bl _)⟩
end Dn
set_option Elab.async false
set_option linter.all false
set_option maxRecDepth 100000
set_option maxHeartbeats 4000000
namespace Dn
open PySem L2
/-- a new list is changed, and let go -/
def sTmp (f : ML) (fm : List D → List D → Option (List D × D)) (as : ML) : MS := fun ρ => Out.of (f ρ) ρ fun ds => Out.of (as ρ) ρ fun es => Out.ofO (fm ds es) fun _ => .nx ρ
/-- l[m.meth(..)] = v, l in slot i, m in slot j -/
def sSetM (i j : Nat) (fm : List D → List D → Option (List D × D)) (as : ML) (e : ME) : MS := fun ρ => Out.of (e ρ) ρ fun v => Out.ofO (ownAt i ρ) fun _ => Out.ofO (ownAt j ρ) fun ds => Out.of (as ρ) ρ fun es => Out.ofO (fm ds es) fun r =>
  Out.ofO (ownAt i (putL j r.1 ρ)) fun ds' => Out.ofO (setL ds' r.2 v) fun d2 => .nx (putL i d2 (putL j r.1 ρ))
section
variable {ρ : Fr} {e : ME} {as f : ML} {fm : List D → List D → Option (List D × D)} {i j : Nat}
@[simp] theorem sTmp_ap : sTmp f fm as ρ = Out.of (f ρ) ρ fun ds => Out.of (as ρ) ρ fun es => Out.ofO (fm ds es) fun _ => .nx ρ := rfl
@[simp] theorem sSetM_ap : sSetM i j fm as e ρ = Out.of (e ρ) ρ fun v => Out.ofO (ownAt i ρ) fun _ => Out.ofO (ownAt j ρ) fun ds => Out.of (as ρ) ρ fun es => Out.ofO (fm ds es) fun r =>
  Out.ofO (ownAt i (putL j r.1 ρ)) fun ds' => Out.ofO (setL ds' r.2 v) fun d2 => .nx (putL i d2 (putL j r.1 ρ)) := rfl
end
/-- a comprehension over data that stand for plain things -/
theorem lc_enc {α : Type} (enc : α → D) (p : α → Bool) (f : α → D) {tg : D → Fr → Option Fr} {t : MT} {e : ME} {vs : List Nat} {ρ : Fr} : ∀ (xs : List α) (acc : List D), acc.length + xs.length ≤ 16000000 →
    (∀ x ∈ xs, ∃ ρ', tg (enc x) (wipeF ρ vs) = some ρ' ∧ t ρ' = .ok (p x) ∧ (p x = true → e ρ' = .ok (f x))) → loopLc tg t e vs ρ (xs.map enc) acc = .ok (acc ++ (xs.filter p).map f)
  | [], acc, _, _ => by simp [loopLc]
  | x :: xs, acc, hl, h => by
    obtain ⟨ρ', h1, h2, h3⟩ := h x (List.mem_cons_self ..)
    rw [List.length_cons] at hl
    have ih := fun acc' hl' => lc_enc enc p f (tg := tg) (t := t) (e := e) (vs := vs) (ρ := ρ) xs acc' hl' fun y hy => h y (List.mem_cons_of_mem _ hy)
    have sl : acc.length < sizeLine := by show _ < 16777216; omega
    rw [List.map_cons, loopLc, h1]
    simp only [h2, noX, M.bind_ok]
    cases c : p x with
    | true =>
      simp only [h3 c, noX, M.bind_ok, if_true, if_pos sl]
      rw [ih (acc ++ [f x]) (by simp; omega), List.filter_cons_of_pos c]
      simp
    | false =>
      simp only [Bool.false_eq_true, if_false]
      rw [ih acc (by omega), List.filter_cons_of_neg (by simp [c])]
theorem lc_enc0 {α : Type} (enc : α → D) (p : α → Bool) (f : α → D) {tg : D → Fr → Option Fr} {t : MT} {e : ME} {vs : List Nat} {ρ : Fr} (xs : List α) (hl : xs.length ≤ 16000000)
    (h : ∀ x ∈ xs, ∃ ρ', tg (enc x) (wipeF ρ vs) = some ρ' ∧ t ρ' = .ok (p x) ∧ (p x = true → e ρ' = .ok (f x))) : loopLc tg t e vs ρ (xs.map enc) [] = .ok ((xs.filter p).map f) := by
  have := lc_enc enc p f xs [] (by simpa using hl) h
  simpa using this
theorem lc_map0 {α : Type} (enc f : α → D) {tg : D → Fr → Option Fr} {e : ME} {vs : List Nat} {ρ : Fr} (xs : List α) (hl : xs.length ≤ 16000000)
    (h : ∀ x ∈ xs, ∃ ρ', tg (enc x) (wipeF ρ vs) = some ρ' ∧ e ρ' = .ok (f x)) : loopLc tg tYesF e vs ρ (xs.map enc) [] = .ok (xs.map f) := by
  have := lc_enc0 enc (fun _ => true) f (tg := tg) (t := tYesF) (e := e) (vs := vs) (ρ := ρ) xs hl fun x hx => by
    obtain ⟨ρ', h1, h2⟩ := h x hx
    exact ⟨ρ', h1, rfl, fun _ => h2⟩
  rw [this, List.filter_eq_self.mpr (fun _ _ => rfl)]
@[simp] theorem revM_ok {ds : List D} : revM ds [] = some (ds.reverse, .none) := rfl
@[simp] theorem clrM_ok {ds : List D} : clrM ds [] = some ([], .none) := rfl
section
variable {α : Type} [DecidableEq α] {n : Nat} {f : α → D}
theorem inB_g (G : Gr n f) (h : n ≤ 63) (x : α) (xs : List α) : inB (f x) (.list (xs.map f)) = some (decide (x ∈ xs)) := by
  have e : inB (f x) (.list (xs.map f)) = if SeqAt.shaped (f x) && SeqAt.shaped (.list (xs.map f)) then some ((xs.map f).any fun z => PyData.eqv z (f x)) else none := rfl
  rw [e, G.shaped (by omega) x, (gr_list G).shaped (by omega) xs]
  simp only [Bool.and_self, if_true]
  congr 1
  clear e
  rw [List.any_map]
  induction xs with
  | nil => rfl
  | cons y ys ih =>
    rw [List.any_cons, ih]
    simp only [Function.comp, G.eqv]
    by_cases q : y = x
    · subst q; simp
    · have : ¬ x = y := fun z => q z.symm
      simp [q, this]
theorem ninD_g (G : Gr n f) (h : n ≤ 63) (x : α) (xs : List α) : ninD (f x) (.list (xs.map f)) = some (.bool (!decide (x ∈ xs))) := by unfold ninD; rw [inB_g G h]; rfl
end
end Dn
set_option Elab.async false
set_option linter.all false
set_option maxRecDepth 100000
set_option maxHeartbeats 4000000
namespace Dn
open PySem PySem.Spec PyProof.Rows L2
end Dn
set_option Elab.async false
set_option linter.all false
set_option maxRecDepth 100000
set_option maxHeartbeats 4000000
namespace Dn
open PySem PySem.Spec PyProof.Rows L2
/-- the object of a tuple with no dict of its own -/
def KtO (o : Obj) : Prop := o.cls = .type "tuple" ∧ o.dict = none
section
variable {K : PySem.W.Frag} {L : Addr × Addr} {mg : Str → Option Value} {W : WX} {ta te tb : TE} {a b e : ME} {tas : TA} {as : ML}
def tupKD : List D → Option D
  | [.list ds] => some (ktD ds)
  | _ => none
def isKt : D → Bool
  | .dict [(.none, .tuple _)] => true
  | _ => false
def eMK (f : D → List D → Option D) (a : ME) (as : ML) : ME := fun ρ => (a ρ).bind fun d => if isKt d = true then (as ρ).bind fun ds => lift (f d ds) else .stuck
def eTLK (f : ML) : ME := fun ρ => (f ρ).bind fun ds => .ok (ktD ds)
@[simp] theorem eTLK_ap {f : ML} {ρ : Fr} : eTLK f ρ = (f ρ).bind fun ds => .ok (ktD ds) := rfl
@[simp] theorem eMK_ap {f : D → List D → Option D} {ρ : Fr} : eMK f a as ρ = (a ρ).bind fun d => if isKt d = true then (as ρ).bind fun ds => lift (f d ds) else .stuck := rfl
@[simp] theorem isKt_k {ds : List D} : isKt (ktD ds) = true := rfl
@[simp] theorem tupKD_l {ds : List D} : tupKD [.list ds] = some (ktD ds) := rfl
@[simp] theorem itemsD_k {ds : List D} : itemsD (ktD ds) = .ok ds := rfl
@[simp] theorem seq_k {ds : List D} : seq? (ktD ds) = some ds := rfl
@[simp] theorem lenD_k {ds : List D} : lenD [ktD ds] = some (.int ds.length) := rfl
@[simp] theorem listD_k {ds : List D} : listD [ktD ds] = some ds := rfl
@[simp] theorem tupleD_k {ds : List D} : tupleD [ktD ds] = some (ktD ds) := rfl
@[simp] theorem sortUD_k {ns : List Int} : sortUD [ktD (ns.map .int)] = some ((sortI ns).map .int) := by
  show (ints? (ns.map PyData.int)).map _ = _
  rw [ints?_map]
  rfl
end
end Dn
namespace Dn
open PySem PySem.Spec PyProof.Rows L2
section
variable {K : PySem.W.Frag} {L : Addr × Addr} {mg : Str → Option Value} {W : WX} {tas : TA} {as : ML}
def sortRevD : List D → Option (List D)
  | [.list ds] => (ints? ds).map fun ns => (sortI ns).reverse.map .int
  | _ => none
@[simp] theorem sortRevD_l {ns : List Int} : sortRevD [.list (ns.map .int)] = some ((sortI ns).reverse.map .int) := by
  show (ints? (ns.map PyData.int)).map _ = _
  rw [ints?_map]
  rfl
end
end Dn
namespace Dn
end Dn
namespace Dn
open PySem PySem.Spec PyProof.Rows L2
end Dn
set_option Elab.async false
set_option linter.all false
set_option maxRecDepth 100000
set_option maxHeartbeats 4000000
namespace Dn
open PySem PySem.Spec PyProof.Rows L2
abbrev FnL := List (Str × (List D → M D))
def fnOf : FnL → Str → Option (List D → M D)
  | [], _ => none
  | (m, g) :: r, n => if m = n then some g else fnOf r n
def fnNm : Option S → Option Str
  | some (.val (.dict [(.str n, .none)])) => some n
  | _ => none
def runV (fs : FnL) (o : Option Str) (m : M (List D)) : M D := match o with
  | some n => (match fnOf fs n with
    | some g => m.bind g
    | none => .stuck)
  | none => .stuck
def eCallV (i : Nat) (fs : FnL) (as : ML) : ME := fun ρ => runV fs (fnNm ρ[i]?) (as ρ)
@[simp] theorem eCallV_ap {i : Nat} {fs : FnL} {as : ML} {ρ : Fr} : eCallV i fs as ρ = runV fs (fnNm ρ[i]?) (as ρ) := rfl
@[simp] theorem fnNm_val {n : Str} : fnNm (some (.val (fnD n))) = some n := rfl
end Dn
namespace Dn
open PySem PySem.Spec PyProof.Rows L2
end Dn
set_option Elab.async false
set_option linter.all false
set_option maxRecDepth 100000
set_option maxHeartbeats 4000000
namespace Dn
open PySem PySem.Spec PyProof.Rows L2
def sKnow (i : Nat) (g : MS) : MS := fun ρ => match ρ[i]? with
  | some (.own (.dK kvs)) => g (ρ.set i (.val (.dict (kdK kvs))))
  | some (.own (.dT kvs)) => g (ρ.set i (.val (.dict (kdT kvs))))
  | _ => .stuck
section
variable {K : PySem.W.Frag} {L : Addr × Addr} {mg : Str → Option Value} {W : WX} {F0 H0 F H : Hp} {σ : L2.St} {ρ : Fr} {t : TS} {g : MS}
/-- keys; values; pairs of a known dict -/
def keysD : D → Option (List D)
  | .dict ((.bool false, .bool true) :: ps) => (decK ps).map fun kvs => kvs.map fun p => keyD p.1
  | .dict ((.bool true, .bool true) :: ps) => (decT ps).map fun kvs => kvs.map fun p => .tuple (p.1.map keyD)
  | _ => none
def valsD : D → Option (List D)
  | .dict ((.bool false, .bool true) :: ps) => (decK ps).map fun kvs => kvs.map fun p => p.2
  | .dict ((.bool true, .bool true) :: ps) => (decT ps).map fun kvs => kvs.map fun p => p.2
  | _ => none
def itmsD : D → Option (List D)
  | .dict ((.bool false, .bool true) :: ps) => (decK ps).map fun kvs => kvs.map fun p => .tuple [keyD p.1, p.2]
  | .dict ((.bool true, .bool true) :: ps) => (decT ps).map fun kvs => kvs.map fun p => .tuple [.tuple (p.1.map keyD), p.2]
  | _ => none
@[simp] theorem keysD_K {kvs : List (Key × D)} : keysD (.dict (kdK kvs)) = some (kvs.map fun p => keyD p.1) := by
  show (decK _).map _ = _; rw [decK_map]; rfl
@[simp] theorem keysD_T {kvs : List (List Key × D)} : keysD (.dict (kdT kvs)) = some (kvs.map fun p => .tuple (p.1.map keyD)) := by
  show (decT _).map _ = _; rw [decT_map]; rfl
@[simp] theorem valsD_K {kvs : List (Key × D)} : valsD (.dict (kdK kvs)) = some (kvs.map fun p => p.2) := by
  show (decK _).map _ = _; rw [decK_map]; rfl
@[simp] theorem valsD_T {kvs : List (List Key × D)} : valsD (.dict (kdT kvs)) = some (kvs.map fun p => p.2) := by
  show (decT _).map _ = _; rw [decT_map]; rfl
@[simp] theorem itmsD_K {kvs : List (Key × D)} : itmsD (.dict (kdK kvs)) = some (kvs.map fun p => .tuple [keyD p.1, p.2]) := by
  show (decK _).map _ = _; rw [decK_map]; rfl
@[simp] theorem itmsD_T {kvs : List (List Key × D)} : itmsD (.dict (kdT kvs)) = some (kvs.map fun p => .tuple [.tuple (p.1.map keyD), p.2]) := by
  show (decT _).map _ = _; rw [decT_map]; rfl
def iKD (f : D → Option (List D)) (e : ME) : ML := fun ρ => (e ρ).bind fun d => lift (f d)
variable {te : TE} {e : ME}
@[simp] theorem iKD_ap {f : D → Option (List D)} : iKD f e ρ = (e ρ).bind fun d => lift (f d) := rfl
def knS (o : Option S) (i : Nat) (ρ : Fr) (g : MS) : Out := match o with
  | some (.own (.dK kvs)) => g (ρ.set i (.val (.dict (kdK kvs))))
  | some (.own (.dT kvs)) => g (ρ.set i (.val (.dict (kdT kvs))))
  | _ => .stuck
@[simp] theorem sKnow_ap {i : Nat} : sKnow i g ρ = knS ρ[i]? i ρ g := rfl
@[simp] theorem knS_K {i : Nat} {kvs : List (Key × D)} : knS (some (.own (.dK kvs))) i ρ g = g (ρ.set i (.val (.dict (kdK kvs)))) := rfl
@[simp] theorem knS_T {i : Nat} {kvs : List (List Key × D)} : knS (some (.own (.dT kvs))) i ρ g = g (ρ.set i (.val (.dict (kdT kvs)))) := rfl
end
end Dn
set_option Elab.async false
set_option linter.all false
set_option maxRecDepth 100000
set_option maxHeartbeats 4000000
namespace Dn
open PySem PySem.Spec PyProof.Rows L2
section
variable {P : Program} {w : World} {K : PySem.W.Frag} {tg : Expr} {d : Addr} {o : Obj}
theorem dep {o : Obj} {es es' : Array DictEntry} {ep ep' : Nat} (h : o.data = .dict es ep) (h' : o.data = .dict es' ep') : es' = es ∧ ep' = ep := by
  rw [h] at h'; cases h'; exact ⟨rfl, rfl⟩
end
end Dn
set_option Elab.async false
set_option linter.all false
set_option maxRecDepth 100000
set_option maxHeartbeats 4000000
namespace Dn
open PySem PySem.Spec PyProof.Rows L2
inductive RepJO (K : PySem.W.Frag) (F : Hp) (l : Addr) (ho : HO) (o : OD) : Nat → List V → List D → Prop
  | here {vs : List V} {ds : List D} : RepO K F ho o → RepL K F vs ds → RepJO K F l ho o 0 (.ref l :: vs) (o.d :: ds)
  | next {j : Nat} {v : V} {d : D} {vs : List V} {ds : List D} : Rep K F v d → RepJO K F l ho o j vs ds → RepJO K F l ho o (j + 1) (v :: vs) (d :: ds)
section
variable {K : PySem.W.Frag} {mg : Str → Option Value} {W : WX} {L : Addr × Addr} {F0 H0 F H F' H' : Hp} {σ : L2.St} {ρ : Fr} {l : Addr} {ho : HO} {o : OD} {j : Nat} {vs : List V} {ds : List D}
theorem RepJO.len (h : RepJO K F l ho o j vs ds) : vs.length = ds.length := by
  induction h with
  | here r q => simp [q.length]
  | next r _ ih => simp [ih]
def sCallO (i : Nat) (f : List D → M (OD × D)) (as : ML) (k : D → Fr → Out) : MS := fun ρ => Out.ofO (ownO ρ[i]?) fun _ => Out.of (as ρ) ρ fun ds => match f ds with
  | .ok r => k r.2 (putO i r.1 ρ)
  | _ => .stuck
end
def resO (m : M (OD × D)) (k : OD × D → Out) : Out := match m with
  | .ok r => k r
  | _ => .stuck
@[simp] theorem resO_ok {r : OD × D} {k : OD × D → Out} : resO (.ok r) k = k r := rfl
@[simp] theorem getB_pinO {o : OD} : getB (some (.pin o)) = .ok o.d := rfl
@[simp] theorem dictS_pinK {kvs : List (Key × D)} : dictS (some (.pin (.dK kvs))) = some (.dK kvs) := rfl
@[simp] theorem dictS_pinT {kvs : List (List Key × D)} : dictS (some (.pin (.dT kvs))) = some (.dT kvs) := rfl
@[simp] theorem ownO_own {o : OD} : ownO (some (.own o)) = some o := rfl
@[simp] theorem ownO_pin {o : OD} : ownO (some (.pin o)) = some o := rfl
@[simp] theorem sCallO_ap {i : Nat} {f : List D → M (OD × D)} {as : ML} {k : D → Fr → Out} {ρ : Fr} : sCallO i f as k ρ = Out.ofO (ownO ρ[i]?) fun _ => Out.of (as ρ) ρ fun ds => resO (f ds) fun r => k r.2 (ρ.set i (putOS ρ[i]? r.1)) := by
  unfold sCallO
  simp only [putO_ap]
  rfl
end Dn
set_option Elab.async false
set_option linter.all false
set_option maxRecDepth 100000
set_option maxHeartbeats 4000000
namespace Dn
open PySem PySem.Spec PyProof.Rows L2
end Dn
set_option Elab.async false
set_option linter.all false
set_option maxRecDepth 100000
set_option maxHeartbeats 4000000
namespace Dn
open PySem PySem.Spec PyProof.Rows L2
def eGet1 (a b : ME) : ME := fun ρ => (a ρ).bind fun x => (lift (od? x)).bind fun o => (b ρ).bind fun y => lift ((odGet o y).map fun r => r.getD .none)
@[simp] theorem eGet1_ap {a b : ME} {ρ : Fr} : eGet1 a b ρ = (a ρ).bind fun x => (lift (od? x)).bind fun o => (b ρ).bind fun y => lift ((odGet o y).map fun r => r.getD .none) := rfl
end Dn
set_option Elab.async false
set_option linter.all false
set_option maxRecDepth 100000
set_option maxHeartbeats 4000000
namespace Dn
open PySem PySem.Spec PyProof.Rows L2
end Dn
set_option Elab.async false
set_option linter.all false
set_option maxRecDepth 100000
set_option maxHeartbeats 4000000
namespace Dn
open PySem PySem.Spec PyProof.Rows L2
abbrev Ky := List (Int ⊕ List Nat)
def itemV : V → Int ⊕ List Nat
  | .int i => .inl i
  | .str x => .inr x.cps.toList
  | _ => .inl 0
def kV (H : Hp) : V → Ky
  | .ref t => match H t with
    | some (.tup ys) => ys.map itemV
    | _ => []
  | _ => []
def itemK : D → Int ⊕ List Nat
  | .int i => .inl i
  | .str x => .inr x.cps.toList
  | _ => .inl 0
def kD : D → Ky
  | .tuple es => es.map itemK
  | _ => []
end Dn
set_option Elab.async false
set_option linter.all false
set_option maxRecDepth 100000
set_option maxHeartbeats 4000000
namespace Dn
open PySem PySem.Spec PyProof.Rows L2
end Dn
set_option Elab.async false
set_option linter.all false
set_option maxRecDepth 100000
set_option maxHeartbeats 4000000
namespace Dn
open PySem PySem.Spec PyProof.Rows L2
end Dn
set_option Elab.async false
set_option linter.all false
set_option maxRecDepth 100000
set_option maxHeartbeats 4000000
namespace Dn
open PySem PySem.Spec PyProof.Rows L2
end Dn
set_option Elab.async false
set_option linter.all false
set_option maxRecDepth 100000
set_option maxHeartbeats 4000000
namespace Dn
open PySem PySem.Spec PyProof.Rows L2
def eTupK (as : ML) : ME := fun ρ => (as ρ).bind fun ds => .ok (ktD ds)
@[simp] theorem eTupK_ap {as : ML} {ρ : Fr} : eTupK as ρ = (as ρ).bind fun ds => .ok (ktD ds) := rfl
def rCatA (K : PySem.W.Frag) : R2 := fun x y H Q => ∃ a b xs ys, x = .ref a ∧ y = .ref b ∧ SqT K H a xs ∧ SqT K H b ys ∧ (xs = [] → Q y H) ∧ (xs ≠ [] → ys = [] → Q x H) ∧ xs.length + ys.length ≤ sizeLine ∧
  (xs ≠ [] → ys ≠ [] → ∀ p o, H p = none → KtO o → Q (.ref p) (upd H p (.frz o (.tup (xs ++ ys)))))
theorem op_catA {X : Cx} : OpR X (binaryOp .Add) (rCatA X.K) := by
  intro pins s σ H x y v u Q I rx ry h
  obtain ⟨a, b, xs, ys, rfl, rfl, ha, hb, h0, h1, hz, q⟩ := h
  cases rx
  cases ry
  obtain ⟨its, r1, p1, _⟩ := I.tuple ha
  obtain ⟨its2, r2, p2, _⟩ := I.tuple hb
  by_cases c0 : xs = []
  · have n1 : its = [] := r1.nil_iff.mpr c0
    subst n1
    exact cat_tup0 p1 p2 ⟨.ref b, H, I, rfl, h0 c0⟩
  · have n1 : its ≠ [] := fun z => c0 (r1.nil_iff.mp z)
    refine HT.cat_tup p1 p2 n1 (fun z => ⟨.ref a, H, I, rfl, h1 c0 (r2.nil_iff.mp z)⟩) (fun z => ?_) (by rw [← r1.length, ← r2.length]; exact hz)
    have c1 : ys ≠ [] := fun w => z (r2.nil_iff.mpr w)
    have new : ObjOk X.prog X.w (upd H s.heap.objs.size (.frz { cls := .type "tuple", data := .seq (its ++ its2).toArray } (.tup (xs ++ ys)))) (s.heap.push { cls := .type "tuple", data := .seq (its ++ its2).toArray }) s.heap.objs.size (.frz { cls := .type "tuple", data := .seq (its ++ its2).toArray } (.tup (xs ++ ys))) :=
      ⟨Heap.get?_push_size _ rfl, by rw [List.length_append]; exact hz, _, r1.append r2, IsTup.new _ _⟩
    exact ⟨.ref s.heap.objs.size, _, I.laid (t' := s.toks) (fun b ob q => Heap.get?_push_of_some _ q) (Nat.le_refl _) new, rfl, q c0 c1 _ _ (I.hok.fresh (Nat.le_refl _)) ⟨rfl, rfl⟩⟩
def tupD? : D → Option (List D)
  | .tuple ds => some ds
  | .dict [(.none, .tuple ds)] => some ds
  | _ => none
@[simp] theorem tupD_t {ds : List D} : tupD? (.tuple ds) = some ds := rfl
@[simp] theorem tupD_k {ds : List D} : tupD? (ktD ds) = some ds := rfl
end Dn
set_option Elab.async false
set_option linter.all false
set_option maxRecDepth 100000
set_option maxHeartbeats 4000000
namespace Dn
open PySem PySem.Spec PyProof.Rows L2
/-- list(d.values()) -/
def odVals : OD → Option (List D)
  | .dK kvs => some (kvs.map fun p => p.2)
  | .dT kvs => some (kvs.map fun p => p.2)
  | _ => none
def eLV (a : ME) : ML := fun ρ => (a ρ).bind fun x => (lift (od? x)).bind fun o => lift (odVals o)
@[simp] theorem eLV_ap {a : ME} {ρ : Fr} : eLV a ρ = (a ρ).bind fun x => (lift (od? x)).bind fun o => lift (odVals o) := rfl
@[simp] theorem odVals_K {kvs : List (Key × D)} : odVals (.dK kvs) = some (kvs.map fun p => p.2) := rfl
@[simp] theorem odVals_T {kvs : List (List Key × D)} : odVals (.dT kvs) = some (kvs.map fun p => p.2) := rfl
end Dn
set_option Elab.async false
set_option linter.all false
set_option maxRecDepth 100000
set_option maxHeartbeats 4000000
namespace Dn
open PySem PySem.Spec PyProof.Rows L2
section
variable {K : PySem.W.Frag} {L : Addr × Addr} {F0 H0 G F H Fb Hb : Hp} {σ : L2.St} {ρ : Fr}
/-- one of the kept things becomes a slot's own -/
theorem Env.take (E : Env K L F0 G F H σ ρ) {p : Addr} {vs : List V} {ds : List D} (hG : G p = some (.lst vs)) (f0 : F0 p = none) (r : RepL K F vs ds) (i : Nat) :
    Env K L F0 (fun a => if a = p then none else G a) F H (σ.set i (some (.ref p))) (ρ.set i (.own (.lst ds))) where
  st := ⟨E.st.ff, fun a u q => by
      by_cases z : a = p
      · rw [if_pos z] at q; cases q
      · rw [if_neg z] at q; exact E.st.hh a u q, fun a u q1 q2 q3 => by
      by_cases z : a = p
      · rw [if_pos z] at q2; cases q2
      · rw [if_neg z] at q2; exact E.st.nw a u q1 q2 q3, E.st.fh⟩
  len := by rw [List.length_set, List.length_set]; exact E.len
  sl := fun j s h => by
    have nn : ∀ l, G l = none → (if l = p then none else G l) = none := fun l hl => by split <;> first | rfl | exact hl
    rcases set_get h with ⟨e, es, hl⟩ | ⟨ne, h'⟩
    · subst e; subst es
      rw [List.getElem?_set_self (by rw [E.len]; exact hl)]
      exact ⟨p, .lst vs, rfl, E.st.nw p _ f0 hG (fun _ z => by cases z), if_pos rfl, E.st.hh p _ hG, .lst r⟩
    · rw [List.getElem?_set_ne ne]
      have q := E.sl j s h'
      cases s with
      | none => trivial
      | err n => exact q
      | val d => exact q
      | own ds =>
        obtain ⟨l, ho, e', f, h0, hl, r⟩ := q
        exact ⟨l, ho, e', f, nn l h0, hl, r⟩
      | pin ds =>
        obtain ⟨e', f, h0, ho, hl, r⟩ := q
        exact ⟨e', f, nn _ h0, ho, hl, r⟩
  sep := fun j k l h1 h2 e1 e2 => by
    have no : ∀ {m : Nat}, isOwn ρ[m]? → σ[m]? = some (some (.ref p)) → False := fun {m} hm em => by
      cases q : ownO ρ[m]? with
      | none => unfold isOwn at hm; rw [q] at hm; cases hm
      | some o =>
        obtain ⟨l', ho', el, _, h0, hl, _⟩ := E.ownv q
        rw [el] at em
        cases em
        rw [hG] at h0
        cases h0
    by_cases nj : i = j
    · by_cases nk : i = k
      · exact nj.symm.trans nk
      · subst nj
        rw [List.getElem?_set_ne nk] at h2 e2
        rw [List.getElem?_set] at e1
        simp at e1
        obtain ⟨_, e1⟩ := e1
        subst e1
        exact (no h2 e2).elim
    · rw [List.getElem?_set_ne nj] at h1 e1
      by_cases nk : i = k
      · subst nk
        rw [List.getElem?_set] at e2
        simp at e2
        obtain ⟨_, e2⟩ := e2
        subst e2
        exact (no h1 e1).elim
      · rw [List.getElem?_set_ne nk] at h2 e2
        exact E.sep j k l h1 h2 e1 e2
end
def evL : List ML → Fr → M (List (List D))
  | [], _ => .ok []
  | f :: r, ρ => (f ρ).bind fun ds => (evL r ρ).bind fun t => .ok (ds :: t)
inductive PN (K : PySem.W.Frag) (F Hb H : Hp) : List Addr → List (List V) → List (List D) → Prop
  | nil : PN K F Hb H [] [] []
  | cons {p : Addr} {ps : List Addr} {vs : List V} {vss : List (List V)} {ds : List D} {dss : List (List D)} : Hb p = none → H p = some (.lst vs) → F p = none → p ∉ ps → RepL K F vs ds → PN K F Hb H ps vss dss → PN K F Hb H (p :: ps) (vs :: vss) (ds :: dss)
theorem PN.len {K : PySem.W.Frag} {F Hc H : Hp} : ∀ {ps : List Addr} {vss : List (List V)} {dss : List (List D)}, PN K F Hc H ps vss dss → ps.length = dss.length
  | _, _, _, .nil => rfl
  | _, _, _, .cons _ _ _ _ _ t => congrArg (· + 1) (PN.len t)
theorem PN.at {K : PySem.W.Frag} {F Hc H : Hp} : ∀ {ps : List Addr} {vss : List (List V)} {dss : List (List D)}, PN K F Hc H ps vss dss → ∀ {i : Nat} {p : Addr}, ps[i]? = some p → ∃ vs ds, dss[i]? = some ds ∧ Hc p = none ∧ H p = some (.lst vs) ∧ F p = none ∧ RepL K F vs ds ∧ ∀ j, i < j → ps[j]? ≠ some p
  | _, _, _, .cons a b c d r t, 0, p, h => by
    simp at h
    subst h
    refine ⟨_, _, rfl, a, b, c, r, fun j hj z => ?_⟩
    obtain ⟨j', rfl⟩ : ∃ j', j = j' + 1 := ⟨j - 1, by omega⟩
    rw [List.getElem?_cons_succ] at z
    exact d (List.mem_of_getElem? z)
  | _, _, _, .cons a b c d r t, i + 1, p, h => by
    rw [List.getElem?_cons_succ] at h
    obtain ⟨vs, ds, e1, e2, e3, e4, e5, e6⟩ := PN.at t h
    refine ⟨vs, ds, by rw [List.getElem?_cons_succ]; exact e1, e2, e3, e4, e5, fun j hj z => ?_⟩
    obtain ⟨j', rfl⟩ : ∃ j', j = j' + 1 := ⟨j - 1, by omega⟩
    rw [List.getElem?_cons_succ] at z
    exact e6 j' (by omega) z
section
variable {K : PySem.W.Frag} {L : Addr × Addr} {mg : Str → Option Value} {W : WX} {te : TE} {ta : TA} {f : ML} {fs : List ML} {t : TS} {g : MS}
def loopL (g : List D → Fr → Out) : List (List D) → Fr → Out
  | [], ρ => .nx ρ
  | d :: ds, ρ => match g d ρ with
    | .nx ρ' => loopL g ds ρ'
    | .cont ρ' => loopL g ds ρ'
    | .brk ρ' => .nx ρ'
    | o => o
def ownB (i : Nat) (g : MS) : List D → Fr → Out := fun ds ρ => g (ρ.set i (.own (.lst ds)))
def sForN (fs : List ML) (i : Nat) (g : MS) : MS := fun ρ => Out.of (evL fs ρ) ρ fun dss => loopL (ownB i g) dss ρ
@[simp] theorem sForN_ap {i : Nat} {ρ : Fr} : sForN fs i g ρ = Out.of (evL fs ρ) ρ fun dss => loopL (ownB i g) dss ρ := rfl
@[simp] theorem evL_nil {ρ : Fr} : evL [] ρ = .ok [] := rfl
@[simp] theorem evL_cons {ρ : Fr} : evL (f :: fs) ρ = (f ρ).bind fun ds => (evL fs ρ).bind fun t => .ok (ds :: t) := rfl
end
end Dn
set_option Elab.async false
set_option linter.all false
set_option maxRecDepth 100000
set_option maxHeartbeats 4000000
namespace Dn
open PySem PySem.Spec PyProof.Rows L2
section
variable {X : Cx}
/-- tuple(reversed(x)) -/
def trD : D → Option D
  | .list ds => some (.tuple ds.reverse)
  | .tuple ds => some (.tuple ds.reverse)
  | _ => none
def eTR (a : ME) : ME := fun ρ => (a ρ).bind fun d => lift (trD d)
@[simp] theorem eTR_ap {a : ME} {ρ : Fr} : eTR a ρ = (a ρ).bind fun d => lift (trD d) := rfl
@[simp] theorem trD_l {ds : List D} : trD (.list ds) = some (.tuple ds.reverse) := rfl
@[simp] theorem trD_t {ds : List D} : trD (.tuple ds) = some (.tuple ds.reverse) := rfl
variable {K : PySem.W.Frag} {L : Addr × Addr} {mg : Str → Option Value} {W : WX} {ta : TE} {a : ME}
end
end Dn
set_option Elab.async false
set_option linter.all false
set_option maxRecDepth 100000
set_option maxHeartbeats 4000000
namespace Dn
open PySem PySem.Spec PyProof.Rows L2
section
variable {K : PySem.W.Frag} {L : Addr × Addr} {mg : Str → Option Value} {W : WX} {F0 H0 F H : Hp} {σ : L2.St} {ρ : Fr} {t u : TS} {g h : MS} {uu : TT} {uf : MT}
def sNotM (i : Nat) (f : List D → M (List D × D)) (as : ML) (g h : MS) : MS := sCallM i f as fun d ρ => Out.of (toB d) ρ fun b => if b = true then h ρ else g ρ
def sNotMO (i : Nat) (f : List D → M (List D × D)) (as : ML) (uf : MT) (g h : MS) : MS := sCallM i f as fun d ρ => Out.of (toB d) ρ fun b => if b = true then sIf uf g h ρ else g ρ
@[simp] theorem sNotM_ap {i : Nat} {f : List D → M (List D × D)} {as : ML} : sNotM i f as g h ρ = sCallM i f as (fun d ρ => Out.of (toB d) ρ fun b => if b = true then h ρ else g ρ) ρ := rfl
@[simp] theorem sNotMO_ap {i : Nat} {f : List D → M (List D × D)} {as : ML} : sNotMO i f as uf g h ρ = sCallM i f as (fun d ρ => Out.of (toB d) ρ fun b => if b = true then sIf uf g h ρ else g ρ) ρ := rfl
end
end Dn
set_option Elab.async false
set_option linter.all false
set_option maxRecDepth 100000
set_option maxHeartbeats 4000000
namespace Dn
open PySem PySem.Spec PyProof.Rows L2
end Dn
set_option Elab.async false
set_option linter.all false
set_option maxRecDepth 100000
set_option maxHeartbeats 4000000
namespace Dn
open PySem PySem.Spec PyProof.Rows L2
def eStk : ME := fun _ => .stuck
def sStk : MS := fun _ => .stuck
@[simp] theorem eStk_ap {ρ : Fr} : eStk ρ = .stuck := rfl
@[simp] theorem sStk_ap {ρ : Fr} : sStk ρ = .stuck := rfl
end Dn
set_option Elab.async false
set_option linter.all false
set_option maxRecDepth 100000
set_option maxHeartbeats 4000000
namespace PySem.SeqAt
open PySem PySem.MeetsSeq
end PySem.SeqAt
namespace Dn
open PySem PySem.Spec PyProof.Rows L2
section
variable {K : PySem.W.Frag}
theorem RepL.eraseIdx {H : Hp} : ∀ {vs : List V} {ds : List D} (j : Nat), RepL K H vs ds → RepL K H (vs.eraseIdx j) (ds.eraseIdx j)
  | _, _, _, .nil => by simp; exact .nil
  | _, _, 0, .cons a r => by simp; exact r
  | _, _, j + 1, .cons a r => by simp; exact .cons a (RepL.eraseIdx j r)
end
end Dn
set_option Elab.async false
set_option linter.all false
set_option maxRecDepth 100000
set_option maxHeartbeats 4000000
namespace Dn
open PySem PySem.Spec PyProof.Rows L2
end Dn
set_option Elab.async false
set_option linter.all false
set_option maxRecDepth 100000
set_option maxHeartbeats 4000000
namespace Dn
open PySem L2
/-- the mark of the slot that holds the outer list -/
def mkE : S := .err ""
def nlD (dss : List (List D)) : D := .list (dss.map .list)
structure Nst (K : PySem.W.Frag) (H0 H1 F : Hp) (a : Addr) (bs : List Addr) (dss : List (List D)) : Prop where
  ex : Ex H0 H1
  za : H0 a = none
  zb : ∀ b ∈ bs, H0 b = none
  fa : F a = none
  fb : ∀ b ∈ bs, F b = none
  ha : H1 a = some (.lst (bs.map V.ref))
  nd : (a :: bs).Nodup
  ln : bs.length = dss.length
  hb : ∀ (j : Nat) (b : Addr) (ds : List D), bs[j]? = some b → dss[j]? = some ds → ∃ vs, H1 b = some (.lst vs) ∧ RepL K F vs ds
def EnvN (K : PySem.W.Frag) (i : Nat) (L1 : Addr) (F0 H0 F H : Hp) (σ : St) (ρ : Fr) : Prop :=
  ∃ (a : Addr) (bs : List Addr) (dss : List (List D)) (H1 : Hp), Env K (L1, a) F0 H1 F H σ (ρ.set i mkE) ∧ ρ[i]? = some (.val (nlD dss)) ∧ noErr ρ = true ∧ Nst K H0 H1 F a bs dss
def WOn (K : PySem.W.Frag) (i : Nat) (L1 : Addr) (F0 H0 F : Hp) (D : Ends) : Out → Prop
  | .nx ρ => ∀ F' H' σ', Ex F F' → EnvN K i L1 F0 H0 F' H' σ' ρ → D.nx σ' H'
  | _ => False
section
variable {K : PySem.W.Frag} {mg : Str → Option Value} {W : WX} {i : Nat} {L1 a : Addr} {F0 H0 H1 F H F' H' : Hp} {σ : St} {ρ ρ' : Fr} {D : Ends} {bs : List Addr} {dss : List (List Dn.D)}
theorem WOn.mono {o : Out} (s : Ex F F') (w : WOn K i L1 F0 H0 F D o) : WOn K i L1 F0 H0 F' D o := by
  cases o with
  | nx ρ => exact fun F1 H1 σ1 e => w F1 H1 σ1 (s.trans e)
  | brk ρ => exact w
  | cont ρ => exact w
  | ret d ρ => exact w
  | retL ds ρ => exact w
  | exc n ρ => exact w
  | stuck => exact w
theorem WOn.of {α : Type} {m : M α} {k : α → Out} {ke : Str → Prop} (w : WOn K i L1 F0 H0 F D (Out.of m ρ k)) : post m (fun a => WOn K i L1 F0 H0 F D (k a)) ke := by
  cases m with
  | ok a => exact w
  | exc n => exact w.elim
  | stuck => exact w.elim
/-- the nest behind steps that keep what stood -/
theorem Nst.on (N : Nst K H0 H1 F a bs dss) (e : Ex F F') (s : Step F0 H1 F' H') (f0 : Ex F0 F) : Nst K H0 H1 F' a bs dss := by
  have z : ∀ p o, F p = none → H1 p = some o → NTup o → F' p = none := fun p o h1 h2 h3 => by
    refine s.nw p o ?_ h2 h3
    cases q : F0 p with
    | none => rfl
    | some u => rw [f0 p u q] at h1; cases h1
  refine ⟨N.ex, N.za, N.zb, z _ _ N.fa N.ha (fun _ q => nomatch q), fun b hb => ?_, N.ha, N.nd, N.ln, fun j b ds h1 h2 => ?_⟩
  · obtain ⟨j, hj, e⟩ := List.getElem_of_mem hb
    obtain ⟨vs, hv, _⟩ := N.hb j b (dss[j]'(by rw [← N.ln]; exact hj)) (by rw [List.getElem?_eq_getElem hj, e]) (List.getElem?_eq_getElem _)
    exact z _ _ (N.fb b hb) hv (fun _ q => nomatch q)
  · obtain ⟨vs, hv, r⟩ := N.hb j b ds h1 h2
    exact ⟨vs, hv, r.mono e⟩
def errAt (i : Nat) (ρ : Fr) : Bool := match ρ[i]? with
  | some s => isErr s
  | none => false
theorem errAt_is (h : errAt i ρ = true) : ∃ n, ρ[i]? = some (.err n) := by
  unfold errAt at h
  cases q : ρ[i]? with
  | none => rw [q] at h; cases h
  | some s =>
    rw [q] at h
    cases s with
    | err n => exact ⟨n, rfl⟩
    | none => cases h
    | val d => cases h
    | own d => cases h
    | pin d => cases h
theorem Env.mark {L : Addr × Addr} (E : Env K L F0 H0 F H σ ρ) {n : Str} (h : ρ[i]? = some (.err n)) : Env K L F0 H0 F H σ (ρ.set i mkE) where
  st := E.st
  len := by rw [List.length_set]; exact E.len
  sl := fun j s q => by
    rcases set_get q with ⟨e, es, _⟩ | ⟨_, h'⟩
    · subst e; subst es
      have z := E.sl i _ h
      exact z
    · exact E.sl j s h'
  sep := fun j k l h1 h2 e1 e2 => by
    have nj := own_ne (s := mkE) rfl h1
    have nk := own_ne (s := mkE) rfl h2
    rw [List.getElem?_set_ne nj] at h1
    rw [List.getElem?_set_ne nk] at h2
    exact E.sep j k l h1 h2 e1 e2
/-- a frame behind a statement that leaves the nest alone -/
def backN (i : Nat) (s : S) (ρ1 : Fr) : Option Fr := if errAt i ρ1 && noErr (ρ1.set i s) then some (ρ1.set i s) else none
/-- an expression ahead keeps the nest -/
theorem EnvN.step {L : Unit} (E : Env K (L1, a) F0 H1 F H σ (ρ.set i mkE)) (N : Nst K H0 H1 F a bs dss) (s : Step F H F' H') : Env K (L1, a) F0 H1 F' H' σ (ρ.set i mkE) ∧ Nst K H0 H1 F' a bs dss :=
  ⟨E.step s, N.on s.ff (E.step s).st E.st.ff⟩
end
end Dn
set_option Elab.async false
set_option linter.all false
set_option maxRecDepth 100000
set_option maxHeartbeats 4000000
namespace Dn
open PySem L2
section
variable {K : PySem.W.Frag} {mg : Str → Option Value} {W : WX} {i : Nat} {L1 a b : Addr} {L : Addr × Addr} {F0 H0 H1 F H F' H' : Hp} {σ : St} {ρ ρ' : Fr} {D : Ends} {bs : List Addr} {dss : List (List Dn.D)} {ho o : HO}
theorem Env.both (E : Env K L F0 H1 F H σ ρ) (fb : F b = none) (hb : H1 b = some o) : Env K L F0 (upd H1 b ho) F (upd H b ho) σ ρ where
  st := by
    refine ⟨E.st.ff, E.st.hh.upd, fun x u h1 h2 h3 => ?_, fun x u q => ?_⟩
    · by_cases z : x = b
      · rw [z]; exact fb
      · rw [upd_ne z] at h2; exact E.st.nw x u h1 h2 h3
    · rw [upd_ne (ne_of_none q fb)]; exact E.st.fh x u q
  len := E.len
  sl := fun j s q => by
    have z := E.sl j s q
    cases s with
    | none => trivial
    | err n => exact z
    | val d => exact z
    | own us =>
      obtain ⟨m, ho2, e, f2, h2, hH2, rr⟩ := z
      have ne : m ≠ b := fun q => by rw [q, hb] at h2; cases h2
      exact ⟨m, ho2, e, f2, by rw [upd_ne ne]; exact h2, by rw [upd_ne ne]; exact hH2, rr⟩
    | pin us =>
      obtain ⟨e, f2, h2, ho2, hH2, rr⟩ := z
      have ne : L.1 ≠ b := fun q => by rw [q, hb] at h2; cases h2
      exact ⟨e, f2, by rw [upd_ne ne]; exact h2, ho2, by rw [upd_ne ne]; exact hH2, rr⟩
  sep := E.sep
theorem Nst.mut {n : Nat} {ws : List V} {ds' : List Dn.D} (N : Nst K H0 H1 F a bs dss) (hn : bs[n]? = some b) (r : RepL K F ws ds') : Nst K H0 (upd H1 b (.lst ws)) F a bs (dss.set n ds') := by
  have mb := List.mem_of_getElem? hn
  obtain ⟨na, nb⟩ := List.nodup_cons.mp N.nd
  have ab : a ≠ b := fun z => na (by rw [z]; exact mb)
  refine ⟨fun x u q => ?_, N.za, N.zb, N.fa, N.fb, by rw [upd_ne ab]; exact N.ha, N.nd, by rw [List.length_set]; exact N.ln, fun j b' ds h1 h2 => ?_⟩
  · rw [upd_ne (ne_of_none q (N.zb b mb))]; exact N.ex x u q
  · obtain ⟨l1, e1⟩ := List.getElem?_eq_some_iff.mp h1
    obtain ⟨l2, e2⟩ := List.getElem?_eq_some_iff.mp hn
    by_cases c : n = j
    · subst c
      have : b' = b := by rw [← e1, ← e2]
      subst this
      rw [List.getElem?_set_self (by rw [← N.ln]; exact l1)] at h2
      cases h2
      exact ⟨ws, upd_same, r⟩
    · rw [List.getElem?_set_ne c] at h2
      have ne : b' ≠ b := fun z => c ((List.getElem_inj nb).mp (by rw [e1, e2, z])).symm
      obtain ⟨vs, hv, r'⟩ := N.hb j b' ds h1 h2
      exact ⟨vs, by rw [upd_ne ne]; exact hv, r'⟩
/-- a loop -/
def tgN (i : Nat) (tg : Dn.D → Fr → Option Fr) : Dn.D → Fr → Option Fr := fun d ρ => ρ[i]?.bind fun s => (tg d (ρ.set i mkE)).bind fun ρ1 => backN i s ρ1
theorem err_no (h : noErr ρ = true) {j : Nat} {n : Str} (q : ρ[j]? = some (.err n)) : False := by
  unfold noErr at h
  have := List.all_eq_true.mp h _ (List.mem_of_getElem? q)
  cases this
/-- the nest is frozen -/
theorem EnvN.out (X : EnvN K i L.1 F0 H0 F H σ ρ) : ∃ F', Ex F F' ∧ Env K L F0 H0 F' H σ ρ := by
  obtain ⟨a, bs, dss, H1, E, hi, ne, N⟩ := X
  have li := (List.getElem?_eq_some_iff.mp hi).1
  have el : σ[i]?.join = some (.ref a) := E.sl i mkE (List.getElem?_set_self li)
  obtain ⟨na, nb⟩ := List.nodup_cons.mp N.nd
  let F' : Hp := fun p => if p = a then H1 a else if p ∈ bs then H1 p else F p
  have Fa : F' a = some (.lst (bs.map V.ref)) := by show (if a = a then H1 a else _) = _; rw [if_pos rfl]; exact N.ha
  have Fb : ∀ b ∈ bs, F' b = H1 b := fun b hb => by
    show (if b = a then H1 a else if b ∈ bs then H1 b else F b) = _
    rw [if_neg (fun z => na (by rw [← z]; exact hb)), if_pos hb]
  have Fo : ∀ p, p ≠ a → p ∉ bs → F' p = F p := fun p h1 h2 => by
    show (if p = a then H1 a else if p ∈ bs then H1 p else F p) = _
    rw [if_neg h1, if_neg h2]
  have ef : Ex F F' := fun p o q => by
    rw [Fo p (ne_of_none q N.fa) (fun z => by rw [N.fb p z] at q; cases q)]
    exact q
  have h1b : ∀ b ∈ bs, ∃ o, H1 b = some o := fun b hb => by
    obtain ⟨j, hj, e⟩ := List.getElem_of_mem hb
    obtain ⟨vs, hv, _⟩ := N.hb j b (dss[j]'(by rw [← N.ln]; exact hj)) (by rw [List.getElem?_eq_getElem hj, e]) (List.getElem?_eq_getElem _)
    exact ⟨_, hv⟩
  have own : ∀ l, H1 l = none → l ≠ a ∧ l ∉ bs := fun l hl => ⟨fun z => (by rw [z, N.ha] at hl; cases hl), fun z => by obtain ⟨o, ho⟩ := h1b l z; rw [ho] at hl; cases hl⟩
  have z0 : ∀ l, H1 l = none → H0 l = none := fun l hl => by
    cases q : H0 l with
    | none => rfl
    | some o => rw [N.ex l o q] at hl; cases hl
  refine ⟨F', ef, ⟨E.st.ff.trans ef, N.ex.trans E.st.hh, fun x o h1 h2 h3 => ?_, fun x o q => ?_⟩, by have := E.len; rw [List.length_set] at this; exact this, fun j s q => ?_, fun j k l h1 h2 e1 e2 => ?_⟩
  · rw [Fo x (ne_of_none h2 N.za) (fun z => by rw [N.zb x z] at h2; cases h2)]
    exact E.st.nw x o h1 (N.ex x o h2) h3
  · by_cases c1 : x = a
    · rw [c1, Fa] at q; rw [c1, ← q]; exact E.st.hh _ _ N.ha
    · by_cases c2 : x ∈ bs
      · rw [Fb x c2] at q; exact E.st.hh _ _ q
      · rw [Fo x c1 c2] at q; exact E.st.fh _ _ q
  · by_cases c : i = j
    · subst c
      rw [hi] at q
      cases q
      refine ⟨.ref a, el, ?_⟩
      have rl : RepL K F' (bs.map V.ref) (dss.map PyData.list) := by
        have key : ∀ (bs : List Addr) (dss : List (List Dn.D)), bs.length = dss.length → (∀ (j : Nat) (b : Addr) (ds : List Dn.D), bs[j]? = some b → dss[j]? = some ds → ∃ vs, F' b = some (.lst vs) ∧ RepL K F' vs ds) → RepL K F' (bs.map V.ref) (dss.map PyData.list) := by
          intro bs
          induction bs with
          | nil => intro dss hl _; cases dss with | nil => exact .nil | cons _ _ => cases hl
          | cons b bs ih =>
            intro dss hl hb
            cases dss with
            | nil => cases hl
            | cons ds dss =>
              obtain ⟨vs, hv, r⟩ := hb 0 b ds rfl rfl
              refine .cons (.lst hv r) (ih dss (by simpa using hl) fun j b' ds' h1 h2 => hb (j + 1) b' ds' (by simpa using h1) (by simpa using h2))
        refine key bs dss N.ln fun j b ds h1 h2 => ?_
        obtain ⟨vs, hv, r⟩ := N.hb j b ds h1 h2
        exact ⟨vs, by rw [Fb b (List.mem_of_getElem? h1)]; exact hv, r.mono ef⟩
      exact .lst Fa rl
    · have z := E.sl j s (by rw [List.getElem?_set_ne c]; exact q)
      cases s with
      | none => trivial
      | err n => exact (err_no ne q).elim
      | val d => obtain ⟨v, e, r⟩ := z; exact ⟨v, e, r.mono ef⟩
      | own us =>
        obtain ⟨m, ho2, e, f2, h2, hH2, rr⟩ := z
        obtain ⟨o1, o2⟩ := own m h2
        exact ⟨m, ho2, e, by rw [Fo m o1 o2]; exact f2, z0 m h2, hH2, rr.mono ef⟩
      | pin us =>
        obtain ⟨e, f2, h2, ho2, hH2, rr⟩ := z
        obtain ⟨o1, o2⟩ := own L.1 h2
        exact ⟨e, by rw [Fo _ o1 o2]; exact f2, z0 _ h2, ho2, hH2, rr.mono ef⟩
  · have no : ∀ m, isOwn ρ[m]? → i ≠ m := fun m hm z => by
      subst z
      unfold isOwn at hm
      rw [hi] at hm
      cases hm
    exact E.sep j k l (by rw [List.getElem?_set_ne (no j h1)]; exact h1) (by rw [List.getElem?_set_ne (no k h2)]; exact h2) e1 e2
end
end Dn
set_option Elab.async false
set_option linter.all false
set_option maxRecDepth 100000
set_option maxHeartbeats 4000000
namespace Dn
open PySem L2
end Dn
set_option Elab.async false
set_option linter.all false
set_option maxRecDepth 100000
set_option maxHeartbeats 4000000
namespace Dn
open PySem L2
abbrev MX := Fr → M (D × Fr)
/-- l.pop(e) -/
def xMut (j : Nat) (fm : List D → List D → Option (List D × D)) (as : ML) : MX := fun ρ => (lift (ownAt j ρ)).bind fun ds => (as ρ).bind fun es => (lift (fm ds es)).bind fun r => .ok (r.2, putL j r.1 ρ)
/-- a op b, the change in b -/
def xR (op : D → D → Option D) (a : ME) (g : MX) : MX := fun ρ => (a ρ).bind fun x => match g ρ with
  | .ok r => (lift (op x r.1)).bind fun v => .ok (v, r.2)
  | _ => .stuck
/-- .. in a -/
def xL (op : D → D → Option D) (g : MX) (b : ME) : MX := fun ρ => match g ρ with
  | .ok r => (match b r.2 with
    | .ok y => (lift (op r.1 y)).bind fun v => .ok (v, r.2)
    | _ => .stuck)
  | _ => .stuck
/-- l.append(e), the change in e -/
def sMutX (i : Nat) (fm : List D → List D → Option (List D × D)) (g : MX) : MS := fun ρ => match g ρ with
  | .ok r => Out.ofO (ownAt i r.2) fun ds => Out.ofO (fm ds [r.1]) fun q => .nx (putL i q.1 r.2)
  | _ => .stuck
section
variable {K : PySem.W.Frag} {L : Addr × Addr} {mg : Str → Option Value} {W : WX}
/-- whether the slot held a list ahead: asked -/
def xAsk (i : Nat) (g : MX) : MX := fun ρ => match ownAt i ρ with
  | some _ => g ρ
  | none => .stuck
end
section
variable {ρ : Fr} {e a b : ME} {as : ML} {g : MX} {op : D → D → Option D} {fm : List D → List D → Option (List D × D)} {i j : Nat}
@[simp] theorem xMut_ap : xMut j fm as ρ = (lift (ownAt j ρ)).bind fun ds => (as ρ).bind fun es => (lift (fm ds es)).bind fun r => .ok (r.2, putL j r.1 ρ) := rfl
@[simp] theorem xR_ap : xR op a g ρ = (a ρ).bind fun x => match g ρ with
  | .ok r => (lift (op x r.1)).bind fun v => .ok (v, r.2)
  | _ => .stuck := rfl
@[simp] theorem xL_ap : xL op g b ρ = match g ρ with
  | .ok r => (match b r.2 with
    | .ok y => (lift (op r.1 y)).bind fun v => .ok (v, r.2)
    | _ => .stuck)
  | _ => .stuck := rfl
@[simp] theorem xAsk_ap : xAsk i g ρ = match ownAt i ρ with
  | some _ => g ρ
  | none => .stuck := rfl
@[simp] theorem sMutX_ap : sMutX i fm g ρ = match g ρ with
  | .ok r => Out.ofO (ownAt i r.2) fun ds => Out.ofO (fm ds [r.1]) fun q => .nx (putL i q.1 r.2)
  | _ => .stuck := rfl
end
end Dn
set_option Elab.async false
set_option linter.all false
set_option maxRecDepth 100000
set_option maxHeartbeats 4000000
namespace Dn
open PySem PySem.Spec PyProof.Rows L2
end Dn
set_option Elab.async false
set_option linter.all false
set_option maxRecDepth 100000
set_option maxHeartbeats 4000000
namespace Dn
open PySem PySem.Spec PyProof.Rows L2
def listTD : List D → Option (List D)
  | [.dict ((.bool true, .bool true) :: ps)] => (decT ps).map fun kvs => kvs.map fun p => .tuple (p.1.map keyD)
  | _ => none
@[simp] theorem listTD_T {kvs : List (List Key × D)} : listTD [.dict (kdT kvs)] = some (kvs.map fun p => .tuple (p.1.map keyD)) := by
  show (decT _).map _ = _; rw [decT_map]; rfl
end Dn
set_option Elab.async false
set_option linter.all false
set_option maxRecDepth 100000
set_option maxHeartbeats 4000000
namespace Dn
open PySem PySem.Spec PyProof.Rows L2
abbrev NK := List Key × Key
def kn : Key → NestedKey
  | .inl i => .num i
  | .inr x => .text x
def nkN (k : NK) : NestedKey := .tup [.tup (k.1.map kn), kn k.2]
/-- the key tuple at b -/
def NkH (H : Hp) (b : Addr) (k : NK) : Prop := ∃ p, H b = some (.tup [.ref p, L2.kV k.2]) ∧ H p = some (.tup (k.1.map L2.kV))
theorem NkH.mono {H H' : Hp} {b : Addr} {k : NK} (e : Ex H H') (h : NkH H b k) : NkH H' b k := by
  obtain ⟨p, h1, h2⟩ := h
  exact ⟨p, e _ _ h1, e _ _ h2⟩
abbrev NX := List (NK × Addr × Value)
abbrev nxs (xs : NX) : List (NestedKey × Addr × Value) := xs.map fun x => (nkN x.1, x.2)
section
variable (P : Program) (w : World)
def nstO (a : Addr) (xs : NX) : HO := .ext fun h => ∃ o es ep, h.get? a = some o ∧ o.ExactDict ∧ o.data = .dict es ep ∧ es.toList = (nxs xs).map (entryOfKey (nestedKind P w)) ∧ ((nxs xs).map (·.1)).Nodup
end
section
variable {P : Program} {w : World} {H : Hp} {h : Heap} {a b : Addr}
def keysX (xs : NX) : List NK := xs.map fun x => x.1
end
end Dn
set_option Elab.async false
set_option linter.all false
set_option maxRecDepth 100000
set_option maxHeartbeats 4000000
namespace Dn
open PySem L2
def nk? : D → Option NK
  | .tuple [t, d] => (keyT? t).bind fun ks => (key? d).map fun k => (ks, k)
  | _ => none
def nkD (k : NK) : D := .tuple [.tuple (k.1.map keyD), keyD k.2]
theorem keyT_keyD (ks : List Key) : keyT? (.tuple (ks.map keyD)) = some ks := by
  show keys? (ks.map keyD) = some ks
  induction ks with
  | nil => rfl
  | cons k ks ih =>
    show (key? (keyD k)).bind (fun k => (keys? (ks.map keyD)).map (k :: ·)) = _
    rw [key_keyD, ih]; rfl
@[simp] theorem nk_nkD (k : NK) : nk? (nkD k) = some k := by
  show (keyT? (.tuple (k.1.map keyD))).bind (fun ks => (key? (keyD k.2)).map fun k => (ks, k)) = _
  rw [keyT_keyD, key_keyD]; rfl
/-- the dict's keys as data -/
def ksD (ks : List NK) : D := .list (ks.map nkD)
def ks? : D → Option (List NK)
  | .list ds => ds.mapM nk?
  | _ => none
theorem mapM_nk : ∀ ks : List NK, (ks.map nkD).mapM nk? = some ks
  | [] => rfl
  | k :: ks => by rw [List.map_cons, List.mapM_cons, nk_nkD, mapM_nk ks]; rfl
@[simp] theorem ks_ksD (ks : List NK) : ks? (ksD ks) = some ks := mapM_nk ks
structure RN (P : Program) (w : World) (H0 H1 F : Hp) (a : Addr) (ks : List NK) : Prop where
  ex : Ex H0 H1
  za : H0 a = none
  fa : F a = none
  ns : a ≠ sysModules
  xs : ∃ xs : NX, H1 a = some (nstO P w a xs) ∧ keysX xs = ks ∧ ∀ x ∈ xs, NkH F x.2.1 x.1
section
variable (K : PySem.W.Frag) (P : Program) (w : World)
def EnvX (i : Nat) (L1 : Addr) (F0 H0 F H : Hp) (σ : St) (ρ : Fr) : Prop :=
  ∃ (a : Addr) (ks : List NK) (H1 : Hp), Env K (L1, a) F0 H1 F H σ (ρ.set i mkE) ∧ ρ[i]? = some (.val (ksD ks)) ∧ noErr ρ = true ∧ RN P w H0 H1 F a ks
def WOX (mg : Str → Option Value) (W : WX) (i : Nat) (L1 : Addr) (F0 H0 F : Hp) (D : Ends) : Out → Prop
  | .nx ρ => ∀ F' H' σ', Ex F F' → EnvX K P w i L1 F0 H0 F' H' σ' ρ → D.nx σ' H'
  | .brk ρ => ∀ F' H' σ', Ex F F' → EnvX K P w i L1 F0 H0 F' H' σ' ρ → D.bk σ' H'
  | .cont ρ => ∀ F' H' σ', Ex F F' → EnvX K P w i L1 F0 H0 F' H' σ' ρ → D.ct σ' H'
  | .ret d ρ => ∀ F' H' σ' v a, Ex F F' → Env K (L1, a) F0 H0 F' H' σ' ρ → Rep K F' v d → D.rt v H'
  | .exc n ρ => ∀ F' H' σ' a, Ex F F' → Env K (L1, a) F0 H0 F' H' σ' ρ → Wm mg W n σ' H'
  | _ => False
end
section
variable {K : PySem.W.Frag} {P : Program} {w : World} {mg : Str → Option Value} {W : WX} {i : Nat} {L1 a : Addr} {F0 H0 H1 F H F' H' : Hp} {σ : St} {ρ ρ' : Fr} {D : Ends} {ks : List NK}
theorem WOX.mono {o : Out} (s : Ex F F') (q : WOX K P w mg W i L1 F0 H0 F D o) : WOX K P w mg W i L1 F0 H0 F' D o := by
  cases o with
  | nx ρ => exact fun F1 H1 σ1 e => q F1 H1 σ1 (s.trans e)
  | brk ρ => exact fun F1 H1 σ1 e => q F1 H1 σ1 (s.trans e)
  | cont ρ => exact fun F1 H1 σ1 e => q F1 H1 σ1 (s.trans e)
  | ret d ρ => exact fun F1 H1 σ1 v a e => q F1 H1 σ1 v a (s.trans e)
  | retL ds ρ => exact q
  | exc n ρ => exact fun F1 H1 σ1 a e => q F1 H1 σ1 a (s.trans e)
  | stuck => exact q
theorem RN.on (N : RN P w H0 H1 F a ks) (e : Ex F F') (s : Step F0 H1 F' H') (f0 : Ex F0 F) : RN P w H0 H1 F' a ks := by
  obtain ⟨xs, h1, h2, h3⟩ := N.xs
  refine ⟨N.ex, N.za, ?_, N.ns, xs, h1, h2, fun x hx => (h3 x hx).mono e⟩
  refine s.nw a _ ?_ h1 (fun _ q => nomatch q)
  cases q : F0 a with
  | none => rfl
  | some u => have := f0 _ _ q; rw [N.fa] at this; cases this
/-- the ground taken smaller -/
theorem Env.less {L : Addr × Addr} (E : Env K L F0 H1 F H σ ρ) (ex : Ex H0 H1) : Env K L F0 H0 F H σ ρ where
  st := ⟨E.st.ff, ex.trans E.st.hh, fun x o q1 q2 q3 => E.st.nw x o q1 (ex x o q2) q3, E.st.fh⟩
  len := E.len
  sl := fun j s q => by
    have z0 : ∀ l, H1 l = none → H0 l = none := fun l hl => by
      cases r : H0 l with
      | none => rfl
      | some o => rw [ex l o r] at hl; cases hl
    have z := E.sl j s q
    cases s with
    | none => trivial
    | err n => exact z
    | val d => exact z
    | own us => obtain ⟨m, ho, e, f, h, hh, r⟩ := z; exact ⟨m, ho, e, f, z0 m h, hh, r⟩
    | pin us => obtain ⟨e, f, h, r⟩ := z; exact ⟨e, f, z0 _ h, r⟩
  sep := E.sep
/-- a statement that leaves the dict alone -/
def sLiftX (i : Nat) (g : MS) : MS := fun ρ => Out.ofO ρ[i]? fun s => match g (ρ.set i mkE) with
  | .nx ρ1 => Out.ofO (backN i s ρ1) .nx
  | .brk ρ1 => Out.ofO (backN i s ρ1) .brk
  | .cont ρ1 => Out.ofO (backN i s ρ1) .cont
  | .ret d ρ1 => .ret d ρ1
  | .exc n ρ1 => .exc n ρ1
  | _ => .stuck
/-- what an expression ahead may raise -/
theorem WOX.of {α : Type} {m : M α} {k : α → Out} (E : Env K (L1, a) F0 H1 F H σ (ρ.set i mkE)) (ex : Ex H0 H1) (q : WOX K P w mg W i L1 F0 H0 F D (Out.of m (ρ.set i mkE) k)) : post m (fun a => WOX K P w mg W i L1 F0 H0 F D (k a)) (WE' mg W F H σ) := by
  cases m with
  | ok a => exact q
  | exc n => exact fun F1 H2 s => q F1 H2 σ a s.ff ((E.step s).less ex)
  | stuck => exact q.elim
def clrI (i : Nat) (ρ : Fr) : Fr := ρ.set i .none
theorem Env.other {L L' : Addr × Addr} (E : Env K L F0 H0 F H σ ρ) (ne : noErr ρ = true) (h1 : L'.1 = L.1) : Env K L' F0 H0 F H σ ρ where
  st := E.st
  len := E.len
  sl := fun j s q => by
    have z := E.sl j s q
    cases s with
    | none => trivial
    | err n => exact (err_no ne q).elim
    | val d => exact z
    | own us => exact z
    | pin us => obtain ⟨e, r⟩ := z; rw [← h1] at e r; exact ⟨e, r⟩
  sep := E.sep
theorem Env.clr {L : Addr × Addr} (E : Env K L F0 H0 F H σ ρ) : Env K L F0 H0 F H σ (clrI i ρ) where
  st := E.st
  len := by unfold clrI; rw [List.length_set]; exact E.len
  sl := fun j s q => by
    rcases set_get q with ⟨e, es, _⟩ | ⟨nj, h'⟩
    · subst es; trivial
    · exact E.sl j s h'
  sep := fun j k l h1 h2 e1 e2 => by
    have nj := own_ne (s := .none) rfl h1
    have nk := own_ne (s := .none) rfl h2
    unfold clrI at h1 h2
    rw [List.getElem?_set_ne nj] at h1
    rw [List.getElem?_set_ne nk] at h2
    exact E.sep j k l h1 h2 e1 e2
end
end Dn
namespace Dn
open PySem L2
end Dn
set_option Elab.async false
set_option linter.all false
set_option maxRecDepth 100000
set_option maxHeartbeats 4000000
namespace Dn
open PySem PySem.Spec PyProof.Rows L2
end Dn
set_option Elab.async false
set_option linter.all false
set_option maxRecDepth 100000
set_option maxHeartbeats 4000000
namespace Dn
open PySem PySem.Spec PyProof.Rows L2
end Dn
set_option Elab.async false
set_option linter.all false
set_option maxRecDepth 100000
set_option maxHeartbeats 4000000
namespace Dn
open PySem PySem.Spec PyProof.Rows L2
open Classical in
noncomputable def lsD : D → Option D
  | .list (d :: ds) => if (∀ e ∈ ds, e = d) ∧ ds.length < 63 ∧ ∃ ns : List Int, d = .tuple (ns.map .int) then some (.int 1) else none
  | _ => none
noncomputable def eLS (a : ME) : ME := fun ρ => (a ρ).bind fun d => lift (lsD d)
@[simp] theorem eLS_ap {a : ME} {ρ : Fr} : eLS a ρ = (a ρ).bind fun d => lift (lsD d) := rfl
end Dn
set_option Elab.async false
set_option linter.all false
set_option maxRecDepth 100000
set_option maxHeartbeats 4000000
namespace Dn
open PySem PySem.Spec PyProof.Rows L2
/-- the distinct ones, in the order in which they come -/
def ddK {κ : Type} [DecidableEq κ] (ks : List κ) : List κ := ks.foldl (fun acc x => if x ∈ acc then acc else acc ++ [x]) []
open Classical in
/-- how many things a list holds, of truth values or ints -/
noncomputable def lcL (ds : List D) : Option D := if ds.length < 1000 then (if h : ∃ bs : List Bool, ds = bs.map .bool then some (.int ((ddK h.choose).length : Int)) else if h : ∃ ns : List Int, ds = ns.map .int then some (.int ((ddK h.choose).length : Int)) else none) else none
noncomputable def lcD : D → Option D
  | .list ds => lcL ds
  | _ => none
noncomputable def eLC (a : ME) : ME := fun ρ => (a ρ).bind fun d => lift (lcD d)
@[simp] theorem eLC_ap {a : ME} {ρ : Fr} : eLC a ρ = (a ρ).bind fun d => lift (lcD d) := rfl
end Dn
set_option Elab.async false
set_option linter.all false
set_option maxRecDepth 100000
set_option maxHeartbeats 4000000
namespace Dn
open PySem L2
/-- what hangs on the slot, at a: above H0, up to H1, not frozen in F -/
structure Reg (X : Type) where
  inv : Hp → Hp → Hp → Addr → X → Prop
  enc : X → D
  dec : D → Option X
  de : ∀ x, dec (enc x) = some x
  ex : ∀ {H0 H1 F : Hp} {a : Addr} {x : X}, inv H0 H1 F a x → Ex H0 H1
  on : ∀ {H0 H1 F F' : Hp} {a : Addr} {x : X}, inv H0 H1 F a x → Ex F F' → (∀ p o, F p = none → H1 p = some o → NTup o → F' p = none) → inv H0 H1 F' a x
section
variable {X : Type} (R : Reg X) (K : PySem.W.Frag)
def EnvR (i : Nat) (L1 : Addr) (F0 H0 F H : Hp) (σ : St) (ρ : Fr) : Prop :=
  ∃ (a : Addr) (x : X) (H1 : Hp), Env K (L1, a) F0 H1 F H σ (ρ.set i mkE) ∧ ρ[i]? = some (.val (R.enc x)) ∧ noErr ρ = true ∧ R.inv H0 H1 F a x
def WOR (mg : Str → Option Value) (W : WX) (i : Nat) (L1 : Addr) (F0 H0 F : Hp) (D : Ends) : Out → Prop
  | .nx ρ => ∀ F' H' σ', Ex F F' → EnvR R K i L1 F0 H0 F' H' σ' ρ → D.nx σ' H'
  | .brk ρ => ∀ F' H' σ', Ex F F' → EnvR R K i L1 F0 H0 F' H' σ' ρ → D.bk σ' H'
  | .cont ρ => ∀ F' H' σ', Ex F F' → EnvR R K i L1 F0 H0 F' H' σ' ρ → D.ct σ' H'
  | .ret d ρ => ∀ F' H' σ' v a, Ex F F' → Env K (L1, a) F0 H0 F' H' σ' ρ → Rep K F' v d → D.rt v H'
  | .exc n ρ => ∀ F' H' σ' a, Ex F F' → Env K (L1, a) F0 H0 F' H' σ' ρ → Wm mg W n σ' H'
  | _ => False
def DSR (mg : Str → Option Value) (W : WX) (i : Nat) (t : TS) (g : MS) : Prop :=
  ∀ L1 F0 H0 F H σ ρ D, EnvR R K i L1 F0 H0 F H σ ρ → WOR R K mg W i L1 F0 H0 F D (g ρ) → t D σ H
end
/-- a loop -/
def loopR (tg : D → Fr → Option Fr) (g : MS) : List D → Fr → Out
  | [], ρ => .nx ρ
  | d :: ds, ρ => Out.ofO (tg d ρ) fun ρ1 => match g ρ1 with
    | .nx ρ2 => loopR tg g ds ρ2
    | .cont ρ2 => loopR tg g ds ρ2
    | .brk ρ2 => .nx ρ2
    | o => o
def sForR (i : Nat) (f : ML) (tg : D → Fr → Option Fr) (g : MS) : MS := fun ρ => Out.of (f (ρ.set i mkE)) (ρ.set i mkE) fun ds => loopR (tgN i tg) g ds ρ
def sIfR (i : Nat) (tf : MT) (g h : MS) : MS := fun ρ => Out.of (tf (ρ.set i mkE)) (ρ.set i mkE) fun b => if b = true then g ρ else h ρ
section
variable {X : Type} {R : Reg X} {K : PySem.W.Frag} {mg : Str → Option Value} {W : WX} {i : Nat} {L1 a : Addr} {F0 H0 H1 F H F' H' : Hp} {σ : St} {ρ ρ' : Fr} {D : Ends} {x : X}
theorem WOR.mono {o : Out} (s : Ex F F') (q : WOR R K mg W i L1 F0 H0 F D o) : WOR R K mg W i L1 F0 H0 F' D o := by
  cases o with
  | nx ρ => exact fun F1 H1 σ1 e => q F1 H1 σ1 (s.trans e)
  | brk ρ => exact fun F1 H1 σ1 e => q F1 H1 σ1 (s.trans e)
  | cont ρ => exact fun F1 H1 σ1 e => q F1 H1 σ1 (s.trans e)
  | ret d ρ => exact fun F1 H1 σ1 v a e => q F1 H1 σ1 v a (s.trans e)
  | retL ds ρ => exact q
  | exc n ρ => exact fun F1 H1 σ1 a e => q F1 H1 σ1 a (s.trans e)
  | stuck => exact q
theorem WOR.ofO {α : Type} {m : Option α} {k : α → Out} (q : WOR R K mg W i L1 F0 H0 F D (Out.ofO m k)) : ∃ a, m = some a ∧ WOR R K mg W i L1 F0 H0 F D (k a) := by
  cases m with
  | some a => exact ⟨a, rfl, q⟩
  | none => exact q.elim
theorem Reg.step (N : R.inv H0 H1 F a x) (e : Ex F F') (s : Step F0 H1 F' H') (f0 : Ex F0 F) : R.inv H0 H1 F' a x :=
  R.on N e fun p o h1 h2 h3 => by
    refine s.nw p o ?_ h2 h3
    cases q : F0 p with
    | none => rfl
    | some u => have := f0 _ _ q; rw [h1] at this; cases this
theorem backR_env {s : S} {ρ1 ρ2 : Fr} (q : backN i s ρ1 = some ρ2) (hs : s = .val (R.enc x)) (N : R.inv H0 H1 F a x) (f0 : Ex F0 F) (e : Ex F F') (E : Env K (L1, a) F0 H1 F' H' σ ρ1) : EnvR R K i L1 F0 H0 F' H' σ ρ2 := by
  unfold backN at q
  split at q
  · rename_i c
    cases q
    rw [Bool.and_eq_true] at c
    obtain ⟨n, hn⟩ := errAt_is c.1
    have hl := (List.getElem?_eq_some_iff.mp hn).1
    refine ⟨a, x, H1, ?_, ?_, c.2, Reg.step N e E.st f0⟩
    · rw [List.set_set]
      exact E.mark hn
    · rw [List.getElem?_set_self hl, hs]
  · cases q
theorem dsr_lift {t : TS} {g : MS} (h : ∀ L, DS K L mg W t g) : DSR R K mg W i t (sLiftX i g) := fun L1 F0 H0 F H σ ρ D ⟨a, x, H1, E, hi, ne, N⟩ q => by
  refine h (L1, a) F0 H1 F H σ _ D E ?_
  unfold sLiftX at q
  rw [hi] at q
  have q : WOR R K mg W i L1 F0 H0 F D (match g (ρ.set i mkE) with
    | .nx ρ1 => Out.ofO (backN i (.val (R.enc x)) ρ1) .nx
    | .brk ρ1 => Out.ofO (backN i (.val (R.enc x)) ρ1) .brk
    | .cont ρ1 => Out.ofO (backN i (.val (R.enc x)) ρ1) .cont
    | .ret d ρ1 => .ret d ρ1
    | .exc n ρ1 => .exc n ρ1
    | _ => .stuck) := q
  cases qg : g (ρ.set i mkE) with
  | nx ρ1 =>
    rw [qg] at q
    obtain ⟨ρ2, q2, w2⟩ := WOR.ofO q
    exact fun F' H' σ' e E' => w2 F' H' σ' e (backR_env q2 rfl N E.st.ff e E')
  | brk ρ1 =>
    rw [qg] at q
    obtain ⟨ρ2, q2, w2⟩ := WOR.ofO q
    exact fun F' H' σ' e E' => w2 F' H' σ' e (backR_env q2 rfl N E.st.ff e E')
  | cont ρ1 =>
    rw [qg] at q
    obtain ⟨ρ2, q2, w2⟩ := WOR.ofO q
    exact fun F' H' σ' e E' => w2 F' H' σ' e (backR_env q2 rfl N E.st.ff e E')
  | ret d ρ1 => rw [qg] at q; exact fun F' H' σ' v e E' r => q F' H' σ' v a e (E'.less (R.ex N)) r
  | retL ds ρ => rw [qg] at q; exact q.elim
  | exc n ρ1 => rw [qg] at q; exact fun F' H' σ' e E' => q F' H' σ' a e (E'.less (R.ex N))
  | stuck => rw [qg] at q; exact q.elim
theorem dsr_next : DSR R K mg W i tNext sNext := fun L1 F0 H0 F H σ ρ D E q => q F H σ (Ex.refl _) E
theorem dsr_seq {t u : TS} {g h : MS} (h1 : DSR R K mg W i t g) (h2 : DSR R K mg W i u h) : DSR R K mg W i (tSeq t u) (sSeq g h) := fun L1 F0 H0 F H σ ρ D E q => by
  refine h1 L1 F0 H0 F H σ ρ _ E ?_
  unfold sSeq at q
  cases qg : g ρ with
  | nx ρ' => rw [qg] at q; exact fun F1 H1 σ1 e E1 => h2 L1 F0 H0 F1 H1 σ1 ρ' D E1 (q.mono e)
  | brk ρ => rw [qg] at q; exact q
  | cont ρ => rw [qg] at q; exact q
  | ret d ρ => rw [qg] at q; exact q
  | retL ds ρ => rw [qg] at q; exact q
  | exc n ρ => rw [qg] at q; exact q
  | stuck => rw [qg] at q; exact q
/-- what an expression ahead may raise -/
theorem WOR.of {α : Type} {m : M α} {k : α → Out} (E : Env K (L1, a) F0 H1 F H σ (ρ.set i mkE)) (ex : Ex H0 H1) (q : WOR R K mg W i L1 F0 H0 F D (Out.of m (ρ.set i mkE) k)) : post m (fun a => WOR R K mg W i L1 F0 H0 F D (k a)) (WE' mg W F H σ) := by
  cases m with
  | ok a => exact q
  | exc n => exact fun F1 H2 s => q F1 H2 σ a s.ff ((E.step s).less ex)
  | stuck => exact q.elim
theorem dsr_if {tt : TT} {tf : MT} {t u : TS} {g h : MS} (ht : ∀ L, DT K L mg W tt tf) (h1 : DSR R K mg W i t g) (h2 : DSR R K mg W i u h) : DSR R K mg W i (tIfS tt t u) (sIfR i tf g h) := fun L1 F0 H0 F H σ ρ D ⟨a, x, H1, E, hi, ne, N⟩ q => by
  refine ht (L1, a) F0 H1 F H σ _ _ E (post_mono (WOR.of E (R.ex N) q) (fun c k F1 H2 s => ?_) fun _ z => z)
  have EN : EnvR R K i L1 F0 H0 F1 H2 σ ρ := ⟨a, x, H1, E.step s, hi, ne, Reg.step N s.ff (E.step s).st E.st.ff⟩
  cases c with
  | true => exact iteT (h1 L1 F0 H0 F1 H2 σ ρ D EN (WOR.mono s.ff k))
  | false => exact iteF (h2 L1 F0 H0 F1 H2 σ ρ D EN (WOR.mono s.ff k))
theorem dsr_for {wi : TI} {f : ML} {gg : TG} {tg : Dn.D → Fr → Option Fr} {is : List Nat} {t : TS} {g : MS} (hi : ∀ L, DI K L mg W wi f) (hg : ∀ L, DG K L gg tg is) (hb : DSR R K mg W i t g) : DSR R K mg W i (tFor wi gg t) (sForR i f tg g) := fun L1 F0 H0 F H σ ρ D ⟨a, x, H1, E, hi', ne, N⟩ q => by
  refine hi (L1, a) F0 H1 F H σ _ _ E (post_mono (WOR.of E (R.ex N) q) (fun ds w1 F1 H2 J s src => ?_) fun _ z => z)
  obtain ⟨G, Y, wk, hG, hY⟩ := src
  have EN : EnvR R K i L1 F0 H0 F1 H2 σ ρ := ⟨a, x, H1, E.step s, hi', ne, Reg.step N s.ff (E.step s).st E.st.ff⟩
  refine for_it wk (fun j σ H => ∃ F ρ, Ex F1 F ∧ EnvR R K i L1 F0 H0 F H σ ρ ∧ WOR R K mg W i L1 F0 H0 F D (loopR (tgN i tg) g (ds.drop j) ρ)) ⟨F1, ρ, Ex.refl _, EN, by rw [List.drop_zero]; exact WOR.mono s.ff w1⟩
    (fun j σ H _ ⟨F, ρ, e, ⟨_, _, _, E, _⟩, _⟩ => hG F H e E.st.fh) ?_ ?_
  · rintro j y σ2 H2 H3 hlt ⟨F2, ρ2, e2, ⟨a2, x2, H12, E2, hi2, ne2, N2⟩, w2⟩ yy
    obtain ⟨F3, d, s3, hd, r3⟩ := hY j F2 H2 y H3 hlt e2 E2.st.fh yy
    have ed : ds.drop j = d :: ds.drop (j + 1) := by
      obtain ⟨h1, h2⟩ := List.getElem?_eq_some_iff.mp hd
      rw [List.drop_eq_getElem_cons h1, h2]
    rw [ed] at w2
    have w3 := WOR.mono s3.ff w2
    unfold loopR at w3
    obtain ⟨ρ3, q3, w4⟩ := WOR.ofO w3
    unfold tgN at q3
    rw [hi2] at q3
    have q3 : ((tg d (ρ2.set i mkE)).bind fun ρ1 => backN i (.val (R.enc x2)) ρ1) = some ρ3 := q3
    cases q4 : tg d (ρ2.set i mkE) with
    | none => rw [q4] at q3; cases q3
    | some ρ1 =>
      rw [q4] at q3
      refine hg (L1, a2) F0 H12 F3 H3 σ2 _ y d _ ρ1 (E2.step s3) r3 q4 fun σ3 E3 _ => ?_
      refine hb L1 F0 H0 F3 H3 σ3 ρ3 _ (backR_env q3 rfl N2 E2.st.ff s3.ff E3) ?_
      cases qq : g ρ3 with
      | nx ρ4 => rw [qq] at w4; exact fun F4 H4 σ4 e4 E4 => ⟨F4, ρ4, e2.trans (s3.ff.trans e4), E4, WOR.mono e4 w4⟩
      | cont ρ4 => rw [qq] at w4; exact fun F4 H4 σ4 e4 E4 => ⟨F4, ρ4, e2.trans (s3.ff.trans e4), E4, WOR.mono e4 w4⟩
      | brk ρ4 => rw [qq] at w4; exact w4
      | ret d ρ => rw [qq] at w4; exact w4
      | retL ds ρ => rw [qq] at w4; exact w4
      | exc n ρ => rw [qq] at w4; exact w4
      | stuck => rw [qq] at w4; exact w4
  · rintro σ2 H2 ⟨F2, ρ2, e2, E2, w2⟩
    rw [List.drop_length] at w2
    exact w2 F2 H2 σ2 (Ex.refl _) E2
end
end Dn
set_option Elab.async false
set_option linter.all false
set_option maxRecDepth 100000
set_option maxHeartbeats 4000000
namespace Dn
open PySem PySem.Spec PyProof.Rows L2
end Dn
set_option Elab.async false
set_option linter.all false
set_option maxRecDepth 100000
set_option maxHeartbeats 4000000
namespace Dn
open PySem L2
/-- an item: a list of one's own, or data -/
inductive Ch where
  | own (ds : List D) | dat (d : D)
def Ch.d : Ch → D
  | .own ds => .list ds
  | .dat d => d
def encC : Ch → D
  | .own ds => .list ds
  | .dat d => .tuple [d]
def decC : D → Option Ch
  | .list ds => some (.own ds)
  | .tuple [d] => some (.dat d)
  | _ => none
theorem decC_enc (c : Ch) : decC (encC c) = some c := by cases c <;> rfl
def encN (cs : List Ch) : D := .list (cs.map encC)
def decN : D → Option (List Ch)
  | .list ds => ds.mapM decC
  | _ => none
theorem decN_enc (cs : List Ch) : decN (encN cs) = some cs := by
  show (cs.map encC).mapM decC = some cs
  induction cs with
  | nil => rfl
  | cons c cs ih => rw [List.map_cons, List.mapM_cons, decC_enc, ih]; rfl
/-- .. as data -/
def outN (cs : List Ch) : D := .list (cs.map Ch.d)
section
variable (K : PySem.W.Frag)
def ChR (H0 H1 F : Hp) (a : Addr) (v : V) : Ch → Prop
  | .own ds => ∃ b ws, v = .ref b ∧ b ≠ a ∧ H0 b = none ∧ F b = none ∧ H1 b = some (.lst ws) ∧ RepL K F ws ds
  | .dat d => Rep K F v d
structure NestV (H0 H1 F : Hp) (a : Addr) (vs : List V) (cs : List Ch) : Prop where
  ex : Ex H0 H1
  za : H0 a = none
  fa : F a = none
  at0 : H1 a = some (.lst vs)
  ln : vs.length = cs.length
  ch : ∀ (j : Nat) (v : V) (c : Ch), vs[j]? = some v → cs[j]? = some c → ChR K H0 H1 F a v c
  un : ∀ (j k : Nat) (b : Addr) (ds es : List D), vs[j]? = some (.ref b) → vs[k]? = some (.ref b) → cs[j]? = some (.own ds) → cs[k]? = some (.own es) → j = k
end
section
variable {K : PySem.W.Frag} {H0 H1 F F' H H' F0 : Hp} {a b p : Addr} {vs ws : List V} {v : V} {cs : List Ch} {ds ds' : List D} {d : D} {σ : St} {ρ : Fr} {i : Nat} {L : Addr × Addr} {L1 : Addr}
theorem NestV.on (N : NestV K H0 H1 F a vs cs) (e : Ex F F') (nw : ∀ p o, F p = none → H1 p = some o → NTup o → F' p = none) : NestV K H0 H1 F' a vs cs where
  ex := N.ex
  za := N.za
  fa := nw _ _ N.fa N.at0 (fun _ z => nomatch z)
  at0 := N.at0
  ln := N.ln
  ch := fun j v c h1 h2 => by
    have z := N.ch j v c h1 h2
    cases c with
    | dat d => exact Rep.mono e z
    | own ds =>
      obtain ⟨b, ws, e1, e2, e3, e4, e5, e6⟩ := z
      exact ⟨b, ws, e1, e2, e3, nw _ _ e4 e5 (fun _ z => nomatch z), e5, e6.mono e⟩
  un := N.un
/-- the parts of the nest -/
def PrtN (a : Addr) (vs : List V) (cs : List Ch) (p : Addr) : Prop := p = a ∨ ∃ (j : Nat) (ds : List D), vs[j]? = some (V.ref p) ∧ cs[j]? = some (Ch.own ds)
theorem NestV.prt (N : NestV K H0 H1 F a vs cs) (h : PrtN a vs cs p) : H0 p = none ∧ F p = none ∧ ∃ o, H1 p = some o := by
  rcases h with rfl | ⟨j, ds, h1, h2⟩
  · exact ⟨N.za, N.fa, _, N.at0⟩
  · obtain ⟨b, ws, e1, _, e3, e4, e5, _⟩ := N.ch j _ _ h1 h2
    cases e1
    exact ⟨e3, e4, _, e5⟩
theorem repL_of : ∀ {vs : List V} {ds : List D}, vs.length = ds.length → (∀ (j : Nat) (v : V) (d : D), vs[j]? = some v → ds[j]? = some d → Rep K F v d) → RepL K F vs ds
  | [], [], _, _ => .nil
  | v :: vs, d :: ds, h, k => .cons (k 0 v d rfl rfl) (repL_of (by simpa using h) fun j v d h1 h2 => k (j + 1) v d (by simpa using h1) (by simpa using h2))
  | [], _ :: _, h, _ => by cases h
  | _ :: _, [], h, _ => by cases h
open Classical in
/-- all of it frozen -/
noncomputable def frzN (H1 F : Hp) (a : Addr) (vs : List V) (cs : List Ch) : Hp := fun p => if PrtN a vs cs p then H1 p else F p
theorem NestV.out (N : NestV K H0 H1 F a vs cs) (E : Env K (L.1, a) F0 H1 F H σ (ρ.set i mkE)) (li : i < ρ.length) (ne : noErr ρ = true) : ∃ F', Ex F F' ∧ Env K L F0 H0 F' H σ (ρ.set i (.val (outN cs))) := by
  have el : σ[i]?.join = some (.ref a) := E.sl i mkE (List.getElem?_set_self li)
  have Fp : ∀ p, PrtN a vs cs p → frzN H1 F a vs cs p = H1 p := fun p h => by unfold frzN; exact if_pos h
  have Fo : ∀ p, ¬ PrtN a vs cs p → frzN H1 F a vs cs p = F p := fun p h => by unfold frzN; exact if_neg h
  have ef : Ex F (frzN H1 F a vs cs) := fun p o q => by
    rw [Fo p fun z => by rw [(N.prt z).2.1] at q; cases q]
    exact q
  have own : ∀ l, H1 l = none → ¬ PrtN a vs cs l := fun l hl z => by
    obtain ⟨_, _, o, ho⟩ := N.prt z
    rw [ho] at hl; cases hl
  have z0 : ∀ l, H1 l = none → H0 l = none := fun l hl => by
    cases q : H0 l with
    | none => rfl
    | some o => rw [N.ex l o q] at hl; cases hl
  refine ⟨frzN H1 F a vs cs, ef, ⟨E.st.ff.trans ef, N.ex.trans E.st.hh, fun x o h1 h2 h3 => ?_, fun x o q => ?_⟩, by have := E.len; rw [List.length_set] at this ⊢; exact this, fun j s q => ?_, fun j k l h1 h2 e1 e2 => ?_⟩
  · rw [Fo x fun z => by rw [(N.prt z).1] at h2; cases h2]
    exact E.st.nw x o h1 (N.ex x o h2) h3
  · by_cases c : PrtN a vs cs x
    · rw [Fp x c] at q
      exact E.st.hh _ _ q
    · rw [Fo x c] at q; exact E.st.fh _ _ q
  · rcases set_get q with ⟨c, es, _⟩ | ⟨c, q⟩
    · subst c; subst es
      refine ⟨.ref a, el, ?_⟩
      have rl : RepL K (frzN H1 F a vs cs) vs (cs.map Ch.d) := repL_of (by rw [List.length_map]; exact N.ln) fun j v d h1 h2 => by
        rw [List.getElem?_map] at h2
        obtain ⟨c, hc, rfl⟩ := Option.map_eq_some_iff.mp h2
        have z := N.ch j v c h1 hc
        cases c with
        | dat d => exact Rep.mono ef z
        | own ds =>
          obtain ⟨b, ws, rfl, _, _, _, e5, e6⟩ := z
          exact .lst (by rw [Fp b (.inr ⟨j, ds, h1, hc⟩)]; exact e5) (e6.mono ef)
      exact .lst (by rw [Fp a (.inl rfl)]; exact N.at0) rl
    · have z := E.sl j s (by rw [List.getElem?_set_ne c]; exact q)
      cases s with
      | none => trivial
      | err n => exact (err_no ne q).elim
      | val d => obtain ⟨v, e, r⟩ := z; exact ⟨v, e, r.mono ef⟩
      | own us =>
        obtain ⟨m, ho2, e, f2, h2, hH2, rr⟩ := z
        exact ⟨m, ho2, e, by rw [Fo m (own m h2)]; exact f2, z0 m h2, hH2, rr.mono ef⟩
      | pin us =>
        obtain ⟨e, f2, h2, ho2, hH2, rr⟩ := z
        exact ⟨e, by rw [Fo _ (own _ h2)]; exact f2, z0 _ h2, ho2, hH2, rr.mono ef⟩
  · have n1 := own_ne (s := .val (outN cs)) rfl h1
    have n2 := own_ne (s := .val (outN cs)) rfl h2
    rw [List.getElem?_set_ne n1] at h1
    rw [List.getElem?_set_ne n2] at h2
    exact E.sep j k l (by rw [List.getElem?_set_ne n1]; exact h1) (by rw [List.getElem?_set_ne n2]; exact h2) e1 e2
/-- an inner list changes -/
theorem NestV.mut {n : Nat} (N : NestV K H0 H1 F a vs cs) (hn : vs[n]? = some (.ref b)) (hc : cs[n]? = some (.own ds)) (r : RepL K F ws ds') : NestV K H0 (upd H1 b (.lst ws)) F a vs (cs.set n (.own ds')) := by
  obtain ⟨b', ws', e1, e2, e3, e4, e5, e6⟩ := N.ch n _ _ hn hc
  cases e1
  have lc := (List.getElem?_eq_some_iff.mp hc).1
  refine ⟨fun x u q => ?_, N.za, N.fa, by rw [upd_ne e2.symm]; exact N.at0, by rw [List.length_set]; exact N.ln, fun j v c h1 h2 => ?_, fun j k q gs es h1 h2 h3 h4 => ?_⟩
  · rw [upd_ne (ne_of_none q e3)]; exact N.ex x u q
  · rcases set_get h2 with ⟨e, es, _⟩ | ⟨ne, h2⟩
    · subst e; subst es
      rw [hn] at h1
      cases h1
      exact ⟨b, ws, rfl, e2, e3, e4, upd_same, r⟩
    · have z := N.ch j v c h1 h2
      cases c with
      | dat d => exact z
      | own fs =>
        obtain ⟨q, us, rfl, f2, f3, f4, f5, f6⟩ := z
        have qb : q ≠ b := fun z => ne (N.un n j b ds fs hn (by rw [← z]; exact h1) hc h2)
        exact ⟨q, us, rfl, f2, f3, f4, by rw [upd_ne qb]; exact f5, f6⟩
  · have old : ∀ (m : Nat) (fs : List D), (cs.set n (.own ds'))[m]? = some (.own fs) → ∃ fs', cs[m]? = some (.own fs') := fun m fs h => by
      rcases set_get h with ⟨e, _, _⟩ | ⟨_, h⟩
      · subst e; exact ⟨ds, hc⟩
      · exact ⟨fs, h⟩
    obtain ⟨f1, g1⟩ := old j _ h3
    obtain ⟨f2, g2⟩ := old k _ h4
    exact N.un j k q f1 f2 h1 h2 g1 g2
/-- a new list behind -/
theorem NestV.appNew (N : NestV K H0 H1 F a vs cs) (hp : H1 p = none) (fp : F p = none) (r : RepL K F ws ds) : NestV K H0 (upd (upd H1 p (.lst ws)) a (.lst (vs ++ [.ref p]))) F a (vs ++ [.ref p]) (cs ++ [.own ds]) := by
  have ln := N.ln
  have pa : p ≠ a := fun z => by rw [z, N.at0] at hp; cases hp
  have p0 : H0 p = none := N.ex.free hp
  have inn : ∀ (j : Nat) (c : Ch), (cs ++ [Ch.own ds])[j]? = some c → (j < cs.length ∧ cs[j]? = some c ∧ (vs ++ [V.ref p])[j]? = vs[j]?) ∨ (j = cs.length ∧ c = .own ds ∧ (vs ++ [V.ref p])[j]? = some (.ref p)) := fun j c h => by
    by_cases hj : j < cs.length
    · rw [List.getElem?_append_left hj] at h
      exact .inl ⟨hj, h, List.getElem?_append_left (by omega)⟩
    · have hj' : j = cs.length := by
        have := (List.getElem?_eq_some_iff.mp h).1
        rw [List.length_append, List.length_singleton] at this
        omega
      subst hj'
      rw [List.getElem?_append_right (by omega), Nat.sub_self] at h
      cases h
      refine .inr ⟨rfl, rfl, ?_⟩
      rw [List.getElem?_append_right (by omega), ln, Nat.sub_self]
      rfl
  have np : ∀ (j : Nat) (c : Ch), cs[j]? = some c → vs[j]? = some (.ref p) → (∃ fs, c = .own fs) → False := fun j c h1 h2 ⟨fs, e⟩ => by
    subst e
    obtain ⟨q, us, e, _, _, _, f5, _⟩ := N.ch j _ _ h2 h1
    cases e
    rw [hp] at f5; cases f5
  refine ⟨fun x u q => ?_, N.za, N.fa, upd_same, by rw [List.length_append, List.length_append, ln]; rfl, fun j w c h1 h2 => ?_, fun j k q fs es h1 h2 h3 h4 => ?_⟩
  · rw [upd_ne (ne_of_none q N.za), upd_ne (ne_of_none q p0)]; exact N.ex x u q
  · rcases inn j c h2 with ⟨_, g1, g2⟩ | ⟨_, g1, g2⟩
    · rw [g2] at h1
      have z := N.ch j w c h1 g1
      cases c with
      | dat d => exact z
      | own fs =>
        obtain ⟨q, us, rfl, f2, f3, f4, f5, f6⟩ := z
        have qp : q ≠ p := fun z => by rw [z, hp] at f5; cases f5
        exact ⟨q, us, rfl, f2, f3, f4, by rw [upd_ne f2, upd_ne qp]; exact f5, f6⟩
    · rw [g2] at h1
      cases h1
      subst g1
      exact ⟨p, ws, rfl, pa, p0, fp, by rw [upd_ne pa, upd_same], r⟩
  · rcases inn j _ h3 with ⟨l1, g1, g2⟩ | ⟨l1, g1, g2⟩
    · rcases inn k _ h4 with ⟨m1, k1, k2⟩ | ⟨m1, k1, k2⟩
      · rw [g2] at h1; rw [k2] at h2
        exact N.un j k q _ _ h1 h2 g1 k1
      · rw [k2] at h2; cases h2
        rw [g2] at h1
        exact (np j _ g1 h1 ⟨_, rfl⟩).elim
    · rcases inn k _ h4 with ⟨m1, k1, k2⟩ | ⟨m1, k1, k2⟩
      · rw [g2] at h1; cases h1
        rw [k2] at h2
        exact (np k _ k1 h2 ⟨_, rfl⟩).elim
      · omega
/-- a new thing below -/
theorem Env.bothNew {ho : HO} (E : Env K L F0 H1 F H σ ρ) (hp : H p = none) : Env K L F0 (upd H1 p ho) F (upd H p ho) σ ρ where
  st := by
    refine ⟨E.st.ff, E.st.hh.upd, fun x u h1 h2 h3 => ?_, E.st.fh.trans (Ex.new hp)⟩
    by_cases z : x = p
    · rw [z]; exact E.st.fh.free hp
    · rw [upd_ne z] at h2; exact E.st.nw x u h1 h2 h3
  len := E.len
  sl := fun j s q => by
    have z := E.sl j s q
    cases s with
    | none => trivial
    | err n => exact z
    | val d => exact z
    | own us =>
      obtain ⟨m, ho2, e, f2, h2, hH2, rr⟩ := z
      have ne : m ≠ p := ne_of_none hH2 hp
      exact ⟨m, ho2, e, f2, by rw [upd_ne ne]; exact h2, by rw [upd_ne ne]; exact hH2, rr⟩
    | pin us =>
      obtain ⟨e, f2, h2, ho2, hH2, rr⟩ := z
      have ne : L.1 ≠ p := ne_of_none hH2 hp
      exact ⟨e, f2, by rw [upd_ne ne]; exact h2, ho2, by rw [upd_ne ne]; exact hH2, rr⟩
  sep := E.sep
end
end Dn
set_option Elab.async false
set_option linter.all false
set_option maxRecDepth 100000
set_option maxHeartbeats 4000000
namespace Dn
open PySem L2
def mB {α : Type} : M α → Option α
  | .ok a => some a
  | _ => none
@[simp] theorem mB_ok {α : Type} {a : α} : mB (M.ok a) = some a := rfl
theorem mB_is {α : Type} {m : M α} {a : α} (h : mB m = some a) : m = .ok a := by
  cases m with
  | ok b => cases h; rfl
  | exc n => cases h
  | stuck => cases h
/-- data that hold nothing -/
def sca : D → Bool
  | .int _ => true
  | .bool _ => true
  | .str _ => true
  | .none => true
  | _ => false
theorem sca_rep {K : PySem.W.Frag} {F : Hp} {v : V} {d : D} (h : sca d = true) (r : Rep K F v d) (F2 : Hp) : Rep K F2 v d := by
  cases r with
  | non => exact .non
  | bl b => exact .bl b
  | int i => exact .int i
  | str x => exact .str x
  | _ => cases h
theorem sca_repB {K : PySem.W.Frag} {F H : Hp} {v : V} {d : D} (h : sca d = true) (r : RepB K F H v d) (F2 : Hp) : Rep K F2 v d := by
  cases r with
  | frz r => exact sca_rep h r F2
  | thg e r => cases r <;> cases h
section
variable {K : PySem.W.Frag} {mg : Str → Option Value} {W : WX} {i : Nat} {L1 a b : Addr} {L : Addr × Addr} {F0 H0 H1 F H F' H' F'' H'' : Hp} {σ : St} {ρ ρ' : Fr} {D : Ends} {vs : List V} {cs : List Ch}
/-- the name of the nest -/
theorem at_of (E : Env K (L1, a) F0 H1 F H σ (ρ.set i mkE)) (li : i < ρ.length) : σ[i]? = some (some (.ref a)) := join_some (E.sl i mkE (List.getElem?_set_self li))
theorem nw_of (E : Env K L F0 H1 F H σ ρ) (s : Step F H F' H') : ∀ p o, F p = none → H1 p = some o → NTup o → F' p = none := fun p o z1 z2 z3 => (E.step s).st.nw p o (by
  cases qz : F0 p with
  | none => rfl
  | some u => have := E.st.ff _ _ qz; rw [z1] at this; cases this) z2 z3
end
end Dn
set_option Elab.async false
set_option linter.all false
set_option maxRecDepth 100000
set_option maxHeartbeats 4000000
namespace Dn
open PySem L2
def isPin : S → Bool
  | .pin _ => true
  | _ => false
def noPn (ρ : Fr) : Bool := ρ.all fun s => !isPin s
@[simp] theorem noPn_nil : noPn [] = true := rfl
@[simp] theorem noPn_cons {s : S} {ρ : Fr} : noPn (s :: ρ) = (!isPin s && noPn ρ) := rfl
@[simp] theorem isPin_none : isPin .none = false := rfl
@[simp] theorem isPin_val {d : D} : isPin (.val d) = false := rfl
@[simp] theorem isPin_own {d : OD} : isPin (.own d) = false := rfl
@[simp] theorem isPin_pin {d : OD} : isPin (.pin d) = true := rfl
@[simp] theorem isPin_err {n : Str} : isPin (.err n) = false := rfl
end Dn
set_option Elab.async false
set_option linter.all false
set_option maxRecDepth 100000
set_option maxHeartbeats 4000000
namespace Dn
open PySem L2
def outR (i : Nat) : Out → Out
  | .ret d ρ1 => if noErr (clrI i ρ1) = true then .ret d (clrI i ρ1) else .stuck
  | .exc n ρ1 => if noErr (clrI i ρ1) = true then .exc n (clrI i ρ1) else .stuck
  | _ => .stuck
section
variable {K : PySem.W.Frag} {mg : Str → Option Value} {W : WX} {i j : Nat} {L1 a b : Addr} {L : Addr × Addr} {F0 H0 H1 F H F' H' F2 H2 : Hp} {σ σ2 : St} {ρ ρ2 ρ3 : Fr} {D : Ends} {vs ws : List V} {cs : List Ch}
/-- the frame with the mark of new things that stand beside -/
theorem Env.toMark {Z : Addr} {Hn : Hp} (E : Env K L F0 H0 F H σ ρ) (E2 : Env K L F0 H0 F2 H2 σ ρ) (ne : noErr ρ = true) (li : i < ρ.length) (hn : ∀ l o, H l = some o → Hn l = H0 l) (z1 : Ex Hn H') (z2 : ∀ x o, F0 x = none → Hn x = some o → NTup o → F2 x = none) (z3 : Ex F2 H') (z4 : ∀ l o, H2 l = some o → H' l = some o) :
    Env K (L.1, Z) F0 Hn F2 H' (σ.set i (some (.ref Z))) (ρ.set i mkE) where
  st := ⟨E2.st.ff, z1, z2, z3⟩
  len := by rw [List.length_set, List.length_set]; exact E.len
  sl := fun j sl q => by
    rcases set_get q with ⟨e, es, _⟩ | ⟨nj, h'⟩
    · subst e; subst es
      rw [List.getElem?_set_self (by rw [E.len]; exact li)]
      rfl
    · rw [List.getElem?_set_ne nj]
      have z := E2.sl j sl h'
      have z1 := E.sl j sl h'
      cases sl with
      | none => trivial
      | err n => exact (err_no ne h').elim
      | val d => exact z
      | own us =>
        obtain ⟨m, ho2, e, g2, g3, g4, rr⟩ := z
        obtain ⟨m1, ho1, e1, _, _, g5, _⟩ := z1
        rw [e] at e1
        cases e1
        exact ⟨m, ho2, e, g2, by rw [hn m _ g5]; exact g3, z4 _ _ g4, rr⟩
      | pin us =>
        obtain ⟨e, g2, g3, ho2, g4, rr⟩ := z
        obtain ⟨_, _, _, ho1, g5, _⟩ := z1
        exact ⟨e, g2, by rw [hn L.1 _ g5]; exact g3, ho2, z4 _ _ g4, rr⟩
  sep := fun j k' l h1 h2 e1 e2 => by
    have nj := own_ne (s := mkE) rfl h1
    have nk := own_ne (s := mkE) rfl h2
    rw [List.getElem?_set_ne nj] at h1 e1
    rw [List.getElem?_set_ne nk] at h2 e2
    exact E.sep j k' l h1 h2 e1 e2
end
end Dn
set_option Elab.async false
set_option linter.all false
set_option maxRecDepth 100000
set_option maxHeartbeats 4000000
namespace Dn
open PySem L2
section
variable {i j c k n m : Nat} {ρ ρ1 ρ2 : Fr} {cs : List Ch} {s : S} {d : D} {g h : MS} {tf : MT} {b : Bool} {ds es : List D} {kf e : ME} {as : ML} {fm : List D → List D → Option (List D × D)}
theorem backN_at (h1 : ρ1[i]? = some mkE) (ne : noErr (ρ1.set i s) = true) : backN i s ρ1 = some (ρ1.set i s) := by
  unfold backN errAt
  rw [h1, ne]
  rfl
theorem tgN_gN (ij : i ≠ j) (hi : ρ[i]? = some s) (ne : noErr ρ = true) : tgN i (gN j) d ρ = some (ρ.set j (.val d)) := by
  unfold tgN
  rw [hi]
  show backN i s ((ρ.set i mkE).set j (.val d)) = _
  have e : ((ρ.set i mkE).set j (.val d)).set i s = ρ.set j (.val d) := by
    rw [List.set_comm _ _ (Ne.symm ij), List.set_set]
    congr 1
    obtain ⟨l, q⟩ := List.getElem?_eq_some_iff.mp hi
    rw [← q]
    exact List.set_getElem_self l
  rw [backN_at, e]
  · rw [List.getElem?_set_ne (Ne.symm ij), List.getElem?_set_self (List.getElem?_eq_some_iff.mp hi).1]
  · rw [e]; exact noErr_set ne _ rfl
theorem sLiftX_nx (hi : ρ[i]? = some s) (hg : g (ρ.set i mkE) = .nx ρ1) (h1 : ρ1[i]? = some mkE) (ne : noErr (ρ1.set i s) = true) : sLiftX i g ρ = .nx (ρ1.set i s) := by
  unfold sLiftX
  rw [hi, ofO_some, hg]
  show Out.ofO (backN i s ρ1) .nx = _
  rw [backN_at h1 ne]
  rfl
theorem loopR_cons {tg : D → Fr → Option Fr} (h1 : tg d ρ = some ρ1) (h2 : g ρ1 = .nx ρ2) : loopR tg g (d :: ds) ρ = loopR tg g ds ρ2 := by
  conv => lhs; unfold loopR
  rw [h1, ofO_some, h2]
theorem sForR_at {f : ML} {tg : D → Fr → Option Fr} (hf : f (ρ.set i mkE) = .ok ds) : sForR i f tg g ρ = loopR (tgN i tg) g ds ρ := by
  unfold sForR
  rw [hf]; rfl
end
end Dn
set_option Elab.async false
set_option linter.all false
set_option maxRecDepth 100000
set_option maxHeartbeats 4000000
namespace Dn
open PySem L2
end Dn
set_option Elab.async false
set_option linter.all false
set_option maxRecDepth 100000
set_option maxHeartbeats 4000000
namespace Dn
open PySem L2
end Dn
set_option Elab.async false
set_option linter.all false
set_option maxRecDepth 100000
set_option maxHeartbeats 4000000
namespace Dn
open PySem PySem.Spec PyProof.Rows L2
section
variable {K : PySem.W.Frag} {H0 H1 H1' F F' H H' F0 : Hp} {a b p q : Addr} {vs ws : List V} {v : V} {cs : List Ch} {ds ds' : List D} {d : D} {σ : L2.St} {ρ : Fr} {i : Nat} {L : Addr × Addr} {L1 : Addr}
theorem NestV.same (N : NestV K H0 H1 F a vs cs) (ex : Ex H0 H1') (h : ∀ q, PrtN a vs cs q → H1' q = H1 q) : NestV K H0 H1' F a vs cs where
  ex := ex
  za := N.za
  fa := N.fa
  at0 := by rw [h a (.inl rfl)]; exact N.at0
  ln := N.ln
  ch := fun j v c h1 h2 => by
    have z := N.ch j v c h1 h2
    cases c with
    | dat d => exact z
    | own ds =>
      obtain ⟨b, ws, rfl, e2, e3, e4, e5, e6⟩ := z
      exact ⟨b, ws, rfl, e2, e3, e4, by rw [h b (.inr ⟨j, ds, h1, h2⟩)]; exact e5, e6⟩
  un := N.un
theorem prtN_app (ln : vs.length = cs.length) (h : PrtN a (vs ++ [.ref b]) (cs ++ [.own ds]) q) : PrtN a vs cs q ∨ q = b := by
  rcases h with h | ⟨j, es, h1, h2⟩
  · exact .inl (.inl h)
  · by_cases hj : j < cs.length
    · rw [List.getElem?_append_left (by omega)] at h1
      rw [List.getElem?_append_left hj] at h2
      exact .inl (.inr ⟨j, es, h1, h2⟩)
    · have hj' : j = cs.length := by
        have := (List.getElem?_eq_some_iff.mp h2).1
        rw [List.length_append, List.length_singleton] at this
        omega
      subst hj'
      rw [List.getElem?_append_right (by omega), ln, Nat.sub_self] at h1
      cases h1
      exact .inr rfl
theorem prtN_set {n : Nat} (hc : cs[n]? = some (.own ds)) (h : PrtN a vs (cs.set n (.own ds')) q) : PrtN a vs cs q := by
  rcases h with h | ⟨j, es, h1, h2⟩
  · exact .inl h
  · rcases set_get h2 with ⟨e, _, _⟩ | ⟨_, h2⟩
    · subst e; exact .inr ⟨_, ds, h1, hc⟩
    · exact .inr ⟨j, es, h1, h2⟩
end
section
variable (K : PySem.W.Frag) (k1 k2 : Str)
/-- a dict with two keys, a list of one's own lists at each -/
structure TwoV (H0 H1 F : Hp) (p a1 a2 : Addr) (vs1 vs2 : List V) (cs1 cs2 : List Ch) : Prop where
  n1 : NestV K H0 H1 F a1 vs1 cs1
  n2 : NestV K H0 H1 F a2 vs2 cs2
  ap : ∀ q, PrtN a1 vs1 cs1 q → PrtN a2 vs2 cs2 q → False
  p1 : ¬ PrtN a1 vs1 cs1 p
  p2 : ¬ PrtN a2 vs2 cs2 p
  zp : H0 p = none
  fp : F p = none
  atp : H1 p = some (.dK [(.inr k1, .ref a1), (.inr k2, .ref a2)])
/-- the keys are told apart -/
structure KK : Prop where
  mg : ∀ v1 v2 : V, mergeK [] ([(.inr k1, v1), (.inr k2, v2)] : List (Key × V)) = [(.inr k1, v1), (.inr k2, v2)]
  g1 : ∀ v1 v2 : V, valV ([(.inr k1, v1), (.inr k2, v2)] : List (Key × V)) (.inr k1) = some v1
  g2 : ∀ v1 v2 : V, valV ([(.inr k1, v1), (.inr k2, v2)] : List (Key × V)) (.inr k2) = some v2
end
def encT2 (x : List Ch × List Ch) : D := .tuple [encN x.1, encN x.2]
def decT2 : D → Option (List Ch × List Ch)
  | .tuple [a, b] => (decN a).bind fun x => (decN b).map fun y => (x, y)
  | _ => none
theorem decT2_enc (x : List Ch × List Ch) : decT2 (encT2 x) = some x := by
  show ((decN (encN x.1)).bind fun a => (decN (encN x.2)).map fun b => (a, b)) = some x
  rw [decN_enc, decN_enc]; rfl
/-- .. as data -/
def outT (k1 k2 : Str) (x : List Ch × List Ch) : D := .dict (dkD [(.inr k1, outN x.1), (.inr k2, outN x.2)])
def viewT (k1 k2 : Str) (i : Nat) (ρ : Fr) : Option ((List Ch × List Ch) × Fr) := match ρ[i]? with
  | some (.val d) => (decT2 d).map fun x => (x, ρ.set i (.val (outT k1 k2 x)))
  | _ => none
section
variable {K : PySem.W.Frag} {k1 k2 : Str} {H0 H1 H1' F F' H H' F0 : Hp} {a b p q a1 a2 : Addr} {vs ws vs1 vs2 vs1' vs2' : List V} {v : V} {cs cs1 cs2 cs1' cs2' : List Ch} {ds ds' : List D} {d : D} {σ : L2.St} {ρ : Fr} {i : Nat} {L : Addr × Addr} {L1 : Addr}
theorem viewT_at {x : List Ch × List Ch} (h : ρ[i]? = some (.val (encT2 x))) : viewT k1 k2 i ρ = some (x, ρ.set i (.val (outT k1 k2 x))) := by
  unfold viewT
  rw [h]
  show (decT2 (encT2 x)).map _ = _
  rw [decT2_enc]; rfl
theorem TwoV.on (T : TwoV K k1 k2 H0 H1 F p a1 a2 vs1 vs2 cs1 cs2) (e : Ex F F') (nw : ∀ p o, F p = none → H1 p = some o → NTup o → F' p = none) : TwoV K k1 k2 H0 H1 F' p a1 a2 vs1 vs2 cs1 cs2 :=
  ⟨T.n1.on e nw, T.n2.on e nw, T.ap, T.p1, T.p2, T.zp, nw _ _ T.fp T.atp (fun _ z => nomatch z), T.atp⟩
theorem TwoV.up1 (T : TwoV K k1 k2 H0 H1 F p a1 a2 vs1 vs2 cs1 cs2) (N : NestV K H0 H1' F a1 vs1' cs1') (hs : ∀ q, PrtN a1 vs1' cs1' q → PrtN a1 vs1 cs1 q ∨ H1 q = none) (hk : ∀ q, PrtN a2 vs2 cs2 q ∨ q = p → H1' q = H1 q) :
    TwoV K k1 k2 H0 H1' F p a1 a2 vs1' vs2 cs1' cs2 where
  n1 := N
  n2 := T.n2.same N.ex fun q h => hk q (.inl h)
  ap := fun q h1 h2 => by
    rcases hs q h1 with h | h
    · exact T.ap q h h2
    · obtain ⟨_, _, o, ho⟩ := T.n2.prt h2
      rw [h] at ho; cases ho
  p1 := fun h => by
    rcases hs p h with h | h
    · exact T.p1 h
    · rw [T.atp] at h; cases h
  p2 := T.p2
  zp := T.zp
  fp := T.fp
  atp := by rw [hk p (.inr rfl)]; exact T.atp
theorem TwoV.up2 (T : TwoV K k1 k2 H0 H1 F p a1 a2 vs1 vs2 cs1 cs2) (N : NestV K H0 H1' F a2 vs2' cs2') (hs : ∀ q, PrtN a2 vs2' cs2' q → PrtN a2 vs2 cs2 q ∨ H1 q = none) (hk : ∀ q, PrtN a1 vs1 cs1 q ∨ q = p → H1' q = H1 q) :
    TwoV K k1 k2 H0 H1' F p a1 a2 vs1 vs2' cs1 cs2' where
  n1 := T.n1.same N.ex fun q h => hk q (.inl h)
  n2 := N
  ap := fun q h1 h2 => by
    rcases hs q h2 with h | h
    · exact T.ap q h1 h
    · obtain ⟨_, _, o, ho⟩ := T.n1.prt h1
      rw [h] at ho; cases ho
  p1 := T.p1
  p2 := fun h => by
    rcases hs p h with h | h
    · exact T.p2 h
    · rw [T.atp] at h; cases h
  zp := T.zp
  fp := T.fp
  atp := by rw [hk p (.inr rfl)]; exact T.atp
/-- all its parts -/
def PrtT (p a1 a2 : Addr) (vs1 vs2 : List V) (cs1 cs2 : List Ch) (q : Addr) : Prop := q = p ∨ PrtN a1 vs1 cs1 q ∨ PrtN a2 vs2 cs2 q
theorem TwoV.prt (T : TwoV K k1 k2 H0 H1 F p a1 a2 vs1 vs2 cs1 cs2) (h : PrtT p a1 a2 vs1 vs2 cs1 cs2 q) : H0 q = none ∧ F q = none ∧ ∃ o, H1 q = some o := by
  rcases h with rfl | h | h
  · exact ⟨T.zp, T.fp, _, T.atp⟩
  · exact T.n1.prt h
  · exact T.n2.prt h
open Classical in
noncomputable def frzP (H1 F : Hp) (P : Addr → Prop) : Hp := fun q => if P q then H1 q else F q
theorem nest_rep {G : Hp} (N : NestV K H0 H1 F a vs cs) (ef : Ex F G) (h : ∀ q, PrtN a vs cs q → G q = H1 q) : Rep K G (.ref a) (outN cs) := by
  have rl : RepL K G vs (cs.map Ch.d) := repL_of (by rw [List.length_map]; exact N.ln) fun j v d h1 h2 => by
    rw [List.getElem?_map] at h2
    obtain ⟨c, hc, rfl⟩ := Option.map_eq_some_iff.mp h2
    have z := N.ch j v c h1 hc
    cases c with
    | dat d => exact Rep.mono ef z
    | own ds =>
      obtain ⟨b, ws, rfl, _, _, _, e5, e6⟩ := z
      exact .lst (by rw [h b (.inr ⟨j, ds, h1, hc⟩)]; exact e5) (e6.mono ef)
  exact .lst (by rw [h a (.inl rfl)]; exact N.at0) rl
theorem TwoV.out (T : TwoV K k1 k2 H0 H1 F p a1 a2 vs1 vs2 cs1 cs2) (E : Env K (L.1, p) F0 H1 F H σ (ρ.set i mkE)) (li : i < ρ.length) (ne : noErr ρ = true) : ∃ F', Ex F F' ∧ Env K L F0 H0 F' H σ (ρ.set i (.val (outT k1 k2 (cs1, cs2)))) := by
  have el : σ[i]?.join = some (.ref p) := E.sl i mkE (List.getElem?_set_self li)
  have hG : ∃ G, G = frzP H1 F (PrtT p a1 a2 vs1 vs2 cs1 cs2) := ⟨_, rfl⟩
  obtain ⟨G, hG⟩ := hG
  have Fp : ∀ q, PrtT p a1 a2 vs1 vs2 cs1 cs2 q → G q = H1 q := fun q h => by rw [hG]; unfold frzP; exact if_pos h
  have Fo : ∀ q, ¬ PrtT p a1 a2 vs1 vs2 cs1 cs2 q → G q = F q := fun q h => by rw [hG]; unfold frzP; exact if_neg h
  have ef : Ex F G := fun q o h => by
    rw [Fo q fun z => by rw [(T.prt z).2.1] at h; cases h]
    exact h
  have own : ∀ l, H1 l = none → ¬ PrtT p a1 a2 vs1 vs2 cs1 cs2 l := fun l hl z => by
    obtain ⟨_, _, o, ho⟩ := T.prt z
    rw [ho] at hl; cases hl
  have z0 : ∀ l, H1 l = none → H0 l = none := fun l hl => by
    cases q : H0 l with
    | none => rfl
    | some o => rw [T.n1.ex l o q] at hl; cases hl
  refine ⟨G, ef, ⟨E.st.ff.trans ef, T.n1.ex.trans E.st.hh, fun x o h1 h2 h3 => ?_, fun x o q => ?_⟩, by have := E.len; rw [List.length_set] at this ⊢; exact this, fun j s q => ?_, fun j k l h1 h2 e1 e2 => ?_⟩
  · rw [Fo x fun z => by rw [(T.prt z).1] at h2; cases h2]
    exact E.st.nw x o h1 (T.n1.ex x o h2) h3
  · by_cases c : PrtT p a1 a2 vs1 vs2 cs1 cs2 x
    · rw [Fp x c] at q
      exact E.st.hh _ _ q
    · rw [Fo x c] at q; exact E.st.fh _ _ q
  · rcases set_get q with ⟨c, es, _⟩ | ⟨c, q⟩
    · subst c; subst es
      refine ⟨.ref p, el, ?_⟩
      have r1 := nest_rep T.n1 ef fun q h => Fp q (.inr (.inl h))
      have r2 := nest_rep T.n2 ef fun q h => Fp q (.inr (.inr h))
      exact .dK (by rw [Fp p (.inl rfl)]; exact T.atp) (.cons r1 (.cons r2 .nil)) rfl
    · have z := E.sl j s (by rw [List.getElem?_set_ne c]; exact q)
      cases s with
      | none => trivial
      | err n => exact (err_no ne q).elim
      | val d => obtain ⟨v, e, r⟩ := z; exact ⟨v, e, r.mono ef⟩
      | own us =>
        obtain ⟨m, ho2, e, f2, h2, hH2, rr⟩ := z
        exact ⟨m, ho2, e, by rw [Fo m (own m h2)]; exact f2, z0 m h2, hH2, rr.mono ef⟩
      | pin us =>
        obtain ⟨e, f2, h2, ho2, hH2, rr⟩ := z
        exact ⟨e, by rw [Fo _ (own _ h2)]; exact f2, z0 _ h2, ho2, hH2, rr.mono ef⟩
  · have n1 := own_ne (s := .val (outT k1 k2 (cs1, cs2))) rfl h1
    have n2 := own_ne (s := .val (outT k1 k2 (cs1, cs2))) rfl h2
    rw [List.getElem?_set_ne n1] at h1
    rw [List.getElem?_set_ne n2] at h2
    exact E.sep j k l (by rw [List.getElem?_set_ne n1]; exact h1) (by rw [List.getElem?_set_ne n2]; exact h2) e1 e2
end
/-- .. as things of one's own of another kind -/
def twoR (K : PySem.W.Frag) (k1 k2 : Str) : Reg (List Ch × List Ch) where
  inv := fun H0 H1 F p x => ∃ a1 a2 vs1 vs2, TwoV K k1 k2 H0 H1 F p a1 a2 vs1 vs2 x.1 x.2
  enc := encT2
  dec := decT2
  de := decT2_enc
  ex := fun ⟨_, _, _, _, T⟩ => T.n1.ex
  on := fun ⟨a1, a2, v1, v2, T⟩ e nw => ⟨a1, a2, v1, v2, T.on e nw⟩
end Dn
set_option Elab.async false
set_option linter.all false
set_option maxRecDepth 100000
set_option maxHeartbeats 4000000
namespace Dn
open PySem PySem.Spec PyProof.Rows L2
/-- the list at a key -/
def selT (k1 k2 : Str) (x : List Ch × List Ch) : D → Option (Bool × List Ch)
  | .str k => if k = k1 then some (false, x.1) else if k = k2 then some (true, x.2) else none
  | _ => none
def putT (x : List Ch × List Ch) (side : Bool) (cs : List Ch) : List Ch × List Ch := if side = true then (x.1, cs) else (cs, x.2)
def ownC (cs : List Ch) : D → Option (Nat × List D)
  | .int j => (ixN cs.length j).bind fun n => match cs[n]? with
    | some (.own ds) => some (n, ds)
    | _ => none
  | _ => none
/-- d[k].append([..]) -/
def sTwoNew (k1 k2 : Str) (i : Nat) (kf : ME) (f : ML) : MS := fun ρ => Out.ofO (viewT k1 k2 i ρ) fun w => Out.ofO (mB (kf (ρ.set i mkE))) fun k => Out.ofO (selT k1 k2 w.1 k) fun s => Out.ofO (mB (f (ρ.set i mkE))) fun ds =>
  if s.2.length < sizeLine then .nx (ρ.set i (.val (encT2 (putT w.1 s.1 (s.2 ++ [.own ds]))))) else .stuck
/-- d[k][j].m(..) -/
def sTwoMut (k1 k2 : Str) (i : Nat) (kf jf : ME) (fm : List D → List D → Option (List D × D)) (as : ML) : MS := fun ρ => Out.ofO (viewT k1 k2 i ρ) fun w => Out.ofO (mB (kf (ρ.set i mkE))) fun k => Out.ofO (selT k1 k2 w.1 k) fun s => Out.ofO (mB (jf (ρ.set i mkE))) fun j =>
  Out.ofO (ownC s.2 j) fun u => Out.of (as (ρ.set i mkE)) (ρ.set i mkE) fun es => Out.ofO (fm u.2 es) fun r => .nx (ρ.set i (.val (encT2 (putT w.1 s.1 (s.2.set u.1 (.own r.1))))))
/-- all of it frozen; what comes behind hands back -/
def sTwoExit (k1 k2 : Str) (i : Nat) (h : MS) : MS := fun ρ => Out.ofO (viewT k1 k2 i ρ) fun p => match h p.2 with
  | .ret d ρ1 => .ret d ρ1
  | .exc n ρ1 => .exc n ρ1
  | _ => .stuck
/-- d = {k1: [], k2: []} -/
def sRegT (i : Nat) (g : MS) : MS := fun ρ => if (noErr ρ && decide (i < ρ.length)) = true then outR i (g (ρ.set i (.val (encT2 ([], []))))) else .stuck
section
variable {K : PySem.W.Frag} {mg : Str → Option Value} {W : WX} {k1 k2 : Str} {i j : Nat} {L1 a b : Addr} {L : Addr × Addr} {F0 H0 H1 F H F' H' F2 H2 : Hp} {σ σ2 : L2.St} {ρ ρ2 ρ3 : Fr} {D : Ends} {vs ws : List V}
theorem rep_str {v : V} {k : Str} (r : RepB K F H v (.str k)) : v = .str k := by
  have := sca_repB (d := .str k) rfl r (fun _ => none)
  cases this; rfl
theorem rep_intB {v : V} {k : Int} (r : RepB K F H v (.int k)) : v = .int k := by
  have := sca_repB (d := .int k) rfl r (fun _ => none)
  cases this; rfl
theorem li_ofT {x : List Ch × List Ch} (hi : ρ[i]? = some (.val (encT2 x))) : i < ρ.length := (List.getElem?_eq_some_iff.mp hi).1
theorem dt_new {tk te : TE} {kf : ME} {f : ML} (kk : KK k1 k2) (hk : ∀ L, DE K L mg W tk kf) (he : ∀ L, DL K L mg W te f) : DSR (twoR K k1 k2) K mg W i (tDrop (tBM K "list" rAppend (tOp rDGet (tVar i) tk) (tCons te tNil))) (sTwoNew k1 k2 i kf f) := fun L1 F0 H0 F H σ ρ D ⟨p, x, H1, E, hi, ne, a1, a2, vs1, vs2, T⟩ q => by
  have hi : ρ[i]? = some (.val (encT2 x)) := hi
  have li := li_ofT hi
  unfold sTwoNew at q
  rw [viewT_at hi, ofO_some] at q
  obtain ⟨k, qk, q⟩ := WOR.ofO q
  obtain ⟨sl, qs, q⟩ := WOR.ofO q
  obtain ⟨ds, qe, q⟩ := WOR.ofO q
  split at q
  · rename_i hz
    unfold selT at qs
    split at qs
    · rename_i k
      show tBM K "list" rAppend (tOp rDGet (tVar i) tk) (tCons te tNil) σ H fun _ H' => D.nx σ H'
      refine ⟨_, at_of E li, ?_⟩
      refine hk (L1, p) F0 H1 F H σ _ _ E ?_
      rw [mB_is qk]
      intro F1 H2 v s1 r1
      obtain rfl := rep_str r1
      have E1 := E.step s1
      have T1 := T.on s1.ff (nw_of E s1)
      have hP := E1.st.hh _ _ T1.atp
      split at qs
      · rename_i e
        subst e
        cases qs
        refine ⟨p, .ref a1, rfl, ?_, ?_⟩
        · have := DGet.k (k := .inr k) hP
          rw [kk.g1] at this
          exact this
        · refine ⟨.inl ⟨rfl, _, SqL.of (E1.st.hh _ _ T1.n1.at0)⟩, ?_⟩
          refine he (L1, p) F0 H1 F1 H2 σ _ _ E1 ?_
          rw [mB_is qe]
          intro F2 H3 b ws s2 hb rw1
          have E2 := E1.step s2
          have T2 := T1.on s2.ff (nw_of E1 s2)
          have E3 := E2.bothNew (ho := .lst ws) hb
          have ba : b ≠ a1 := fun z => by
            have := E2.st.hh _ _ T2.n1.at0
            rw [← z, hb] at this; cases this
          have hb1 := E2.st.hh.free hb
          have hA : upd H3 b (.lst ws) a1 = some (.lst vs1) := by rw [upd_ne ba.symm]; exact E2.st.hh _ _ T2.n1.at0
          refine ⟨a1, vs1, .ref b, rfl, rfl, hA, by rw [T.n1.ln]; exact hz, ?_⟩
          refine WOR.mono (s1.ff.trans s2.ff) q F2 _ σ (Ex.refl _) ⟨p, _, upd (upd H1 b (.lst ws)) a1 (.lst (vs1 ++ [.ref b])), ?_, List.getElem?_set_self li, noErr_set ne _ rfl, a1, a2, _, _, T2.up1 (T2.n1.appNew hb1 (E2.st.fh.free hb) rw1) (fun y h => ?_) (fun y h => ?_)⟩
          · rw [List.set_set]
            exact E3.both T2.n1.fa (show upd H1 b (.lst ws) a1 = some (.lst vs1) by rw [upd_ne ba.symm]; exact T2.n1.at0)
          · rcases prtN_app T.n1.ln h with h | h
            · exact .inl h
            · exact .inr (by rw [h]; exact hb1)
          · have y1 : y ≠ a1 := fun z => by
              rcases h with h | h
              · exact T.ap a1 (.inl rfl) (by rw [← z]; exact h)
              · exact T.p1 (.inl (by rw [← h]; exact z))
            have y2 : y ≠ b := fun z => by
              obtain ⟨_, _, o, ho⟩ := T.prt (q := y) (by rcases h with h | h; exact .inr (.inr h); exact .inl h)
              rw [z, hb1] at ho; cases ho
            rw [upd_ne y1, upd_ne y2]
      · split at qs
        · rename_i _ e
          subst e
          cases qs
          refine ⟨p, .ref a2, rfl, ?_, ?_⟩
          · have := DGet.k (k := .inr k) hP
            rw [kk.g2] at this
            exact this
          · refine ⟨.inl ⟨rfl, _, SqL.of (E1.st.hh _ _ T1.n2.at0)⟩, ?_⟩
            refine he (L1, p) F0 H1 F1 H2 σ _ _ E1 ?_
            rw [mB_is qe]
            intro F2 H3 b ws s2 hb rw1
            have E2 := E1.step s2
            have T2 := T1.on s2.ff (nw_of E1 s2)
            have E3 := E2.bothNew (ho := .lst ws) hb
            have ba : b ≠ a2 := fun z => by
              have := E2.st.hh _ _ T2.n2.at0
              rw [← z, hb] at this; cases this
            have hb1 := E2.st.hh.free hb
            have hA : upd H3 b (.lst ws) a2 = some (.lst vs2) := by rw [upd_ne ba.symm]; exact E2.st.hh _ _ T2.n2.at0
            refine ⟨a2, vs2, .ref b, rfl, rfl, hA, by rw [T.n2.ln]; exact hz, ?_⟩
            refine WOR.mono (s1.ff.trans s2.ff) q F2 _ σ (Ex.refl _) ⟨p, _, upd (upd H1 b (.lst ws)) a2 (.lst (vs2 ++ [.ref b])), ?_, List.getElem?_set_self li, noErr_set ne _ rfl, a1, a2, _, _, T2.up2 (T2.n2.appNew hb1 (E2.st.fh.free hb) rw1) (fun y h => ?_) (fun y h => ?_)⟩
            · rw [List.set_set]
              exact E3.both T2.n2.fa (show upd H1 b (.lst ws) a2 = some (.lst vs2) by rw [upd_ne ba.symm]; exact T2.n2.at0)
            · rcases prtN_app T.n2.ln h with h | h
              · exact .inl h
              · exact .inr (by rw [h]; exact hb1)
            · have y1 : y ≠ a2 := fun z => by
                rcases h with h | h
                · exact T.ap a2 (by rw [← z]; exact h) (.inl rfl)
                · exact T.p2 (.inl (by rw [← h]; exact z))
              have y2 : y ≠ b := fun z => by
                obtain ⟨_, _, o, ho⟩ := T.prt (q := y) (by rcases h with h | h; exact .inr (.inl h); exact .inl h)
                rw [z, hb1] at ho; cases ho
              rw [upd_ne y1, upd_ne y2]
        · cases qs
    · cases qs
  · exact q.elim
theorem dt_mut {r : V → List V → Hp → VK → Prop} {fm : List Dn.D → List Dn.D → Option (List Dn.D × Dn.D)} {tk tj : TE} {kf jf : ME} {tas : TA} {as : ML} (kk : KK k1 k2) (hr : RMD K r fm) (hk : ∀ L, DE K L mg W tk kf) (hj : ∀ L, DE K L mg W tj jf) (ha : ∀ L, DAF K L mg W tas as) :
    DSR (twoR K k1 k2) K mg W i (tDrop (tBM K "list" r (tOp (rIx K) (tOp rDGet (tVar i) tk) tj) tas)) (sTwoMut k1 k2 i kf jf fm as) := fun L1 F0 H0 F H σ ρ D ⟨p, x, H1, E, hi, ne, a1, a2, vs1, vs2, T⟩ q => by
  have hi : ρ[i]? = some (.val (encT2 x)) := hi
  have li := li_ofT hi
  unfold sTwoMut at q
  rw [viewT_at hi, ofO_some] at q
  obtain ⟨k, qk, q⟩ := WOR.ofO q
  obtain ⟨sl, qs, q⟩ := WOR.ofO q
  obtain ⟨j, qj, q⟩ := WOR.ofO q
  obtain ⟨u, qu, q⟩ := WOR.ofO q
  unfold selT at qs
  split at qs
  · rename_i k
    show tBM K "list" r (tOp (rIx K) (tOp rDGet (tVar i) tk) tj) tas σ H fun _ H' => D.nx σ H'
    refine ⟨_, at_of E li, ?_⟩
    refine hk (L1, p) F0 H1 F H σ _ _ E ?_
    rw [mB_is qk]
    intro F1 H2 v s1 r1
    obtain rfl := rep_str r1
    have E1 := E.step s1
    have T1 := T.on s1.ff (nw_of E s1)
    have hP := E1.st.hh _ _ T1.atp
    unfold ownC at qu
    split at qu
    · rename_i jj
      cases qn : ixN sl.2.length jj with
      | none => rw [qn] at qu; cases qu
      | some n =>
        rw [qn] at qu
        have qu : (match sl.2[n]? with
          | some (.own ds) => some (n, ds)
          | _ => none) = some u := qu
        cases qd : sl.2[n]? with
        | none => rw [qd] at qu; cases qu
        | some c =>
          rw [qd] at qu
          cases c with
          | dat d => cases qu
          | own ds =>
            cases qu
            split at qs
            · rename_i e
              subst e
              cases qs
              refine ⟨p, .ref a1, rfl, ?_, ?_⟩
              · have := DGet.k (k := .inr k) hP
                rw [kk.g1] at this
                exact this
              · refine hj (L1, p) F0 H1 F1 H2 σ _ _ E1 ?_
                rw [mB_is qj]
                intro F2 H3 v s2 r2
                obtain rfl := rep_intB r2
                have E2 := E1.step s2
                have T2 := T1.on s2.ff (nw_of E1 s2)
                have nl := (List.getElem?_eq_some_iff.mp qd).1
                have hv : vs1[n]? = some (vs1[n]'(by rw [T.n1.ln]; exact nl)) := List.getElem?_eq_getElem _
                generalize vs1[n]'(by rw [T.n1.ln]; exact nl) = v at hv
                obtain ⟨b, ws, rfl, _, _, _, bh, _⟩ := T2.n1.ch n v _ hv qd
                refine .inl ⟨a1, vs1, jj, .ref b, rfl, rfl, SqL.of (E2.st.hh _ _ T2.n1.at0), ?_, .inl ⟨rfl, _, SqL.of (E2.st.hh _ _ bh)⟩, ?_⟩
                · unfold atI
                  rw [T.n1.ln, qn]
                  exact hv
                · refine ha (L1, p) F0 H1 F2 H3 σ _ _ E2 (post_mono (WOR.of E2 T.n1.ex (WOR.mono (s1.ff.trans s2.ff) q)) (fun es q2 F3 H4 xs s3 r3 => ?_) fun _ z => z)
                  obtain ⟨rz, qf, q2⟩ := WOR.ofO q2
                  obtain ⟨ds', z⟩ := rz
                  have E3 := E2.step s3
                  have T3 := T2.on s3.ff (nw_of E2 s3)
                  obtain ⟨b', ws', e', _, _, bf', bh', br'⟩ := T3.n1.ch n _ _ hv qd
                  cases e'
                  refine hr F3 H4 b ws' ds xs es ds' z _ E3.st.fh (E3.st.hh _ _ bh') br' r3 qf fun ws2 v rw' _ => ?_
                  refine WOR.mono s3.ff q2 F3 _ σ (Ex.refl _) ⟨p, _, upd H1 b (.lst ws2), ?_, List.getElem?_set_self li, noErr_set ne _ rfl, a1, a2, vs1, vs2, T3.up1 (T3.n1.mut hv qd rw') (fun y h => .inl (prtN_set qd h)) (fun y h => upd_ne fun z => ?_)⟩
                  · rw [List.set_set]
                    exact E3.both bf' bh'
                  · have pb : PrtN a1 vs1 x.1 b := .inr ⟨n, ds, hv, qd⟩
                    rcases h with h | h
                    · exact T.ap b pb (by rw [← z]; exact h)
                    · exact T.p1 (by rw [← h, z]; exact pb)
            · split at qs
              · rename_i _ e
                subst e
                cases qs
                refine ⟨p, .ref a2, rfl, ?_, ?_⟩
                · have := DGet.k (k := .inr k) hP
                  rw [kk.g2] at this
                  exact this
                · refine hj (L1, p) F0 H1 F1 H2 σ _ _ E1 ?_
                  rw [mB_is qj]
                  intro F2 H3 v s2 r2
                  obtain rfl := rep_intB r2
                  have E2 := E1.step s2
                  have T2 := T1.on s2.ff (nw_of E1 s2)
                  have nl := (List.getElem?_eq_some_iff.mp qd).1
                  have hv : vs2[n]? = some (vs2[n]'(by rw [T.n2.ln]; exact nl)) := List.getElem?_eq_getElem _
                  generalize vs2[n]'(by rw [T.n2.ln]; exact nl) = v at hv
                  obtain ⟨b, ws, rfl, _, _, _, bh, _⟩ := T2.n2.ch n v _ hv qd
                  refine .inl ⟨a2, vs2, jj, .ref b, rfl, rfl, SqL.of (E2.st.hh _ _ T2.n2.at0), ?_, .inl ⟨rfl, _, SqL.of (E2.st.hh _ _ bh)⟩, ?_⟩
                  · unfold atI
                    rw [T.n2.ln, qn]
                    exact hv
                  · refine ha (L1, p) F0 H1 F2 H3 σ _ _ E2 (post_mono (WOR.of E2 T.n1.ex (WOR.mono (s1.ff.trans s2.ff) q)) (fun es q2 F3 H4 xs s3 r3 => ?_) fun _ z => z)
                    obtain ⟨rz, qf, q2⟩ := WOR.ofO q2
                    obtain ⟨ds', z⟩ := rz
                    have E3 := E2.step s3
                    have T3 := T2.on s3.ff (nw_of E2 s3)
                    obtain ⟨b', ws', e', _, _, bf', bh', br'⟩ := T3.n2.ch n _ _ hv qd
                    cases e'
                    refine hr F3 H4 b ws' ds xs es ds' z _ E3.st.fh (E3.st.hh _ _ bh') br' r3 qf fun ws2 v rw' _ => ?_
                    refine WOR.mono s3.ff q2 F3 _ σ (Ex.refl _) ⟨p, _, upd H1 b (.lst ws2), ?_, List.getElem?_set_self li, noErr_set ne _ rfl, a1, a2, vs1, vs2, T3.up2 (T3.n2.mut hv qd rw') (fun y h => .inl (prtN_set qd h)) (fun y h => upd_ne fun z => ?_)⟩
                    · rw [List.set_set]
                      exact E3.both bf' bh'
                    · have pb : PrtN a2 vs2 x.2 b := .inr ⟨n, ds, hv, qd⟩
                      rcases h with h | h
                      · exact T.ap b (by rw [← z]; exact h) pb
                      · exact T.p2 (by rw [← h, z]; exact pb)
              · cases qs
    · cases qu
  · cases qs
theorem dt_exit {t : TS} {h : MS} (hu : ∀ L, DS K L mg W t h) : DSR (twoR K k1 k2) K mg W i t (sTwoExit k1 k2 i h) := fun L1 F0 H0 F H σ ρ D ⟨a, x, H1, E, hi, ne, a1, a2, vs1, vs2, T⟩ q => by
  have hi : ρ[i]? = some (.val (encT2 x)) := hi
  unfold sTwoExit at q
  rw [viewT_at hi, ofO_some] at q
  obtain ⟨F', ef, E'⟩ := T.out (L := (L1, a)) E (li_ofT hi) ne
  refine hu (L1, a) F0 H0 F' H σ _ D E' ?_
  have q : WOR (twoR K k1 k2) K mg W i L1 F0 H0 F D (match h (ρ.set i (.val (outT k1 k2 x))) with
    | .ret d ρ1 => .ret d ρ1
    | .exc n ρ1 => .exc n ρ1
    | _ => .stuck) := q
  cases qh : h (ρ.set i (.val (outT k1 k2 x))) with
  | ret d ρ1 => rw [qh] at q; exact fun F2 H2 σ2 v e2 E2 r => q F2 H2 σ2 v a (ef.trans e2) E2 r
  | exc n ρ1 => rw [qh] at q; exact fun F2 H2 σ2 e2 E2 => q F2 H2 σ2 a (ef.trans e2) E2
  | nx ρ1 => rw [qh] at q; exact q.elim
  | brk ρ1 => rw [qh] at q; exact q.elim
  | cont ρ1 => rw [qh] at q; exact q.elim
  | retL d ρ1 => rw [qh] at q; exact q.elim
  | stuck => rw [qh] at q; exact q.elim
theorem outRR_wo {X : Type} {R : Reg X} {t : TS} {g : MS} {ρ1 : Fr} (hg : DSR R K mg W i t g) (Y : EnvR R K i L.1 F0 H0 F H σ ρ1) (q : WO K mg W L F0 H0 F D (outR i (g ρ1))) : t D σ H := by
  refine hg L.1 F0 H0 F H σ ρ1 D Y ?_
  cases qg : g ρ1 with
  | ret d ρ2 =>
    rw [qg] at q
    have q : WO K mg W L F0 H0 F D (if noErr (clrI i ρ2) = true then .ret d (clrI i ρ2) else .stuck) := q
    split at q
    · rename_i n1
      exact fun F' H' σ' v a e E' r => q F' H' σ' v e ((E'.clr).other n1 rfl) r
    · exact q.elim
  | exc n ρ2 =>
    rw [qg] at q
    have q : WO K mg W L F0 H0 F D (if noErr (clrI i ρ2) = true then .exc n (clrI i ρ2) else .stuck) := q
    split at q
    · rename_i n1
      exact fun F' H' σ' a e E' => q F' H' σ' e ((E'.clr).other n1 rfl)
    · exact q.elim
  | nx ρ => rw [qg] at q; exact q.elim
  | brk ρ => rw [qg] at q; exact q.elim
  | cont ρ => rw [qg] at q; exact q.elim
  | retL ds ρ => rw [qg] at q; exact q.elim
  | stuck => rw [qg] at q; exact q.elim
theorem ds_regT {t : TS} {g : MS} (kk : KK k1 k2) (hg : DSR (twoR K k1 k2) K mg W i t g) : DS K L mg W (tSeq (tAsg (tDisp [(tC (.str k1), tLst tNil), (tC (.str k2), tLst tNil)]) (gName i)) t) (sRegT i g) := fun F0 H0 F H σ ρ D E q => by
  unfold sRegT at q
  split at q
  · rename_i c
    rw [Bool.and_eq_true] at c
    obtain ⟨ne, li⟩ := c
    have li := of_decide_eq_true li
    intro P hP
    refine ⟨Nat.zero_le _, fun A hA => ?_⟩
    refine ⟨Nat.zero_le _, fun B hB => ?_⟩
    have pa : P ≠ A := fun z => by rw [← z, upd_same] at hA; cases hA
    have ab : A ≠ B := fun z => by rw [← z, upd_same] at hB; cases hB
    have hB1 : upd H P (.dK []) B = none := by rw [upd_ne ab.symm] at hB; exact hB
    have pb : P ≠ B := fun z => by rw [← z, upd_same] at hB1; cases hB1
    have hA0 : H A = none := by rw [upd_ne pa.symm] at hA; exact hA
    have hB0 : H B = none := by rw [upd_ne pb.symm] at hB1; exact hB1
    refine ⟨by rw [upd_ne pb, upd_ne pa, upd_same], [(.inr k1, .ref A), (.inr k2, .ref B)], rfl, Nat.le_of_ble_eq_true rfl, ?_⟩
    rw [kk.mg]
    show t D (σ.set i (some (.ref P))) _
    have h0P : H0 P = none := E.st.hh.free hP
    have h0A : H0 A = none := E.st.hh.free hA0
    have h0B : H0 B = none := E.st.hh.free hB0
    have fP : F P = none := E.st.fh.free hP
    have fA : F A = none := E.st.fh.free hA0
    have fB : F B = none := E.st.fh.free hB0
    have hdk : ∃ dk : HO, dk = HO.dK [(.inr k1, .ref A), (.inr k2, .ref B)] := ⟨_, rfl⟩
    obtain ⟨dk, hdk⟩ := hdk
    rw [← hdk]
    have hHn : ∃ Hn : Hp, Hn = upd (upd (upd H0 A (.lst [])) B (.lst [])) P dk := ⟨_, rfl⟩
    obtain ⟨Hn, hHn⟩ := hHn
    have hH' : ∃ H' : Hp, H' = upd (upd (upd (upd H P (.dK [])) A (.lst [])) B (.lst [])) P dk := ⟨_, rfl⟩
    obtain ⟨H', hH'⟩ := hH'
    rw [← hH']
    have nP : Hn P = some dk := by rw [hHn, upd_same]
    have nA : Hn A = some (.lst []) := by rw [hHn, upd_ne pa.symm, upd_ne ab, upd_same]
    have nB : Hn B = some (.lst []) := by rw [hHn, upd_ne pb.symm, upd_same]
    have nO : ∀ l, l ≠ P → l ≠ A → l ≠ B → Hn l = H0 l := fun l x y z => by rw [hHn, upd_ne x, upd_ne z, upd_ne y]
    have oP : H' P = some dk := by rw [hH', upd_same]
    have oA : H' A = some (.lst []) := by rw [hH', upd_ne pa.symm, upd_ne ab, upd_same]
    have oB : H' B = some (.lst []) := by rw [hH', upd_ne pb.symm, upd_same]
    have oO : ∀ l, l ≠ P → l ≠ A → l ≠ B → H' l = H l := fun l x y z => by rw [hH', upd_ne x, upd_ne z, upd_ne y, upd_ne x]
    have old : ∀ l o, H l = some o → l ≠ P ∧ l ≠ A ∧ l ≠ B := fun l o hl => ⟨ne_of_none hl hP, ne_of_none hl hA0, ne_of_none hl hB0⟩
    have e0 : Ex H0 Hn := fun l o hl => by
      obtain ⟨x, y, z⟩ := old l o (E.st.hh _ _ hl)
      rw [nO l x y z]; exact hl
    refine outRR_wo hg ⟨P, ([], []), Hn, ?_, List.getElem?_set_self li, noErr_set ne _ rfl, A, B, [], [], ?_⟩ q
    · rw [List.set_set]
      refine E.toMark E ne li (fun l o hl => ?_) (fun x o hx => ?_) (fun x o q1 q2 q3 => ?_) (fun x o hx => ?_) (fun x o hx => ?_)
      · obtain ⟨x, y, z⟩ := old l o hl
        exact nO l x y z
      · by_cases c1 : x = P
        · subst c1; rw [oP, ← nP]; exact hx
        by_cases c2 : x = A
        · subst c2; rw [oA, ← nA]; exact hx
        by_cases c3 : x = B
        · subst c3; rw [oB, ← nB]; exact hx
        rw [nO x c1 c2 c3] at hx
        rw [oO x c1 c2 c3]
        exact E.st.hh _ _ hx
      · by_cases c1 : x = P
        · rw [c1]; exact fP
        by_cases c2 : x = A
        · rw [c2]; exact fA
        by_cases c3 : x = B
        · rw [c3]; exact fB
        rw [nO x c1 c2 c3] at q2
        exact E.st.nw x o q1 q2 q3
      · obtain ⟨a, b, c⟩ := old x o (E.st.fh _ _ hx)
        rw [oO x a b c]
        exact E.st.fh _ _ hx
      · obtain ⟨a, b, c⟩ := old x o hx
        rw [oO x a b c]
        exact hx
    · have no : ∀ (a q : Addr), PrtN a [] [] q → q = a := fun a q h => by
        rcases h with h | ⟨j, ds, h, _⟩
        · exact h
        · simp at h
      refine ⟨⟨e0, h0A, fA, nA, rfl, fun j v c h => by simp at h, fun j k b ds es h => by simp at h⟩, ⟨e0, h0B, fB, nB, rfl, fun j v c h => by simp at h, fun j k b ds es h => by simp at h⟩, fun q h1 h2 => ab ((no _ _ h1).symm.trans (no _ _ h2)), fun h => pa (no _ _ h), fun h => pb (no _ _ h), h0P, fP, ?_⟩
      rw [nP, hdk]
  · exact q.elim
end
def dspV (kvs : List (Str × Str)) : List (Key × V) := kvs.map fun kv => (.inr kv.1, .str kv.2)
def dspK (kvs : List (Str × Str)) : List (Key × D) := kvs.map fun kv => (.inr kv.1, .str kv.2)
def dspT (kvs : List (Str × Str)) : List (TE × TE) := kvs.map fun kv => (tC (.str kv.1), tC (.str kv.2))
theorem dsp_pairs : ∀ (kvs : List (Str × Str)) (σ : L2.St) (H : Hp) (Q : List (V × V) → Hp → Prop), Q ((dspV kvs).map fun kv => (L2.kV kv.1, kv.2)) H → tPairs (dspT kvs) σ H Q
  | [], _, _, _, h => h
  | kv :: kvs, σ, H, Q, h => dsp_pairs kvs σ H (fun ps H3 => Q ((.str kv.1, .str kv.2) :: ps) H3) h
theorem dsp_rep {K : PySem.W.Frag} {F : Hp} : ∀ kvs : List (Str × Str), RepK K F (dspV kvs) (dspK kvs)
  | [] => .nil
  | kv :: kvs => .cons (.str _) (dsp_rep kvs)
def dspD (kvs : List (Str × Str)) : D := .dict (dkD (dspK kvs))
section
variable {K : PySem.W.Frag} {L : Addr × Addr} {mg : Str → Option Value} {W : WX}
theorem df_dsp {kvs : List (Str × Str)} (hm : mergeK [] (dspV kvs) = dspV kvs) (h15 : kvs.length ≤ 15) : DF K L mg W (tDisp (dspT kvs)) (eC (dspD kvs)) := fun F0 H0 F H σ ρ Q E k => by
  intro p hp
  refine dsp_pairs kvs σ _ _ ⟨upd_same, dspV kvs, rfl, by unfold dspV; rw [List.length_map]; exact h15, ?_⟩
  rw [upd_upd, hm]
  exact k _ _ _ (Step.new E.st.fh hp) (.dK upd_same (dsp_rep kvs) rfl)
end
end Dn
set_option Elab.async false
set_option linter.all false
set_option maxRecDepth 100000
set_option maxHeartbeats 4000000
namespace Dn
open PySem L2
def inSB : D → D → Option Bool
  | .str k, .tuple ds => (strs? ds).map fun ns => decide (k ∈ ns)
  | d, e => inB d e
def ninAS (d e : D) : Option D := (inSB d e).map fun b => .bool (!b)
theorem inV_strs (k : Str) : ∀ ns : List Str, inV (.str k) (ns.map V.str) = decide (k ∈ ns)
  | [] => rfl
  | n :: ns => by
    have ih := inV_strs k ns
    unfold inV at ih ⊢
    rw [List.map_cons, List.any_cons, ih]
    show ((n == k) || decide (k ∈ ns)) = _
    rw [Bool.eq_iff_iff, Bool.or_eq_true, beq_iff_eq, decide_eq_true_iff, decide_eq_true_iff, List.mem_cons]
    exact ⟨fun z => z.elim (fun e => .inl e.symm) .inr, fun z => z.elim (fun e => .inl e.symm) .inr⟩
theorem flat_strsA (ns : List Str) : (ns.map V.str).all flatV = true := by
  rw [List.all_eq_true]
  intro x hx
  obtain ⟨n, _, rfl⟩ := List.mem_map.mp hx
  rfl
section
variable {K : PySem.W.Frag}
theorem in_coreS {F H : Hp} {x y : V} {d e : D} {b : Bool} (ex : Ex F H) (rx : RepB K F H x d) (ry : RepB K F H y e) (h : inSB d e = some b) : (inB d e = some b) ∨ ∃ (p : Addr) (ns : List Str) (k : Str), x = .str k ∧ y = .ref p ∧ SqT K H p (ns.map V.str) ∧ b = decide (k ∈ ns) := by
  unfold inSB at h
  split at h
  · rename_i k ds
    cases q : strs? ds with
    | none => rw [q] at h; cases h
    | some ns =>
      rw [q] at h
      cases h
      obtain rfl := strs?_eq q
      obtain rfl := rep_str rx
      obtain ⟨p, vs, rfl, sq, r, _⟩ := RepB.ist ex ry
      obtain rfl := r.strs
      exact .inr ⟨p, ns, k, rfl, rfl, sq, rfl⟩
  · exact .inl h
theorem rd_ninAS : R2D K (oNin K) ninAS := by
  intro F H x y d e Q z ex rx ry h k
  unfold ninAS at h
  cases q : inSB d e with
  | none => rw [q] at h; cases h
  | some b =>
    rw [q] at h
    cases h
    rcases in_coreS ex rx ry q with h | ⟨p, ns, i, rfl, rfl, sq, rfl⟩
    · exact rd_nin F H x y d e Q _ ex rx ry (by unfold ninD; rw [h]; rfl) k
    · refine .inr ⟨p, _, rfl, .inr sq, rfl, flat_strsA ns, ?_⟩
      rw [inV_strs]
      exact k.here ex (.bl _)
end
theorem ninAS_t (k : Str) (ns : List Str) : ninAS (.str k) (.tuple (ns.map .str)) = some (.bool (!decide (k ∈ ns))) := by
  show ((strs? (ns.map PyData.str)).map fun ns => decide (k ∈ ns)).map (fun b => PyData.bool (!b)) = _
  rw [strs?_map]; rfl
end Dn
set_option Elab.async false
set_option linter.all false
set_option maxRecDepth 100000
set_option maxHeartbeats 4000000
namespace Dn
open PySem PySem.Spec PyProof.Rows L2
end Dn
set_option Elab.async false
set_option linter.all false
set_option maxRecDepth 100000
set_option maxHeartbeats 4000000
namespace Dn
open PySem PySem.Spec PyProof.Rows L2
def eCallLS (f : List D → M (List D)) (as : ML) : ML := fun ρ => (as ρ).bind fun ds => (f ds).bind fun es => if scalDs es = true then .ok es else .stuck
@[simp] theorem eCallLS_ap {f : List D → M (List D)} {as : ML} {ρ : Fr} : eCallLS f as ρ = (as ρ).bind fun ds => (f ds).bind fun es => if scalDs es = true then .ok es else .stuck := rfl
def sAsgP (i j : Nat) (f : List D → M (List D × List D)) (as : ML) : MS := fun ρ => Out.of (as ρ) ρ fun ds => Out.of (f ds) ρ fun r => .nx ((ρ.set i (.own (.lst r.1))).set j (.own (.lst r.2)))
@[simp] theorem sAsgP_ap {i j : Nat} {f : List D → M (List D × List D)} {as : ML} {ρ : Fr} : sAsgP i j f as ρ = Out.of (as ρ) ρ fun ds => Out.of (f ds) ρ fun r => .nx ((ρ.set i (.own (.lst r.1))).set j (.own (.lst r.2))) := rfl
def Out.p : Out → M (List D × List D)
  | .ret (.tuple [.list as, .list bs]) _ => .ok (as, bs)
  | .exc n _ => .exc n
  | _ => .stuck
section
variable (K : PySem.W.Frag) (L : Addr × Addr) (mg : Str → Option Value) (W : WX)
def WOP (F0 H0 F : Hp) (D : Ends) (o : Out) : Prop := post o.p (fun r => ∀ ρ, o = .ret (.tuple [.list r.1, .list r.2]) ρ → ∀ F' H1 σ' p1 p2 q vs ws, Ex F F' → Env K L F0 H0 F' H1 σ' ρ → H1 p1 = none → H1 p2 = none → H1 q = none → p1 ≠ p2 → p1 ≠ q → p2 ≠ q → RepL K F' vs r.1 → RepL K F' ws r.2 →
    D.rt (.ref q) (upd (upd (upd H1 p1 (.lst vs)) p2 (.lst ws)) q (.tup [.ref p1, .ref p2])))
  (fun n => ∀ ρ, o = .exc n ρ → ∀ F' H' σ', Ex F F' → Env K L F0 H0 F' H' σ' ρ → Wm mg W n σ' H')
end
section
variable {K : PySem.W.Frag} {L : Addr × Addr} {mg : Str → Option Value} {W : WX} {tas : TA} {as : ML} {t u : TS} {g h : MS} {ta tb : TE} {a b : ML}
theorem WOP.mono {F0 H0 F F' : Hp} {D : Ends} {o : Out} (s : Ex F F') (w : WOP K L mg W F0 H0 F D o) : WOP K L mg W F0 H0 F' D o :=
  post_mono w (fun r k ρ e F2 H1 σ' p1 p2 q vs ws x => k ρ e F2 H1 σ' p1 p2 q vs ws (s.trans x)) fun n k ρ e F2 H2 σ' x => k ρ e F2 H2 σ' (s.trans x)
end
def sCallPick (i j : Nat) (f : List D → M (List D × D)) (e : ME) : MS := fun ρ => Out.ofO (ownAt i ρ) fun xs => Out.ofO (ownAt j ρ) fun ys => Out.of (e ρ) ρ fun d => match d with
  | .int 0 => (match f [.list xs] with | .ok r => .nx (putL i r.1 ρ) | _ => .stuck)
  | .int 1 => (match f [.list ys] with | .ok r => .nx (putL j r.1 ρ) | _ => .stuck)
  | _ => .stuck
@[simp] theorem sCallPick_ap {i j : Nat} {f : List D → M (List D × D)} {e : ME} {ρ : Fr} : sCallPick i j f e ρ = Out.ofO (ownAt i ρ) fun xs => Out.ofO (ownAt j ρ) fun ys => Out.of (e ρ) ρ fun d => match d with
  | .int 0 => (match f [.list xs] with | .ok r => .nx (putL i r.1 ρ) | _ => .stuck)
  | .int 1 => (match f [.list ys] with | .ok r => .nx (putL j r.1 ρ) | _ => .stuck)
  | _ => .stuck := rfl
section
variable {K : PySem.W.Frag} {L : Addr × Addr} {mg : Str → Option Value} {W : WX} {te : TE} {e : ME}
/-- {} handed on -/
def eDNewT : ME := fun _ => .ok (.dict (dtD []))
@[simp] theorem eDNewT_ap {ρ : Fr} : eDNewT ρ = .ok (.dict (dtD [])) := rfl
end
def rng2 (i j : Int) : List D := (List.range ((j - i + 1) / 2).toNat).map fun k => .int (i + (k : Nat) * 2)
open Classical in
noncomputable def rngM32 : List D → M (List D) := fun xs => match xs with
  | [.int i, .int j, .int c] => if c = 2 ∧ (-2305843009213693952 ≤ i ∧ i ≤ 2305843009213693952) ∧ -2305843009213693952 ≤ j ∧ j ≤ 2305843009213693952 then .ok (rng2 i j) else .stuck
  | _ => .stuck
noncomputable def iR32 (as : ML) : ML := fun ρ => (as ρ).bind rngM32
@[simp] theorem iR32_ap {as : ML} {ρ : Fr} : iR32 as ρ = (as ρ).bind rngM32 := Eq.trans rfl rfl
end Dn
set_option Elab.async false
set_option linter.all false
set_option maxRecDepth 100000
set_option maxHeartbeats 4000000
namespace Dn
open PySem PySem.Spec PyProof.Rows L2
end Dn
set_option Elab.async false
set_option linter.all false
set_option maxRecDepth 100000
set_option maxHeartbeats 4000000
namespace Dn
open PySem PySem.Spec PyProof.Rows L2
open PySem.W (kms_lo kms_hi kms_bounds)
end Dn
set_option Elab.async false
set_option linter.all false
set_option maxRecDepth 100000
set_option maxHeartbeats 4000000
namespace L2
open PySem PySem.Spec PyProof.Rows
end L2
namespace Dn
open PySem PySem.Spec PyProof.Rows L2
def loopLcX (tg : D → Fr → Option Fr) (e : ME) (vs : List Nat) (ρ : Fr) : List D → List D → M (List D)
  | [], acc => .ok acc
  | d :: ds, acc => match tg d (wipeF ρ vs) with
    | none => .stuck
    | some ρ' => (e ρ').bind fun y => if acc.length < sizeLine then loopLcX tg e vs ρ ds (acc ++ [y]) else .stuck
/-- a comprehension of which the element may let an exception out -/
def eLcX (f : ML) (tg : D → Fr → Option Fr) (e : ME) (vs : List Nat) : ML := fun ρ => (f ρ).bind fun ds => loopLcX tg e vs ρ ds []
@[simp] theorem eLcX_ap {f : ML} {tg : D → Fr → Option Fr} {e : ME} {vs : List Nat} {ρ : Fr} : eLcX f tg e vs ρ = (f ρ).bind fun ds => loopLcX tg e vs ρ ds [] := rfl
end Dn
set_option Elab.async false
set_option linter.all false
set_option maxRecDepth 100000
set_option maxHeartbeats 4000000
namespace Dn
open PySem PySem.Spec PyProof.Rows L2
abbrev MK := List (List Key)
def mkN (k : MK) : NestedKey := .tup (k.map fun ks => .tup (ks.map kn))
/-- the key's parts at addresses -/
def PartsH (H : Hp) : List Addr → MK → Prop
  | [], [] => True
  | p :: ps, ks :: k => H p = some (.tup (ks.map L2.kV)) ∧ PartsH H ps k
  | _, _ => False
def MkH (H : Hp) (b : Addr) (k : MK) : Prop := ∃ ps : List Addr, H b = some (.tup (ps.map V.ref)) ∧ PartsH H ps k
theorem PartsH.mono {H H' : Hp} (e : Ex H H') : ∀ {ps : List Addr} {k : MK}, PartsH H ps k → PartsH H' ps k
  | [], [], _ => True.intro
  | p :: ps, ks :: k, ⟨h1, h2⟩ => ⟨e _ _ h1, h2.mono e⟩
theorem MkH.mono {H H' : Hp} {b : Addr} {k : MK} (e : Ex H H') (h : MkH H b k) : MkH H' b k := by
  obtain ⟨ps, h1, h2⟩ := h
  exact ⟨ps, e _ _ h1, h2.mono e⟩
abbrev BX := List (MK × Addr × Value)
abbrev mxs (xs : BX) : List (NestedKey × Addr × Value) := xs.map fun x => (mkN x.1, x.2)
def bookO (P : Program) (w : World) (a : Addr) (xs : BX) : HO := .ext fun h => ∃ o es ep, h.get? a = some o ∧ o.ExactDict ∧ o.data = .dict es ep ∧ es.toList = (mxs xs).map (entryOfKey (nestedKind P w)) ∧ ((mxs xs).map (·.1)).Nodup
end Dn
set_option Elab.async false
set_option linter.all false
set_option maxRecDepth 100000
set_option maxHeartbeats 4000000
namespace Dn
open PySem PySem.Spec PyProof.Rows L2
def kD1 : Key → D
  | .inl i => .int i
  | .inr x => .str x
def kU : D → Option Key
  | .int i => some (.inl i)
  | .str x => some (.inr x)
  | _ => none
def ksU : List D → Option (List Key)
  | [] => some []
  | d :: ds => (kU d).bind fun k => (ksU ds).map (k :: ·)
def kpU : D → Option (List Key)
  | .tuple ds => ksU ds
  | _ => none
def mkU : List D → Option MK
  | [] => some []
  | d :: ds => (kpU d).bind fun k => (mkU ds).map (k :: ·)
/-- the key that data tell -/
def keyU : D → Option MK
  | .tuple ds => mkU ds
  | _ => none
def keyE (k : MK) : D := .tuple (k.map fun ks => .tuple (ks.map kD1))
theorem ksU_ok : ∀ ks : List Key, ksU (ks.map kD1) = some ks
  | [] => rfl
  | k :: ks => by
    have e : kU (kD1 k) = some k := by cases k <;> rfl
    show (kU (kD1 k)).bind _ = _
    rw [e, Option.bind_some, ksU_ok ks]
    rfl
theorem mkU_ok : ∀ k : MK, mkU (k.map fun ks => .tuple (ks.map kD1)) = some k
  | [] => rfl
  | ks :: k => by
    show (ksU (ks.map kD1)).bind _ = _
    rw [ksU_ok, Option.bind_some, mkU_ok k]
    rfl
theorem keyU_ok (k : MK) : keyU (keyE k) = some k := mkU_ok k
abbrev BT := List (MK × Int)
def encB (T : BT) : D := .list (T.map fun p => .tuple [keyE p.1, .int p.2])
def enU : D → Option (MK × Int)
  | .tuple [d, .int i] => (keyU d).map fun k => (k, i)
  | _ => none
def esU : List D → Option BT
  | [] => some []
  | d :: ds => (enU d).bind fun p => (esU ds).map (p :: ·)
def decB : D → Option BT
  | .list ds => esU ds
  | _ => none
theorem decB_ok (T : BT) : decB (encB T) = some T := by
  show esU (T.map fun p => .tuple [keyE p.1, .int p.2]) = some T
  induction T with
  | nil => rfl
  | cons p T ih =>
    show (enU (.tuple [keyE p.1, .int p.2])).bind _ = _
    have e : enU (.tuple [keyE p.1, .int p.2]) = some p := by
      show (keyU (keyE p.1)).map _ = _
      rw [keyU_ok]
      rfl
    rw [e, Option.bind_some, ih]
    rfl
/-- the book's entries as they stand tell T -/
def Tells : BX → BT → Prop
  | [], [] => True
  | x :: xs, p :: T => x.1 = p.1 ∧ (∃ t, x.2.2 = Value.int p.2 t) ∧ Tells xs T
  | _, _ => False
/-- the region of a book -/
def bookR (P : Program) (w : World) : Reg BT where
  inv H0 H1 F a T := ∃ xs, H0 a = none ∧ F a = none ∧ a ≠ sysModules ∧ H1 = upd H0 a (bookO P w a xs) ∧ (∀ z ∈ xs, MkH F z.2.1 z.1) ∧ Tells xs T
  enc := encB
  dec := decB
  de := decB_ok
  ex := fun ⟨xs, h0, _, _, h1, _⟩ => by rw [h1]; exact Ex.new h0
  on := fun {H0 H1 F F' a T} h e nw => by
    obtain ⟨xs, h0, hf, hs, h1, hk, ht⟩ := h
    have hb : H1 a = some (bookO P w a xs) := by rw [h1]; exact upd_same
    exact ⟨xs, h0, nw a _ hf hb (fun _ z => nomatch z), hs, h1, fun z hz => (hk z hz).mono e, ht⟩
end Dn
set_option Elab.async false
set_option linter.all false
set_option maxRecDepth 100000
set_option maxHeartbeats 4000000
namespace Dn
open PySem PySem.Spec PyProof.Rows L2
section
variable (K : PySem.W.Frag) (P : Program) (w : World)
/-- the book stands at a -/
def EnvA (i : Nat) (L1 a : Addr) (F0 H0 F H : Hp) (σ : L2.St) (ρ : Fr) : Prop :=
  ∃ (x : BT) (H1 : Hp), Env K (L1, a) F0 H1 F H σ (ρ.set i mkE) ∧ ρ[i]? = some (.val ((bookR P w).enc x)) ∧ noErr ρ = true ∧ (bookR P w).inv H0 H1 F a x
/-- what is wanted behind a statement: what is handed back leaves the book in sight -/
def WOB (i : Nat) (L1 a : Addr) (F0 H0 F : Hp) (D : Ends) : Out → Prop
  | .nx ρ => ∀ F' H' σ', Ex F F' → EnvA K P w i L1 a F0 H0 F' H' σ' ρ → D.nx σ' H'
  | .ret d ρ => ∀ F' H' σ' v, Ex F F' → EnvA K P w i L1 a F0 H0 F' H' σ' ρ → Rep K F' v d → D.rt v H'
  | _ => False
end
section
variable {K : PySem.W.Frag} {P : Program} {w : World} {mg : Str → Option Value} {W : WX} {i : Nat} {L1 a : Addr} {F0 H0 H1 F H F' H' : Hp} {σ : L2.St} {ρ ρ' : Fr} {D : Ends}
theorem WOB.mono {o : Out} (s : Ex F F') (q : WOB K P w i L1 a F0 H0 F D o) : WOB K P w i L1 a F0 H0 F' D o := by
  cases o with
  | nx ρ => exact fun F1 H1 σ1 e => q F1 H1 σ1 (s.trans e)
  | ret d ρ => exact fun F1 H1 σ1 v e => q F1 H1 σ1 v (s.trans e)
  | brk ρ => exact q
  | cont ρ => exact q
  | retL ds ρ => exact q
  | exc n ρ => exact q
  | stuck => exact q
theorem WOB.of {α : Type} {m : M α} {k : α → Out} (q : WOB K P w i L1 a F0 H0 F D (Out.of m ρ k)) : post m (fun z => WOB K P w i L1 a F0 H0 F D (k z)) (WE' mg W F H σ) := by
  cases m with
  | ok a => exact q
  | exc n => exact q.elim
  | stuck => exact q.elim
end
end Dn
set_option Elab.async false
set_option linter.all false
set_option maxRecDepth 100000
set_option maxHeartbeats 4000000
namespace Dn
open PySem PySem.Spec PyProof.Rows L2
end Dn
set_option Elab.async false
set_option linter.all false
set_option maxRecDepth 100000
set_option maxHeartbeats 4000000
namespace Dn
open PySem PySem.Spec PyProof.Rows L2
end Dn
set_option Elab.async false
set_option linter.all false
set_option maxRecDepth 100000
set_option maxHeartbeats 4000000
namespace Dn
open PySem PySem.Spec PyProof.Rows L2
end Dn
set_option Elab.async false
set_option linter.all false
set_option maxRecDepth 100000
set_option maxHeartbeats 4000000
namespace Dn
open PySem PySem.Spec PyProof.Rows L2
def eCallB0 (f : List D → BT → Option (D × BT)) (e1 e2 : ME) : ME := fun ρ => (e1 ρ).bind fun a => (e2 ρ).bind fun b => match f [a, b] [] with
  | some (d, _) => .ok d
  | none => .stuck
@[simp] theorem eCallB0_ap {f : List D → BT → Option (D × BT)} {e1 e2 : ME} {ρ : Fr} : eCallB0 f e1 e2 ρ = (e1 ρ).bind fun a => (e2 ρ).bind fun b => match f [a, b] [] with
  | some (d, _) => .ok d
  | none => .stuck := rfl
end Dn
set_option Elab.async false
set_option linter.all false
set_option maxRecDepth 100000
set_option maxHeartbeats 4000000
namespace Dn
open PySem PySem.Spec PyProof.Rows L2
section
variable (K : PySem.W.Frag) (P : Program) (w : World)
def WOQ (mg : Str → Option Value) (W : WX) (i : Nat) (L1 : Addr) (F0 H0 F : Hp) (D : Ends) : Out → Prop
  | .nx ρ => ∀ F' H' σ', Ex F F' → EnvR (bookR P w) K i L1 F0 H0 F' H' σ' ρ → D.nx σ' H'
  | .brk ρ => ∀ F' H' σ', Ex F F' → EnvR (bookR P w) K i L1 F0 H0 F' H' σ' ρ → D.bk σ' H'
  | .cont ρ => ∀ F' H' σ', Ex F F' → EnvR (bookR P w) K i L1 F0 H0 F' H' σ' ρ → D.ct σ' H'
  | .ret d ρ => ∀ F' H' σ' v a, Ex F F' → Env K (L1, a) F0 H0 F' H' σ' ρ → Rep K F' v d → D.rt v H'
  | .retL ds ρ => ∀ F' H' σ' p vs a, Ex F F' → Env K (L1, a) F0 H0 F' H' σ' ρ → H' p = none → RepL K F' vs ds → D.rt (.ref p) (upd H' p (.lst vs))
  | .exc n ρ => ∀ F' H' σ' a, Ex F F' → Env K (L1, a) F0 H0 F' H' σ' ρ → Wm mg W n σ' H'
  | .stuck => False
end
section
variable {K : PySem.W.Frag} {P : Program} {w : World} {mg : Str → Option Value} {W : WX} {i : Nat} {L1 a : Addr} {L : Addr × Addr} {F0 H0 H1 F H F' H' : Hp} {σ : L2.St} {ρ ρ' : Fr} {D : Ends} {x : BT}
theorem WOQ.mono {o : Out} (s : Ex F F') (q : WOQ K P w mg W i L1 F0 H0 F D o) : WOQ K P w mg W i L1 F0 H0 F' D o := by
  cases o with
  | nx ρ => exact fun F1 H1 σ1 e => q F1 H1 σ1 (s.trans e)
  | brk ρ => exact fun F1 H1 σ1 e => q F1 H1 σ1 (s.trans e)
  | cont ρ => exact fun F1 H1 σ1 e => q F1 H1 σ1 (s.trans e)
  | ret d ρ => exact fun F1 H1 σ1 v a e => q F1 H1 σ1 v a (s.trans e)
  | retL ds ρ => exact fun F1 H1 σ1 p vs a e => q F1 H1 σ1 p vs a (s.trans e)
  | exc n ρ => exact fun F1 H1 σ1 a e => q F1 H1 σ1 a (s.trans e)
  | stuck => exact q
/-- what an expression ahead may raise -/
theorem WOQ.of {α : Type} {m : M α} {k : α → Out} (E : Env K (L1, a) F0 H1 F H σ (ρ.set i mkE)) (ex : Ex H0 H1) (q : WOQ K P w mg W i L1 F0 H0 F D (Out.of m (ρ.set i mkE) k)) : post m (fun a => WOQ K P w mg W i L1 F0 H0 F D (k a)) (WE' mg W F H σ) := by
  cases m with
  | ok a => exact q
  | exc n => exact fun F1 H2 s => q F1 H2 σ a s.ff ((E.step s).less ex)
  | stuck => exact q.elim
end
end Dn
set_option Elab.async false
set_option linter.all false
set_option maxRecDepth 100000
set_option maxHeartbeats 4000000
namespace Dn
open PySem PySem.Spec PyProof.Rows L2
end Dn
set_option Elab.async false
set_option linter.all false
set_option maxRecDepth 100000
set_option maxHeartbeats 2000000
namespace L2
open PySem PySem.Spec PyProof.Rows
section
variable {P : Program} {w : World} {K : PySem.W.Frag} {mg : Str → Option Value} {base : Heap}
theorem Fun.okXN {x qual : Str} {st : Stmt} {f : Addr} {fd : FuncData} {N ps : List Str} {k : Nat} {sp : Sp} (F : Fun K x qual st f fd) (S : FnScope N ps (defScope st)) (len : ∀ vs H Q E, sp vs H Q E → vs.length = ps.length)
    (hbody : ∀ (cdv : Value) (A : Around) (outer : List PySem.Env) (s : Shared) (H : Hp) (vs : List V) (Q : VK) (E : XK), Room k (A.deeper (envOfC qual (defScope st) s.heap.objs.size f cdv)) → sp vs H Q E →
      ∃ t, PSs (cxOf (L2N.CX P w) P w K mg base N qual (defScope st) f cdv A outer s H E) (defBody st) t ∧ t { nx := fun _ H' => Q .non H', rt := Q } (start N vs) H) : FnOk P w K mg base (L2N.CX P w) (k + 1) f fd ps sp := by
  obtain ⟨oc, od, kV, doc, pm, an, cdv, ct, osl, rfl, lk, hcd⟩ := F.ex
  exact fn_of lk hcd S len fun A outer s H vs Q E hr hsp => hbody cdv A outer s H vs Q E hr hsp
theorem cxN_cx {outer : List PySem.Env} {H : Hp} {s : Shared} {E : XK} {u : Value} {s' : Shared} (h : L2N.CX P w outer H s E u s') : L2.CX P w outer H s E u s' := by
  obtain ⟨a, B, H', cls, d, e, fl, r⟩ := h
  exact ⟨a, B, H', cls, d, e, L2H.flyingZ_imp (fun _ z => L2N.Zn.zc z) fl, r⟩
end
end L2
namespace Dn
open PySem PySem.Spec PyProof.Rows L2
section
variable {P : Program} {w : World} {K : PySem.W.Frag} {mg : Str → Option Value} {base : Heap} {L : Addr × Addr}
/-- a def whose exceptions bear no context -/
def FnAtN (P : Program) (w : World) (K : PySem.W.Frag) (mg : Str → Option Value) (base : Heap) (x : Str) (ps : List Str) (k : Nat) (f : List D → M D) : Prop :=
  ∃ a fd, mg x = some (.ref a) ∧ PySem.W.keepIn K (.ref a) = true ∧ Binds K fd ps [] ∧ FnOk P w K mg base (L2N.CX P w) k a fd ps (spD K mg f)
theorem fn_atN {x : Str} {st : Stmt} {N ps : List Str} {k : Nat} {g : MS} (Df : DefAt K mg x st) (S : FnScope N ps (defScope st))
    (hb : ∀ (kV doc pm : Value) (an : Option Addr) (cdv ct : Value) (us : List Value), us.length = ps.length → bindArgs (PySem.W.fnOf x x (defArgs st) (defBody st) (defScope st) .none kV doc pm an cdv ct) ⟨us, []⟩ = pure (ps.zip us))
    (h : ∀ (f : Addr) (cdv : Value) (A : Around) (outer : List PySem.Env) (s : Shared) (H : Hp) (E : XK), Room k (A.deeper (envOfC x (defScope st) s.heap.objs.size f cdv)) →
      ∃ t, PSs (cxOf (L2N.CX P w) P w K mg base N x (defScope st) f cdv A outer s H E) (defBody st) t ∧ ∀ L, DS K L mg (fun cls d _ H => E cls d H) t g) :
    FnAtN P w K mg base x ps (k + 1) (mFn ps.length N.length g) := by
  obtain ⟨f, fd, hm, F⟩ := Df
  refine ⟨f, fd, hm, F.kp, F.binds hb, ?_⟩
  refine F.okXN S (fun vs H Q E h => spD_len h) fun cdv A outer s H vs Q E hr hs => ?_
  obtain ⟨t, h1, h2⟩ := h f cdv A outer s H E hr
  exact ⟨t, h1, body_ok h2 hs⟩
theorem FnAtN.at {x : Str} {ps : List Str} {k : Nat} {f : List D → M D} (h : FnAtN P w K mg base x ps k f) : FnAt P w K mg base x ps k f := by
  obtain ⟨a, fd, h1, h2, h3, h4⟩ := h
  refine ⟨a, fd, h1, h2, h3, ⟨h4.len, fun A outer s H args us vs Q E hr he hb hv hs => ?_⟩⟩
  refine codeAny_mono (h4.run A outer s H args us vs Q E hr he hb hv hs) fun r s' g => ?_
  cases r with
  | ok c =>
    cases c with
    | ret u => exact g
    | _ => exact g
  | error e => exact cxN_cx g
/-- try .. except C: a suite that may raise -/
def sTryOnlyR (tab : List (Str × Bool)) (gb gs : MS) : MS := fun ρ => match gb ρ with
  | .exc n ρ' => match lk tab n with
    | some true => gs ρ'
    | some false => .exc n ρ'
    | none => .stuck
  | o => o
theorem ds_tryOnlyR {W : WX} {c : Value} {tab : List (Str × Bool)} {tb : WX → TS} {ts : Addr → Value → Option Addr → TS} {gb : MS} {gs : MS}
    (hx : ∀ n b C, lk tab n = some b → mg n = some (.ref C) → PySem.W.exmOne K (.ref C) c = some b)
    (hb : ∀ W, DS K L mg W (tb W) gb)
    (hs : ∀ a n C, mg n = some (.ref C) → DS K L mg W (ts a (.ref C) none) gs) :
    DS K L mg W (fun D σ H => tb (wOnly K c ts W D) D σ H) (sTryOnlyR tab gb gs) := fun F0 H0 F H σ ρ D E w => by
  refine hb _ F0 H0 F H σ ρ D E ?_
  unfold sTryOnlyR at w
  cases q : gb ρ with
  | exc n ρ' =>
    rw [q] at w
    intro F' H' σ' e E' C hC
    have w : WO K mg W L F0 H0 F' D (match lk tab n with
    | some true => gs ρ'
    | some false => .exc n ρ'
    | none => .stuck) := WO.mono e w
    cases ql : lk tab n with
    | none => rw [ql] at w; exact w.elim
    | some b =>
      rw [ql] at w
      refine ⟨b, hx n b C ql hC, fun hb => ?_, fun hb => ?_⟩
      · subst hb
        intro a ha
        exact hs a n C hC F0 H0 F' H' σ' ρ' _ E' w
      · subst hb
        have w : WO K mg W L F0 H0 F' D (.exc n ρ') := w
        exact w F' H' σ' (Ex.refl _) E' C hC
  | nx ρ' => rw [q] at w; exact w
  | brk ρ' => rw [q] at w; exact w
  | cont ρ' => rw [q] at w; exact w
  | ret d ρ' => rw [q] at w; exact w
  | retL ds ρ' => rw [q] at w; exact w
  | stuck => rw [q] at w; exact w
end
end Dn
set_option Elab.async false
set_option linter.all false
set_option maxRecDepth 100000
set_option maxHeartbeats 2000000
namespace L2
open PySem PySem.Spec PyProof.Rows
end L2
namespace L2
open PySem PySem.Spec PyProof.Rows
end L2
namespace Dn
open PySem PySem.Spec PyProof.Rows L2
end Dn
set_option Elab.async false
set_option linter.all false
set_option maxRecDepth 100000
set_option maxHeartbeats 2000000
namespace L2
open PySem PySem.Spec PyProof.Rows
end L2
namespace Dn
open PySem PySem.Spec PyProof.Rows L2
end Dn
set_option Elab.async false
set_option linter.all false
set_option maxRecDepth 100000
set_option maxHeartbeats 4000000
namespace Dn
open PySem L2
def inLB : D → D → Option Bool
  | .str k, .list ds => (strs? ds).map fun ns => decide (k ∈ ns)
  | _, _ => none
def ninLS (d e : D) : Option D := (inLB d e).map fun b => .bool (!b)
section
variable {K : PySem.W.Frag}
theorem in_coreL {F H : Hp} {x y : V} {d e : D} {b : Bool} (ex : Ex F H) (rx : RepB K F H x d) (ry : RepB K F H y e) (h : inLB d e = some b) : ∃ (p : Addr) (ns : List Str) (k : Str), x = .str k ∧ y = .ref p ∧ H p = some (.lst (ns.map V.str)) ∧ b = decide (k ∈ ns) := by
  unfold inLB at h
  split at h
  · rename_i k ds
    cases q : strs? ds with
    | none => rw [q] at h; cases h
    | some ns =>
      rw [q] at h
      cases h
      obtain rfl := strs?_eq q
      obtain rfl := rep_str rx
      obtain ⟨p, vs, rfl, sq, r⟩ := RepB.isl ex ry
      obtain rfl := r.strs
      exact ⟨p, ns, k, rfl, rfl, sq, rfl⟩
  · cases h
theorem rd_ninLS : R2D K (oNin K) ninLS := by
  intro F H x y d e Q z ex rx ry h k
  unfold ninLS at h
  cases q : inLB d e with
  | none => rw [q] at h; cases h
  | some b =>
    rw [q] at h
    cases h
    obtain ⟨p, ns, i, rfl, rfl, sq, rfl⟩ := in_coreL ex rx ry q
    refine .inr ⟨p, _, rfl, .inl (.of sq), rfl, flat_strsA ns, ?_⟩
    rw [inV_strs]
    exact k.here ex (.bl _)
end
theorem ninLS_l (k : Str) (ns : List Str) : ninLS (.str k) (.list (ns.map .str)) = some (.bool (!decide (k ∈ ns))) := by
  show ((strs? (ns.map PyData.str)).map fun ns => decide (k ∈ ns)).map (fun b => PyData.bool (!b)) = _
  rw [strs?_map]; rfl
end Dn
set_option Elab.async false
set_option maxRecDepth 100000
set_option maxHeartbeats 4000000
namespace Dn
open PySem L2
/-- the ends' mates: each one's mate's mate is it -/
def Mates (ms : List Int) : Prop := ∀ i, i < ms.length → ∃ m : Nat, m < ms.length ∧ ms[i]? = some (m : Int) ∧ ms[m]? = some (i : Int)
def idxN (n : Nat) : List Int := (List.range n).map fun i : Nat => (i : Int)
theorem idxN_rng (n : Nat) : rngL 0 (n : Int) = (idxN n).map .int := by
  unfold rngL idxN
  rw [List.map_map]
  simp
theorem idxN_len (n : Nat) : (idxN n).length = n := by unfold idxN; simp
theorem idxN_get {n i : Nat} (h : i < n) : (idxN n)[i]? = some (i : Int) := by unfold idxN; simp [h]
theorem mates_idx (n : Nat) : Mates (idxN n) := fun i h => by
  rw [idxN_len] at h
  exact ⟨i, by rw [idxN_len]; exact h, idxN_get h, idxN_get h⟩
theorem Mates.put {ms : List Int} (h : Mates ms) {a b : Nat} (ha : ms[a]? = some (a : Int)) (hb : ms[b]? = some (b : Int)) : Mates ((ms.set a (b : Int)).set b (a : Int)) := by
  have la : a < ms.length := (List.getElem?_eq_some_iff.mp ha).1
  have lb : b < ms.length := (List.getElem?_eq_some_iff.mp hb).1
  intro i hi
  rw [List.length_set, List.length_set] at hi
  obtain ⟨m, hm, h1, h2⟩ := h i hi
  simp only [List.length_set, List.getElem?_set]
  by_cases c1 : b = i
  · subst c1
    refine ⟨a, la, by simp [hi], ?_⟩
    by_cases c : b = a
    · simp [c, la]
    · simp [c, la]
  by_cases c2 : a = i
  · subst c2
    exact ⟨b, lb, by simp [c1, hi], by simp [lb]⟩
  have k1 : ¬ b = m := fun z => by
    subst z
    rw [hb] at h2
    exact c1 (by cases h2; rfl)
  have k2 : ¬ a = m := fun z => by
    subst z
    rw [ha] at h2
    exact c2 (by cases h2; rfl)
  exact ⟨m, hm, by rw [if_neg c1, if_neg c2]; exact h1, by rw [if_neg k1, if_neg k2]; exact h2⟩
theorem Mates.free {ms : List Int} (h : Mates ms) {e m : Nat} (hm : ms[e]? = some (m : Int)) : Mates ((ms.set m (m : Int)).set e (e : Int)) := by
  have le : e < ms.length := (List.getElem?_eq_some_iff.mp hm).1
  obtain ⟨m', lm, h1, h2⟩ := h e le
  have : m' = m := by rw [hm] at h1; cases h1; rfl
  subst this
  intro i hi
  rw [List.length_set, List.length_set] at hi
  obtain ⟨k, hk, h3, h4⟩ := h i hi
  simp only [List.length_set, List.getElem?_set]
  by_cases c1 : e = i
  · subst c1
    refine ⟨e, hi, ?_, ?_⟩ <;> simp [hi]
  by_cases c2 : m' = i
  · subst c2
    refine ⟨m', hi, ?_, ?_⟩ <;> simp [c1, hi]
  have k1 : ¬ e = k := fun z => by
    subst z
    rw [h1] at h4
    exact c2 (by cases h4; rfl)
  have k2 : ¬ m' = k := fun z => by
    subst z
    rw [h2] at h4
    exact c1 (by cases h4; rfl)
  exact ⟨k, hk, by rw [if_neg c1, if_neg c2]; exact h3, by rw [if_neg k1, if_neg k2]; exact h4⟩
theorem Mates.get {ms : List Int} (h : Mates ms) {e : Nat} (he : e < ms.length) : ∃ m : Nat, m < ms.length ∧ ms[e]? = some (m : Int) := by
  obtain ⟨m, a, b, _⟩ := h e he
  exact ⟨m, a, b⟩
end Dn
set_option Elab.async false
set_option linter.all false
set_option maxRecDepth 100000
set_option maxHeartbeats 4000000
namespace Dn
open PySem L2
/-- a work of n ends, by a function -/
def tab (n : Nat) (m : Nat → Nat) : List Int := (List.range n).map fun i : Nat => (m i : Int)
def Inv (n : Nat) (m : Nat → Nat) : Prop := ∀ i, i < n → m i < n ∧ m (m i) = i
section
variable {n : Nat} {m m' : Nat → Nat}
theorem tab_len : (tab n m).length = n := by unfold tab; simp
theorem tab_get {i : Nat} (h : i < n) : (tab n m)[i]? = some (m i : Int) := by unfold tab; simp [h]
theorem tab_set (i v : Nat) : (tab n m).set i (v : Int) = tab n fun j => if j = i then v else m j := by
  unfold tab
  rw [set_range_map]
  refine List.map_congr_left fun j _ => ?_
  show (if j = i then (v : Int) else (m j : Int)) = ((if j = i then v else m j : Nat) : Int)
  split <;> rfl
theorem mates_tab {ms : List Int} (M : Mates ms) (hl : ms.length = n) : ∃ m, Inv n m ∧ ms = tab n m := by
  subst hl
  refine ⟨fun i => (ms.getD i 0).toNat, fun i hi => ?_, ?_⟩
  · obtain ⟨k, hk, h1, h2⟩ := M i hi
    have e1 : (ms.getD i 0).toNat = k := by rw [List.getD_eq_getElem?_getD, h1]; rfl
    have e2 : (ms.getD k 0).toNat = i := by rw [List.getD_eq_getElem?_getD, h2]; rfl
    show (ms.getD i 0).toNat < _ ∧ (ms.getD (ms.getD i 0).toNat 0).toNat = i
    rw [e1, e2]
    exact ⟨hk, rfl⟩
  · refine List.ext_getElem? fun i => ?_
    by_cases hi : i < ms.length
    · obtain ⟨k, hk, h1, h2⟩ := M i hi
      rw [tab_get hi, h1]
      show _ = some (((ms.getD i 0).toNat : Nat) : Int)
      rw [List.getD_eq_getElem?_getD, h1]
      rfl
    · rw [List.getElem?_eq_none (by omega), List.getElem?_eq_none (by rw [tab_len]; omega)]
theorem Inv.inj (h : Inv n m) {i j : Nat} (hi : i < n) (hj : j < n) (e : m i = m j) : i = j := by
  have a := (h i hi).2
  rw [e, (h j hj).2] at a
  exact a.symm
theorem ix_tabL {i : Nat} (h : i < n) : ixD (.list ((tab n m).map .int)) (.int (i : Int)) = some (.int (m i : Int)) := ixD_il (by omega) (by rw [show ((i : Int)).toNat = i from rfl]; exact tab_get h)
theorem set_tab {i v : Nat} (h : i < n) : setL ((tab n m).map .int) (.int (i : Int)) (.int (v : Int)) = some ((tab n fun j => if j = i then v else m j).map .int) := by
  have := setL_int (ms := tab n m) (i := (i : Int)) (v := (v : Int)) (by omega) (by rw [tab_len]; omega)
  rw [show ((i : Int)).toNat = i from rfl, tab_set] at this
  exact this
end
end Dn
set_option Elab.async false
set_option linter.all false
set_option maxRecDepth 100000
set_option maxHeartbeats 4000000
namespace Dn
open PySem L2
section
variable {n : Nat} {m : Nat → Nat} {a b x y : Nat}
def far (x : Nat) : Nat := if x % 2 = 0 then x + 1 else x - 1
theorem far_lt (h : n % 2 = 0) (hx : x < n) : far x < n := by unfold far; split <;> omega
theorem far_far : far (far x) = x := by
  unfold far
  by_cases h : x % 2 = 0
  · rw [if_pos h, if_neg (by omega)]; omega
  · rw [if_neg h, if_pos (by omega)]; omega
theorem far_ne : far x ≠ x := by unfold far; split <;> omega
theorem far_inj (h : far x = far y) : x = y := by rw [← far_far (x := x), h, far_far]
def nxt (m : Nat → Nat) (x : Nat) : Nat := m (far x)
/-- along the chain -/
def wk (m : Nat → Nat) (a : Nat) : Nat → Nat
  | 0 => a
  | k + 1 => nxt m (wk m a k)
def Stop (m : Nat → Nat) (a x : Nat) : Prop := nxt m x = a ∨ nxt m x = far x
instance : Decidable (Stop m a x) := by unfold Stop; exact inferInstance
structure Sz (n : Nat) (m : Nat → Nat) : Prop where
  even : n % 2 = 0
  inv : Inv n m
theorem nxt_lt (S : Sz n m) (hx : x < n) : nxt m x < n := (S.inv _ (far_lt S.even hx)).1
theorem nxt_inj (S : Sz n m) (hx : x < n) (hy : y < n) (h : nxt m x = nxt m y) : x = y :=
  far_inj (S.inv.inj (far_lt S.even hx) (far_lt S.even hy) h)
theorem wk_lt (S : Sz n m) (ha : a < n) : ∀ k, wk m a k < n
  | 0 => ha
  | k + 1 => nxt_lt S (wk_lt S ha k)
theorem wk_back (S : Sz n m) (ha : a < n) : ∀ (i d : Nat), wk m a (i + d) = wk m a i → wk m a d = a
  | 0, d, h => by rw [Nat.zero_add] at h; exact h
  | i + 1, d, h => by
    refine wk_back S ha i d (nxt_inj S (wk_lt S ha _) (wk_lt S ha _) ?_)
    have : i + 1 + d = (i + d) + 1 := by omega
    rw [this] at h
    exact h
theorem least_nat {P : Nat → Prop} : ∀ n, P n → ∃ y, y ≤ n ∧ P y ∧ ∀ z, z < y → ¬ P z := fun n => by
  induction n using Nat.strongRecOn with
  | _ n ih =>
    intro h
    by_cases c : ∃ z, z < n ∧ P z
    · obtain ⟨z, hz, pz⟩ := c
      obtain ⟨y, y1, y2, y3⟩ := ih z hz pz
      exact ⟨y, by omega, y2, y3⟩
    · exact ⟨n, Nat.le_refl _, h, fun z hz pz => c ⟨z, hz, pz⟩⟩
theorem nd_len2 {α : Type} [DecidableEq α] : ∀ (l xs : List α), l.Nodup → (∀ a ∈ l, a ∈ xs) → l.length ≤ xs.length
  | [], xs, _, _ => Nat.zero_le _
  | a :: l, xs, nd, hs => by
    rw [List.nodup_cons] at nd
    have ha := hs a List.mem_cons_self
    have p := (List.perm_cons_erase ha).length_eq
    have := nd_len2 l (xs.erase a) nd.2 (fun b hb => (List.mem_erase_of_ne (fun z : b = a => nd.1 (z ▸ hb))).mpr (hs b (List.mem_cons_of_mem _ hb)))
    rw [List.length_cons] at p ⊢
    omega
/-- two are alike among as many and one more -/
theorem pigeon {f : Nat → Nat} (h : ∀ i, i ≤ n → f i < n) : ∃ i j, i < j ∧ j ≤ n ∧ f i = f j := by
  by_cases c : ((List.range (n + 1)).map f).Nodup
  · have := nd_len2 _ (List.range n) c (fun x hx => by
      obtain ⟨i, hi, rfl⟩ := List.mem_map.mp hx
      rw [List.mem_range] at hi ⊢
      exact h i (by omega))
    rw [List.length_map, List.length_range, List.length_range] at this
    omega
  · rw [List.Nodup, List.pairwise_map] at c
    have : ∃ i j, i < j ∧ j ≤ n ∧ f i = f j := by
      apply Classical.byContradiction
      intro hn
      refine c (List.Pairwise.imp_of_mem (fun {x y} hx hy hxy e => ?_) (List.pairwise_lt_range (n := n + 1)))
      rw [List.mem_range] at hx hy
      exact hn ⟨x, y, hxy, by omega, e⟩
    exact this
/-- how far it goes -/
structure Ends (m : Nat → Nat) (a K : Nat) : Prop where
  stop : Stop m a (wk m a K)
  go : ∀ i, i < K → ¬ Stop m a (wk m a i)
theorem ends_ex (S : Sz n m) (ha : a < n) : ∃ K, K < n ∧ Ends m a K := by
  obtain ⟨i, j, ij, jn, e⟩ := pigeon (n := n) (f := wk m a) fun i _ => wk_lt S ha i
  have r := wk_back S ha i (j - i) (by rw [show i + (j - i) = j by omega]; exact e.symm)
  have st : Stop m a (wk m a (j - i - 1)) := .inl (by
    show wk m a (j - i - 1 + 1) = a
    rw [show j - i - 1 + 1 = j - i by omega]; exact r)
  obtain ⟨K, k1, k2, k3⟩ := least_nat (P := fun k => Stop m a (wk m a k)) _ st
  exact ⟨K, by omega, k2, k3⟩
theorem wk_nd (S : Sz n m) (ha : a < n) {K : Nat} (h : Ends m a K) {i j : Nat} (ij : i < j) (jk : j ≤ K) : wk m a i ≠ wk m a j := fun e => by
  have r := wk_back S ha i (j - i) (by rw [show i + (j - i) = j by omega]; exact e.symm)
  refine h.go (j - i - 1) (by omega) (.inl ?_)
  show wk m a (j - i - 1 + 1) = a
  rw [show j - i - 1 + 1 = j - i by omega]; exact r
/-- a chain from a loose end -/
theorem loose_end (S : Sz n m) (ha : a < n) (hl : m a = a) {K : Nat} (h : Ends m a K) : m (far (wk m a K)) = far (wk m a K) := by
  have kn := wk_lt S ha K
  have fk := far_lt S.even kn
  rcases h.stop with e | e
  · have e : m (far (wk m a K)) = a := e
    have := (S.inv _ fk).2
    rw [e, hl] at this
    rw [← this]; exact hl
  · exact e
end
end Dn
set_option Elab.async false
set_option linter.all false
set_option maxRecDepth 100000
set_option maxHeartbeats 4000000
namespace Dn
open PySem L2
section
variable {n : Nat} {m : Nat → Nat} {a b x y K : Nat}
theorem half_cases (h : x / 2 = y / 2) : x = y ∨ x = far y := by unfold far; split <;> omega
theorem far_half : far x / 2 = x / 2 := by unfold far; split <;> omega
theorem wk_step (S : Sz n m) (ha : a < n) (i : Nat) : m (wk m a (i + 1)) = far (wk m a i) := (S.inv _ (far_lt S.even (wk_lt S ha i))).2
/-- no stave is met from both sides -/
theorem no_far (S : Sz n m) (ha : a < n) (h : ∀ i, i < K → nxt m (wk m a i) ≠ far (wk m a i)) {i j : Nat} (ij : j < i) (ik : i ≤ K) : wk m a i ≠ far (wk m a j) := fun e => by
  have w : ∀ t, 2 * t ≤ i - j → wk m a (i - t) = far (wk m a (j + t)) := fun t => by
    induction t with
    | zero => intro _; exact e
    | succ t ih =>
      intro ht
      have e1 := ih (by omega)
      have e2 := wk_step S ha (i - t - 1)
      rw [show i - t - 1 + 1 = i - t by omega, e1] at e2
      have e3 : wk m a (j + t + 1) = far (wk m a (i - t - 1)) := e2
      rw [show i - (t + 1) = i - t - 1 by omega, show j + (t + 1) = j + t + 1 by omega, e3, far_far]
  by_cases p : (i - j) % 2 = 0
  · have := w ((i - j) / 2) (by omega)
    rw [show i - (i - j) / 2 = j + (i - j) / 2 by omega] at this
    exact far_ne this.symm
  · have := w ((i - j) / 2) (by omega)
    rw [show i - (i - j) / 2 = j + (i - j) / 2 + 1 by omega] at this
    exact h (j + (i - j) / 2) (by omega) this
/-- the staves of a chain -/
def stv' (m : Nat → Nat) (a K : Nat) : List Nat := (List.range (K + 1)).map fun i => wk m a i / 2
theorem stv_nd (S : Sz n m) (ha : a < n) (E : Ends m a K) : (stv' m a K).Nodup := by
  unfold stv'
  rw [List.Nodup, List.pairwise_map]
  refine (List.pairwise_lt_range (n := K + 1)).imp_of_mem fun {i j} hi hj hij e => ?_
  rw [List.mem_range] at hi hj
  rcases half_cases e with e | e
  · exact wk_nd S ha E hij (by omega) e
  · exact no_far S ha (K := K) (fun i hi z => E.go i hi (.inr z)) hij (by omega) (by rw [e, far_far])
theorem stv_mem : x ∈ stv' m a K ↔ ∃ i, i ≤ K ∧ wk m a i / 2 = x := by
  unfold stv'
  rw [List.mem_map]
  constructor
  · rintro ⟨i, hi, e⟩; exact ⟨i, by rw [List.mem_range] at hi; omega, e⟩
  · rintro ⟨i, hi, e⟩; exact ⟨i, List.mem_range.mpr (by omega), e⟩
/-- what is clasped to a stave in it is in it -/
def Clo (n : Nat) (m : Nat → Nat) (ss : List Nat) : Prop := ∀ x, x < n → x / 2 ∈ ss → m x / 2 ∈ ss
theorem clo_app {s t : List Nat} (h : Clo n m s) (g : Clo n m t) : Clo n m (s ++ t) := fun x hx hm => by
  rcases List.mem_append.mp hm with q | q
  · exact List.mem_append_left _ (h x hx q)
  · exact List.mem_append_right _ (g x hx q)
/-- a chain's staves are closed, whether it is a row's from a loose end or a ring's -/
theorem chain_clo (S : Sz n m) (ha : a < n) (E : Ends m a K) (h : (m a = a) ∨ nxt m (wk m a K) = a) : Clo n m (stv' m a K) := fun x hx hm => by
  obtain ⟨i, hi, e⟩ := stv_mem.mp hm
  rcases half_cases e.symm with e | e
  · subst e
    cases i with
    | zero =>
      show m a / 2 ∈ _
      rcases h with h | h
      · rw [h]; exact stv_mem.mpr ⟨0, Nat.zero_le _, rfl⟩
      · have := (S.inv _ (far_lt S.even (wk_lt S ha K))).2
        rw [show m (far (wk m a K)) = a from h] at this
        rw [this, far_half]
        exact stv_mem.mpr ⟨K, Nat.le_refl _, rfl⟩
    | succ i =>
      rw [wk_step S ha, far_half]
      exact stv_mem.mpr ⟨i, by omega, rfl⟩
  · subst e
    by_cases c : i < K
    · exact stv_mem.mpr ⟨i + 1, by omega, rfl⟩
    · have : i = K := by omega
      subst this
      rcases E.stop with s | s
      · rw [show m (far (wk m a i)) = a from s]; exact stv_mem.mpr ⟨0, Nat.zero_le _, rfl⟩
      · rw [show m (far (wk m a i)) = far (wk m a i) from s, far_half]; exact stv_mem.mpr ⟨i, Nat.le_refl _, rfl⟩
/-- a chain that starts outside stays outside -/
theorem chain_out (S : Sz n m) (ha : a < n) {ss : List Nat} (C : Clo n m ss) (h : a / 2 ∉ ss) : ∀ i, wk m a i / 2 ∉ ss
  | 0 => h
  | i + 1 => fun hm => by
    have := C _ (wk_lt S ha (i + 1)) hm
    rw [wk_step S ha, far_half] at this
    exact chain_out S ha C h i this
/-- all loose ends stand in known staves -/
def Lo (n : Nat) (m : Nat → Nat) (ss : List Nat) : Prop := ∀ z, z < n → m z = z → z / 2 ∈ ss
end
end Dn
set_option Elab.async false
set_option linter.all false
set_option maxRecDepth 100000
set_option maxHeartbeats 4000000
namespace Dn
open PySem L2
section
variable {N : Nat} {es : Nat → Nat} {r r' : Nat → Nat}
structure Tour (N : Nat) (es : Nat → Nat) : Prop where
  inj : ∀ i j, i ≤ N → j ≤ N → es i / 2 = es j / 2 → i = j
  low : ∀ i, i ≤ N → es i / 2 ≤ N
def prv (N i : Nat) : Nat := if i = 0 then N else i - 1
/-- the clasp of place i -/
def aE (N : Nat) (es : Nat → Nat) (i : Nat) : Nat := far (es (prv N i))
structure Is (N : Nat) (es r : Nat → Nat) : Prop where
  fwd : ∀ i, i ≤ N → r (aE N es i) = es i
  bwd : ∀ i, i ≤ N → r (es i) = aE N es i
theorem cover (T : Tour N es) {j : Nat} (hj : j < 2 * (N + 1)) : ∃ i, i ≤ N ∧ (j = es i ∨ j = aE N es i) := by
  have nd : ((List.range (N + 1)).map fun i => es i / 2).Nodup := by
    rw [List.Nodup, List.pairwise_map]
    refine (List.pairwise_lt_range (n := N + 1)).imp_of_mem fun {x y} hx hy hxy e => ?_
    rw [List.mem_range] at hx hy
    have := T.inj x y (by omega) (by omega) e
    omega
  have mem : j / 2 ∈ (List.range (N + 1)).map fun i => es i / 2 := by
    apply Classical.byContradiction
    intro h
    have := nd_len2 (j / 2 :: (List.range (N + 1)).map fun i => es i / 2) (List.range (N + 1)) (List.nodup_cons.mpr ⟨h, nd⟩) fun x hx => by
      rw [List.mem_range]
      rcases List.mem_cons.mp hx with rfl | hx
      · omega
      · obtain ⟨i, hi, rfl⟩ := List.mem_map.mp hx
        rw [List.mem_range] at hi
        have := T.low i (by omega)
        omega
    rw [List.length_cons, List.length_map, List.length_range] at this
    omega
  obtain ⟨i, hi, e⟩ := List.mem_map.mp mem
  rw [List.mem_range] at hi
  rcases half_cases e.symm with e | e
  · exact ⟨i, by omega, .inl e⟩
  · by_cases c : i = N
    · refine ⟨0, Nat.zero_le _, .inr ?_⟩
      show j = far (es (prv N 0))
      rw [show prv N 0 = N from rfl, ← c]
      exact e
    · refine ⟨i + 1, by omega, .inr ?_⟩
      show j = far (es (prv N (i + 1)))
      rw [show prv N (i + 1) = i from rfl]
      exact e
/-- clasps that meet no end twice -/
def Dst (n : Nat) (cl : List (Nat × Nat)) : Prop := cl.Pairwise (fun p q => p.1 ≠ q.1 ∧ p.1 ≠ q.2 ∧ p.2 ≠ q.1 ∧ p.2 ≠ q.2) ∧ ∀ p ∈ cl, p.1 ≠ p.2 ∧ p.1 < n ∧ p.2 < n
def clasF (c : Nat → Nat) (p : Nat × Nat) : Nat → Nat := fun j => if j = p.2 then p.1 else if j = p.1 then p.2 else c j
theorem put_all {n : Nat} : ∀ (cl : List (Nat × Nat)) (c : Nat → Nat), Dst n cl → (∀ p ∈ cl, (cl.foldl clasF c) p.1 = p.2 ∧ (cl.foldl clasF c) p.2 = p.1) ∧ ∀ j, (∀ p ∈ cl, j ≠ p.1 ∧ j ≠ p.2) → (cl.foldl clasF c) j = c j
  | [], c, _ => ⟨fun p hp => absurd hp (by simp), fun j _ => rfl⟩
  | q :: cl, c, D => by
    have D1 := D.1
    rw [List.pairwise_cons] at D1
    obtain ⟨i1, i2⟩ := put_all cl (clasF c q) ⟨D1.2, fun p hp => D.2 p (List.mem_cons_of_mem _ hp)⟩
    have hq := (D.2 q List.mem_cons_self).1
    rw [List.foldl_cons]
    refine ⟨fun p hp => ?_, fun j hj => ?_⟩
    · rcases List.mem_cons.mp hp with rfl | hp
      · have n1 : ∀ r ∈ cl, p.1 ≠ r.1 ∧ p.1 ≠ r.2 := fun r hr => ⟨(D1.1 r hr).1, (D1.1 r hr).2.1⟩
        have n2 : ∀ r ∈ cl, p.2 ≠ r.1 ∧ p.2 ≠ r.2 := fun r hr => ⟨(D1.1 r hr).2.2.1, (D1.1 r hr).2.2.2⟩
        rw [i2 _ n1, i2 _ n2]
        unfold clasF
        rw [if_neg hq, if_pos rfl, if_pos rfl]
        exact ⟨rfl, rfl⟩
      · exact i1 p hp
    · rw [i2 j fun p hp => hj p (List.mem_cons_of_mem _ hp)]
      have := hj q List.mem_cons_self
      unfold clasF
      rw [if_neg this.2, if_neg this.1]
end
end Dn
set_option Elab.async false
set_option maxRecDepth 100000
set_option maxHeartbeats 4000000
namespace Dn
open PySem L2
def absI (i : Int) : Int := if i < 0 then -i else i
def absL (ns : List Int) : List Int := ns.map absI
def idx1 (n : Nat) : List Int := (List.range n).map fun i : Nat => (i : Int) + 1
/-- each amount from 1 to their count stands in it once -/
def Row (ns : List Int) : Prop := (absL ns).Perm (idx1 ns.length)
instance (ns : List Int) : Decidable (Row ns) := by unfold Row; exact inferInstance
/-- put in at a place -/
def insAt (ns : List Int) (s : Nat) (x : Int) : List Int := ns.take s ++ [x] ++ ns.drop s
theorem Row.put {ns : List Int} (h : Row ns) (s : Nat) {x : Int} (hx : absI x = (ns.length : Int) + 1) : Row (insAt ns s x) := by
  unfold Row insAt absL at *
  have e : (ns.take s ++ [x] ++ ns.drop s).length = ns.length + 1 := by
    simp only [List.length_append, List.length_take, List.length_drop, List.length_singleton]
    omega
  rw [e]
  have p : (ns.take s ++ [x] ++ ns.drop s).Perm (x :: ns) := by
    rw [List.append_assoc, List.singleton_append]
    exact List.perm_middle.trans (by rw [List.take_append_drop])
  have q : idx1 (ns.length + 1) = idx1 ns.length ++ [(ns.length : Int) + 1] := by
    unfold idx1
    rw [List.range_succ, List.map_append]
    rfl
  rw [q]
  refine (p.map absI).trans ?_
  rw [List.map_cons, hx]
  exact ((h.cons _).trans (List.perm_append_comm (l₁ := [(ns.length : Int) + 1])))
end Dn
set_option Elab.async false
set_option linter.all false
set_option maxRecDepth 100000
set_option maxHeartbeats 4000000
namespace Dn
open PySem L2
/-- the clasps within a chain -/
def cps : List Nat → List (Nat × Nat)
  | x :: y :: r => (far x, y) :: cps (y :: r)
  | _ => []
theorem cps_cons {x : Nat} {r : List Nat} {p : Nat × Nat} : p ∈ cps (x :: r) ↔ p ∈ cps r ∨ ∃ a, r.head? = some a ∧ p = (far x, a) := by
  cases r with
  | nil => simp [cps]
  | cons y r =>
    show p ∈ (far x, y) :: cps (y :: r) ↔ _
    rw [List.mem_cons]
    constructor
    · rintro (h | h)
      · exact .inr ⟨y, rfl, h⟩
      · exact .inl h
    · rintro (h | ⟨a, e, h⟩)
      · exact .inr h
      · cases e; exact .inl h
theorem cps_app {p : Nat × Nat} : ∀ {xs ys : List Nat}, p ∈ cps (xs ++ ys) ↔ p ∈ cps xs ∨ p ∈ cps ys ∨ ∃ b a, xs.getLast? = some b ∧ ys.head? = some a ∧ p = (far b, a)
  | [], ys => by simp [cps]
  | x :: xs, ys => by
    rw [List.cons_append, cps_cons, cps_app, cps_cons]
    cases xs with
    | nil =>
      simp [cps]
    | cons z zs =>
      have e1 : ((z :: zs) ++ ys).head? = some z := rfl
      have e2 : (z :: zs).head? = some z := rfl
      have e3 : (x :: z :: zs).getLast? = (z :: zs).getLast? := List.getLast?_cons_cons
      rw [e1, e2, e3]
      constructor
      · rintro ((h | h | h) | h)
        · exact .inl (.inl h)
        · exact .inr (.inl h)
        · exact .inr (.inr h)
        · exact .inl (.inr h)
      · rintro ((h | h) | h | h)
        · exact .inl (.inl h)
        · exact .inr h
        · exact .inl (.inr (.inl h))
        · exact .inl (.inr (.inr h))
/-- a chain told from its other side -/
def backL (xs : List Nat) : List Nat := xs.reverse.map far
theorem backL_cons (x : Nat) (xs : List Nat) : backL (x :: xs) = backL xs ++ [far x] := by unfold backL; simp
theorem backL_head (xs : List Nat) : (backL xs).head? = xs.getLast?.map far := by unfold backL; rw [List.head?_map, List.head?_reverse]
theorem backL_last (xs : List Nat) : (backL xs).getLast? = xs.head?.map far := by unfold backL; rw [List.getLast?_map, List.getLast?_reverse]
theorem cps_back {p : Nat × Nat} : ∀ {xs : List Nat}, p ∈ cps (backL xs) ↔ (p.2, p.1) ∈ cps xs
  | [] => by simp [backL, cps]
  | x :: xs => by
    rw [backL_cons, cps_app, cps_cons (x := x) (r := xs) (p := (p.2, p.1)), cps_back, backL_last]
    obtain ⟨p1, p2⟩ := p
    constructor
    · rintro (h | h | ⟨b, a, e1, e2, e3⟩)
      · exact .inl h
      · simp [cps] at h
      · right
        obtain ⟨c, ec, rfl⟩ := Option.map_eq_some_iff.mp e1
        cases e2
        rw [far_far] at e3
        cases e3
        exact ⟨p1, ec, rfl⟩
    · rintro (h | ⟨a, e1, e2⟩)
      · exact .inl h
      · have h1 : p2 = far x := congrArg Prod.fst e2
        have h2 : p1 = a := congrArg Prod.snd e2
        subst h1; subst h2
        exact .inr (.inr ⟨far p1, far x, by rw [e1]; rfl, rfl, by rw [far_far]⟩)
theorem cps_snd : ∀ (xs : List Nat), (cps xs).map Prod.snd = xs.tail
  | [] => rfl
  | [x] => rfl
  | x :: y :: r => by
    show y :: (cps (y :: r)).map Prod.snd = y :: r
    rw [cps_snd (y :: r)]; rfl
theorem cps_in {p : Nat × Nat} : ∀ {xs : List Nat}, p ∈ cps xs → p.2 ∈ xs ∧ far p.1 ∈ xs
  | [], h => by simp [cps] at h
  | x :: xs, h => by
    rcases cps_cons.mp h with h | ⟨a, e, rfl⟩
    · obtain ⟨h1, h2⟩ := cps_in h
      exact ⟨List.mem_cons_of_mem _ h1, List.mem_cons_of_mem _ h2⟩
    · exact ⟨List.mem_cons_of_mem _ (List.mem_of_mem_head? (by rw [e]; rfl)), by rw [far_far]; exact List.mem_cons_self⟩
theorem cps_ent {x : Nat} : ∀ {xs : List Nat}, x ∈ xs → xs.head? = some x ∨ ∃ p ∈ cps xs, p.2 = x
  | [], h => by cases h
  | y :: xs, h => by
    rcases List.mem_cons.mp h with rfl | h
    · exact .inl rfl
    · right
      rcases cps_ent h with e | ⟨p, hp, e⟩
      · exact ⟨_, cps_cons.mpr (.inr ⟨x, e, rfl⟩), rfl⟩
      · exact ⟨p, cps_cons.mpr (.inl hp), e⟩
theorem cps_out {x : Nat} : ∀ {xs : List Nat}, x ∈ xs → xs.getLast? = some x ∨ ∃ p ∈ cps xs, p.1 = far x
  | [], h => by cases h
  | y :: xs, h => by
    cases xs with
    | nil =>
      left
      rw [List.mem_singleton] at h
      subst h; rfl
    | cons z zs =>
      rcases List.mem_cons.mp h with rfl | h
      · exact .inr ⟨_, cps_cons.mpr (.inr ⟨z, rfl, rfl⟩), rfl⟩
      · rcases cps_out h with e | ⟨p, hp, e⟩
        · exact .inl (by rw [List.getLast?_cons_cons]; exact e)
        · exact .inr ⟨p, cps_cons.mpr (.inl hp), e⟩
section
variable {m : Nat → Nat} {n s : Nat} {xs ys : List Nat}
structure RowOk (m : Nat → Nat) (xs : List Nat) : Prop where
  ne : xs ≠ []
  cl : ∀ p ∈ cps xs, m p.1 = p.2
  hd : ∀ a, xs.head? = some a → m a = a
  ls : ∀ b, xs.getLast? = some b → m (far b) = far b
structure RingOk (m : Nat → Nat) (xs : List Nat) : Prop where
  ne : xs ≠ []
  cl : ∀ p ∈ cps xs, m p.1 = p.2
  rd : ∀ a b, xs.head? = some a → xs.getLast? = some b → m (far b) = a
def stsL (xs : List Nat) : List Nat := xs.map (· / 2)
theorem back_sts : (stsL (backL xs)).Perm (stsL xs) := by
  unfold stsL backL
  rw [List.map_map, show ((· / 2) ∘ far) = (· / 2) from funext fun x => far_half]
  exact (List.reverse_perm xs).map _
theorem back_ne (h : xs ≠ []) : backL xs ≠ [] := fun e => h (by
  have := congrArg List.length e
  unfold backL at this
  rw [List.length_map, List.length_reverse] at this
  exact List.length_eq_zero_iff.mp this)
theorem cps_lt (I : Inv n m) (lt : ∀ x ∈ xs, x < n) (ev : n % 2 = 0) {p : Nat × Nat} (hp : p ∈ cps xs) : p.1 < n ∧ p.2 < n := by
  obtain ⟨h1, h2⟩ := cps_in hp
  have := far_lt ev (lt _ h2)
  rw [far_far] at this
  exact ⟨this, lt _ h1⟩
theorem back_cl (I : Inv n m) (lt : ∀ x ∈ xs, x < n) (ev : n % 2 = 0) (h : ∀ p ∈ cps xs, m p.1 = p.2) : ∀ p ∈ cps (backL xs), m p.1 = p.2 := fun p hp => by
  have q := cps_back.mp hp
  have e := h _ q
  have l := (cps_lt I lt ev q).1
  have := (I _ l).2
  rw [e] at this
  exact this
theorem RowOk.back (R : RowOk m xs) (I : Inv n m) (lt : ∀ x ∈ xs, x < n) (ev : n % 2 = 0) : RowOk m (backL xs) where
  ne := back_ne R.ne
  cl := back_cl I lt ev R.cl
  hd := fun a h => by
    rw [backL_head] at h
    obtain ⟨b, e, rfl⟩ := Option.map_eq_some_iff.mp h
    exact R.ls b e
  ls := fun b h => by
    rw [backL_last] at h
    obtain ⟨a, e, rfl⟩ := Option.map_eq_some_iff.mp h
    rw [far_far]
    exact R.hd a e
theorem RingOk.back (R : RingOk m xs) (I : Inv n m) (lt : ∀ x ∈ xs, x < n) (ev : n % 2 = 0) : RingOk m (backL xs) where
  ne := back_ne R.ne
  cl := back_cl I lt ev R.cl
  rd := fun a b h g => by
    rw [backL_head] at h
    rw [backL_last] at g
    obtain ⟨c, e1, rfl⟩ := Option.map_eq_some_iff.mp h
    obtain ⟨d, e2, rfl⟩ := Option.map_eq_some_iff.mp g
    rw [far_far]
    have e := R.rd d c e2 e1
    have := (I _ (far_lt ev (lt c (List.mem_of_mem_getLast? (by rw [e1]; rfl))))).2
    rw [e] at this
    exact this
theorem RingOk.turn (R : RingOk m (xs ++ ys)) : RingOk m (ys ++ xs) := by
  cases xs with
  | nil => rw [List.append_nil]; exact R
  | cons x xs =>
    cases ys with
    | nil => rw [List.append_nil] at R; exact R
    | cons y ys =>
      obtain ⟨b, hb⟩ : ∃ b, (x :: xs).getLast? = some b := ⟨_, List.getLast?_eq_some_getLast (by simp)⟩
      obtain ⟨c, hc⟩ : ∃ c, (y :: ys).getLast? = some c := ⟨_, List.getLast?_eq_some_getLast (by simp)⟩
      have h1 : ((x :: xs) ++ (y :: ys)).getLast? = some c := by rw [List.getLast?_append, hc]; rfl
      have h2 : ((y :: ys) ++ (x :: xs)).getLast? = some b := by rw [List.getLast?_append, hb]; rfl
      refine ⟨by simp, fun p hp => ?_, fun a d ha hd => ?_⟩
      · rcases cps_app.mp hp with h | h | ⟨b', a', e1, e2, rfl⟩
        · exact R.cl p (cps_app.mpr (.inr (.inl h)))
        · exact R.cl p (cps_app.mpr (.inl h))
        · rw [hc] at e1; cases e1
          exact R.rd a' c (by cases e2; rfl) h1
      · rw [h2] at hd; cases hd
        cases ha
        exact R.cl (far b, y) (cps_app.mpr (.inr (.inr ⟨b, y, hb, rfl, rfl⟩)))
/-- a ring's last clasp -/
def clo1 (r : List Nat) : Nat × Nat := (far (r.getLastD 0), r.headD 0)
/-- all clasps, as they are told -/
def allC (rows rings : List (List Nat)) : List (Nat × Nat) := (rows ++ rings).flatMap cps ++ rings.map clo1
structure Cover (s : Nat) (m : Nat → Nat) (rows rings : List (List Nat)) : Prop where
  ro : ∀ r ∈ rows, RowOk m r
  ri : ∀ r ∈ rings, RingOk m r
  st : (stsL (rows ++ rings).flatten).Perm (List.range s)
theorem tails_heads : ∀ {cs : List (List Nat)}, (∀ c ∈ cs, c ≠ []) → (cs.flatMap List.tail ++ cs.map (·.headD 0)).Perm cs.flatten
  | [], _ => List.Perm.refl _
  | c :: cs, h => by
    have ih := tails_heads (cs := cs) fun d hd => h d (List.mem_cons_of_mem _ hd)
    cases c with
    | nil => exact (h [] List.mem_cons_self rfl).elim
    | cons x r =>
      rw [List.flatMap_cons, List.map_cons, List.flatten_cons]
      show (r ++ cs.flatMap List.tail ++ x :: cs.map (·.headD 0)).Perm (x :: r ++ cs.flatten)
      refine List.perm_middle.trans ?_
      rw [List.append_assoc, List.cons_append]
      exact (ih.append_left r).cons x
section
variable {rows rings : List (List Nat)} (C : Cover s m rows rings)
include C
theorem Cover.nd : (stsL (rows ++ rings).flatten).Nodup := C.st.nodup_iff.mpr List.nodup_range
theorem Cover.one {x y : Nat} (hx : x ∈ (rows ++ rings).flatten) (hy : y ∈ (rows ++ rings).flatten) (e : x / 2 = y / 2) : x = y := by
  have nd := C.nd
  unfold stsL at nd
  rw [List.Nodup, List.pairwise_map] at nd
  obtain ⟨i, hi, rfl⟩ := List.mem_iff_getElem.mp hx
  obtain ⟨j, hj, rfl⟩ := List.mem_iff_getElem.mp hy
  rw [List.pairwise_iff_getElem] at nd
  rcases Nat.lt_trichotomy i j with h | h | h
  · exact (nd i j hi hj h e).elim
  · subst h; rfl
  · exact (nd j i hj hi h e.symm).elim
theorem Cover.lt {x : Nat} (hx : x ∈ (rows ++ rings).flatten) : x < 2 * s := by
  have : x / 2 ∈ List.range s := C.st.mem_iff.mp (List.mem_map_of_mem hx)
  have := List.mem_range.mp this
  omega
theorem Cover.ne {r : List Nat} (h : r ∈ rows ++ rings) : r ≠ [] := by
  rcases List.mem_append.mp h with h | h
  · exact (C.ro r h).ne
  · exact (C.ri r h).ne
theorem clo1_at {r : List Nat} (h : r ≠ []) : ∃ a b, r.head? = some a ∧ r.getLast? = some b ∧ clo1 r = (far b, a) := by
  cases r with
  | nil => exact (h rfl).elim
  | cons x r =>
    refine ⟨x, (x :: r).getLast (by simp), rfl, List.getLast?_eq_some_getLast (by simp), ?_⟩
    unfold clo1
    rw [List.getLastD_eq_getLast?, List.getLast?_eq_some_getLast (by simp)]
    rfl
theorem Cover.clasp {p : Nat × Nat} (hp : p ∈ allC rows rings) : m p.1 = p.2 ∧ p.2 ∈ (rows ++ rings).flatten ∧ far p.1 ∈ (rows ++ rings).flatten := by
  unfold allC at hp
  rcases List.mem_append.mp hp with hp | hp
  · obtain ⟨r, hr, hp⟩ := List.mem_flatMap.mp hp
    obtain ⟨h1, h2⟩ := cps_in hp
    refine ⟨?_, List.mem_flatten.mpr ⟨r, hr, h1⟩, List.mem_flatten.mpr ⟨r, hr, h2⟩⟩
    rcases List.mem_append.mp hr with h | h
    · exact (C.ro r h).cl p hp
    · exact (C.ri r h).cl p hp
  · obtain ⟨r, hr, rfl⟩ := List.mem_map.mp hp
    obtain ⟨a, b, e1, e2, e3⟩ := clo1_at C (C.ri r hr).ne
    rw [e3]
    refine ⟨(C.ri r hr).rd a b e1 e2, List.mem_flatten.mpr ⟨r, List.mem_append_right _ hr, List.mem_of_mem_head? (by rw [e1]; rfl)⟩, List.mem_flatten.mpr ⟨r, List.mem_append_right _ hr, ?_⟩⟩
    show far (far b) ∈ r
    rw [far_far]
    exact List.mem_of_mem_getLast? (by rw [e2]; rfl)
theorem Cover.dst (I : Inv (2 * s) m) : Dst (2 * s) (allC rows rings) := by
  have key : ∀ p ∈ allC rows rings, ∀ q ∈ allC rows rings, p.1 ≠ q.2 := fun p hp q hq e => by
    obtain ⟨_, _, h1⟩ := C.clasp hp
    obtain ⟨_, h2, _⟩ := C.clasp hq
    rw [← e] at h2
    exact far_ne (C.one h1 h2 far_half)
  have lt : ∀ p ∈ allC rows rings, p.1 < 2 * s ∧ p.2 < 2 * s := fun p hp => by
    obtain ⟨_, h2, h1⟩ := C.clasp hp
    have := far_lt (n := 2 * s) (by omega) (C.lt h1)
    rw [far_far] at this
    exact ⟨this, C.lt h2⟩
  have nd : ((allC rows rings).map Prod.snd).Nodup := by
    have e : (allC rows rings).map Prod.snd = (rows ++ rings).flatMap List.tail ++ rings.map (·.headD 0) := by
      unfold allC
      rw [List.map_append, List.map_map]
      congr 1
      rw [List.map_flatMap]
      congr 1
      exact funext cps_snd
    rw [e]
    have p := tails_heads (cs := rows ++ rings) fun c hc => C.ne hc
    have nf : ((rows ++ rings).flatten).Nodup := by
      have nd := C.nd
      unfold stsL at nd
      rw [List.Nodup, List.pairwise_map] at nd
      exact nd.imp fun h e => h (by rw [e])
    refine List.Nodup.sublist ?_ (p.nodup_iff.mpr nf)
    refine List.Sublist.append_left ?_ _
    rw [List.map_append]
    exact List.sublist_append_right _ _
  rw [List.Nodup, List.pairwise_map] at nd
  refine ⟨nd.imp_of_mem fun {p q} hp hq h => ⟨fun e => h ?_, key p hp q hq, fun e => key q hq p hp e.symm, h⟩, fun p hp => ⟨key p hp p hp, lt p hp⟩⟩
  rw [← (C.clasp hp).1, ← (C.clasp hq).1, e]
/-- the clasps make the work -/
theorem Cover.work (I : Inv (2 * s) m) {j : Nat} (hj : j < 2 * s) : (allC rows rings).foldl clasF id j = m j := by
  obtain ⟨f1, f2⟩ := put_all (allC rows rings) id (C.dst I)
  have hst : j / 2 ∈ stsL (rows ++ rings).flatten := C.st.mem_iff.mpr (List.mem_range.mpr (by omega))
  obtain ⟨x, hx, e⟩ := List.mem_map.mp hst
  obtain ⟨r, hr, xr⟩ := List.mem_flatten.mp hx
  have inC : ∀ p ∈ cps r, p ∈ allC rows rings := fun p hp => List.mem_append_left _ (List.mem_flatMap.mpr ⟨r, hr, hp⟩)
  have inR : r ∈ rings → clo1 r ∈ allC rows rings := fun h => List.mem_append_right _ (List.mem_map_of_mem h)
  have p1 : ∀ p ∈ allC rows rings, (allC rows rings).foldl clasF id p.1 = m p.1 ∧ (allC rows rings).foldl clasF id p.2 = m p.2 := fun p hp => by
    obtain ⟨g1, g2⟩ := f1 p hp
    obtain ⟨c1, c2, c3⟩ := C.clasp hp
    refine ⟨by rw [g1, c1], ?_⟩
    rw [g2, ← c1]
    have := far_lt (n := 2 * s) (by omega) (C.lt c3)
    rw [far_far] at this
    exact ((I _ this).2).symm
  rcases half_cases e.symm with e | e
  · -- it is come into
    subst e
    by_cases q : ∃ p ∈ allC rows rings, p.2 = j
    · obtain ⟨p, hp, rfl⟩ := q
      exact (p1 p hp).2
    · have out : ∀ p ∈ allC rows rings, j ≠ p.1 ∧ j ≠ p.2 := fun p hp => ⟨fun e => by
        obtain ⟨_, _, h1⟩ := C.clasp hp
        rw [← e] at h1
        exact far_ne (C.one h1 hx far_half), fun e => q ⟨p, hp, e.symm⟩⟩
      rw [f2 j out]
      rcases cps_ent xr with h | ⟨p, hp, e⟩
      · rcases List.mem_append.mp hr with hr' | hr'
        · exact ((C.ro r hr').hd j h).symm
        · obtain ⟨a, b, e1, e2, e3⟩ := clo1_at C (C.ri r hr').ne
          rw [h] at e1; cases e1
          exact (q ⟨_, inR hr', by rw [e3]⟩).elim
      · exact (q ⟨p, inC p hp, e⟩).elim
  · subst e
    by_cases q : ∃ p ∈ allC rows rings, p.1 = far x
    · obtain ⟨p, hp, e⟩ := q
      rw [← e]
      exact (p1 p hp).1
    · have out : ∀ p ∈ allC rows rings, far x ≠ p.1 ∧ far x ≠ p.2 := fun p hp => ⟨fun e => q ⟨p, hp, e.symm⟩, fun e => by
        obtain ⟨_, h1, _⟩ := C.clasp hp
        rw [← e] at h1
        exact far_ne (C.one h1 hx far_half)⟩
      rw [f2 _ out]
      rcases cps_out xr with h | ⟨p, hp, e⟩
      · rcases List.mem_append.mp hr with hr' | hr'
        · exact ((C.ro r hr').ls x h).symm
        · obtain ⟨a, b, e1, e2, e3⟩ := clo1_at C (C.ri r hr').ne
          rw [h] at e2; cases e2
          exact (q ⟨_, inR hr', by rw [e3]⟩).elim
      · exact (q ⟨p, inC p hp, e⟩).elim
end
end
end Dn
set_option Elab.async false
set_option linter.all false
set_option maxRecDepth 100000
set_option maxHeartbeats 4000000
namespace Dn
open PySem L2 TL
def sC (l : List Nat) : Str := ⟨l.toArray⟩
theorem sC_tl (l : List Nat) : TL.tl (sC l) = l := rfl
theorem sC_cps (l : List Nat) : (sC l).cps.toList = l := rfl
theorem sC_of (z : Str) : sC (TL.tl z) = z := TL.ext_tl rfl
theorem sC_len (l : List Nat) : (sC l).length = l.length := by rw [len_tl]; rfl
theorem sC_inj {a b : List Nat} (h : sC a = sC b) : a = b := by have := congrArg TL.tl h; exact this
theorem sC_app (a b : List Nat) : sC a ++ sC b = sC (a ++ b) := TL.ext_tl (by rw [tl_append]; rfl)
theorem sz : sizeLine = 16777216 := rfl
theorem addD_c {a b : List Nat} (h : a.length + b.length ≤ 16777216) : addD (.str (sC a)) (.str (sC b)) = some (.str (sC (a ++ b))) := by
  have : (sC a).length + (sC b).length ≤ sizeLine := by rw [sC_len, sC_len, sz]; exact h
  rw [← sC_app]
  simp [addD, this]
theorem eqD_c (a b : List Nat) : eqD (.str (sC a)) (.str (sC b)) = some (.bool (decide (a = b))) := by
  rw [eqD_str]
  congr 2
  exact decide_eq_decide.mpr ⟨sC_inj, fun h => by rw [h]⟩
theorem neD_c (a b : List Nat) : neD (.str (sC a)) (.str (sC b)) = some (.bool (!decide (a = b))) := neD_of (eqD_c a b)
theorem lenD_c {l : List Nat} (h : l.length ≤ 16777216) : lenD [.str (sC l)] = some (.int (l.length : Int)) := by
  have : (sC l).length ≤ sizeLine := by rw [sC_len, sz]; exact h
  have e := sC_len l
  have t2 : l.length ≤ sizeLine := by rw [sz]; exact h
  simp [lenD, e, t2]
theorem ixD_c {l : List Nat} {c : Nat} {r : List Nat} (e : l = c :: r) (h : l.length ≤ 16777216) : ixD (.str (sC l)) (.int 0) = some (.str (sC [c])) := by
  have q : ixD (.str (sC l)) (.int 0) = if (sC l).length ≤ sizeLine then (atI (sC l).cps.toList 0).map fun c => .str ⟨#[c]⟩ else none := rfl
  rw [q, if_pos (by rw [sC_len, sz]; exact h), sC_cps, e]
  simp [atI, ixN, sC]
theorem slD_c {l : List Nat} {lo hi : Option Int} (h : l.length ≤ 16777216) : slD (.str (sC l)) lo hi = some (.str (sC (cutL l lo hi))) := by
  have q : slD (.str (sC l)) lo hi = if (sC l).length ≤ sizeLine then some (.str (cutS (sC l) lo hi)) else none := rfl
  rw [q, if_pos (by rw [sC_len, sz]; exact h)]
  congr 2
theorem cutL_one {l : List Nat} : cutL l none (some 1) = l.take 1 := cutL_to l 1
theorem cutL_tail {l : List Nat} : cutL l (some 1) none = l.drop 1 := cutL_from l 1
theorem cutL_init (l : List Nat) (c : Nat) : cutL (l ++ [c]) none (some (-1)) = l := by
  unfold cutL
  have e : HT.sIx (l ++ [c]).length 0 none = 0 := rfl
  have e2 : HT.sIx (l ++ [c]).length (l ++ [c]).length (some (-1)) = l.length := by
    unfold HT.sIx
    simp
    omega
  rw [e, e2, List.drop_zero, Nat.sub_zero, List.take_left']
  rfl
theorem cutL_lst (l : List Nat) (c : Nat) : cutL (l ++ [c]) (some (-1)) none = [c] := by
  unfold cutL
  have e : HT.sIx (l ++ [c]).length (l ++ [c]).length none = (l ++ [c]).length := rfl
  have e2 : HT.sIx (l ++ [c]).length 0 (some (-1)) = l.length := by
    unfold HT.sIx
    simp
    omega
  rw [e, e2, List.drop_left', List.length_append]
  · simp
  · rfl
theorem tl_joinC (y : Nat) (ls : List (List Nat)) : Txt.join (sC [y]) (ls.map sC) = sC (joinL [y] ls) := by
  refine TL.ext_tl ?_
  rw [join_eq, tl_join, List.map_map]
  show joinL [y] (ls.map (TL.tl ∘ sC)) = joinL [y] ls
  rw [show (TL.tl ∘ sC) = id from rfl, List.map_id]
theorem sumC (k : Nat) : ∀ ys : List (List Nat), (∀ x ∈ ys, x.length ≤ k) → ((ys.map sC).map (·.length)).sum ≤ ys.length * k
  | [], _ => Nat.zero_le _
  | x :: r, h => by
    have ih := sumC k r (fun w hw => h w (List.mem_cons_of_mem _ hw))
    have hx := h x (List.mem_cons_self ..)
    rw [List.map_cons, List.map_cons, List.sum_cons, List.length_cons, Nat.add_mul, sC_len]
    omega
theorem joinD_c {y : Nat} {ys : List (List Nat)} {k : Nat} (h : ∀ x ∈ ys, x.length ≤ k) (hk : ys.length * (k + 1) ≤ 16777216) : joinD (.str (sC [y])) (.list (ys.map fun l => .str (sC l))) = some (.str (sC (joinL [y] ys))) := by
  have s := sumC k ys h
  have e0 : (ys.map fun l => PyData.str (sC l)) = (ys.map sC).map .str := by rw [List.map_map]; rfl
  rw [e0]
  have e : joinD (.str (sC [y])) (.list ((ys.map sC).map .str)) = (strs? ((ys.map sC).map .str)).bind fun zs => if (zs.map (·.length)).sum + zs.length * (sC [y]).length ≤ 16777216 then some (.str (Txt.join (sC [y]) zs)) else none := rfl
  rw [e, strs?_map, ← tl_joinC]
  refine if_pos ?_
  rw [List.length_map, sC_len]
  rw [Nat.mul_add] at hk
  simp only [List.length_singleton]
  omega
theorem splitD_c {y : Nat} (hy : y < 256) {ls : List (List Nat)} (ne : ls ≠ []) (h : ∀ l ∈ ls, y ∉ l) (hl : (joinL [y] ls).length + 2 ≤ 16777216) : splitD (.str (sC (joinL [y] ls))) (.str (sC [y])) = some (ls.map fun l => .str (sC l)) := by
  have e : splitD (.str (Txt.join (sC [y]) (ls.map sC))) (.str (sC [y])) = if ((sC [y]).length == 0) = false ∧ (Txt.join (sC [y]) (ls.map sC)).length + 2 ≤ 16777216 then some ((Txt.split (Txt.join (sC [y]) (ls.map sC)) (sC [y])).map .str) else none := rfl
  rw [← tl_joinC, e, if_pos ⟨by rw [sC_len]; rfl, by rw [tl_joinC, sC_len]; exact hl⟩, split_join (s := y) (S := []) rfl (by simp [sC, hy]) (fun z => ne (List.map_eq_nil_iff.mp z)) (fun p hp => by
    obtain ⟨l, hm, rfl⟩ := List.mem_map.mp hp
    rw [sC_tl]; exact h l hm), List.map_map]
  rfl
theorem joinL_len (k : Nat) : ∀ ls : List (List Nat), (∀ l ∈ ls, l.length ≤ k) → (joinL [32] ls).length ≤ ls.length * (k + 1)
  | [], _ => Nat.zero_le _
  | [p], h => by
    have := h p (List.mem_singleton.mpr rfl)
    show p.length ≤ _
    simp
    omega
  | p :: q :: r, h => by
    have ih := joinL_len k (q :: r) (fun l hl => h l (List.mem_cons_of_mem _ hl))
    have hp := h p (List.mem_cons_self ..)
    show (p ++ ([32] ++ joinL [32] (q :: r))).length ≤ _
    rw [List.length_append, List.length_append, List.length_cons (a := p), Nat.add_mul]
    simp only [List.length_singleton]
    omega
/-- figures -/
theorem num_c (n : Nat) : Str.ofString (toString ((n : Nat) : Int)) = sC (numL n) := TL.ext_tl (tl_num n)
theorem strD_c {n : Nat} (h : n < 1000000) : strD [.int (n : Int)] = some (.str (sC (numL n))) := by rw [← num_c]; exact strD_int (in62 (i := (n : Int)) (by omega))
theorem num_shape {n : Nat} (h : n < 80) : ∃ c r, numL n = c :: r ∧ (48 ≤ c ∧ c ≤ 57) ∧ (r = [] ∨ (c ≠ 48 ∧ ∃ d, r = [d] ∧ 48 ≤ d ∧ d ≤ 57)) := by
  by_cases g : n < 10
  · exact ⟨_, _, numL_lt g, ⟨by omega, by omega⟩, .inl rfl⟩
  · rw [numL_step (by omega), numL_lt (by omega)]
    exact ⟨48 + n / 10, [48 + n % 10], rfl, ⟨by omega, by omega⟩, .inr ⟨by omega, _, rfl, by omega, by omega⟩⟩
end Dn
set_option Elab.async false
set_option linter.all false
set_option maxRecDepth 100000
set_option maxHeartbeats 4000000
namespace Dn
open PySem L2 TL
/-- an end's text -/
def enL (x : Nat) : List Nat := if x % 2 = 1 then 45 :: numL (x / 2) else numL (x / 2)
theorem enL_len {x : Nat} (h : x < 80) : (enL x).length ≤ 3 ∧ 1 ≤ (enL x).length := by
  have l := numL_len (n := x / 2) (k := 2) (by decide) (by omega)
  obtain ⟨c, r, e, _, _⟩ := num_shape (n := x / 2) (by omega)
  have p : 1 ≤ (numL (x / 2)).length := by rw [e, List.length_cons]; omega
  unfold enL
  split
  · rw [List.length_cons]; omega
  · omega
/-- a chain's text -/
def cL (o c : Nat) (xs : List Nat) : List Nat := o :: (joinL [32] (xs.map enL) ++ [c])
/-- a text of a work's chains: rows true -/
abbrev Kc := Bool × List Nat
def opC (b : Bool) : Nat := if b = true then 91 else 40
def clC (b : Bool) : Nat := if b = true then 93 else 41
def kcL (k : Kc) : List Nat := cL (opC k.1) (clC k.1) k.2
theorem kcL_len {k : Kc} (h : ∀ x ∈ k.2, x < 80) : (kcL k).length ≤ k.2.length * 4 + 2 := by
  have := joinL_len 3 (k.2.map enL) (fun l hl => by
    obtain ⟨x, hx, rfl⟩ := List.mem_map.mp hl
    exact (enL_len (h x hx)).1)
  unfold kcL cL
  rw [List.length_cons, List.length_append, List.length_singleton]
  rw [List.length_map] at this
  omega
end Dn
set_option Elab.async false
set_option linter.all false
set_option maxRecDepth 100000
set_option maxHeartbeats 4000000
namespace Lw
open PySem PySem.Spec PyProof.Rows L2 Dn
def topS (i : Nat) : Stmt := PySem.Challenge.pw_claspwork_k10_whole_texts_of_works.main.body.getD i (.Pass ⟨0, 0, 0, 0⟩)
def tab_BadWork : List (Str × Bool) := [("BadWork", true), ("NoText", false)]
def tab_ClaspError : List (Str × Bool) := [("BadWork", true), ("NoText", true)]
def tab_NoText : List (Str × Bool) := [("BadWork", false), ("NoText", true)]
def tab_ValueError : List (Str × Bool) := [("BadWork", true), ("NoText", true)]
structure Txt (K : PySem.W.Frag) (mg : Str → Option Value) : Prop where
  b_ValueError : mg "ValueError" = none
  b_bool : mg "bool" = none
  b_enumerate : mg "enumerate" = none
  b_int : mg "int" = none
  b_isinstance : mg "isinstance" = none
  b_len : mg "len" = none
  b_list : mg "list" = none
  b_range : mg "range" = none
  b_reversed : mg "reversed" = none
  b_sorted : mg "sorted" = none
  b_str : mg "str" = none
  b_tuple : mg "tuple" = none
  e_BadWork : ∃ C, ExcAt K mg "BadWork" C [.type "ValueError", .type "Exception", .type "BaseException", .type "object"]
  e_NoText : ∃ C, ExcAt K mg "NoText" C [.type "ValueError", .type "Exception", .type "BaseException", .type "object"]
  c_FIGURES : ∃ t, mg "FIGURES" = some (.str "0123456789" t)
  c_MOST_STAVES : ∃ t, mg "MOST_STAVES" = some (.int 40 t)
  k_BadWork : ClsAt K mg "BadWork"
  k_ClaspError : ClsAt K mg "ClaspError"
  k_NoText : ClsAt K mg "NoText"
  t_BadWork : Tab K mg "BadWork" tab_BadWork
  t_ClaspError : Tab K mg "ClaspError" tab_ClaspError
  t_NoText : Tab K mg "NoText" tab_NoText
  t_ValueError : TabT K mg "ValueError" tab_ValueError
  l_BadWork : Cls K mg tab_BadWork
  l_ClaspError : Cls K mg tab_ClaspError
abbrev s__law_mates : Stmt := topS 18
abbrev N__law_mates : List Str := ["flow", "staves", "mates", "cell", "one", "other", "end"]
abbrev P__law_mates : List Str := ["flow", "staves"]
theorem sc__law_mates : FnScope N__law_mates P__law_mates (defScope s__law_mates) := ⟨rfl, rfl, rfl, by decide +kernel, rfl, by decide +kernel, by decide +kernel⟩
noncomputable def b1__law_mates : MS :=
 (sSeq (sSet 2 (e2 ixD (eVar 2) (eVarF 6)) (e2 ixD (eVar 2) (eVarF 6)))
 (sSet 2 (eVarF 6) (eVarF 6)))
noncomputable def b2__law_mates : MS :=
 (sIf (tE (e2 gtD (eVarF 1) (eC (.int 0)))) (sSeq (sAsg (gN 4) (e2 modD (eVarF 3) (e2 mulD (eC (.int 2)) (eVarF 1))))
 (sSeq (sAsg (gN 5) (e2 modD (e2 divD (e2 modD (e2 mulD (e2 modD (eVarF 3) (eC (.int 1000000007))) (eC (.int 48271))) (eC (.int 2147483647))) (eC (.int 89))) (e2 mulD (eC (.int 2)) (eVarF 1))))
 (sSeq (sFor (iE (eL (aCons (eVarF 4) (aCons (eVarF 5) aNil)))) (gN 6) b1__law_mates)
 (sSeq (sSet 2 (eVarF 4) (eVarF 5))
 (sSet 2 (eVarF 5) (eVarF 4)))))) sNext)
noncomputable def g__law_mates : MS :=
 (sSeq (sAsgL 2 (eRg1 (e2 mulD (eC (.int 2)) (eVarF 1))))
 (sSeq (sFor (iE (eVarF 0)) (gN 3) b2__law_mates)
 (sFrz 2 (sRet (eVarF 2)))))
noncomputable def f__law_mates : List D → M D := mFn 2 7 g__law_mates
section
variable {P : Program} {w : World} {K : PySem.W.Frag} {mg : Str → Option Value} {base : Heap}
theorem ok__law_mates (T : Txt K mg) (dd : DefAt K mg "_law_mates" s__law_mates)  : FnAt P w K mg base "_law_mates" P__law_mates 1 f__law_mates := by
  refine fn_at (N := N__law_mates) (g := g__law_mates) dd sc__law_mates (fun _ _ _ _ _ _ us hl => match us, hl with | [_, _], _ => rfl) ?_
  intro f cdv A outer s H E hr
  refine ⟨_, (pss_cons (ps_set (i := 2) sc__law_mates.nd rfl (Or.inl rfl) (pe_listRg rfl (by rfl) T.b_list (prg_1 (by rfl) T.b_range (pe_op op_mulU pe_int (pv 1)))))
     (pss_cons (ps_for (passes_of rfl) rfl (pi_sqK (K := K) (pv 0)) (pg_name (i := 3) sc__law_mates.nd rfl (Or.inl rfl)) (pss_one (ps_if (pt_cmpR op_gt (pv 1) pe_int (nomark _)) (pss_cons (ps_set (i := 4) sc__law_mates.nd rfl (Or.inl rfl) (pe_op op_mod (pv 3) (pe_op op_mulU pe_int (pv 1))))
     (pss_cons (ps_set (i := 5) sc__law_mates.nd rfl (Or.inl rfl) (pe_op op_mod (pe_op op_fdivW (pe_op op_mod (pe_op op_mulU (pe_op op_mod (pv 3) pe_int) pe_int) pe_int) pe_int) (pe_op op_mulU pe_int (pv 1))))
     (pss_cons (ps_for (passes_of rfl) rfl (pi_sqK (K := K) (pe_lst (pa_cons (pv 4) (pa_cons (pv 5) pa_nil)))) (pg_name (i := 6) sc__law_mates.nd rfl (Or.inl rfl)) (pss_cons (ps_asg (pe_ix (kIx (K := K)) (pv 2) (pv 6) (fun _ _ => rfl)) (pg_sub (pv 2) (pe_ix (kIx (K := K)) (pv 2) (pv 6) (fun _ _ => rfl)) set_list))
     (pss_one (ps_asg (pv 6) (pg_sub (pv 2) (pv 6) set_list)))))
     (pss_cons (ps_asg (pv 5) (pg_sub (pv 2) (pv 4) set_list))
     (pss_one (ps_asg (pv 4) (pg_sub (pv 2) (pv 5) set_list))))))) pss_nil)))
     (pss_one (ps_ret (pv 2))))), ?_⟩
  exact fun L => (ds_seq (ds_asgL (i := 2) (dl_rg1 (DF.e (df_op rd_mul (DF.e (df_int (i := 2))) (DF.e (df_var (i := 1)))))))
     (ds_seq (ds_for (di_sq (df_var (i := 0))) (dg_name (i := 3)) (ds_if (dt_test (DF.e (df_op rd_cmp (DF.e (df_var (i := 1))) (DF.e (df_int (i := 0)))))) (ds_seq (ds_asg (df_op rd_mod (DF.e (df_var (i := 3))) (DF.e (df_op rd_mul (DF.e (df_int (i := 2))) (DF.e (df_var (i := 1)))))) (dg_name (i := 4)))
     (ds_seq (ds_asg (df_op rd_mod (DF.e (df_op rd_div (DF.e (df_op rd_mod (DF.e (df_op rd_mul (DF.e (df_op rd_mod (DF.e (df_var (i := 3))) (DF.e (df_int (i := 1000000007))))) (DF.e (df_int (i := 48271))))) (DF.e (df_int (i := 2147483647))))) (DF.e (df_int (i := 89))))) (DF.e (df_op rd_mul (DF.e (df_int (i := 2))) (DF.e (df_var (i := 1)))))) (dg_name (i := 5)))
     (ds_seq (ds_for (di_sq (DL.fz (dl_lst (daf_cons (df_var (i := 4)) (daf_cons (df_var (i := 5)) daf_nil)) (few_cons (few_cons few_nil))))) (dg_name (i := 6)) (ds_seq (ds_set (i := 2) (df_op rd_ix (de_var (i := 2)) (DF.e (df_var (i := 6)))) (DF.e (df_op rd_ix (de_var (i := 2)) (DF.e (df_var (i := 6))))))
     (ds_set (i := 2) (df_var (i := 6)) (DF.e (df_var (i := 6))))))
     (ds_seq (ds_set (i := 2) (df_var (i := 5)) (DF.e (df_var (i := 4))))
     (ds_set (i := 2) (df_var (i := 4)) (DF.e (df_var (i := 5)))))))) ds_next))
     (ds_frz (i := 2) (ds_ret (df_var (i := 2))))))
end
abbrev s__law_far : Stmt := topS 20
abbrev N__law_far : List Str := ["end"]
abbrev P__law_far : List Str := ["end"]
theorem sc__law_far : FnScope N__law_far P__law_far (defScope s__law_far) := ⟨rfl, rfl, rfl, by decide +kernel, rfl, by decide +kernel, by decide +kernel⟩
noncomputable def g__law_far : MS :=
 (sRet (e2 subD (e2 addD (eVarF 0) (eC (.int 1))) (e2 mulD (eC (.int 2)) (e2 modD (eVarF 0) (eC (.int 2))))))
noncomputable def f__law_far : List D → M D := mFn 1 1 g__law_far
section
variable {P : Program} {w : World} {K : PySem.W.Frag} {mg : Str → Option Value} {base : Heap}
theorem ok__law_far (T : Txt K mg) (dd : DefAt K mg "_law_far" s__law_far)  : FnAt P w K mg base "_law_far" P__law_far 1 f__law_far := by
  refine fn_at (N := N__law_far) (g := g__law_far) dd sc__law_far (fun _ _ _ _ _ _ us hl => match us, hl with | [_], _ => rfl) ?_
  intro f cdv A outer s H E hr
  refine ⟨_, (pss_one (ps_ret (pe_op op_sub (pe_op (kAdd (K := K)) (pv 0) pe_int) (pe_op op_mulU pe_int (pe_op op_mod (pv 0) pe_int))))), ?_⟩
  exact fun L => (ds_ret (df_op rd_sub (DF.e (df_op rd_add (DF.e (df_var (i := 0))) (DF.e (df_int (i := 1))))) (DF.e (df_op rd_mul (DF.e (df_int (i := 2))) (DF.e (df_op rd_mod (DF.e (df_var (i := 0))) (DF.e (df_int (i := 2)))))))))
end
abbrev s__law_chain : Stmt := topS 21
abbrev N__law_chain : List Str := ["mates", "start", "chain", "last"]
abbrev P__law_chain : List Str := ["mates", "start"]
theorem sc__law_chain : FnScope N__law_chain P__law_chain (defScope s__law_chain) := ⟨rfl, rfl, rfl, by decide +kernel, rfl, by decide +kernel, by decide +kernel⟩
noncomputable def b1__law_chain : MS :=
 (sSeq (sMut 2 appM (aCons (e2 ixD (eVarF 0) (eVarF 3)) aNil))
 (sAsg (gN 3) (eCall f__law_far (aCons (e2 ixD (eVarF 0) (eVarF 3)) aNil))))
noncomputable def g__law_chain : MS :=
 (sSeq (sAsgL 2 (aCons (eVarF 1) aNil))
 (sSeq (sAsg (gN 3) (eCall f__law_far (aCons (eVarF 1) aNil)))
 (sSeq (sWhile (tA (tE (e2 neD (e2 ixD (eVarF 0) (eVarF 3)) (eVarF 3))) (tE (e2 neD (e2 ixD (eVarF 0) (eVarF 3)) (eVarF 1)))) b1__law_chain)
 (sFrz 2 (sRet (eVarF 2))))))
noncomputable def f__law_chain : List D → M D := mFn 2 4 g__law_chain
section
variable {P : Program} {w : World} {K : PySem.W.Frag} {mg : Str → Option Value} {base : Heap}
theorem ok__law_chain (T : Txt K mg) (dd : DefAt K mg "_law_chain" s__law_chain) (c__law_far : FnAt P w K mg base "_law_far" P__law_far 1 f__law_far) : FnAt P w K mg base "_law_chain" P__law_chain 2 f__law_chain := by
  obtain ⟨a__law_far, fd__law_far, m__law_far, kp__law_far, b__law_far, G__law_far⟩ := c__law_far
  refine fn_at (N := N__law_chain) (g := g__law_chain) dd sc__law_chain (fun _ _ _ _ _ _ us hl => match us, hl with | [_, _], _ => rfl) ?_
  intro f cdv A outer s H E hr
  refine ⟨_, (pss_cons (ps_set (i := 2) sc__law_chain.nd rfl (Or.inl rfl) (pe_lst (pa_cons (pv 1) pa_nil)))
     (pss_cons (ps_set (i := 3) sc__law_chain.nd rfl (Or.inl rfl) (pe_callS G__law_far (hr.mono (by decide)) (by rfl) m__law_far kp__law_far b__law_far (fun σ => passAt (takes_of rfl rfl rfl rfl) σ) (pa_cons (pv 1) pa_nil)))
     (pss_cons (ps_while (passes_of rfl) (PW.pt (pw_and (pt_cmpR (kNe (K := K) (hu64 hr)) (pe_ix (kIx (K := K)) (pv 0) (pv 3) (fun _ _ => rfl)) (pv 3) (nomark _)) (pw_and1 (pt_cmpR (kNe (K := K) (hu64 hr)) (pe_ix (kIx (K := K)) (pv 0) (pv 3) (fun _ _ => rfl)) (pv 1) (nomark _))))) (pss_cons (ps_expr (bmK (K := K) (pe_bm PySem.F.plainAttrs_list PySem.F.slot_list_append PySem.F.type_list_append mt_append (pv 2) (pa_cons (pe_ix (kIx (K := K)) (pv 0) (pv 3) (fun _ _ => rfl)) pa_nil))))
     (pss_one (ps_set (i := 3) sc__law_chain.nd rfl (Or.inl rfl) (pe_callS G__law_far (hr.mono (by decide)) (by rfl) m__law_far kp__law_far b__law_far (fun σ => passAt (takes_of rfl rfl rfl rfl) σ) (pa_cons (pe_ix (kIx (K := K)) (pv 0) (pv 3) (fun _ _ => rfl)) pa_nil))))))
     (pss_one (ps_ret (pv 2)))))), ?_⟩
  exact fun L => (ds_seq (ds_asgL (i := 2) (dl_lst (daf_cons (df_var (i := 1)) daf_nil) (few_cons few_nil)))
     (ds_seq (ds_asg (df_call (daf_cons (df_var (i := 1)) daf_nil)) (dg_name (i := 3)))
     (ds_seq (ds_while (dt_and (dt_test (DF.e (df_op rd_ne (DF.e (df_op rd_ix (DF.e (df_var (i := 0))) (DF.e (df_var (i := 3))))) (DF.e (df_var (i := 3)))))) (dt_test (DF.e (df_op rd_ne (DF.e (df_op rd_ix (DF.e (df_var (i := 0))) (DF.e (df_var (i := 3))))) (DF.e (df_var (i := 1))))))) (ds_seq (ds_mut (i := 2) rm_append (daf_cons (df_op rd_ix (DF.e (df_var (i := 0))) (DF.e (df_var (i := 3)))) daf_nil))
     (ds_asg (df_call (daf_cons (df_op rd_ix (DF.e (df_var (i := 0))) (DF.e (df_var (i := 3)))) daf_nil)) (dg_name (i := 3)))))
     (ds_frz (i := 2) (ds_ret (df_var (i := 2)))))))
end
abbrev s__law_chains : Stmt := topS 22
abbrev N__law_chains : List Str := ["mates", "known", "rows", "rings", "end", "one"]
abbrev P__law_chains : List Str := ["mates"]
theorem sc__law_chains : FnScope N__law_chains P__law_chains (defScope s__law_chains) := ⟨rfl, rfl, rfl, by decide +kernel, rfl, by decide +kernel, by decide +kernel⟩
noncomputable def b1__law_chains : MS :=
 (sPut 1 (e2 divD (eVarF 5) (eC (.int 2))) (eC (.bool true)))
noncomputable def b2__law_chains : MS :=
 (sIf (tA (tE (e2 eqD (e2 ixD (eVarF 0) (eVarF 4)) (eVarF 4))) (tE (e2 dninD (e2 divD (eVarF 4) (eC (.int 2))) (eVar 1)))) (sSeq (sMut 2 appM (aCons (eCall f__law_chain (aCons (eVarF 0) (aCons (eVarF 4) aNil))) aNil))
 (sFor (iE (e2 ixD (eVar 2) (e1 negD (eC (.int 1))))) (gN 5) b1__law_chains)) sNext)
noncomputable def b3__law_chains : MS :=
 (sPut 1 (e2 divD (eVarF 5) (eC (.int 2))) (eC (.bool true)))
noncomputable def b4__law_chains : MS :=
 (sIf (tE (e2 dninD (e2 divD (eVarF 4) (eC (.int 2))) (eVar 1))) (sSeq (sMut 3 appM (aCons (eCall f__law_chain (aCons (eVarF 0) (aCons (eVarF 4) aNil))) aNil))
 (sFor (iE (e2 ixD (eVar 3) (e1 negD (eC (.int 1))))) (gN 5) b3__law_chains)) sNext)
noncomputable def g__law_chains : MS :=
 (sSeq (sDNew 1 (.dK []))
 (sSeq (sAsgL 2 aNil)
 (sSeq (sAsgL 3 aNil)
 (sSeq (sFor (iR1 (aCons (eB lenD (aCons (eVarF 0) aNil)) aNil)) (gN 4) b2__law_chains)
 (sSeq (sFor (iR1 (aCons (eB lenD (aCons (eVarF 0) aNil)) aNil)) (gN 4) b4__law_chains)
 (sFrz 2 (sFrz 3 (sRet (eTup (aCons (eVarF 2) (aCons (eVarF 3) aNil)))))))))))
noncomputable def f__law_chains : List D → M D := mFn 1 6 g__law_chains
section
variable {P : Program} {w : World} {K : PySem.W.Frag} {mg : Str → Option Value} {base : Heap}
theorem ok__law_chains (T : Txt K mg) (dd : DefAt K mg "_law_chains" s__law_chains) (c__law_chain : FnAt P w K mg base "_law_chain" P__law_chain 2 f__law_chain) : FnAt P w K mg base "_law_chains" P__law_chains 3 f__law_chains := by
  obtain ⟨a__law_chain, fd__law_chain, m__law_chain, kp__law_chain, b__law_chain, G__law_chain⟩ := c__law_chain
  refine fn_at (N := N__law_chains) (g := g__law_chains) dd sc__law_chains (fun _ _ _ _ _ _ us hl => match us, hl with | [_], _ => rfl) ?_
  intro f cdv A outer s H E hr
  refine ⟨_, (pss_cons (ps_set (i := 1) sc__law_chains.nd rfl (Or.inl rfl) pe_dnewK)
     (pss_cons (ps_set (i := 2) sc__law_chains.nd rfl (Or.inl rfl) (pe_lst pa_nil))
     (pss_cons (ps_set (i := 3) sc__law_chains.nd rfl (Or.inl rfl) (pe_lst pa_nil))
     (pss_cons (ps_for (passes_of rfl) rfl (pi_range1 (by rfl) T.b_range (pa_cons (pe_callB (kLen (K := K)) (by rfl) T.b_len boot_len (pa_cons (pv 0) pa_nil)) pa_nil)) (pg_name (i := 4) sc__law_chains.nd rfl (Or.inl rfl)) (pss_one (ps_if (PW.pt (pw_and (pt_cmpR (kEq (K := K) (hu64 hr)) (pe_ix (kIx (K := K)) (pv 0) (pv 4) (fun _ _ => rfl)) (pv 4) (nomark _)) (pw_and1 (pt_dninR (hu65 hr) (pe_op op_fdivW (pv 4) pe_int) (pv 1))))) (pss_cons (ps_expr (bmK (K := K) (pe_bm PySem.F.plainAttrs_list PySem.F.slot_list_append PySem.F.type_list_append mt_append (pv 2) (pa_cons (pe_callS G__law_chain (hr.mono (by decide)) (by rfl) m__law_chain kp__law_chain b__law_chain (fun σ => passAt (takes_of rfl rfl rfl rfl) σ) (pa_cons (pv 0) (pa_cons (pv 4) pa_nil))) pa_nil))))
     (pss_one (ps_for (passes_of rfl) rfl (pi_sqK (K := K) (pe_ix (kIx (K := K)) (pv 2) (pe_un un_neg pe_int) (fun _ _ => rfl))) (pg_name (i := 5) sc__law_chains.nd rfl (Or.inl rfl)) (pss_one (ps_asg pe_bl (pg_sub (pv 1) (pe_op op_fdivW (pv 5) pe_int) (set_dictR (hu65 hr)))))))) pss_nil)))
     (pss_cons (ps_for (passes_of rfl) rfl (pi_range1 (by rfl) T.b_range (pa_cons (pe_callB (kLen (K := K)) (by rfl) T.b_len boot_len (pa_cons (pv 0) pa_nil)) pa_nil)) (pg_name (i := 4) sc__law_chains.nd rfl (Or.inl rfl)) (pss_one (ps_if (pt_dninR (hu65 hr) (pe_op op_fdivW (pv 4) pe_int) (pv 1)) (pss_cons (ps_expr (bmK (K := K) (pe_bm PySem.F.plainAttrs_list PySem.F.slot_list_append PySem.F.type_list_append mt_append (pv 3) (pa_cons (pe_callS G__law_chain (hr.mono (by decide)) (by rfl) m__law_chain kp__law_chain b__law_chain (fun σ => passAt (takes_of rfl rfl rfl rfl) σ) (pa_cons (pv 0) (pa_cons (pv 4) pa_nil))) pa_nil))))
     (pss_one (ps_for (passes_of rfl) rfl (pi_sqK (K := K) (pe_ix (kIx (K := K)) (pv 3) (pe_un un_neg pe_int) (fun _ _ => rfl))) (pg_name (i := 5) sc__law_chains.nd rfl (Or.inl rfl)) (pss_one (ps_asg pe_bl (pg_sub (pv 1) (pe_op op_fdivW (pv 5) pe_int) (set_dictR (hu65 hr)))))))) pss_nil)))
     (pss_one (ps_ret (pe_tup (pa_cons (pv 2) (pa_cons (pv 3) pa_nil)))))))))), ?_⟩
  exact fun L => (ds_seq (ds_dnewK (i := 1))
     (ds_seq (ds_asgL (i := 2) (dl_lst daf_nil few_nil))
     (ds_seq (ds_asgL (i := 3) (dl_lst daf_nil few_nil))
     (ds_seq (ds_for (di_rng1 (da_cons (DF.e (df_B rc_len (da_cons (DF.e (df_var (i := 0))) da_nil))) da_nil)) (dg_name (i := 4)) (ds_if (dt_and (dt_test (DF.e (df_op rd_eq (DF.e (df_op rd_ix (DF.e (df_var (i := 0))) (DF.e (df_var (i := 4))))) (DF.e (df_var (i := 4)))))) (dt_test (DF.e (df_op rd_dnin (DF.e (df_op rd_div (DF.e (df_var (i := 4))) (DF.e (df_int (i := 2))))) (de_var (i := 1)))))) (ds_seq (ds_mut (i := 2) rm_append (daf_cons (df_call (daf_cons (df_var (i := 0)) (daf_cons (df_var (i := 4)) daf_nil))) daf_nil))
     (ds_for (di_sq (df_op rd_ix (de_var (i := 2)) (DF.e (df_un rd_neg (DF.e (df_int (i := 1))))))) (dg_name (i := 5)) (ds_put (i := 1) (df_bl (b := true)) (DF.e (df_op rd_div (DF.e (df_var (i := 5))) (DF.e (df_int (i := 2)))))))) ds_next))
     (ds_seq (ds_for (di_rng1 (da_cons (DF.e (df_B rc_len (da_cons (DF.e (df_var (i := 0))) da_nil))) da_nil)) (dg_name (i := 4)) (ds_if (dt_test (DF.e (df_op rd_dnin (DF.e (df_op rd_div (DF.e (df_var (i := 4))) (DF.e (df_int (i := 2))))) (de_var (i := 1))))) (ds_seq (ds_mut (i := 3) rm_append (daf_cons (df_call (daf_cons (df_var (i := 0)) (daf_cons (df_var (i := 4)) daf_nil))) daf_nil))
     (ds_for (di_sq (df_op rd_ix (de_var (i := 3)) (DF.e (df_un rd_neg (DF.e (df_int (i := 1))))))) (dg_name (i := 5)) (ds_put (i := 1) (df_bl (b := true)) (DF.e (df_op rd_div (DF.e (df_var (i := 5))) (DF.e (df_int (i := 2)))))))) ds_next))
     (ds_frz (i := 2) (ds_frz (i := 3) (ds_ret (df_tup (daf_cons (df_var (i := 2)) (daf_cons (df_var (i := 3)) daf_nil)) (few_cons (few_cons few_nil)))))))))))
end
abbrev s__law_back : Stmt := topS 23
abbrev N__law_back : List Str := ["chain", "end"]
abbrev P__law_back : List Str := ["chain"]
theorem sc__law_back : FnScope N__law_back P__law_back (defScope s__law_back) := ⟨rfl, rfl, rfl, by decide +kernel, rfl, by decide +kernel, by decide +kernel⟩
noncomputable def g__law_back : MS :=
 (sRet (eL (eLc (iRev' (eVarF 0)) (gN 1) tYesF (eCall f__law_far (aCons (eVarF 1) aNil)) [1])))
noncomputable def f__law_back : List D → M D := mFn 1 2 g__law_back
section
variable {P : Program} {w : World} {K : PySem.W.Frag} {mg : Str → Option Value} {base : Heap}
theorem ok__law_back (T : Txt K mg) (dd : DefAt K mg "_law_back" s__law_back) (c__law_far : FnAt P w K mg base "_law_far" P__law_far 1 f__law_far) : FnAt P w K mg base "_law_back" P__law_back 2 f__law_back := by
  obtain ⟨a__law_far, fd__law_far, m__law_far, kp__law_far, b__law_far, G__law_far⟩ := c__law_far
  refine fn_at (N := N__law_back) (g := g__law_back) dd sc__law_back (fun _ _ _ _ _ _ us hl => match us, hl with | [_], _ => rfl) ?_
  intro f cdv A outer s H E hr
  refine ⟨_, (pss_one (ps_ret (pe_lc (own := [("end", 1)]) (by rfl) sc__law_back.nd (pi_revK (K := K) (by rfl) T.b_reversed (pv 0)) (blkOk_by (own := [("end", 1)]) (N := N__law_back) (sc := defScope s__law_back) (by decide +kernel)) (fun _ _ _ _ _ => (pg_name (i := 1) sc__law_back.nd rfl (Or.inl rfl))) (fun _ _ _ _ _ => pts_nil) (fun _ _ _ _ _ => (pe_callS G__law_far (hr.mono (by decide)) (by rfl) m__law_far kp__law_far b__law_far (fun σ => passAt takes0 σ) (pa_cons (pv 1) pa_nil)))))), ?_⟩
  exact fun L => (ds_ret (DL.fz (dl_lc (vs := [1]) (di_b (di_rev (df_var (i := 0)))) (dg_name (i := 1)) (by decide) dt_yes (df_call (daf_cons (df_var (i := 1)) daf_nil)))))
end
abbrev s__law_written : Stmt := topS 24
abbrev N__law_written : List Str := ["chain", "brackets", "staves", "end"]
abbrev P__law_written : List Str := ["chain", "brackets"]
theorem sc__law_written : FnScope N__law_written P__law_written (defScope s__law_written) := ⟨rfl, rfl, rfl, by decide +kernel, rfl, by decide +kernel, by decide +kernel⟩
noncomputable def g__law_written : MS :=
 (sSeq (sAsg (gN 2) (eL (eLc (iE (eVarF 0)) (gN 3) tYesF (e2 addD (e2 ixD (eL (aCons (eC (.str ("" : Str))) (aCons (eC (.str ("-" : Str))) aNil))) (e2 modD (eVarF 3) (eC (.int 2)))) (eB strD (aCons (e2 divD (eVarF 3) (eC (.int 2))) aNil))) [3])))
 (sRet (e2 addD (e2 addD (e2 ixD (eVarF 1) (eC (.int 0))) (eM1 joinD (eC (.str (" " : Str))) (eVarF 2))) (e2 ixD (eVarF 1) (eC (.int 1))))))
noncomputable def f__law_written : List D → M D := mFn 2 4 g__law_written
section
variable {P : Program} {w : World} {K : PySem.W.Frag} {mg : Str → Option Value} {base : Heap}
theorem ok__law_written (T : Txt K mg) (dd : DefAt K mg "_law_written" s__law_written)  : FnAt P w K mg base "_law_written" P__law_written 1 f__law_written := by
  refine fn_at (N := N__law_written) (g := g__law_written) dd sc__law_written (fun _ _ _ _ _ _ us hl => match us, hl with | [_, _], _ => rfl) ?_
  intro f cdv A outer s H E hr
  refine ⟨_, (pss_cons (ps_setLc (i := 2) (own := [("end", 3)]) (by rfl) sc__law_written.nd rfl rfl (sw_true rfl rfl rfl (by decide +kernel)) (pi_sqK (K := K) (pv 0)) (blkOk_by (own := [("end", 3)]) (N := N__law_written) (sc := defScope s__law_written) (by decide +kernel)) (fun _ _ _ _ _ => (pg_name (i := 3) sc__law_written.nd rfl (Or.inl rfl))) (fun _ _ _ _ _ => pts_nil) (fun _ _ _ _ _ => (pe_op (kAdd (K := K)) (pe_ix (kIx (K := K)) (pe_lst (pa_cons pe_str (pa_cons pe_str pa_nil))) (pe_op op_mod (pv 3) pe_int) (fun _ _ => rfl)) (pe_callTy call_strU (by rfl) T.b_str boot_str (pa_cons (pe_op op_fdivW (pv 3) pe_int) pa_nil)))))
     (pss_one (ps_ret (pe_op (kAdd (K := K)) (pe_op (kAdd (K := K)) (pe_ix (kIx (K := K)) (pv 1) pe_int (fun _ _ => rfl)) (pe_joinK (K := K) pe_str (pv 2))) (pe_ix (kIx (K := K)) (pv 1) pe_int (fun _ _ => rfl)))))), ?_⟩
  exact fun L => (ds_seq (ds_asg (DL.fz (dl_lc (vs := [3]) (dib_sq (DF.e (df_var (i := 0)))) (dg_name (i := 3)) (by decide) dt_yes (df_op rd_add (DF.e (df_op rd_ix (DF.e (DL.fz (dl_lst (daf_cons (df_str (x := ("" : Str))) (daf_cons (df_str (x := ("-" : Str))) daf_nil)) (few_cons (few_cons few_nil))))) (DF.e (df_op rd_mod (DF.e (df_var (i := 3))) (DF.e (df_int (i := 2))))))) (DF.e (df_B rc_str (da_cons (DF.e (df_op rd_div (DF.e (df_var (i := 3))) (DF.e (df_int (i := 2))))) da_nil)))))) (dg_name (i := 2)))
     (ds_ret (df_op rd_add (DF.e (df_op rd_add (DF.e (df_op rd_ix (DF.e (df_var (i := 1))) (DF.e (df_int (i := 0))))) (DF.e (df_m1 rs_join (DF.e (df_str (x := (" " : Str)))) (DF.e (df_var (i := 2))))))) (DF.e (df_op rd_ix (DF.e (df_var (i := 1))) (DF.e (df_int (i := 1))))))))
end
abbrev s__law_text_else : Stmt := topS 25
abbrev N__law_text_else : List Str := ["mates", "cell", "parts", "cut", "rows", "rings", "k", "row", "ring", "at"]
abbrev P__law_text_else : List Str := ["mates", "cell"]
theorem sc__law_text_else : FnScope N__law_text_else P__law_text_else (defScope s__law_text_else) := ⟨rfl, rfl, rfl, by decide +kernel, rfl, by decide +kernel, by decide +kernel⟩
noncomputable def b1__law_text_else : MS :=
 (sSeq (sIf (tE (e2 eqD (e2 modD (e2 addD (e2 divD (eVarF 1) (eC (.int 5))) (e2 mulD (eVarF 6) (eVarF 6))) (eC (.int 3))) (eC (.int 1)))) (sAsg (gN 7) (eCall f__law_back (aCons (eVarF 7) aNil))) sNext)
 (sMut 2 appM (aCons (eCall f__law_written (aCons (eVarF 7) (aCons (eC (.str ("[]" : Str))) aNil))) aNil)))
noncomputable def b2__law_text_else : MS :=
 (sSeq (sAsg (gN 9) (e2 modD (e2 addD (e2 divD (eVarF 1) (eC (.int 7))) (e2 mulD (eC (.int 3)) (eVarF 6))) (eB lenD (aCons (eVarF 8) aNil))))
 (sSeq (sAsg (gN 8) (e2 addD (eSl slD (eVarF 8) (oSome (eVarF 9)) oNone) (eSl slD (eVarF 8) oNone (oSome (eVarF 9)))))
 (sSeq (sIf (tE (e2 eqD (e2 modD (e2 addD (e2 divD (eVarF 1) (eC (.int 11))) (e2 mulD (eVarF 6) (eVarF 6))) (eC (.int 3))) (eC (.int 1)))) (sAsg (gN 8) (eCall f__law_back (aCons (eVarF 8) aNil))) sNext)
 (sMut 2 insM (aCons (e2 modD (e2 addD (e2 divD (eVarF 1) (eC (.int 13))) (e2 mulD (eC (.int 5)) (eVarF 6))) (e2 addD (eB lenD (aCons (eVar 2) aNil)) (eC (.int 1)))) (aCons (eCall f__law_written (aCons (eVarF 8) (aCons (eC (.str ("()" : Str))) aNil))) aNil))))))
noncomputable def g__law_text_else : MS :=
 (sSeq (sIf (tE (e2 eqD (eB lenD (aCons (eVarF 0) aNil)) (eC (.int 0)))) (sRet (eC (.str ("." : Str)))) sNext)
 (sSeq (sAsg (gT (gC (gN 4) (gC (gN 5) gNil'))) (eCall f__law_chains (aCons (eVarF 0) aNil)))
 (sSeq (sAsgL 2 aNil)
 (sSeq (sFor (iEn (aCons (eVarF 4) aNil)) (gT (gC (gN 6) (gC (gN 7) gNil'))) b1__law_text_else)
 (sSeq (sFor (iEn (aCons (eVarF 5) aNil)) (gT (gC (gN 6) (gC (gN 8) gNil'))) b2__law_text_else)
 (sSeq (sFrz 2 (sAsg (gN 3) (e2 modD (e2 divD (eVarF 1) (eC (.int 17))) (eB lenD (aCons (eVarF 2) aNil)))))
 (sFrz 2 (sRet (eM1 joinD (eC (.str (" " : Str))) (e2 addD (eSl slD (eVarF 2) (oSome (eVarF 3)) oNone) (eSl slD (eVarF 2) oNone (oSome (eVarF 3)))))))))))))
noncomputable def f__law_text_else : List D → M D := mFn 2 10 g__law_text_else
section
variable {P : Program} {w : World} {K : PySem.W.Frag} {mg : Str → Option Value} {base : Heap}
theorem ok__law_text_else (T : Txt K mg) (dd : DefAt K mg "_law_text_else" s__law_text_else) (c__law_back : FnAt P w K mg base "_law_back" P__law_back 2 f__law_back) (c__law_chains : FnAt P w K mg base "_law_chains" P__law_chains 3 f__law_chains) (c__law_written : FnAt P w K mg base "_law_written" P__law_written 1 f__law_written) : FnAt P w K mg base "_law_text_else" P__law_text_else 4 f__law_text_else := by
  obtain ⟨a__law_back, fd__law_back, m__law_back, kp__law_back, b__law_back, G__law_back⟩ := c__law_back
  obtain ⟨a__law_chains, fd__law_chains, m__law_chains, kp__law_chains, b__law_chains, G__law_chains⟩ := c__law_chains
  obtain ⟨a__law_written, fd__law_written, m__law_written, kp__law_written, b__law_written, G__law_written⟩ := c__law_written
  refine fn_at (N := N__law_text_else) (g := g__law_text_else) dd sc__law_text_else (fun _ _ _ _ _ _ us hl => match us, hl with | [_, _], _ => rfl) ?_
  intro f cdv A outer s H E hr
  refine ⟨_, (pss_cons (ps_if (pt_cmpR (kEq (K := K) (hu64 hr)) (pe_callB (kLen (K := K)) (by rfl) T.b_len boot_len (pa_cons (pv 0) pa_nil)) pe_int (nomark _)) (pss_one (ps_ret pe_str)) pss_nil)
     (pss_cons (ps_asg (pe_callS G__law_chains (hr.mono (by decide)) (by rfl) m__law_chains kp__law_chains b__law_chains (fun σ => passAt (takes_of rfl rfl rfl rfl) σ) (pa_cons (pv 0) pa_nil)) (pg_tupK (K := K) (n := 2) rfl (pgs_cons (pg_name (i := 4) sc__law_text_else.nd rfl (Or.inl rfl)) (pgs_cons (pg_name (i := 5) sc__law_text_else.nd rfl (Or.inl rfl)) pgs_nil))))
     (pss_cons (ps_set (i := 2) sc__law_text_else.nd rfl (Or.inl rfl) (pe_lst pa_nil))
     (pss_cons (ps_for (passes_of rfl) rfl (pi_enumK (K := K) (by rfl) T.b_enumerate (pa_cons (pv 4) pa_nil)) (pg_tupK (K := K) (n := 2) rfl (pgs_cons (pg_name (i := 6) sc__law_text_else.nd rfl (Or.inl rfl)) (pgs_cons (pg_name (i := 7) sc__law_text_else.nd rfl (Or.inl rfl)) pgs_nil))) (pss_cons (ps_if (pt_cmpR (kEq (K := K) (hu64 hr)) (pe_op op_mod (pe_op (kAdd (K := K)) (pe_op op_fdivW (pv 1) pe_int) (pe_op op_mulU (pv 6) (pv 6))) pe_int) pe_int (nomark _)) (pss_one (ps_set (i := 7) sc__law_text_else.nd rfl (Or.inl rfl) (pe_callS G__law_back (hr.mono (by decide)) (by rfl) m__law_back kp__law_back b__law_back (fun σ => passAt (takes_of rfl rfl rfl rfl) σ) (pa_cons (pv 7) pa_nil)))) pss_nil)
     (pss_one (ps_expr (bmK (K := K) (pe_bm PySem.F.plainAttrs_list PySem.F.slot_list_append PySem.F.type_list_append mt_append (pv 2) (pa_cons (pe_callS G__law_written (hr.mono (by decide)) (by rfl) m__law_written kp__law_written b__law_written (fun σ => passAt (takes_of rfl rfl rfl rfl) σ) (pa_cons (pv 7) (pa_cons pe_str pa_nil))) pa_nil)))))))
     (pss_cons (ps_for (passes_of rfl) rfl (pi_enumK (K := K) (by rfl) T.b_enumerate (pa_cons (pv 5) pa_nil)) (pg_tupK (K := K) (n := 2) rfl (pgs_cons (pg_name (i := 6) sc__law_text_else.nd rfl (Or.inl rfl)) (pgs_cons (pg_name (i := 8) sc__law_text_else.nd rfl (Or.inl rfl)) pgs_nil))) (pss_cons (ps_set (i := 9) sc__law_text_else.nd rfl (Or.inl rfl) (pe_op op_mod (pe_op (kAdd (K := K)) (pe_op op_fdivW (pv 1) pe_int) (pe_op op_mulU pe_int (pv 6))) (pe_callB (kLen (K := K)) (by rfl) T.b_len boot_len (pa_cons (pv 8) pa_nil))))
     (pss_cons (ps_set (i := 8) sc__law_text_else.nd rfl (Or.inl rfl) (pe_op (kAdd (K := K)) (pe_slice (kSl (K := K)) (pv 8) (po_some (pv 9)) po_none) (pe_slice (kSl (K := K)) (pv 8) po_none (po_some (pv 9)))))
     (pss_cons (ps_if (pt_cmpR (kEq (K := K) (hu64 hr)) (pe_op op_mod (pe_op (kAdd (K := K)) (pe_op op_fdivW (pv 1) pe_int) (pe_op op_mulU (pv 6) (pv 6))) pe_int) pe_int (nomark _)) (pss_one (ps_set (i := 8) sc__law_text_else.nd rfl (Or.inl rfl) (pe_callS G__law_back (hr.mono (by decide)) (by rfl) m__law_back kp__law_back b__law_back (fun σ => passAt (takes_of rfl rfl rfl rfl) σ) (pa_cons (pv 8) pa_nil)))) pss_nil)
     (pss_one (ps_expr (bmK (K := K) (pe_bm PySem.F.plainAttrs_list PySem.F.slot_list_insert PySem.F.type_list_insert mt_insert (pv 2) (pa_cons (pe_op op_mod (pe_op (kAdd (K := K)) (pe_op op_fdivW (pv 1) pe_int) (pe_op op_mulU pe_int (pv 6))) (pe_op (kAdd (K := K)) (pe_callB (kLen (K := K)) (by rfl) T.b_len boot_len (pa_cons (pv 2) pa_nil)) pe_int)) (pa_cons (pe_callS G__law_written (hr.mono (by decide)) (by rfl) m__law_written kp__law_written b__law_written (fun σ => passAt (takes_of rfl rfl rfl rfl) σ) (pa_cons (pv 8) (pa_cons pe_str pa_nil))) pa_nil))))))))))
     (pss_cons (ps_set (i := 3) sc__law_text_else.nd rfl (Or.inl rfl) (pe_op op_mod (pe_op op_fdivW (pv 1) pe_int) (pe_callB (kLen (K := K)) (by rfl) T.b_len boot_len (pa_cons (pv 2) pa_nil))))
     (pss_one (ps_ret (pe_joinK (K := K) pe_str (pe_op (kAdd (K := K)) (pe_slice (kSl (K := K)) (pv 2) (po_some (pv 3)) po_none) (pe_slice (kSl (K := K)) (pv 2) po_none (po_some (pv 3))))))))))))), ?_⟩
  exact fun L => (ds_seq (ds_if (dt_test (DF.e (df_op rd_eq (DF.e (df_B rc_len (da_cons (DF.e (df_var (i := 0))) da_nil))) (DF.e (df_int (i := 0)))))) (ds_ret (df_str (x := ("." : Str)))) ds_next)
     (ds_seq (ds_asg (df_call (daf_cons (df_var (i := 0)) daf_nil)) (dg_tup (dgs_cons (dg_name (i := 4)) (dgs_cons (dg_name (i := 5)) dgs_nil)) (gC_len (gC_len (fun _ _ _ h => gnil_len h)))))
     (ds_seq (ds_asgL (i := 2) (dl_lst daf_nil few_nil))
     (ds_seq (ds_for (di_enum (daf_cons (df_var (i := 4)) daf_nil)) (dg_tup (dgs_cons (dg_name (i := 6)) (dgs_cons (dg_name (i := 7)) dgs_nil)) (gC_len (gC_len (fun _ _ _ h => gnil_len h)))) (ds_seq (ds_if (dt_test (DF.e (df_op rd_eq (DF.e (df_op rd_mod (DF.e (df_op rd_add (DF.e (df_op rd_div (DF.e (df_var (i := 1))) (DF.e (df_int (i := 5))))) (DF.e (df_op rd_mul (DF.e (df_var (i := 6))) (DF.e (df_var (i := 6))))))) (DF.e (df_int (i := 3))))) (DF.e (df_int (i := 1)))))) (ds_asg (df_call (daf_cons (df_var (i := 7)) daf_nil)) (dg_name (i := 7))) ds_next)
     (ds_mut (i := 2) rm_append (daf_cons (df_call (daf_cons (df_var (i := 7)) (daf_cons (df_str (x := ("[]" : Str))) daf_nil))) daf_nil))))
     (ds_seq (ds_for (di_enum (daf_cons (df_var (i := 5)) daf_nil)) (dg_tup (dgs_cons (dg_name (i := 6)) (dgs_cons (dg_name (i := 8)) dgs_nil)) (gC_len (gC_len (fun _ _ _ h => gnil_len h)))) (ds_seq (ds_asg (df_op rd_mod (DF.e (df_op rd_add (DF.e (df_op rd_div (DF.e (df_var (i := 1))) (DF.e (df_int (i := 7))))) (DF.e (df_op rd_mul (DF.e (df_int (i := 3))) (DF.e (df_var (i := 6))))))) (DF.e (df_B rc_len (da_cons (DF.e (df_var (i := 8))) da_nil)))) (dg_name (i := 9)))
     (ds_seq (ds_asg (df_op rd_add (DF.e (df_sl rs_sl (DF.e (df_var (i := 8))) (do_some (DF.e (df_var (i := 9)))) do_none)) (DF.e (df_sl rs_sl (DF.e (df_var (i := 8))) do_none (do_some (DF.e (df_var (i := 9))))))) (dg_name (i := 8)))
     (ds_seq (ds_if (dt_test (DF.e (df_op rd_eq (DF.e (df_op rd_mod (DF.e (df_op rd_add (DF.e (df_op rd_div (DF.e (df_var (i := 1))) (DF.e (df_int (i := 11))))) (DF.e (df_op rd_mul (DF.e (df_var (i := 6))) (DF.e (df_var (i := 6))))))) (DF.e (df_int (i := 3))))) (DF.e (df_int (i := 1)))))) (ds_asg (df_call (daf_cons (df_var (i := 8)) daf_nil)) (dg_name (i := 8))) ds_next)
     (ds_mut (i := 2) rm_insert (daf_cons (df_op rd_mod (DF.e (df_op rd_add (DF.e (df_op rd_div (DF.e (df_var (i := 1))) (DF.e (df_int (i := 13))))) (DF.e (df_op rd_mul (DF.e (df_int (i := 5))) (DF.e (df_var (i := 6))))))) (DF.e (df_op rd_add (DF.e (df_B rc_len (da_cons (de_var (i := 2)) da_nil))) (DF.e (df_int (i := 1)))))) (daf_cons (df_call (daf_cons (df_var (i := 8)) (daf_cons (df_str (x := ("()" : Str))) daf_nil))) daf_nil)))))))
     (ds_seq (ds_frz (i := 2) (ds_asg (df_op rd_mod (DF.e (df_op rd_div (DF.e (df_var (i := 1))) (DF.e (df_int (i := 17))))) (DF.e (df_B rc_len (da_cons (DF.e (df_var (i := 2))) da_nil)))) (dg_name (i := 3))))
     (ds_frz (i := 2) (ds_ret (df_m1 rs_join (DF.e (df_str (x := (" " : Str)))) (DF.e (df_op rd_add (DF.e (df_sl rs_sl (DF.e (df_var (i := 2))) (do_some (DF.e (df_var (i := 3)))) do_none)) (DF.e (df_sl rs_sl (DF.e (df_var (i := 2))) do_none (do_some (DF.e (df_var (i := 3)))))))))))))))))
end
abbrev s__law_stave : Stmt := topS 30
abbrev N__law_stave : List Str := ["text", "figures", "sign"]
abbrev P__law_stave : List Str := ["text"]
theorem sc__law_stave : FnScope N__law_stave P__law_stave (defScope s__law_stave) := ⟨rfl, rfl, rfl, by decide +kernel, rfl, by decide +kernel, by decide +kernel⟩
noncomputable def b1__law_stave : MS :=
 (sIf (tE (e2 ninSD (eVarF 2) (eC (.str ("0123456789" : Str))))) (sRet (eC .none)) sNext)
noncomputable def g__law_stave : MS :=
 (sSeq (sAsg (gN 1) (eVarF 0))
 (sSeq (sIf (tE (e2 eqD (eSl slD (eVarF 0) oNone (oSome (eC (.int 1)))) (eC (.str ("-" : Str))))) (sAsg (gN 1) (eSl slD (eVarF 0) (oSome (eC (.int 1))) oNone)) sNext)
 (sSeq (sIf (tO (tE (e2 ninD (eB lenD (aCons (eVarF 1) aNil)) (eL (aCons (eC (.int 1)) (aCons (eC (.int 2)) aNil))))) (tA (tE (e2 eqD (eB lenD (aCons (eVarF 1) aNil)) (eC (.int 2)))) (tE (e2 eqD (e2 ixD (eVarF 1) (eC (.int 0))) (eC (.str ("0" : Str))))))) (sRet (eC .none)) sNext)
 (sSeq (sFor (iS (eVarF 1)) (gN 2) b1__law_stave)
 (sRet (e2 subD (e2 addD (e2 mulD (eC (.int 2)) (eB intWD (aCons (eVarF 1) aNil))) (eB lenD (aCons (eVarF 0) aNil))) (eB lenD (aCons (eVarF 1) aNil))))))))
noncomputable def f__law_stave : List D → M D := mFn 1 3 g__law_stave
section
variable {P : Program} {w : World} {K : PySem.W.Frag} {mg : Str → Option Value} {base : Heap}
theorem ok__law_stave (T : Txt K mg) (dd : DefAt K mg "_law_stave" s__law_stave)  : FnAt P w K mg base "_law_stave" P__law_stave 1 f__law_stave := by
  refine fn_at (N := N__law_stave) (g := g__law_stave) dd sc__law_stave (fun _ _ _ _ _ _ us hl => match us, hl with | [_], _ => rfl) ?_
  intro f cdv A outer s H E hr
  refine ⟨_, (pss_cons (ps_set (i := 1) sc__law_stave.nd rfl (Or.inl rfl) (pv 0))
     (pss_cons (ps_if (pt_cmpR (kEq (K := K) (hu64 hr)) (pe_slice (kSl (K := K)) (pv 0) po_none (po_some pe_int)) pe_str (nomark _)) (pss_one (ps_set (i := 1) sc__law_stave.nd rfl (Or.inl rfl) (pe_slice (kSl (K := K)) (pv 0) (po_some pe_int) po_none))) pss_nil)
     (pss_cons (ps_if (PW.pt (pw_or (pt_cmpR (kNin (K := K) (hu65 hr)) (pe_callB (kLen (K := K)) (by rfl) T.b_len boot_len (pa_cons (pv 1) pa_nil)) (pe_lst (pa_cons pe_int (pa_cons pe_int pa_nil))) (by rfl)) (pw_or1 (PW.pt (pw_and (pt_cmpR (kEq (K := K) (hu64 hr)) (pe_callB (kLen (K := K)) (by rfl) T.b_len boot_len (pa_cons (pv 1) pa_nil)) pe_int (nomark _)) (pw_and1 (pt_cmpR (kEq (K := K) (hu64 hr)) (pe_ix (kIx (K := K)) (pv 1) pe_int (fun _ _ => rfl)) pe_str (nomark _)))))))) (pss_one (ps_ret pe_non)) pss_nil)
     (pss_cons (ps_for (passes_of rfl) rfl (pi_str (pv 1)) (pg_name (i := 2) sc__law_stave.nd rfl (Or.inl rfl)) (pss_one (ps_if (pt_cmpR op_nsgn (pv 2) pe_str (by rfl)) (pss_one (ps_ret pe_non)) pss_nil)))
     (pss_one (ps_ret (pe_op op_sub (pe_op (kAdd (K := K)) (pe_op op_mulU pe_int (pe_callTy call_intW (by rfl) T.b_int boot_int (pa_cons (pv 1) pa_nil))) (pe_callB (kLen (K := K)) (by rfl) T.b_len boot_len (pa_cons (pv 0) pa_nil))) (pe_callB (kLen (K := K)) (by rfl) T.b_len boot_len (pa_cons (pv 1) pa_nil))))))))), ?_⟩
  exact fun L => (ds_seq (ds_asg (df_var (i := 0)) (dg_name (i := 1)))
     (ds_seq (ds_if (dt_test (DF.e (df_op rd_eq (DF.e (df_sl rs_sl (DF.e (df_var (i := 0))) do_none (do_some (DF.e (df_int (i := 1)))))) (DF.e (df_str (x := ("-" : Str))))))) (ds_asg (df_sl rs_sl (DF.e (df_var (i := 0))) (do_some (DF.e (df_int (i := 1)))) do_none) (dg_name (i := 1))) ds_next)
     (ds_seq (ds_if (dt_or (dt_test (DF.e (df_op rd_nin (DF.e (df_B rc_len (da_cons (DF.e (df_var (i := 1))) da_nil))) (DF.e (DL.fz (dl_lst (daf_cons (df_int (i := 1)) (daf_cons (df_int (i := 2)) daf_nil)) (few_cons (few_cons few_nil)))))))) (dt_and (dt_test (DF.e (df_op rd_eq (DF.e (df_B rc_len (da_cons (DF.e (df_var (i := 1))) da_nil))) (DF.e (df_int (i := 2)))))) (dt_test (DF.e (df_op rd_eq (DF.e (df_op rd_ix (DF.e (df_var (i := 1))) (DF.e (df_int (i := 0))))) (DF.e (df_str (x := ("0" : Str))))))))) (ds_ret df_non) ds_next)
     (ds_seq (ds_for (di_str (DF.e (df_var (i := 1)))) (dg_name (i := 2)) (ds_if (dt_test (DF.e (df_op rd_ninS (DF.e (df_var (i := 2))) (DF.e (df_str (x := ("0123456789" : Str))))))) (ds_ret df_non) ds_next))
     (ds_ret (df_op rd_sub (DF.e (df_op rd_add (DF.e (df_op rd_mul (DF.e (df_int (i := 2))) (DF.e (df_B rc_intW (da_cons (DF.e (df_var (i := 1))) da_nil))))) (DF.e (df_B rc_len (da_cons (DF.e (df_var (i := 0))) da_nil))))) (DF.e (df_B rc_len (da_cons (DF.e (df_var (i := 1))) da_nil)))))))))
end
abbrev s__law_read_chains : Stmt := topS 31
abbrev N__law_read_chains : List Str := ["text", "found", "chain", "part", "closed", "end"]
abbrev P__law_read_chains : List Str := ["text"]
theorem sc__law_read_chains : FnScope N__law_read_chains P__law_read_chains (defScope s__law_read_chains) := ⟨rfl, rfl, rfl, by decide +kernel, rfl, by decide +kernel, by decide +kernel⟩
noncomputable def b1__law_read_chains : MS :=
 (sSeq (sIf (tE (e2 isD (eVar 2) (eC .none))) (sSeq (sIf (tE (e2 ninLS (eSl slD (eVarF 3) oNone (oSome (eC (.int 1)))) (eL (aCons (eC (.str ("[" : Str))) (aCons (eC (.str ("(" : Str))) aNil))))) (sRet (eC .none)) sNext)
 (sSeq (sAsgL 2 (aCons (e2 ixD (eVarF 3) (eC (.int 0))) aNil))
 (sAsg (gN 3) (eSl slD (eVarF 3) (oSome (eC (.int 1))) oNone)))) sNext)
 (sSeq (sAsg (gN 4) (eBool (eOr (eAnd (e2 eqD (eSl slD (eVarF 3) (oSome (e1 negD (eC (.int 1)))) oNone) (eC (.str ("]" : Str)))) (e2 eqD (e2 ixD (eVar 2) (eC (.int 0))) (eC (.str ("[" : Str))))) (eAnd (e2 eqD (eSl slD (eVarF 3) (oSome (e1 negD (eC (.int 1)))) oNone) (eC (.str (")" : Str)))) (e2 eqD (e2 ixD (eVar 2) (eC (.int 0))) (eC (.str ("(" : Str))))))))
 (sSeq (sIf (tE (eVarF 4)) (sAsg (gN 3) (eSl slD (eVarF 3) oNone (oSome (e1 negD (eC (.int 1)))))) sNext)
 (sSeq (sAsg (gN 5) (eCall f__law_stave (aCons (eVarF 3) aNil)))
 (sSeq (sIf (tE (e2 isD (eVarF 5) (eC .none))) (sRet (eC .none)) sNext)
 (sSeq (sMut 2 appM (aCons (eVarF 5) aNil))
 (sIf (tE (eVarF 4)) (sSeq (sFrz 2 (sMut 1 appM (aCons (eVarF 2) aNil)))
 (sAsg (gN 2) (eC .none))) sNext)))))))
noncomputable def g__law_read_chains : MS :=
 (sSeq (sAsgL 1 aNil)
 (sSeq (sAsg (gN 2) (eC .none))
 (sSeq (sFor (iE (eL (eM1L splitD (eVarF 0) (eC (.str (" " : Str)))))) (gN 3) b1__law_read_chains)
 (sSeq (sFrz 2 (sIf (tE (e2 isnD (eVarF 2) (eC .none))) (sRet (eC .none)) sNext))
 (sFrz 1 (sRet (eVarF 1)))))))
noncomputable def f__law_read_chains : List D → M D := mFn 1 6 g__law_read_chains
section
variable {P : Program} {w : World} {K : PySem.W.Frag} {mg : Str → Option Value} {base : Heap}
theorem ok__law_read_chains (T : Txt K mg) (dd : DefAt K mg "_law_read_chains" s__law_read_chains) (c__law_stave : FnAt P w K mg base "_law_stave" P__law_stave 1 f__law_stave) : FnAt P w K mg base "_law_read_chains" P__law_read_chains 2 f__law_read_chains := by
  obtain ⟨a__law_stave, fd__law_stave, m__law_stave, kp__law_stave, b__law_stave, G__law_stave⟩ := c__law_stave
  refine fn_at (N := N__law_read_chains) (g := g__law_read_chains) dd sc__law_read_chains (fun _ _ _ _ _ _ us hl => match us, hl with | [_], _ => rfl) ?_
  intro f cdv A outer s H E hr
  refine ⟨_, (pss_cons (ps_set (i := 1) sc__law_read_chains.nd rfl (Or.inl rfl) (pe_lst pa_nil))
     (pss_cons (ps_set (i := 2) sc__law_read_chains.nd rfl (Or.inl rfl) pe_non)
     (pss_cons (ps_for (passes_of rfl) rfl (pi_sqK (K := K) (pe_splitK (pv 0) pe_str)) (pg_name (i := 3) sc__law_read_chains.nd rfl (Or.inl rfl)) (pss_cons (ps_if (pt_cmpR op_isU (pv 2) pe_non (nomark _)) (pss_cons (ps_if (pt_cmpR (kNin (K := K) (hu65 hr)) (pe_slice (kSl (K := K)) (pv 3) po_none (po_some pe_int)) (pe_lst (pa_cons pe_str (pa_cons pe_str pa_nil))) (by rfl)) (pss_one (ps_ret pe_non)) pss_nil)
     (pss_cons (ps_set (i := 2) sc__law_read_chains.nd rfl (Or.inl rfl) (pe_lst (pa_cons (pe_ix (kIx (K := K)) (pv 3) pe_int (fun _ _ => rfl)) pa_nil)))
     (pss_one (ps_set (i := 3) sc__law_read_chains.nd rfl (Or.inl rfl) (pe_slice (kSl (K := K)) (pv 3) (po_some pe_int) po_none))))) pss_nil)
     (pss_cons (ps_set (i := 4) sc__law_read_chains.nd rfl (Or.inl rfl) (pe_or (pe_and (pe_cmpR (kEq (K := K) (hu64 hr)) (pe_slice (kSl (K := K)) (pv 3) (po_some (pe_un un_neg pe_int)) po_none) pe_str (nomark _)) (pe_one (pe_cmpR (kEq (K := K) (hu64 hr)) (pe_ix (kIx (K := K)) (pv 2) pe_int (fun _ _ => rfl)) pe_str (nomark _)))) (pe_one (pe_and (pe_cmpR (kEq (K := K) (hu64 hr)) (pe_slice (kSl (K := K)) (pv 3) (po_some (pe_un un_neg pe_int)) po_none) pe_str (nomark _)) (pe_one (pe_cmpR (kEq (K := K) (hu64 hr)) (pe_ix (kIx (K := K)) (pv 2) pe_int (fun _ _ => rfl)) pe_str (nomark _)))))))
     (pss_cons (ps_if (pt_val (pv 4)) (pss_one (ps_set (i := 3) sc__law_read_chains.nd rfl (Or.inl rfl) (pe_slice (kSl (K := K)) (pv 3) po_none (po_some (pe_un un_neg pe_int))))) pss_nil)
     (pss_cons (ps_set (i := 5) sc__law_read_chains.nd rfl (Or.inl rfl) (pe_callS G__law_stave (hr.mono (by decide)) (by rfl) m__law_stave kp__law_stave b__law_stave (fun σ => passAt (takes_of rfl rfl rfl rfl) σ) (pa_cons (pv 3) pa_nil)))
     (pss_cons (ps_if (pt_cmpR op_isU (pv 5) pe_non (nomark _)) (pss_one (ps_ret pe_non)) pss_nil)
     (pss_cons (ps_expr (bmK (K := K) (pe_bm PySem.F.plainAttrs_list PySem.F.slot_list_append PySem.F.type_list_append mt_append (pv 2) (pa_cons (pv 5) pa_nil))))
     (pss_one (ps_if (pt_val (pv 4)) (pss_cons (ps_expr (bmK (K := K) (pe_bm PySem.F.plainAttrs_list PySem.F.slot_list_append PySem.F.type_list_append mt_append (pv 1) (pa_cons (pv 2) pa_nil))))
     (pss_one (ps_set (i := 2) sc__law_read_chains.nd rfl (Or.inl rfl) pe_non))) pss_nil)))))))))
     (pss_cons (ps_if (pt_cmpR op_isnU (pv 2) pe_non (nomark _)) (pss_one (ps_ret pe_non)) pss_nil)
     (pss_one (ps_ret (pv 1))))))), ?_⟩
  exact fun L => (ds_seq (ds_asgL (i := 1) (dl_lst daf_nil few_nil))
     (ds_seq (ds_asg df_non (dg_name (i := 2)))
     (ds_seq (ds_for (di_sq (DL.fz (dl_m1 rs_split (DF.e (df_var (i := 0))) (DF.e (df_str (x := (" " : Str))))))) (dg_name (i := 3)) (ds_seq (ds_if (dt_test (DF.e (df_op rd_is (de_var (i := 2)) (DF.e df_non)))) (ds_seq (ds_if (dt_test (DF.e (df_op rd_ninLS (DF.e (df_sl rs_sl (DF.e (df_var (i := 3))) do_none (do_some (DF.e (df_int (i := 1)))))) (DF.e (DL.fz (dl_lst (daf_cons (df_str (x := ("[" : Str))) (daf_cons (df_str (x := ("(" : Str))) daf_nil)) (few_cons (few_cons few_nil)))))))) (ds_ret df_non) ds_next)
     (ds_seq (ds_asgL (i := 2) (dl_lst (daf_cons (df_op rd_ix (DF.e (df_var (i := 3))) (DF.e (df_int (i := 0)))) daf_nil) (few_cons few_nil)))
     (ds_asg (df_sl rs_sl (DF.e (df_var (i := 3))) (do_some (DF.e (df_int (i := 1)))) do_none) (dg_name (i := 3))))) ds_next)
     (ds_seq (ds_asg (df_ofE_bool (de_or (de_and (DF.e (df_op rd_eq (DF.e (df_sl rs_sl (DF.e (df_var (i := 3))) (do_some (DF.e (df_un rd_neg (DF.e (df_int (i := 1)))))) do_none)) (DF.e (df_str (x := ("]" : Str)))))) (DF.e (df_op rd_eq (DF.e (df_op rd_ix (de_var (i := 2)) (DF.e (df_int (i := 0))))) (DF.e (df_str (x := ("[" : Str))))))) (de_and (DF.e (df_op rd_eq (DF.e (df_sl rs_sl (DF.e (df_var (i := 3))) (do_some (DF.e (df_un rd_neg (DF.e (df_int (i := 1)))))) do_none)) (DF.e (df_str (x := (")" : Str)))))) (DF.e (df_op rd_eq (DF.e (df_op rd_ix (de_var (i := 2)) (DF.e (df_int (i := 0))))) (DF.e (df_str (x := ("(" : Str))))))))) (dg_name (i := 4)))
     (ds_seq (ds_if (dt_B (DF.e (df_var (i := 4)))) (ds_asg (df_sl rs_sl (DF.e (df_var (i := 3))) do_none (do_some (DF.e (df_un rd_neg (DF.e (df_int (i := 1))))))) (dg_name (i := 3))) ds_next)
     (ds_seq (ds_asg (df_call (daf_cons (df_var (i := 3)) daf_nil)) (dg_name (i := 5)))
     (ds_seq (ds_if (dt_test (DF.e (df_op rd_is (DF.e (df_var (i := 5))) (DF.e df_non)))) (ds_ret df_non) ds_next)
     (ds_seq (ds_mut (i := 2) rm_append (daf_cons (df_var (i := 5)) daf_nil))
     (ds_if (dt_B (DF.e (df_var (i := 4)))) (ds_seq (ds_frz (i := 2) (ds_mut (i := 1) rm_append (daf_cons (df_var (i := 2)) daf_nil)))
     (ds_asg df_non (dg_name (i := 2)))) ds_next))))))))
     (ds_seq (ds_frz (i := 2) (ds_if (dt_test (DF.e (df_op rd_isn (DF.e (df_var (i := 2))) (DF.e df_non)))) (ds_ret df_non) ds_next))
     (ds_frz (i := 1) (ds_ret (df_var (i := 1))))))))
end
abbrev s__law_read : Stmt := topS 32
abbrev N__law_read : List Str := ["text", "found", "staves", "chain", "mates", "k", "last", "end"]
abbrev P__law_read : List Str := ["text"]
theorem sc__law_read : FnScope N__law_read P__law_read (defScope s__law_read) := ⟨rfl, rfl, rfl, by decide +kernel, rfl, by decide +kernel, by decide +kernel⟩
noncomputable def b1__law_read : MS :=
 (sMut 2 extM (aCons (eL (eLc (iE (eSl slD (eVarF 3) (oSome (eC (.int 1))) oNone)) (gN 7) tYesF (e2 divD (eVarF 7) (eC (.int 2))) [7])) aNil))
noncomputable def b2__law_read : MS :=
 (sSeq (sAsg (gN 6) (eIf (tE (e2 gtD (eVarF 5) (eC (.int 1)))) (eCall f__law_far (aCons (e2 ixD (eVarF 3) (e2 subD (eVarF 5) (eC (.int 1)))) aNil)) (eCall f__law_far (aCons (e2 ixD (eVarF 3) (e1 negD (eC (.int 1)))) aNil))))
 (sIf (tO (tE (e2 gtD (eVarF 5) (eC (.int 1)))) (tE (e2 eqD (e2 ixD (eVarF 3) (eC (.int 0))) (eC (.str ("(" : Str)))))) (sSeq (sSet 4 (eVarF 6) (e2 ixD (eVarF 3) (eVarF 5)))
 (sSet 4 (e2 ixD (eVarF 3) (eVarF 5)) (eVarF 6))) sNext))
noncomputable def b3__law_read : MS :=
 (sFor (iR2 (aCons (eC (.int 1)) (aCons (eB lenD (aCons (eVarF 3) aNil)) aNil))) (gN 5) b2__law_read)
noncomputable def g__law_read : MS :=
 (sSeq (sIf (tE (e2 eqD (eVarF 0) (eC (.str ("." : Str))))) (sRet (eL aNil)) sNext)
 (sSeq (sAsg (gN 1) (eCall f__law_read_chains (aCons (eVarF 0) aNil)))
 (sSeq (sIf (tE (e2 isD (eVarF 1) (eC .none))) (sRet (eC .none)) sNext)
 (sSeq (sAsgL 2 aNil)
 (sSeq (sFor (iE (eVarF 1)) (gN 3) b1__law_read)
 (sSeq (sFrz 2 (sIf (tO (tE (e2 gtD (eB lenD (aCons (eVarF 2) aNil)) (eC (.int 40)))) (tE (e2 neD (eL (eBL sortUD (aCons (eVarF 2) aNil))) (eL (eRg1 (eB lenD (aCons (eVarF 2) aNil))))))) (sRet (eC .none)) sNext))
 (sSeq (sFrz 2 (sAsgL 4 (eRg1 (e2 mulD (eC (.int 2)) (eB lenD (aCons (eVarF 2) aNil))))))
 (sSeq (sFor (iE (eVarF 1)) (gN 3) b3__law_read)
 (sFrz 4 (sRet (eVarF 4)))))))))))
noncomputable def f__law_read : List D → M D := mFn 1 8 g__law_read
section
variable {P : Program} {w : World} {K : PySem.W.Frag} {mg : Str → Option Value} {base : Heap}
theorem ok__law_read (T : Txt K mg) (dd : DefAt K mg "_law_read" s__law_read) (c__law_far : FnAt P w K mg base "_law_far" P__law_far 1 f__law_far) (c__law_read_chains : FnAt P w K mg base "_law_read_chains" P__law_read_chains 2 f__law_read_chains) : FnAt P w K mg base "_law_read" P__law_read 3 f__law_read := by
  obtain ⟨a__law_far, fd__law_far, m__law_far, kp__law_far, b__law_far, G__law_far⟩ := c__law_far
  obtain ⟨a__law_read_chains, fd__law_read_chains, m__law_read_chains, kp__law_read_chains, b__law_read_chains, G__law_read_chains⟩ := c__law_read_chains
  refine fn_at (N := N__law_read) (g := g__law_read) dd sc__law_read (fun _ _ _ _ _ _ us hl => match us, hl with | [_], _ => rfl) ?_
  intro f cdv A outer s H E hr
  refine ⟨_, (pss_cons (ps_if (pt_cmpR (kEq (K := K) (hu64 hr)) (pv 0) pe_str (nomark _)) (pss_one (ps_ret (pe_lst pa_nil))) pss_nil)
     (pss_cons (ps_set (i := 1) sc__law_read.nd rfl (Or.inl rfl) (pe_callS G__law_read_chains (hr.mono (by decide)) (by rfl) m__law_read_chains kp__law_read_chains b__law_read_chains (fun σ => passAt (takes_of rfl rfl rfl rfl) σ) (pa_cons (pv 0) pa_nil)))
     (pss_cons (ps_if (pt_cmpR op_isU (pv 1) pe_non (nomark _)) (pss_one (ps_ret pe_non)) pss_nil)
     (pss_cons (ps_set (i := 2) sc__law_read.nd rfl (Or.inl rfl) (pe_lst pa_nil))
     (pss_cons (ps_for (passes_of rfl) rfl (pi_sqK (K := K) (pv 1)) (pg_name (i := 3) sc__law_read.nd rfl (Or.inl rfl)) (pss_one (ps_expr (bmK (K := K) (pe_bm PySem.F.plainAttrs_list PySem.F.slot_list_extend PySem.F.type_list_extend mt_extend (pv 2) (pa_cons (pe_lc (own := [("end", 7)]) (by rfl) sc__law_read.nd (pi_sqK (K := K) (pe_slice (kSl (K := K)) (pv 3) (po_some pe_int) po_none)) (blkOk_by (own := [("end", 7)]) (N := N__law_read) (sc := defScope s__law_read) (by decide +kernel)) (fun _ _ _ _ _ => (pg_name (i := 7) sc__law_read.nd rfl (Or.inl rfl))) (fun _ _ _ _ _ => pts_nil) (fun _ _ _ _ _ => (pe_op op_fdivW (pv 7) pe_int))) pa_nil))))))
     (pss_cons (ps_if (PW.pt (pw_or (pt_cmpR op_gt (pe_callB (kLen (K := K)) (by rfl) T.b_len boot_len (pa_cons (pv 2) pa_nil)) pe_int (nomark _)) (pw_or1 (pt_cmpR (kNe (K := K) (hu64 hr)) (pe_callB (kSortU (K := K)) (by rfl) T.b_sorted boot_sorted (pa_cons (pv 2) pa_nil)) (pe_listRg rfl (by rfl) T.b_list (prg_1 (by rfl) T.b_range (pe_callB (kLen (K := K)) (by rfl) T.b_len boot_len (pa_cons (pv 2) pa_nil)))) (nomark _))))) (pss_one (ps_ret pe_non)) pss_nil)
     (pss_cons (ps_set (i := 4) sc__law_read.nd rfl (Or.inl rfl) (pe_listRg rfl (by rfl) T.b_list (prg_1 (by rfl) T.b_range (pe_op op_mulU pe_int (pe_callB (kLen (K := K)) (by rfl) T.b_len boot_len (pa_cons (pv 2) pa_nil))))))
     (pss_cons (ps_for (passes_of rfl) rfl (pi_sqK (K := K) (pv 1)) (pg_name (i := 3) sc__law_read.nd rfl (Or.inl rfl)) (pss_one (ps_for (passes_of rfl) rfl (pi_range2 (by rfl) T.b_range (pa_cons pe_int (pa_cons (pe_callB (kLen (K := K)) (by rfl) T.b_len boot_len (pa_cons (pv 3) pa_nil)) pa_nil))) (pg_name (i := 5) sc__law_read.nd rfl (Or.inl rfl)) (pss_cons (ps_set (i := 6) sc__law_read.nd rfl (Or.inl rfl) (pe_ifExp (pt_cmpR op_gt (pv 5) pe_int (nomark _)) (pe_callS G__law_far (hr.mono (by decide)) (by rfl) m__law_far kp__law_far b__law_far (fun σ => passAt (takes_of rfl rfl rfl rfl) σ) (pa_cons (pe_ix (kIx (K := K)) (pv 3) (pe_op op_sub (pv 5) pe_int) (fun _ _ => rfl)) pa_nil)) (pe_callS G__law_far (hr.mono (by decide)) (by rfl) m__law_far kp__law_far b__law_far (fun σ => passAt (takes_of rfl rfl rfl rfl) σ) (pa_cons (pe_ix (kIx (K := K)) (pv 3) (pe_un un_neg pe_int) (fun _ _ => rfl)) pa_nil))))
     (pss_one (ps_if (PW.pt (pw_or (pt_cmpR op_gt (pv 5) pe_int (nomark _)) (pw_or1 (pt_cmpR (kEq (K := K) (hu64 hr)) (pe_ix (kIx (K := K)) (pv 3) pe_int (fun _ _ => rfl)) pe_str (nomark _))))) (pss_cons (ps_asg (pe_ix (kIx (K := K)) (pv 3) (pv 5) (fun _ _ => rfl)) (pg_sub (pv 4) (pv 6) set_list))
     (pss_one (ps_asg (pv 6) (pg_sub (pv 4) (pe_ix (kIx (K := K)) (pv 3) (pv 5) (fun _ _ => rfl)) set_list)))) pss_nil))))))
     (pss_one (ps_ret (pv 4))))))))))), ?_⟩
  exact fun L => (ds_seq (ds_if (dt_test (DF.e (df_op rd_eq (DF.e (df_var (i := 0))) (DF.e (df_str (x := ("." : Str))))))) (ds_ret (DL.fz (dl_lst daf_nil few_nil))) ds_next)
     (ds_seq (ds_asg (df_call (daf_cons (df_var (i := 0)) daf_nil)) (dg_name (i := 1)))
     (ds_seq (ds_if (dt_test (DF.e (df_op rd_is (DF.e (df_var (i := 1))) (DF.e df_non)))) (ds_ret df_non) ds_next)
     (ds_seq (ds_asgL (i := 2) (dl_lst daf_nil few_nil))
     (ds_seq (ds_for (di_sq (df_var (i := 1))) (dg_name (i := 3)) (ds_mut (i := 2) rm_extend (daf_cons (DL.fz (dl_lc (vs := [7]) (dib_sq (DF.e (df_sl rs_sl (DF.e (df_var (i := 3))) (do_some (DF.e (df_int (i := 1)))) do_none))) (dg_name (i := 7)) (by decide) dt_yes (df_op rd_div (DF.e (df_var (i := 7))) (DF.e (df_int (i := 2)))))) daf_nil)))
     (ds_seq (ds_frz (i := 2) (ds_if (dt_or (dt_test (DF.e (df_op rd_cmp (DF.e (df_B rc_len (da_cons (DF.e (df_var (i := 2))) da_nil))) (DF.e (df_int (i := 40)))))) (dt_test (DF.e (df_op rd_ne (DF.e (DL.fz (dl_B rc_sortU (da_cons (DF.e (df_var (i := 2))) da_nil)))) (DF.e (DL.fz (dl_rg1 (DF.e (df_B rc_len (da_cons (DF.e (df_var (i := 2))) da_nil)))))))))) (ds_ret df_non) ds_next))
     (ds_seq (ds_frz (i := 2) (ds_asgL (i := 4) (dl_rg1 (DF.e (df_op rd_mul (DF.e (df_int (i := 2))) (DF.e (df_B rc_len (da_cons (DF.e (df_var (i := 2))) da_nil))))))))
     (ds_seq (ds_for (di_sq (df_var (i := 1))) (dg_name (i := 3)) (ds_for (di_rng2 (da_cons (DF.e (df_int (i := 1))) (da_cons (DF.e (df_B rc_len (da_cons (DF.e (df_var (i := 3))) da_nil))) da_nil))) (dg_name (i := 5)) (ds_seq (ds_asg (df_if (dt_test (DF.e (df_op rd_cmp (DF.e (df_var (i := 5))) (DF.e (df_int (i := 1)))))) (df_call (daf_cons (df_op rd_ix (DF.e (df_var (i := 3))) (DF.e (df_op rd_sub (DF.e (df_var (i := 5))) (DF.e (df_int (i := 1)))))) daf_nil)) (df_call (daf_cons (df_op rd_ix (DF.e (df_var (i := 3))) (DF.e (df_un rd_neg (DF.e (df_int (i := 1)))))) daf_nil))) (dg_name (i := 6)))
     (ds_if (dt_or (dt_test (DF.e (df_op rd_cmp (DF.e (df_var (i := 5))) (DF.e (df_int (i := 1)))))) (dt_test (DF.e (df_op rd_eq (DF.e (df_op rd_ix (DF.e (df_var (i := 3))) (DF.e (df_int (i := 0))))) (DF.e (df_str (x := ("(" : Str)))))))) (ds_seq (ds_set (i := 4) (df_op rd_ix (DF.e (df_var (i := 3))) (DF.e (df_var (i := 5)))) (DF.e (df_var (i := 6))))
     (ds_set (i := 4) (df_var (i := 6)) (DF.e (df_op rd_ix (DF.e (df_var (i := 3))) (DF.e (df_var (i := 5))))))) ds_next))))
     (ds_frz (i := 4) (ds_ret (df_var (i := 4))))))))))))
end
abbrev s__law_staves : Stmt := topS 17
abbrev N__law_staves : List Str := ["cell"]
abbrev P__law_staves : List Str := ["cell"]
theorem sc__law_staves : FnScope N__law_staves P__law_staves (defScope s__law_staves) := ⟨rfl, rfl, rfl, by decide +kernel, rfl, by decide +kernel, by decide +kernel⟩
noncomputable def g__law_staves : MS :=
 (sSeq (sIf (tE (e2 eqD (e2 modD (e2 divD (eVarF 0) (eC (.int 9))) (eC (.int 3))) (eC (.int 1)))) (sRet (e2 modD (e2 divD (eVarF 0) (eC (.int 27))) (eC (.int 41)))) sNext)
 (sRet (e2 modD (eVarF 0) (eC (.int 9)))))
noncomputable def f__law_staves : List D → M D := mFn 1 1 g__law_staves
section
variable {P : Program} {w : World} {K : PySem.W.Frag} {mg : Str → Option Value} {base : Heap}
theorem ok__law_staves (T : Txt K mg) (dd : DefAt K mg "_law_staves" s__law_staves)  : FnAt P w K mg base "_law_staves" P__law_staves 1 f__law_staves := by
  refine fn_at (N := N__law_staves) (g := g__law_staves) dd sc__law_staves (fun _ _ _ _ _ _ us hl => match us, hl with | [_], _ => rfl) ?_
  intro f cdv A outer s H E hr
  refine ⟨_, (pss_cons (ps_if (pt_cmpR (kEq (K := K) (hu64 hr)) (pe_op op_mod (pe_op op_fdivW (pv 0) pe_int) pe_int) pe_int (nomark _)) (pss_one (ps_ret (pe_op op_mod (pe_op op_fdivW (pv 0) pe_int) pe_int))) pss_nil)
     (pss_one (ps_ret (pe_op op_mod (pv 0) pe_int)))), ?_⟩
  exact fun L => (ds_seq (ds_if (dt_test (DF.e (df_op rd_eq (DF.e (df_op rd_mod (DF.e (df_op rd_div (DF.e (df_var (i := 0))) (DF.e (df_int (i := 9))))) (DF.e (df_int (i := 3))))) (DF.e (df_int (i := 1)))))) (ds_ret (df_op rd_mod (DF.e (df_op rd_div (DF.e (df_var (i := 0))) (DF.e (df_int (i := 27))))) (DF.e (df_int (i := 41))))) ds_next)
     (ds_ret (df_op rd_mod (DF.e (df_var (i := 0))) (DF.e (df_int (i := 9))))))
end
abbrev s__law_cell_at : Stmt := topS 15
abbrev N__law_cell_at : List Str := ["script", "k"]
abbrev P__law_cell_at : List Str := ["script", "k"]
theorem sc__law_cell_at : FnScope N__law_cell_at P__law_cell_at (defScope s__law_cell_at) := ⟨rfl, rfl, rfl, by decide +kernel, rfl, by decide +kernel, by decide +kernel⟩
noncomputable def g__law_cell_at : MS :=
 (sSeq (sIf (tE (e2 ltD (eVarF 1) (eB lenD (aCons (eVarF 0) aNil)))) (sRet (e2 ixD (eVarF 0) (eVarF 1))) sNext)
 (sRet (eC (.int 0))))
noncomputable def f__law_cell_at : List D → M D := mFn 2 2 g__law_cell_at
section
variable {P : Program} {w : World} {K : PySem.W.Frag} {mg : Str → Option Value} {base : Heap}
theorem ok__law_cell_at (T : Txt K mg) (dd : DefAt K mg "_law_cell_at" s__law_cell_at)  : FnAt P w K mg base "_law_cell_at" P__law_cell_at 1 f__law_cell_at := by
  refine fn_at (N := N__law_cell_at) (g := g__law_cell_at) dd sc__law_cell_at (fun _ _ _ _ _ _ us hl => match us, hl with | [_, _], _ => rfl) ?_
  intro f cdv A outer s H E hr
  refine ⟨_, (pss_cons (ps_if (pt_cmpR op_lt (pv 1) (pe_callB (kLen (K := K)) (by rfl) T.b_len boot_len (pa_cons (pv 0) pa_nil)) (nomark _)) (pss_one (ps_ret (pe_ix (kIx (K := K)) (pv 0) (pv 1) (fun _ _ => rfl)))) pss_nil)
     (pss_one (ps_ret pe_int))), ?_⟩
  exact fun L => (ds_seq (ds_if (dt_test (DF.e (df_op rd_cmp (DF.e (df_var (i := 1))) (DF.e (df_B rc_len (da_cons (DF.e (df_var (i := 0))) da_nil)))))) (ds_ret (df_op rd_ix (DF.e (df_var (i := 0))) (DF.e (df_var (i := 1))))) ds_next)
     (ds_ret (df_int (i := 0))))
end
abbrev s_work_by : Stmt := topS 7
abbrev N_work_by : List Str := ["staves", "clasps", "size", "mates", "one", "other"]
abbrev P_work_by : List Str := ["staves", "clasps"]
theorem sc_work_by : FnScope N_work_by P_work_by (defScope s_work_by) := ⟨rfl, rfl, rfl, by decide +kernel, rfl, by decide +kernel, by decide +kernel⟩
noncomputable def b1_work_by : MS :=
 (sSeq (sIf (tO (tE (e2 ltD (eVarF 4) (eC (.int 0)))) (tO (tE (e2 geD (eVarF 4) (eVarF 2))) (tO (tE (e2 ltD (eVarF 5) (eC (.int 0)))) (tO (tE (e2 geD (eVarF 5) (eVarF 2))) (tE (e2 eqD (eVarF 4) (eVarF 5))))))) (sRaise "BadWork") sNext)
 (sSeq (sIf (tO (tE (e2 neD (e2 ixD (eVar 3) (eVarF 4)) (eVarF 4))) (tE (e2 neD (e2 ixD (eVar 3) (eVarF 5)) (eVarF 5)))) (sRaise "BadWork") sNext)
 (sSeq (sSet 3 (eVarF 4) (eVarF 5))
 (sSet 3 (eVarF 5) (eVarF 4)))))
noncomputable def g_work_by : MS :=
 (sSeq (sAsg (gN 2) (e2 mulD (eC (.int 2)) (eVarF 0)))
 (sSeq (sAsgL 3 (eRg1 (eVarF 2)))
 (sSeq (sFor (iE (eVarF 1)) (gT (gC (gN 4) (gC (gN 5) gNil'))) b1_work_by)
 (sFrz 3 (sRet (eB tupleD (aCons (eVarF 3) aNil)))))))
noncomputable def f_work_by : List D → M D := mFn 2 6 g_work_by
section
variable {P : Program} {w : World} {K : PySem.W.Frag} {mg : Str → Option Value} {base : Heap}
theorem ok_work_by (T : Txt K mg) (dd : DefAt K mg "work_by" s_work_by)  : FnAtN P w K mg base "work_by" P_work_by 1 f_work_by := by
  obtain ⟨C_BadWork, X_BadWork⟩ := T.e_BadWork
  refine fn_atN (N := N_work_by) (g := g_work_by) dd sc_work_by (fun _ _ _ _ _ _ us hl => match us, hl with | [_, _], _ => rfl) ?_
  intro f cdv A outer s H E hr
  refine ⟨_, (pss_cons (ps_set (i := 2) sc_work_by.nd rfl (Or.inl rfl) (pe_op op_mulU pe_int (pv 0)))
     (pss_cons (ps_set (i := 3) sc_work_by.nd rfl (Or.inl rfl) (pe_listRg rfl (by rfl) T.b_list (prg_1 (by rfl) T.b_range (pv 2))))
     (pss_cons (ps_for (passes_of rfl) rfl (pi_sqK (K := K) (pv 1)) (pg_tupK (K := K) (n := 2) rfl (pgs_cons (pg_name (i := 4) sc_work_by.nd rfl (Or.inl rfl)) (pgs_cons (pg_name (i := 5) sc_work_by.nd rfl (Or.inl rfl)) pgs_nil))) (pss_cons (ps_if (PW.pt (pw_or (pt_cmpR op_lt (pv 4) pe_int (nomark _)) (pw_or (pt_cmpR op_ge (pv 4) (pv 2) (nomark _)) (pw_or (pt_cmpR op_lt (pv 5) pe_int (nomark _)) (pw_or (pt_cmpR op_ge (pv 5) (pv 2) (nomark _)) (pw_or1 (pt_cmpR (kEq (K := K) (hu64 hr)) (pv 4) (pv 5) (nomark _)))))))) (pss_one (L2N.ps_raise rfl (L2N.takes_of rfl rfl rfl rfl) (L2N.pmk_own PySem.F.excBase_ValueError X_BadWork.e X_BadWork.g X_BadWork.k (raises_own X_BadWork.b X_BadWork.t) (by exact rfl)))) pss_nil)
     (pss_cons (ps_if (PW.pt (pw_or (pt_cmpR (kNe (K := K) (hu64 hr)) (pe_ix (kIx (K := K)) (pv 3) (pv 4) (fun _ _ => rfl)) (pv 4) (nomark _)) (pw_or1 (pt_cmpR (kNe (K := K) (hu64 hr)) (pe_ix (kIx (K := K)) (pv 3) (pv 5) (fun _ _ => rfl)) (pv 5) (nomark _))))) (pss_one (L2N.ps_raise rfl (L2N.takes_of rfl rfl rfl rfl) (L2N.pmk_own PySem.F.excBase_ValueError X_BadWork.e X_BadWork.g X_BadWork.k (raises_own X_BadWork.b X_BadWork.t) (by exact rfl)))) pss_nil)
     (pss_cons (ps_asg (pv 5) (pg_sub (pv 3) (pv 4) set_list))
     (pss_one (ps_asg (pv 4) (pg_sub (pv 3) (pv 5) set_list)))))))
     (pss_one (ps_ret (pe_callTy (kTuple (K := K)) (by rfl) T.b_tuple boot_tuple (pa_cons (pv 3) pa_nil))))))), ?_⟩
  exact fun L => (ds_seq (ds_asg (df_op rd_mul (DF.e (df_int (i := 2))) (DF.e (df_var (i := 0)))) (dg_name (i := 2)))
     (ds_seq (ds_asgL (i := 3) (dl_rg1 (DF.e (df_var (i := 2)))))
     (ds_seq (ds_for (di_sq (df_var (i := 1))) (dg_tup (dgs_cons (dg_name (i := 4)) (dgs_cons (dg_name (i := 5)) dgs_nil)) (gC_len (gC_len (fun _ _ _ h => gnil_len h)))) (ds_seq (ds_if (dt_or (dt_test (DF.e (df_op rd_cmp (DF.e (df_var (i := 4))) (DF.e (df_int (i := 0)))))) (dt_or (dt_test (DF.e (df_op rd_cmp (DF.e (df_var (i := 4))) (DF.e (df_var (i := 2)))))) (dt_or (dt_test (DF.e (df_op rd_cmp (DF.e (df_var (i := 5))) (DF.e (df_int (i := 0)))))) (dt_or (dt_test (DF.e (df_op rd_cmp (DF.e (df_var (i := 5))) (DF.e (df_var (i := 2)))))) (dt_test (DF.e (df_op rd_eq (DF.e (df_var (i := 4))) (DF.e (df_var (i := 5)))))))))) (ds_raise X_BadWork.g) ds_next)
     (ds_seq (ds_if (dt_or (dt_test (DF.e (df_op rd_ne (DF.e (df_op rd_ix (de_var (i := 3)) (DF.e (df_var (i := 4))))) (DF.e (df_var (i := 4)))))) (dt_test (DF.e (df_op rd_ne (DF.e (df_op rd_ix (de_var (i := 3)) (DF.e (df_var (i := 5))))) (DF.e (df_var (i := 5))))))) (ds_raise X_BadWork.g) ds_next)
     (ds_seq (ds_set (i := 3) (df_var (i := 5)) (DF.e (df_var (i := 4))))
     (ds_set (i := 3) (df_var (i := 4)) (DF.e (df_var (i := 5))))))))
     (ds_frz (i := 3) (ds_ret (df_B rc_tuple (da_cons (DF.e (df_var (i := 3))) da_nil)))))))
end
abbrev s_far_end : Stmt := topS 6
abbrev N_far_end : List Str := ["end"]
abbrev P_far_end : List Str := ["end"]
theorem sc_far_end : FnScope N_far_end P_far_end (defScope s_far_end) := ⟨rfl, rfl, rfl, by decide +kernel, rfl, by decide +kernel, by decide +kernel⟩
noncomputable def g_far_end : MS :=
 (sRet (e2 subD (e2 addD (eVarF 0) (eC (.int 1))) (e2 mulD (eC (.int 2)) (e2 modD (eVarF 0) (eC (.int 2))))))
noncomputable def f_far_end : List D → M D := mFn 1 1 g_far_end
section
variable {P : Program} {w : World} {K : PySem.W.Frag} {mg : Str → Option Value} {base : Heap}
theorem ok_far_end (T : Txt K mg) (dd : DefAt K mg "far_end" s_far_end)  : FnAtN P w K mg base "far_end" P_far_end 1 f_far_end := by
  refine fn_atN (N := N_far_end) (g := g_far_end) dd sc_far_end (fun _ _ _ _ _ _ us hl => match us, hl with | [_], _ => rfl) ?_
  intro f cdv A outer s H E hr
  refine ⟨_, (pss_one (ps_ret (pe_op op_sub (pe_op (kAdd (K := K)) (pv 0) pe_int) (pe_op op_mulU pe_int (pe_op op_mod (pv 0) pe_int))))), ?_⟩
  exact fun L => (ds_ret (df_op rd_sub (DF.e (df_op rd_add (DF.e (df_var (i := 0))) (DF.e (df_int (i := 1))))) (DF.e (df_op rd_mul (DF.e (df_int (i := 2))) (DF.e (df_op rd_mod (DF.e (df_var (i := 0))) (DF.e (df_int (i := 2)))))))))
end
abbrev s_work_from : Stmt := topS 9
abbrev N_work_from : List Str := ["rows", "rings", "clasps", "staves", "chain", "ring", "end", "k"]
abbrev P_work_from : List Str := ["rows", "rings"]
theorem sc_work_from : FnScope N_work_from P_work_from (defScope s_work_from) := ⟨rfl, rfl, rfl, by decide +kernel, rfl, by decide +kernel, by decide +kernel⟩
noncomputable def b1_work_from : MS :=
 (sMut 3 appM (aCons (e2 divD (eVarF 6) (eC (.int 2))) aNil))
noncomputable def b2_work_from : MS :=
 (sMut 2 appM (aCons (eTup (aCons (eCall f_far_end (aCons (e2 ixD (eVarF 4) (e2 subD (eVarF 7) (eC (.int 1)))) aNil)) (aCons (e2 ixD (eVarF 4) (eVarF 7)) aNil))) aNil))
noncomputable def b3_work_from : MS :=
 (sSeq (sIf (tE (e2 eqD (eB lenD (aCons (eVarF 4) aNil)) (eC (.int 0)))) (sRaise "BadWork") sNext)
 (sSeq (sFor (iE (eVarF 4)) (gN 6) b1_work_from)
 (sFor (iR2 (aCons (eC (.int 1)) (aCons (eB lenD (aCons (eVarF 4) aNil)) aNil))) (gN 7) b2_work_from)))
noncomputable def b4_work_from : MS :=
 (sMut 2 appM (aCons (eTup (aCons (eCall f_far_end (aCons (e2 ixD (eVarF 5) (e1 negD (eC (.int 1)))) aNil)) (aCons (e2 ixD (eVarF 5) (eC (.int 0))) aNil))) aNil))
noncomputable def g_work_from : MS :=
 (sSeq (sAsgL 2 aNil)
 (sSeq (sAsgL 3 aNil)
 (sSeq (sFor (iE (e2 addD (eL (eBL listD (aCons (eVarF 0) aNil))) (eL (eBL listD (aCons (eVarF 1) aNil))))) (gN 4) b3_work_from)
 (sSeq (sFrz 3 (sIf (tO (tE (e2 gtD (eB lenD (aCons (eVarF 3) aNil)) (eC (.int 40)))) (tE (e2 neD (eL (eBL sortUD (aCons (eVarF 3) aNil))) (eL (eRg1 (eB lenD (aCons (eVarF 3) aNil))))))) (sRaise "BadWork") sNext))
 (sSeq (sFor (iE (eVarF 1)) (gN 5) b4_work_from)
 (sFrz 3 (sFrz 2 (sRet (eCall f_work_by (aCons (eB lenD (aCons (eVarF 3) aNil)) (aCons (eVarF 2) aNil)))))))))))
noncomputable def f_work_from : List D → M D := mFn 2 8 g_work_from
section
variable {P : Program} {w : World} {K : PySem.W.Frag} {mg : Str → Option Value} {base : Heap}
theorem ok_work_from (T : Txt K mg) (dd : DefAt K mg "work_from" s_work_from) (c_far_end : FnAtN P w K mg base "far_end" P_far_end 1 f_far_end) (c_work_by : FnAtN P w K mg base "work_by" P_work_by 1 f_work_by) : FnAtN P w K mg base "work_from" P_work_from 2 f_work_from := by
  obtain ⟨a_far_end, fd_far_end, m_far_end, kp_far_end, b_far_end, G_far_end⟩ := c_far_end
  obtain ⟨a_work_by, fd_work_by, m_work_by, kp_work_by, b_work_by, G_work_by⟩ := c_work_by
  obtain ⟨tc_MOST_STAVES, gc_MOST_STAVES⟩ := T.c_MOST_STAVES
  obtain ⟨C_BadWork, X_BadWork⟩ := T.e_BadWork
  refine fn_atN (N := N_work_from) (g := g_work_from) dd sc_work_from (fun _ _ _ _ _ _ us hl => match us, hl with | [_, _], _ => rfl) ?_
  intro f cdv A outer s H E hr
  refine ⟨_, (pss_cons (ps_set (i := 2) sc_work_from.nd rfl (Or.inl rfl) (pe_lst pa_nil))
     (pss_cons (ps_set (i := 3) sc_work_from.nd rfl (Or.inl rfl) (pe_lst pa_nil))
     (pss_cons (ps_for (passes_of rfl) rfl (pi_sqK (K := K) (pe_op (kAdd (K := K)) (pe_callTy (kList (K := K)) (by rfl) T.b_list boot_list (pa_cons (pv 0) pa_nil)) (pe_callTy (kList (K := K)) (by rfl) T.b_list boot_list (pa_cons (pv 1) pa_nil)))) (pg_name (i := 4) sc_work_from.nd rfl (Or.inl rfl)) (pss_cons (ps_if (pt_cmpR (kEq (K := K) (hu64 hr)) (pe_callB (kLen (K := K)) (by rfl) T.b_len boot_len (pa_cons (pv 4) pa_nil)) pe_int (nomark _)) (pss_one (L2N.ps_raise rfl (L2N.takes_of rfl rfl rfl rfl) (L2N.pmk_own PySem.F.excBase_ValueError X_BadWork.e X_BadWork.g X_BadWork.k (raises_own X_BadWork.b X_BadWork.t) (by exact rfl)))) pss_nil)
     (pss_cons (ps_for (passes_of rfl) rfl (pi_sqK (K := K) (pv 4)) (pg_name (i := 6) sc_work_from.nd rfl (Or.inl rfl)) (pss_one (ps_expr (bmK (K := K) (pe_bm PySem.F.plainAttrs_list PySem.F.slot_list_append PySem.F.type_list_append mt_append (pv 3) (pa_cons (pe_op op_fdivW (pv 6) pe_int) pa_nil))))))
     (pss_one (ps_for (passes_of rfl) rfl (pi_range2 (by rfl) T.b_range (pa_cons pe_int (pa_cons (pe_callB (kLen (K := K)) (by rfl) T.b_len boot_len (pa_cons (pv 4) pa_nil)) pa_nil))) (pg_name (i := 7) sc_work_from.nd rfl (Or.inl rfl)) (pss_one (ps_expr (bmK (K := K) (pe_bm PySem.F.plainAttrs_list PySem.F.slot_list_append PySem.F.type_list_append mt_append (pv 2) (pa_cons (pe_tup (pa_cons (pe_callS G_far_end (hr.mono (by decide)) (by rfl) m_far_end kp_far_end b_far_end (fun σ => L2N.passAt (L2N.takes_of rfl rfl rfl rfl) σ) (pa_cons (pe_ix (kIx (K := K)) (pv 4) (pe_op op_sub (pv 7) pe_int) (fun _ _ => rfl)) pa_nil)) (pa_cons (pe_ix (kIx (K := K)) (pv 4) (pv 7) (fun _ _ => rfl)) pa_nil))) pa_nil))))))))))
     (pss_cons (ps_if (PW.pt (pw_or (pt_cmpR op_gt (pe_callB (kLen (K := K)) (by rfl) T.b_len boot_len (pa_cons (pv 3) pa_nil)) (pe_glob (v := .int 40) (by rfl) gc_MOST_STAVES ⟨_, rfl⟩) (nomark _)) (pw_or1 (pt_cmpR (kNe (K := K) (hu64 hr)) (pe_callB (kSortU (K := K)) (by rfl) T.b_sorted boot_sorted (pa_cons (pv 3) pa_nil)) (pe_listRg rfl (by rfl) T.b_list (prg_1 (by rfl) T.b_range (pe_callB (kLen (K := K)) (by rfl) T.b_len boot_len (pa_cons (pv 3) pa_nil)))) (nomark _))))) (pss_one (L2N.ps_raise rfl (L2N.takes_of rfl rfl rfl rfl) (L2N.pmk_own PySem.F.excBase_ValueError X_BadWork.e X_BadWork.g X_BadWork.k (raises_own X_BadWork.b X_BadWork.t) (by exact rfl)))) pss_nil)
     (pss_cons (ps_for (passes_of rfl) rfl (pi_sqK (K := K) (pv 1)) (pg_name (i := 5) sc_work_from.nd rfl (Or.inl rfl)) (pss_one (ps_expr (bmK (K := K) (pe_bm PySem.F.plainAttrs_list PySem.F.slot_list_append PySem.F.type_list_append mt_append (pv 2) (pa_cons (pe_tup (pa_cons (pe_callS G_far_end (hr.mono (by decide)) (by rfl) m_far_end kp_far_end b_far_end (fun σ => L2N.passAt (L2N.takes_of rfl rfl rfl rfl) σ) (pa_cons (pe_ix (kIx (K := K)) (pv 5) (pe_un un_neg pe_int) (fun _ _ => rfl)) pa_nil)) (pa_cons (pe_ix (kIx (K := K)) (pv 5) pe_int (fun _ _ => rfl)) pa_nil))) pa_nil))))))
     (pss_one (ps_ret (pe_callS G_work_by (hr.mono (by decide)) (by rfl) m_work_by kp_work_by b_work_by (fun σ => L2N.passAt (L2N.takes_of rfl rfl rfl rfl) σ) (pa_cons (pe_callB (kLen (K := K)) (by rfl) T.b_len boot_len (pa_cons (pv 3) pa_nil)) (pa_cons (pv 2) pa_nil)))))))))), ?_⟩
  exact fun L => (ds_seq (ds_asgL (i := 2) (dl_lst daf_nil few_nil))
     (ds_seq (ds_asgL (i := 3) (dl_lst daf_nil few_nil))
     (ds_seq (ds_for (di_sq (df_op rd_add (DF.e (DL.fz (dl_B rc_list (da_cons (DF.e (df_var (i := 0))) da_nil)))) (DF.e (DL.fz (dl_B rc_list (da_cons (DF.e (df_var (i := 1))) da_nil)))))) (dg_name (i := 4)) (ds_seq (ds_if (dt_test (DF.e (df_op rd_eq (DF.e (df_B rc_len (da_cons (DF.e (df_var (i := 4))) da_nil))) (DF.e (df_int (i := 0)))))) (ds_raise X_BadWork.g) ds_next)
     (ds_seq (ds_for (di_sq (df_var (i := 4))) (dg_name (i := 6)) (ds_mut (i := 3) rm_append (daf_cons (df_op rd_div (DF.e (df_var (i := 6))) (DF.e (df_int (i := 2)))) daf_nil)))
     (ds_for (di_rng2 (da_cons (DF.e (df_int (i := 1))) (da_cons (DF.e (df_B rc_len (da_cons (DF.e (df_var (i := 4))) da_nil))) da_nil))) (dg_name (i := 7)) (ds_mut (i := 2) rm_append (daf_cons (df_tup (daf_cons (df_call (daf_cons (df_op rd_ix (DF.e (df_var (i := 4))) (DF.e (df_op rd_sub (DF.e (df_var (i := 7))) (DF.e (df_int (i := 1)))))) daf_nil)) (daf_cons (df_op rd_ix (DF.e (df_var (i := 4))) (DF.e (df_var (i := 7)))) daf_nil)) (few_cons (few_cons few_nil))) daf_nil))))))
     (ds_seq (ds_frz (i := 3) (ds_if (dt_or (dt_test (DF.e (df_op rd_cmp (DF.e (df_B rc_len (da_cons (DF.e (df_var (i := 3))) da_nil))) (DF.e (df_int (i := 40)))))) (dt_test (DF.e (df_op rd_ne (DF.e (DL.fz (dl_B rc_sortU (da_cons (DF.e (df_var (i := 3))) da_nil)))) (DF.e (DL.fz (dl_rg1 (DF.e (df_B rc_len (da_cons (DF.e (df_var (i := 3))) da_nil)))))))))) (ds_raise X_BadWork.g) ds_next))
     (ds_seq (ds_for (di_sq (df_var (i := 1))) (dg_name (i := 5)) (ds_mut (i := 2) rm_append (daf_cons (df_tup (daf_cons (df_call (daf_cons (df_op rd_ix (DF.e (df_var (i := 5))) (DF.e (df_un rd_neg (DF.e (df_int (i := 1)))))) daf_nil)) (daf_cons (df_op rd_ix (DF.e (df_var (i := 5))) (DF.e (df_int (i := 0)))) daf_nil)) (few_cons (few_cons few_nil))) daf_nil)))
     (ds_frz (i := 3) (ds_frz (i := 2) (ds_ret (df_call (daf_cons (df_B rc_len (da_cons (DF.e (df_var (i := 3))) da_nil)) (daf_cons (df_var (i := 2)) daf_nil)))))))))))
end
abbrev s_read_stave : Stmt := topS 12
abbrev N_read_stave : List Str := ["text", "figures", "sign"]
abbrev P_read_stave : List Str := ["text"]
theorem sc_read_stave : FnScope N_read_stave P_read_stave (defScope s_read_stave) := ⟨rfl, rfl, rfl, by decide +kernel, rfl, by decide +kernel, by decide +kernel⟩
noncomputable def b1_read_stave : MS :=
 (sIf (tE (e2 ninSD (eVarF 2) (eC (.str ("0123456789" : Str))))) (sRaise "NoText") sNext)
noncomputable def g_read_stave : MS :=
 (sSeq (sAsg (gN 1) (eVarF 0))
 (sSeq (sIf (tE (e2 eqD (eSl slD (eVarF 0) oNone (oSome (eC (.int 1)))) (eC (.str ("-" : Str))))) (sAsg (gN 1) (eSl slD (eVarF 0) (oSome (eC (.int 1))) oNone)) sNext)
 (sSeq (sIf (tO (tE (e2 ltD (eB lenD (aCons (eVarF 1) aNil)) (eC (.int 1)))) (tO (tE (e2 gtD (eB lenD (aCons (eVarF 1) aNil)) (eC (.int 2)))) (tA (tE (e2 eqD (e2 ixD (eVarF 1) (eC (.int 0))) (eC (.str ("0" : Str))))) (tE (e2 gtD (eB lenD (aCons (eVarF 1) aNil)) (eC (.int 1))))))) (sRaise "NoText") sNext)
 (sSeq (sFor (iS (eVarF 1)) (gN 2) b1_read_stave)
 (sRet (e2 subD (e2 addD (e2 mulD (eC (.int 2)) (eB intWD (aCons (eVarF 1) aNil))) (eB lenD (aCons (eVarF 0) aNil))) (eB lenD (aCons (eVarF 1) aNil))))))))
noncomputable def f_read_stave : List D → M D := mFn 1 3 g_read_stave
section
variable {P : Program} {w : World} {K : PySem.W.Frag} {mg : Str → Option Value} {base : Heap}
theorem ok_read_stave (T : Txt K mg) (dd : DefAt K mg "read_stave" s_read_stave)  : FnAt P w K mg base "read_stave" P_read_stave 1 f_read_stave := by
  obtain ⟨tc_FIGURES, gc_FIGURES⟩ := T.c_FIGURES
  obtain ⟨C_NoText, X_NoText⟩ := T.e_NoText
  refine fn_at (N := N_read_stave) (g := g_read_stave) dd sc_read_stave (fun _ _ _ _ _ _ us hl => match us, hl with | [_], _ => rfl) ?_
  intro f cdv A outer s H E hr
  refine ⟨_, (pss_cons (ps_set (i := 1) sc_read_stave.nd rfl (Or.inl rfl) (pv 0))
     (pss_cons (ps_if (pt_cmpR (kEq (K := K) (hu64 hr)) (pe_slice (kSl (K := K)) (pv 0) po_none (po_some pe_int)) pe_str (nomark _)) (pss_one (ps_set (i := 1) sc_read_stave.nd rfl (Or.inl rfl) (pe_slice (kSl (K := K)) (pv 0) (po_some pe_int) po_none))) pss_nil)
     (pss_cons (ps_if (PW.pt (pw_or (pt_cmpR op_lt (pe_callB (kLen (K := K)) (by rfl) T.b_len boot_len (pa_cons (pv 1) pa_nil)) pe_int (nomark _)) (pw_or (pt_cmpR op_gt (pe_callB (kLen (K := K)) (by rfl) T.b_len boot_len (pa_cons (pv 1) pa_nil)) pe_int (nomark _)) (pw_or1 (PW.pt (pw_and (pt_cmpR (kEq (K := K) (hu64 hr)) (pe_ix (kIx (K := K)) (pv 1) pe_int (fun _ _ => rfl)) pe_str (nomark _)) (pw_and1 (pt_cmpR op_gt (pe_callB (kLen (K := K)) (by rfl) T.b_len boot_len (pa_cons (pv 1) pa_nil)) pe_int (nomark _))))))))) (pss_one (ps_raise rfl (takes_of rfl rfl rfl rfl) (pmk_own PySem.F.excBase_ValueError X_NoText.e X_NoText.g X_NoText.k (raises_own X_NoText.b X_NoText.t) (by exact rfl)))) pss_nil)
     (pss_cons (ps_for (passes_of rfl) rfl (pi_str (pv 1)) (pg_name (i := 2) sc_read_stave.nd rfl (Or.inl rfl)) (pss_one (ps_if (pt_cmpR op_nsgn (pv 2) (pe_glob (v := .str ("0123456789" : Str)) (by rfl) gc_FIGURES ⟨_, rfl⟩) (by rfl)) (pss_one (ps_raise rfl (takes_of rfl rfl rfl rfl) (pmk_own PySem.F.excBase_ValueError X_NoText.e X_NoText.g X_NoText.k (raises_own X_NoText.b X_NoText.t) (by exact rfl)))) pss_nil)))
     (pss_one (ps_ret (pe_op op_sub (pe_op (kAdd (K := K)) (pe_op op_mulU pe_int (pe_callTy call_intW (by rfl) T.b_int boot_int (pa_cons (pv 1) pa_nil))) (pe_callB (kLen (K := K)) (by rfl) T.b_len boot_len (pa_cons (pv 0) pa_nil))) (pe_callB (kLen (K := K)) (by rfl) T.b_len boot_len (pa_cons (pv 1) pa_nil))))))))), ?_⟩
  exact fun L => (ds_seq (ds_asg (df_var (i := 0)) (dg_name (i := 1)))
     (ds_seq (ds_if (dt_test (DF.e (df_op rd_eq (DF.e (df_sl rs_sl (DF.e (df_var (i := 0))) do_none (do_some (DF.e (df_int (i := 1)))))) (DF.e (df_str (x := ("-" : Str))))))) (ds_asg (df_sl rs_sl (DF.e (df_var (i := 0))) (do_some (DF.e (df_int (i := 1)))) do_none) (dg_name (i := 1))) ds_next)
     (ds_seq (ds_if (dt_or (dt_test (DF.e (df_op rd_cmp (DF.e (df_B rc_len (da_cons (DF.e (df_var (i := 1))) da_nil))) (DF.e (df_int (i := 1)))))) (dt_or (dt_test (DF.e (df_op rd_cmp (DF.e (df_B rc_len (da_cons (DF.e (df_var (i := 1))) da_nil))) (DF.e (df_int (i := 2)))))) (dt_and (dt_test (DF.e (df_op rd_eq (DF.e (df_op rd_ix (DF.e (df_var (i := 1))) (DF.e (df_int (i := 0))))) (DF.e (df_str (x := ("0" : Str))))))) (dt_test (DF.e (df_op rd_cmp (DF.e (df_B rc_len (da_cons (DF.e (df_var (i := 1))) da_nil))) (DF.e (df_int (i := 1))))))))) (ds_raise X_NoText.g) ds_next)
     (ds_seq (ds_for (di_str (DF.e (df_var (i := 1)))) (dg_name (i := 2)) (ds_if (dt_test (DF.e (df_op rd_ninS (DF.e (df_var (i := 2))) (DF.e (df_str (x := ("0123456789" : Str))))))) (ds_raise X_NoText.g) ds_next))
     (ds_ret (df_op rd_sub (DF.e (df_op rd_add (DF.e (df_op rd_mul (DF.e (df_int (i := 2))) (DF.e (df_B rc_intW (da_cons (DF.e (df_var (i := 1))) da_nil))))) (DF.e (df_B rc_len (da_cons (DF.e (df_var (i := 0))) da_nil))))) (DF.e (df_B rc_len (da_cons (DF.e (df_var (i := 1))) da_nil)))))))))
end
abbrev s_read_work : Stmt := topS 13
abbrev N_read_work : List Str := ["text", "chains", "opened", "part", "closes", "work"]
abbrev P_read_work : List Str := ["text"]
theorem sc_read_work : FnScope N_read_work P_read_work (defScope s_read_work) := ⟨rfl, rfl, rfl, by decide +kernel, rfl, by decide +kernel, by decide +kernel⟩
noncomputable def b1_read_work : MS :=
 (sSeq (sIfR 1 (tE (e2 eqD (eVarF 2) (eC (.str ("" : Str))))) (sSeq (sLiftX 1 (sAsg (gN 2) (eSl slD (eVarF 3) oNone (oSome (eC (.int 1))))))
 (sSeq (sLiftX 1 (sAsg (gN 3) (eSl slD (eVarF 3) (oSome (eC (.int 1))) oNone)))
 (sSeq (sLiftX 1 (sIf (tE (e2 ninAS (eVarF 2) (eTup (aCons (eC (.str ("[" : Str))) (aCons (eC (.str ("(" : Str))) aNil))))) (sRaise "NoText") sNext))
 (sTwoNew ("[" : Str) ("(" : Str) 1 (eVarF 2) aNil)))) sNext)
 (sSeq (sLiftX 1 (sAsg (gN 4) (e2 dgetD (eC (dspD [(("[" : Str), ("]" : Str)), (("(" : Str), (")" : Str))])) (eVarF 2))))
 (sIfR 1 (tE (e2 eqD (eSl slD (eVarF 3) (oSome (e1 negD (eC (.int 1)))) oNone) (eVarF 4))) (sSeq (sTwoMut ("[" : Str) ("(" : Str) 1 (eVarF 2) (e1 negD (eC (.int 1))) appM (aCons (eCall f_read_stave (aCons (eSl slD (eVarF 3) oNone (oSome (e1 negD (eC (.int 1))))) aNil)) aNil))
 (sLiftX 1 (sAsg (gN 2) (eC (.str ("" : Str)))))) (sTwoMut ("[" : Str) ("(" : Str) 1 (eVarF 2) (e1 negD (eC (.int 1))) appM (aCons (eCall f_read_stave (aCons (eVarF 3) aNil)) aNil)))))
noncomputable def g_read_work : MS :=
 (sSeq (sIf (tE (e2 eqD (eVarF 0) (eC (.str ("." : Str))))) (sRet (eTup aNil)) sNext)
 (sRegT 1
 (sSeq (sLiftX 1 (sAsg (gN 2) (eC (.str ("" : Str)))))
 (sSeq (sForR 1 (iE (eL (eM1L splitD (eVarF 0) (eC (.str (" " : Str)))))) (gN 3) b1_read_work)
 (sSeq (sLiftX 1 (sIf (tE (e2 neD (eVarF 2) (eC (.str ("" : Str))))) (sRaise "NoText") sNext))
 (sTwoExit ("[" : Str) ("(" : Str) 1 (sSeq (sTryOnlyR tab_BadWork (sAsg (gN 5) (eCall f_work_from (aCons (e2 dgetD (eVarF 1) (eC (.str ("[" : Str)))) (aCons (e2 dgetD (eVarF 1) (eC (.str ("(" : Str)))) aNil)))) (sRaise "NoText"))
 (sRet (eVarF 5)))))))))
noncomputable def f_read_work : List D → M D := mFn 1 6 g_read_work
section
variable {P : Program} {w : World} {K : PySem.W.Frag} {mg : Str → Option Value} {base : Heap}
theorem ok_read_work (T : Txt K mg) (dd : DefAt K mg "read_work" s_read_work) (c_read_stave : FnAt P w K mg base "read_stave" P_read_stave 1 f_read_stave) (c_work_from : FnAtN P w K mg base "work_from" P_work_from 2 f_work_from) : FnAt P w K mg base "read_work" P_read_work 3 f_read_work := by
  obtain ⟨a_read_stave, fd_read_stave, m_read_stave, kp_read_stave, b_read_stave, G_read_stave⟩ := c_read_stave
  obtain ⟨a_work_from, fd_work_from, m_work_from, kp_work_from, b_work_from, G_work_from⟩ := c_work_from
  obtain ⟨C_NoText, X_NoText⟩ := T.e_NoText
  obtain ⟨D_BadWork, g_BadWork, F_BadWork⟩ := T.k_BadWork
  refine fn_at (N := N_read_work) (g := g_read_work) dd sc_read_work (fun _ _ _ _ _ _ us hl => match us, hl with | [_], _ => rfl) ?_
  intro f cdv A outer s H E hr
  refine ⟨_, (pss_cons (ps_if (pt_cmpR (kEq (K := K) (hu64 hr)) (pv 0) pe_str (nomark _)) (pss_one (ps_ret (pe_tup pa_nil))) pss_nil)
     (pss_cons (ps_set (i := 1) sc_read_work.nd rfl (Or.inl rfl) (pe_disp (trs := [(tC (.str ("[" : Str)), tLst tNil), (tC (.str ("(" : Str)), tLst tNil)]) (pps_cons pe_str (pe_lst pa_nil) (pps_cons pe_str (pe_lst pa_nil) pps_nil)) (by rfl) (by rfl) (by simp) (by decide)))
     (pss_cons (ps_set (i := 2) sc_read_work.nd rfl (Or.inl rfl) pe_str)
     (pss_cons (ps_for (passes_of rfl) rfl (pi_sqK (K := K) (pe_splitK (pv 0) pe_str)) (pg_name (i := 3) sc_read_work.nd rfl (Or.inl rfl)) (pss_cons (ps_if (pt_cmpR (kEq (K := K) (hu64 hr)) (pv 2) pe_str (nomark _)) (pss_cons (ps_set (i := 2) sc_read_work.nd rfl (Or.inl rfl) (pe_slice (kSl (K := K)) (pv 3) po_none (po_some pe_int)))
     (pss_cons (ps_set (i := 3) sc_read_work.nd rfl (Or.inl rfl) (pe_slice (kSl (K := K)) (pv 3) (po_some pe_int) po_none))
     (pss_cons (ps_if (pt_cmpR (kNin (K := K) (hu65 hr)) (pv 2) (pe_tup (pa_cons pe_str (pa_cons pe_str pa_nil))) (by rfl)) (pss_one (ps_raise rfl (takes_of rfl rfl rfl rfl) (pmk_own PySem.F.excBase_ValueError X_NoText.e X_NoText.g X_NoText.k (raises_own X_NoText.b X_NoText.t) (by exact rfl)))) pss_nil)
     (pss_one (ps_expr (bmK (K := K) (pe_bm PySem.F.plainAttrs_list PySem.F.slot_list_append PySem.F.type_list_append mt_append (pe_dgetR (hu65 hr) (pv 1) (pv 2) (fun _ _ => rfl)) (pa_cons (pe_lst pa_nil) pa_nil)))))))) pss_nil)
     (pss_cons (ps_set (i := 4) sc_read_work.nd rfl (Or.inl rfl) (pe_dgetR (hu65 hr) (pe_disp (trs := dspT [(("[" : Str), ("]" : Str)), (("(" : Str), (")" : Str))]) (pps_cons pe_str pe_str (pps_cons pe_str pe_str pps_nil)) (by rfl) (by rfl) (by simp) (by decide)) (pv 2) (fun _ _ => rfl)))
     (pss_one (ps_if (pt_cmpR (kEq (K := K) (hu64 hr)) (pe_slice (kSl (K := K)) (pv 3) (po_some (pe_un un_neg pe_int)) po_none) (pv 4) (nomark _)) (pss_cons (ps_expr (bmK (K := K) (pe_bm PySem.F.plainAttrs_list PySem.F.slot_list_append PySem.F.type_list_append mt_append (pe_ix (kIx (K := K)) (pe_dgetR (hu65 hr) (pv 1) (pv 2) (fun _ _ => rfl)) (pe_un un_neg pe_int) (fun _ _ => rfl)) (pa_cons (pe_callS G_read_stave (hr.mono (by decide)) (by rfl) m_read_stave kp_read_stave b_read_stave (fun σ => passAt (takes_of rfl rfl rfl rfl) σ) (pa_cons (pe_slice (kSl (K := K)) (pv 3) po_none (po_some (pe_un un_neg pe_int))) pa_nil)) pa_nil))))
     (pss_one (ps_set (i := 2) sc_read_work.nd rfl (Or.inl rfl) pe_str))) (pss_one (ps_expr (bmK (K := K) (pe_bm PySem.F.plainAttrs_list PySem.F.slot_list_append PySem.F.type_list_append mt_append (pe_ix (kIx (K := K)) (pe_dgetR (hu65 hr) (pv 1) (pv 2) (fun _ _ => rfl)) (pe_un un_neg pe_int) (fun _ _ => rfl)) (pa_cons (pe_callS G_read_stave (hr.mono (by decide)) (by rfl) m_read_stave kp_read_stave b_read_stave (fun σ => passAt (takes_of rfl rfl rfl rfl) σ) (pa_cons (pv 3) pa_nil)) pa_nil))))))))))
     (pss_cons (ps_if (pt_cmpR (kNe (K := K) (hu64 hr)) (pv 2) pe_str (nomark _)) (pss_one (ps_raise rfl (takes_of rfl rfl rfl rfl) (pmk_own PySem.F.excBase_ValueError X_NoText.e X_NoText.g X_NoText.k (raises_own X_NoText.b X_NoText.t) (by exact rfl)))) pss_nil)
     (pss_cons (L2H.ps_try_onlyX rfl rfl ⟨by rfl, by decide, Or.inl g_BadWork⟩ (L2H.passesAt_of rfl) (takes_of rfl rfl rfl rfl) (fun W pn1 xe tk1 tkL1 hpo1 => pssId _ (pss_one (ps_set (i := 5) sc_read_work.nd rfl (Or.inl rfl) (pe_callS G_work_from (hr.mono (by decide)) (by rfl) m_work_from kp_work_from b_work_from (fun σ => L2N.passAt tk1 σ) (pa_cons (pe_dgetR (hu65 hr) (pv 1) pe_str (fun _ _ => rfl)) (pa_cons (pe_dgetR (hu65 hr) (pv 1) pe_str (fun _ _ => rfl)) pa_nil))))) rfl) (fun a oe cls d pn hz hf tkS1 hot1 => pssId _ (pss_one (L2H.ps_raiseH hot1 tkS1 (L2N.pmk_own PySem.F.excBase_ValueError X_NoText.e X_NoText.g X_NoText.k (raises_own X_NoText.b X_NoText.t) (by exact rfl)))) rfl))
     (pss_one (ps_ret (pv 5))))))))), ?_⟩
  exact fun L => (ds_seq (ds_if (dt_test (DF.e (df_op rd_eq (DF.e (df_var (i := 0))) (DF.e (df_str (x := ("." : Str))))))) (ds_ret (df_tup daf_nil few_nil)) ds_next)
     (ds_regT (i := 1) (k1 := ("[" : Str)) (k2 := ("(" : Str)) ⟨fun _ _ => rfl, fun _ _ => rfl, fun _ _ => rfl⟩ (dsr_seq (dsr_lift (fun _ => (ds_asg (df_str (x := ("" : Str))) (dg_name (i := 2)))))
     (dsr_seq (dsr_for (fun _ => (di_sq (DL.fz (dl_m1 rs_split (DF.e (df_var (i := 0))) (DF.e (df_str (x := (" " : Str)))))))) (fun _ => (dg_name (i := 3))) (dsr_seq (dsr_if (fun _ => (dt_test (DF.e (df_op rd_eq (DF.e (df_var (i := 2))) (DF.e (df_str (x := ("" : Str)))))))) (dsr_seq (dsr_lift (fun _ => (ds_asg (df_sl rs_sl (DF.e (df_var (i := 3))) do_none (do_some (DF.e (df_int (i := 1))))) (dg_name (i := 2)))))
     (dsr_seq (dsr_lift (fun _ => (ds_asg (df_sl rs_sl (DF.e (df_var (i := 3))) (do_some (DF.e (df_int (i := 1)))) do_none) (dg_name (i := 3)))))
     (dsr_seq (dsr_lift (fun _ => (ds_if (dt_test (DF.e (df_op rd_ninAS (DF.e (df_var (i := 2))) (DF.e (df_tup (daf_cons (df_str (x := ("[" : Str))) (daf_cons (df_str (x := ("(" : Str))) daf_nil)) (few_cons (few_cons few_nil))))))) (ds_raise X_NoText.g) ds_next)))
     (dt_new ⟨fun _ _ => rfl, fun _ _ => rfl, fun _ _ => rfl⟩ (fun _ => (DF.e (df_var (i := 2)))) (fun _ => (dl_lst daf_nil few_nil)))))) dsr_next)
     (dsr_seq (dsr_lift (fun _ => (ds_asg (df_op rd_dget (df_dsp (kvs := [(("[" : Str), ("]" : Str)), (("(" : Str), (")" : Str))]) (by rfl) (by decide)).e (DF.e (df_var (i := 2)))) (dg_name (i := 4)))))
     (dsr_if (fun _ => (dt_test (DF.e (df_op rd_eq (DF.e (df_sl rs_sl (DF.e (df_var (i := 3))) (do_some (DF.e (df_un rd_neg (DF.e (df_int (i := 1)))))) do_none)) (DF.e (df_var (i := 4))))))) (dsr_seq (dt_mut ⟨fun _ _ => rfl, fun _ _ => rfl, fun _ _ => rfl⟩ rm_append (fun _ => (DF.e (df_var (i := 2)))) (fun _ => (DF.e (df_un rd_neg (DF.e (df_int (i := 1)))))) (fun _ => (daf_cons (df_call (daf_cons (df_sl rs_sl (DF.e (df_var (i := 3))) do_none (do_some (DF.e (df_un rd_neg (DF.e (df_int (i := 1))))))) daf_nil)) daf_nil)))
     (dsr_lift (fun _ => (ds_asg (df_str (x := ("" : Str))) (dg_name (i := 2)))))) (dt_mut ⟨fun _ _ => rfl, fun _ _ => rfl, fun _ _ => rfl⟩ rm_append (fun _ => (DF.e (df_var (i := 2)))) (fun _ => (DF.e (df_un rd_neg (DF.e (df_int (i := 1)))))) (fun _ => (daf_cons (df_call (daf_cons (df_var (i := 3)) daf_nil)) daf_nil)))))))
     (dsr_seq (dsr_lift (fun _ => (ds_if (dt_test (DF.e (df_op rd_ne (DF.e (df_var (i := 2))) (DF.e (df_str (x := ("" : Str))))))) (ds_raise X_NoText.g) ds_next)))
     (dt_exit (fun _ => (ds_seq (ds_tryOnlyR (fun n b C e h => exm_at F_BadWork g_BadWork T.t_BadWork e h) (fun W1 => (ds_asg (df_call (daf_cons (df_op rd_dget (DF.e (df_var (i := 1))) (DF.e (df_str (x := ("[" : Str))))) (daf_cons (df_op rd_dget (DF.e (df_var (i := 1))) (DF.e (df_str (x := ("(" : Str))))) daf_nil))) (dg_name (i := 5)))) (fun a n C hn => (ds_raise X_NoText.g)))
     (ds_ret (df_var (i := 5)))))))))))
end
abbrev s__law_whole : Stmt := topS 16
abbrev N__law_whole : List Str := ["found"]
abbrev P__law_whole : List Str := ["found"]
theorem sc__law_whole : FnScope N__law_whole P__law_whole (defScope s__law_whole) := ⟨rfl, rfl, rfl, by decide +kernel, rfl, by decide +kernel, by decide +kernel⟩
noncomputable def g__law_whole : MS :=
 (sRet (eBool (eAnd (e1 (isiD "int") (eVarF 0)) (eNot (e1 (isiD "bool") (eVarF 0))))))
noncomputable def f__law_whole : List D → M D := mFn 1 1 g__law_whole
section
variable {P : Program} {w : World} {K : PySem.W.Frag} {mg : Str → Option Value} {base : Heap}
theorem ok__law_whole (T : Txt K mg) (dd : DefAt K mg "_law_whole" s__law_whole)  : FnAt P w K mg base "_law_whole" P__law_whole 1 f__law_whole := by
  refine fn_at (N := N__law_whole) (g := g__law_whole) dd sc__law_whole (fun _ _ _ _ _ _ us hl => match us, hl with | [_], _ => rfl) ?_
  intro f cdv A outer s H E hr
  refine ⟨_, (pss_one (ps_ret (pe_and (pe_callB (kIsi (K := K)) (by rfl) T.b_isinstance boot_isinstance (pa_cons (pv 0) (pa_cons (pe_bltn (v := .ty "int") (by rfl) T.b_int boot_int rfl) pa_nil))) (pe_one (pe_not (pe_callB (kIsi (K := K)) (by rfl) T.b_isinstance boot_isinstance (pa_cons (pv 0) (pa_cons (pe_bltn (v := .ty "bool") (by rfl) T.b_bool boot_bool rfl) pa_nil)))))))), ?_⟩
  exact fun L => (ds_ret (df_ofE_bool (de_and (DF.e (df_isi (T := "int") (DF.e (df_var (i := 0))))) (DF.e (df_not (DF.e (df_isi (T := "bool") (DF.e (df_var (i := 0))))))))))
end
abbrev s__law_numbers : Stmt := topS 19
abbrev N__law_numbers : List Str := ["found", "due", "number"]
abbrev P__law_numbers : List Str := ["found", "due"]
theorem sc__law_numbers : FnScope N__law_numbers P__law_numbers (defScope s__law_numbers) := ⟨rfl, rfl, rfl, by decide +kernel, rfl, by decide +kernel, by decide +kernel⟩
noncomputable def b1__law_numbers : MS :=
 (sIf (tN (tE (eCall f__law_whole (aCons (eVarF 2) aNil)))) (sRet (eC (.bool false))) sNext)
noncomputable def g__law_numbers : MS :=
 (sSeq (sIf (tO (tN (tE (e1 (isiD "tuple") (eVarF 0)))) (tE (e2 neD (eB lenD (aCons (eVarF 0) aNil)) (eB lenD (aCons (eVarF 1) aNil))))) (sRet (eC (.bool false))) sNext)
 (sSeq (sFor (iE (eVarF 0)) (gN 2) b1__law_numbers)
 (sRet (e2 eqD (eL (eBL listD (aCons (eVarF 0) aNil))) (eL (eBL listD (aCons (eVarF 1) aNil)))))))
noncomputable def f__law_numbers : List D → M D := mFn 2 3 g__law_numbers
section
variable {P : Program} {w : World} {K : PySem.W.Frag} {mg : Str → Option Value} {base : Heap}
theorem ok__law_numbers (T : Txt K mg) (dd : DefAt K mg "_law_numbers" s__law_numbers) (c__law_whole : FnAt P w K mg base "_law_whole" P__law_whole 1 f__law_whole) : FnAt P w K mg base "_law_numbers" P__law_numbers 2 f__law_numbers := by
  obtain ⟨a__law_whole, fd__law_whole, m__law_whole, kp__law_whole, b__law_whole, G__law_whole⟩ := c__law_whole
  refine fn_at (N := N__law_numbers) (g := g__law_numbers) dd sc__law_numbers (fun _ _ _ _ _ _ us hl => match us, hl with | [_, _], _ => rfl) ?_
  intro f cdv A outer s H E hr
  refine ⟨_, (pss_cons (ps_if (PW.pt (pw_or (pt_not (pt_val (pe_callB (kIsi (K := K)) (by rfl) T.b_isinstance boot_isinstance (pa_cons (pv 0) (pa_cons (pe_bltn (v := .ty "tuple") (by rfl) T.b_tuple boot_tuple rfl) pa_nil))))) (pw_or1 (pt_cmpR (kNe (K := K) (hu64 hr)) (pe_callB (kLen (K := K)) (by rfl) T.b_len boot_len (pa_cons (pv 0) pa_nil)) (pe_callB (kLen (K := K)) (by rfl) T.b_len boot_len (pa_cons (pv 1) pa_nil)) (nomark _))))) (pss_one (ps_ret pe_bl)) pss_nil)
     (pss_cons (ps_for (passes_of rfl) rfl (pi_sqK (K := K) (pv 0)) (pg_name (i := 2) sc__law_numbers.nd rfl (Or.inl rfl)) (pss_one (ps_if (pt_not (pt_val (pe_callS G__law_whole (hr.mono (by decide)) (by rfl) m__law_whole kp__law_whole b__law_whole (fun σ => passAt (takes_of rfl rfl rfl rfl) σ) (pa_cons (pv 2) pa_nil)))) (pss_one (ps_ret pe_bl)) pss_nil)))
     (pss_one (ps_ret (pe_cmpR (kEq (K := K) (hu64 hr)) (pe_callTy (kList (K := K)) (by rfl) T.b_list boot_list (pa_cons (pv 0) pa_nil)) (pe_callTy (kList (K := K)) (by rfl) T.b_list boot_list (pa_cons (pv 1) pa_nil)) (nomark _)))))), ?_⟩
  exact fun L => (ds_seq (ds_if (dt_or (dt_not (dt_B (DF.e (df_isi (T := "tuple") (DF.e (df_var (i := 0))))))) (dt_test (DF.e (df_op rd_ne (DF.e (df_B rc_len (da_cons (DF.e (df_var (i := 0))) da_nil))) (DF.e (df_B rc_len (da_cons (DF.e (df_var (i := 1))) da_nil))))))) (ds_ret (df_bl (b := false))) ds_next)
     (ds_seq (ds_for (di_sq (df_var (i := 0))) (dg_name (i := 2)) (ds_if (dt_not (dt_B (DF.e (df_call (daf_cons (df_var (i := 2)) daf_nil))))) (ds_ret (df_bl (b := false))) ds_next))
     (ds_ret (df_op rd_eq (DF.e (DL.fz (dl_B rc_list (da_cons (DF.e (df_var (i := 0))) da_nil)))) (DF.e (DL.fz (dl_B rc_list (da_cons (DF.e (df_var (i := 1))) da_nil))))))))
end
abbrev s__law_part_spoiled : Stmt := topS 28
abbrev N__law_part_spoiled : List Str := ["text", "cell", "parts", "spot", "other", "part"]
abbrev P__law_part_spoiled : List Str := ["text", "cell"]
theorem sc__law_part_spoiled : FnScope N__law_part_spoiled P__law_part_spoiled (defScope s__law_part_spoiled) := ⟨rfl, rfl, rfl, by decide +kernel, rfl, by decide +kernel, by decide +kernel⟩
noncomputable def g__law_part_spoiled : MS :=
 (sSeq (sAsgL 2 (eM1L splitD (eVarF 0) (eC (.str (" " : Str)))))
 (sSeq (sAsg (gN 3) (e2 modD (e2 divD (eVarF 1) (eC (.int 3))) (eB lenD (aCons (eVar 2) aNil))))
 (sSeq (sAsg (gN 4) (e2 modD (e2 divD (eVarF 1) (eC (.int 1009))) (eB lenD (aCons (eVar 2) aNil))))
 (sSeq (sAsg (gN 5) (e2 ixD (eVar 2) (eVarF 3)))
 (sSeq (sIf (tE (e2 neD (e2 modD (eVarF 1) (eC (.int 3))) (eC (.int 1)))) (sMut 2 popAtM (aCons (eVarF 3) aNil)) sNext)
 (sSeq (sIf (tE (e2 neD (e2 modD (eVarF 1) (eC (.int 3))) (eC (.int 0)))) (sMut 2 insM (aCons (eVarF 4) (aCons (eVarF 5) aNil))) sNext)
 (sFrz 2 (sRet (eM1 joinD (eC (.str (" " : Str))) (eVarF 2))))))))))
noncomputable def f__law_part_spoiled : List D → M D := mFn 2 6 g__law_part_spoiled
section
variable {P : Program} {w : World} {K : PySem.W.Frag} {mg : Str → Option Value} {base : Heap}
theorem ok__law_part_spoiled (T : Txt K mg) (dd : DefAt K mg "_law_part_spoiled" s__law_part_spoiled)  : FnAt P w K mg base "_law_part_spoiled" P__law_part_spoiled 1 f__law_part_spoiled := by
  refine fn_at (N := N__law_part_spoiled) (g := g__law_part_spoiled) dd sc__law_part_spoiled (fun _ _ _ _ _ _ us hl => match us, hl with | [_, _], _ => rfl) ?_
  intro f cdv A outer s H E hr
  refine ⟨_, (pss_cons (ps_set (i := 2) sc__law_part_spoiled.nd rfl (Or.inl rfl) (pe_splitK (pv 0) pe_str))
     (pss_cons (ps_set (i := 3) sc__law_part_spoiled.nd rfl (Or.inl rfl) (pe_op op_mod (pe_op op_fdivW (pv 1) pe_int) (pe_callB (kLen (K := K)) (by rfl) T.b_len boot_len (pa_cons (pv 2) pa_nil))))
     (pss_cons (ps_set (i := 4) sc__law_part_spoiled.nd rfl (Or.inl rfl) (pe_op op_mod (pe_op op_fdivW (pv 1) pe_int) (pe_callB (kLen (K := K)) (by rfl) T.b_len boot_len (pa_cons (pv 2) pa_nil))))
     (pss_cons (ps_set (i := 5) sc__law_part_spoiled.nd rfl (Or.inl rfl) (pe_ix (kIx (K := K)) (pv 2) (pv 3) (fun _ _ => rfl)))
     (pss_cons (ps_if (pt_cmpR (kNe (K := K) (hu64 hr)) (pe_op op_mod (pv 1) pe_int) pe_int (nomark _)) (pss_one (ps_expr (bmK (K := K) (pe_bm PySem.F.plainAttrs_list PySem.F.slot_list_pop PySem.F.type_list_pop mt_popAt (pv 2) (pa_cons (pv 3) pa_nil))))) pss_nil)
     (pss_cons (ps_if (pt_cmpR (kNe (K := K) (hu64 hr)) (pe_op op_mod (pv 1) pe_int) pe_int (nomark _)) (pss_one (ps_expr (bmK (K := K) (pe_bm PySem.F.plainAttrs_list PySem.F.slot_list_insert PySem.F.type_list_insert mt_insert (pv 2) (pa_cons (pv 4) (pa_cons (pv 5) pa_nil)))))) pss_nil)
     (pss_one (ps_ret (pe_joinK (K := K) pe_str (pv 2)))))))))), ?_⟩
  exact fun L => (ds_seq (ds_asgL (i := 2) (dl_m1 rs_split (DF.e (df_var (i := 0))) (DF.e (df_str (x := (" " : Str))))))
     (ds_seq (ds_asg (df_op rd_mod (DF.e (df_op rd_div (DF.e (df_var (i := 1))) (DF.e (df_int (i := 3))))) (DF.e (df_B rc_len (da_cons (de_var (i := 2)) da_nil)))) (dg_name (i := 3)))
     (ds_seq (ds_asg (df_op rd_mod (DF.e (df_op rd_div (DF.e (df_var (i := 1))) (DF.e (df_int (i := 1009))))) (DF.e (df_B rc_len (da_cons (de_var (i := 2)) da_nil)))) (dg_name (i := 4)))
     (ds_seq (ds_asg (df_op rd_ix (de_var (i := 2)) (DF.e (df_var (i := 3)))) (dg_name (i := 5)))
     (ds_seq (ds_if (dt_test (DF.e (df_op rd_ne (DF.e (df_op rd_mod (DF.e (df_var (i := 1))) (DF.e (df_int (i := 3))))) (DF.e (df_int (i := 1)))))) (ds_mut (i := 2) rm_popAt (daf_cons (df_var (i := 3)) daf_nil)) ds_next)
     (ds_seq (ds_if (dt_test (DF.e (df_op rd_ne (DF.e (df_op rd_mod (DF.e (df_var (i := 1))) (DF.e (df_int (i := 3))))) (DF.e (df_int (i := 0)))))) (ds_mut (i := 2) rm_insert (daf_cons (df_var (i := 4)) (daf_cons (df_var (i := 5)) daf_nil))) ds_next)
     (ds_frz (i := 2) (ds_ret (df_m1 rs_join (DF.e (df_str (x := (" " : Str)))) (DF.e (df_var (i := 2))))))))))))
end
abbrev s__law_number_spoiled : Stmt := topS 29
abbrev N__law_number_spoiled : List Str := ["text", "cell", "odd", "at", "last"]
abbrev P__law_number_spoiled : List Str := ["text", "cell"]
theorem sc__law_number_spoiled : FnScope N__law_number_spoiled P__law_number_spoiled (defScope s__law_number_spoiled) := ⟨rfl, rfl, rfl, by decide +kernel, rfl, by decide +kernel, by decide +kernel⟩
noncomputable def b1__law_number_spoiled : MS :=
 (sAsg (gN 3) (e2 addD (eVarF 3) (eC (.int 1))))
noncomputable def b2__law_number_spoiled : MS :=
 (sAsg (gN 4) (e2 addD (eVarF 4) (eC (.int 1))))
noncomputable def g__law_number_spoiled : MS :=
 (sSeq (sAsg (gN 2) (eL (aCons (eC (.str ("0" : Str))) (aCons (eC (.str ("1" : Str))) (aCons (eC (.str ("7" : Str))) (aCons (eC (.str ("39" : Str))) (aCons (eC (.str ("40" : Str))) (aCons (eC (.str ("00" : Str))) (aCons (eC (.str ("01" : Str))) (aCons (eC (.str ("-0" : Str))) (aCons (eC (.str ("--1" : Str))) (aCons (eC (.str ("+1" : Str))) (aCons (eC (.str ("1_" : Str))) (aCons (eC (.str ("100" : Str))) (aCons (eC (.str ("" : Str))) (aCons (eC (.str ("-" : Str))) (aCons (eC (.str ("-2" : Str))) (aCons (eC (.str ("5" : Str))) aNil))))))))))))))))))
 (sSeq (sAsg (gN 3) (e2 modD (e2 divD (eVarF 1) (eC (.int 16))) (e2 addD (eB lenD (aCons (eVarF 0) aNil)) (eC (.int 1)))))
 (sSeq (sWhile (tA (tE (e2 ltD (eVarF 3) (eB lenD (aCons (eVarF 0) aNil)))) (tE (e2 ninSD (e2 ixD (eVarF 0) (eVarF 3)) (eC (.str ("0123456789" : Str)))))) b1__law_number_spoiled)
 (sSeq (sAsg (gN 4) (eVarF 3))
 (sSeq (sWhile (tA (tE (e2 ltD (eVarF 4) (eB lenD (aCons (eVarF 0) aNil)))) (tE (e2 inSD (e2 ixD (eVarF 0) (eVarF 4)) (eC (.str ("0123456789" : Str)))))) b2__law_number_spoiled)
 (sRet (e2 addD (e2 addD (eSl slD (eVarF 0) oNone (oSome (eVarF 3))) (e2 ixD (eVarF 2) (e2 modD (eVarF 1) (eB lenD (aCons (eVarF 2) aNil))))) (eSl slD (eVarF 0) (oSome (eVarF 4)) oNone))))))))
noncomputable def f__law_number_spoiled : List D → M D := mFn 2 5 g__law_number_spoiled
section
variable {P : Program} {w : World} {K : PySem.W.Frag} {mg : Str → Option Value} {base : Heap}
theorem ok__law_number_spoiled (T : Txt K mg) (dd : DefAt K mg "_law_number_spoiled" s__law_number_spoiled)  : FnAt P w K mg base "_law_number_spoiled" P__law_number_spoiled 1 f__law_number_spoiled := by
  refine fn_at (N := N__law_number_spoiled) (g := g__law_number_spoiled) dd sc__law_number_spoiled (fun _ _ _ _ _ _ us hl => match us, hl with | [_, _], _ => rfl) ?_
  intro f cdv A outer s H E hr
  refine ⟨_, (pss_cons (ps_set (i := 2) sc__law_number_spoiled.nd rfl (Or.inl rfl) (pe_lst (pa_cons pe_str (pa_cons pe_str (pa_cons pe_str (pa_cons pe_str (pa_cons pe_str (pa_cons pe_str (pa_cons pe_str (pa_cons pe_str (pa_cons pe_str (pa_cons pe_str (pa_cons pe_str (pa_cons pe_str (pa_cons pe_str (pa_cons pe_str (pa_cons pe_str (pa_cons pe_str pa_nil))))))))))))))))))
     (pss_cons (ps_set (i := 3) sc__law_number_spoiled.nd rfl (Or.inl rfl) (pe_op op_mod (pe_op op_fdivW (pv 1) pe_int) (pe_op (kAdd (K := K)) (pe_callB (kLen (K := K)) (by rfl) T.b_len boot_len (pa_cons (pv 0) pa_nil)) pe_int)))
     (pss_cons (ps_while (passes_of rfl) (PW.pt (pw_and (pt_cmpR op_lt (pv 3) (pe_callB (kLen (K := K)) (by rfl) T.b_len boot_len (pa_cons (pv 0) pa_nil)) (nomark _)) (pw_and1 (pt_cmpR op_nsgn (pe_ix (kIx (K := K)) (pv 0) (pv 3) (fun _ _ => rfl)) pe_str (by rfl))))) (pss_one (ps_set (i := 3) sc__law_number_spoiled.nd rfl (Or.inl rfl) (pe_op (kAdd (K := K)) (pv 3) pe_int))))
     (pss_cons (ps_set (i := 4) sc__law_number_spoiled.nd rfl (Or.inl rfl) (pv 3))
     (pss_cons (ps_while (passes_of rfl) (PW.pt (pw_and (pt_cmpR op_lt (pv 4) (pe_callB (kLen (K := K)) (by rfl) T.b_len boot_len (pa_cons (pv 0) pa_nil)) (nomark _)) (pw_and1 (pt_cmpR op_sgn (pe_ix (kIx (K := K)) (pv 0) (pv 4) (fun _ _ => rfl)) pe_str (by rfl))))) (pss_one (ps_set (i := 4) sc__law_number_spoiled.nd rfl (Or.inl rfl) (pe_op (kAdd (K := K)) (pv 4) pe_int))))
     (pss_one (ps_ret (pe_op (kAdd (K := K)) (pe_op (kAdd (K := K)) (pe_slice (kSl (K := K)) (pv 0) po_none (po_some (pv 3))) (pe_ix (kIx (K := K)) (pv 2) (pe_op op_mod (pv 1) (pe_callB (kLen (K := K)) (by rfl) T.b_len boot_len (pa_cons (pv 2) pa_nil))) (fun _ _ => rfl))) (pe_slice (kSl (K := K)) (pv 0) (po_some (pv 4)) po_none))))))))), ?_⟩
  exact fun L => (ds_seq (ds_asg (DL.fz (dl_lst (daf_cons (df_str (x := ("0" : Str))) (daf_cons (df_str (x := ("1" : Str))) (daf_cons (df_str (x := ("7" : Str))) (daf_cons (df_str (x := ("39" : Str))) (daf_cons (df_str (x := ("40" : Str))) (daf_cons (df_str (x := ("00" : Str))) (daf_cons (df_str (x := ("01" : Str))) (daf_cons (df_str (x := ("-0" : Str))) (daf_cons (df_str (x := ("--1" : Str))) (daf_cons (df_str (x := ("+1" : Str))) (daf_cons (df_str (x := ("1_" : Str))) (daf_cons (df_str (x := ("100" : Str))) (daf_cons (df_str (x := ("" : Str))) (daf_cons (df_str (x := ("-" : Str))) (daf_cons (df_str (x := ("-2" : Str))) (daf_cons (df_str (x := ("5" : Str))) daf_nil)))))))))))))))) (few_cons (few_cons (few_cons (few_cons (few_cons (few_cons (few_cons (few_cons (few_cons (few_cons (few_cons (few_cons (few_cons (few_cons (few_cons (few_cons few_nil)))))))))))))))))) (dg_name (i := 2)))
     (ds_seq (ds_asg (df_op rd_mod (DF.e (df_op rd_div (DF.e (df_var (i := 1))) (DF.e (df_int (i := 16))))) (DF.e (df_op rd_add (DF.e (df_B rc_len (da_cons (DF.e (df_var (i := 0))) da_nil))) (DF.e (df_int (i := 1)))))) (dg_name (i := 3)))
     (ds_seq (ds_while (dt_and (dt_test (DF.e (df_op rd_cmp (DF.e (df_var (i := 3))) (DF.e (df_B rc_len (da_cons (DF.e (df_var (i := 0))) da_nil)))))) (dt_test (DF.e (df_op rd_ninS (DF.e (df_op rd_ix (DF.e (df_var (i := 0))) (DF.e (df_var (i := 3))))) (DF.e (df_str (x := ("0123456789" : Str)))))))) (ds_asg (df_op rd_add (DF.e (df_var (i := 3))) (DF.e (df_int (i := 1)))) (dg_name (i := 3))))
     (ds_seq (ds_asg (df_var (i := 3)) (dg_name (i := 4)))
     (ds_seq (ds_while (dt_and (dt_test (DF.e (df_op rd_cmp (DF.e (df_var (i := 4))) (DF.e (df_B rc_len (da_cons (DF.e (df_var (i := 0))) da_nil)))))) (dt_test (DF.e (df_op rd_inS (DF.e (df_op rd_ix (DF.e (df_var (i := 0))) (DF.e (df_var (i := 4))))) (DF.e (df_str (x := ("0123456789" : Str)))))))) (ds_asg (df_op rd_add (DF.e (df_var (i := 4))) (DF.e (df_int (i := 1)))) (dg_name (i := 4))))
     (ds_ret (df_op rd_add (DF.e (df_op rd_add (DF.e (df_sl rs_sl (DF.e (df_var (i := 0))) do_none (do_some (DF.e (df_var (i := 3)))))) (DF.e (df_op rd_ix (DF.e (df_var (i := 2))) (DF.e (df_op rd_mod (DF.e (df_var (i := 1))) (DF.e (df_B rc_len (da_cons (DF.e (df_var (i := 2))) da_nil))))))))) (DF.e (df_sl rs_sl (DF.e (df_var (i := 0))) (do_some (DF.e (df_var (i := 4)))) do_none)))))))))
end
abbrev s__law_sign_by : Stmt := topS 26
abbrev N__law_sign_by : List Str := ["cell", "some"]
abbrev P__law_sign_by : List Str := ["cell"]
theorem sc__law_sign_by : FnScope N__law_sign_by P__law_sign_by (defScope s__law_sign_by) := ⟨rfl, rfl, rfl, by decide +kernel, rfl, by decide +kernel, by decide +kernel⟩
noncomputable def g__law_sign_by : MS :=
 (sSeq (sAsg (gN 1) (eC (.str (" !\"#$&'()*+,-./0123456789:;<=>?@ABCDEFGHIJKLMNOPQRSTUVWXYZ[\\]^_`" : Str))))
 (sSeq (sAsg (gN 1) (e2 addD (eVarF 1) (eC (.str ("abcdefghijklmnopqrstuvwxyz{|}~" : Str)))))
 (sRet (e2 ixD (eVarF 1) (e2 modD (eVarF 0) (eB lenD (aCons (eVarF 1) aNil)))))))
noncomputable def f__law_sign_by : List D → M D := mFn 1 2 g__law_sign_by
section
variable {P : Program} {w : World} {K : PySem.W.Frag} {mg : Str → Option Value} {base : Heap}
theorem ok__law_sign_by (T : Txt K mg) (dd : DefAt K mg "_law_sign_by" s__law_sign_by)  : FnAt P w K mg base "_law_sign_by" P__law_sign_by 1 f__law_sign_by := by
  refine fn_at (N := N__law_sign_by) (g := g__law_sign_by) dd sc__law_sign_by (fun _ _ _ _ _ _ us hl => match us, hl with | [_], _ => rfl) ?_
  intro f cdv A outer s H E hr
  refine ⟨_, (pss_cons (ps_set (i := 1) sc__law_sign_by.nd rfl (Or.inl rfl) pe_str)
     (pss_cons (ps_set (i := 1) sc__law_sign_by.nd rfl (Or.inl rfl) (pe_op (kAdd (K := K)) (pv 1) pe_str))
     (pss_one (ps_ret (pe_ix (kIx (K := K)) (pv 1) (pe_op op_mod (pv 0) (pe_callB (kLen (K := K)) (by rfl) T.b_len boot_len (pa_cons (pv 1) pa_nil))) (fun _ _ => rfl)))))), ?_⟩
  exact fun L => (ds_seq (ds_asg (df_str (x := (" !\"#$&'()*+,-./0123456789:;<=>?@ABCDEFGHIJKLMNOPQRSTUVWXYZ[\\]^_`" : Str))) (dg_name (i := 1)))
     (ds_seq (ds_asg (df_op rd_add (DF.e (df_var (i := 1))) (DF.e (df_str (x := ("abcdefghijklmnopqrstuvwxyz{|}~" : Str))))) (dg_name (i := 1)))
     (ds_ret (df_op rd_ix (DF.e (df_var (i := 1))) (DF.e (df_op rd_mod (DF.e (df_var (i := 0))) (DF.e (df_B rc_len (da_cons (DF.e (df_var (i := 1))) da_nil)))))))))
end
abbrev s__law_sign_spoiled : Stmt := topS 27
abbrev N__law_sign_spoiled : List Str := ["text", "cell", "often", "spot", "sign"]
abbrev P__law_sign_spoiled : List Str := ["text", "cell"]
theorem sc__law_sign_spoiled : FnScope N__law_sign_spoiled P__law_sign_spoiled (defScope s__law_sign_spoiled) := ⟨rfl, rfl, rfl, by decide +kernel, rfl, by decide +kernel, by decide +kernel⟩
noncomputable def g__law_sign_spoiled : MS :=
 (sSeq (sAsg (gN 2) (eC (.str (" -0123456789[]()." : Str))))
 (sSeq (sAsg (gN 3) (e2 modD (e2 divD (eVarF 1) (eC (.int 3))) (e2 addD (eB lenD (aCons (eVarF 0) aNil)) (eC (.int 1)))))
 (sSeq (sAsg (gN 4) (e2 ixD (eVarF 2) (e2 modD (e2 divD (eVarF 1) (eC (.int 1009))) (eB lenD (aCons (eVarF 2) aNil)))))
 (sSeq (sIf (tE (e2 eqD (e2 modD (e2 divD (eVarF 1) (eC (.int 7))) (eC (.int 2))) (eC (.int 1)))) (sAsg (gN 4) (eCall f__law_sign_by (aCons (e2 divD (eVarF 1) (eC (.int 1009))) aNil))) sNext)
 (sSeq (sIf (tE (e2 eqD (e2 modD (eVarF 1) (eC (.int 3))) (eC (.int 0)))) (sRet (e2 addD (e2 addD (eSl slD (eVarF 0) oNone (oSome (eVarF 3))) (eVarF 4)) (eSl slD (eVarF 0) (oSome (eVarF 3)) oNone))) sNext)
 (sSeq (sIf (tE (e2 eqD (e2 modD (eVarF 1) (eC (.int 3))) (eC (.int 1)))) (sRet (e2 addD (e2 addD (eSl slD (eVarF 0) oNone (oSome (eVarF 3))) (eVarF 4)) (eSl slD (eVarF 0) (oSome (e2 addD (eVarF 3) (eC (.int 1)))) oNone))) sNext)
 (sRet (e2 addD (eSl slD (eVarF 0) oNone (oSome (eVarF 3))) (eSl slD (eVarF 0) (oSome (e2 addD (eVarF 3) (eC (.int 1)))) oNone)))))))))
noncomputable def f__law_sign_spoiled : List D → M D := mFn 2 5 g__law_sign_spoiled
section
variable {P : Program} {w : World} {K : PySem.W.Frag} {mg : Str → Option Value} {base : Heap}
theorem ok__law_sign_spoiled (T : Txt K mg) (dd : DefAt K mg "_law_sign_spoiled" s__law_sign_spoiled) (c__law_sign_by : FnAt P w K mg base "_law_sign_by" P__law_sign_by 1 f__law_sign_by) : FnAt P w K mg base "_law_sign_spoiled" P__law_sign_spoiled 2 f__law_sign_spoiled := by
  obtain ⟨a__law_sign_by, fd__law_sign_by, m__law_sign_by, kp__law_sign_by, b__law_sign_by, G__law_sign_by⟩ := c__law_sign_by
  refine fn_at (N := N__law_sign_spoiled) (g := g__law_sign_spoiled) dd sc__law_sign_spoiled (fun _ _ _ _ _ _ us hl => match us, hl with | [_, _], _ => rfl) ?_
  intro f cdv A outer s H E hr
  refine ⟨_, (pss_cons (ps_set (i := 2) sc__law_sign_spoiled.nd rfl (Or.inl rfl) pe_str)
     (pss_cons (ps_set (i := 3) sc__law_sign_spoiled.nd rfl (Or.inl rfl) (pe_op op_mod (pe_op op_fdivW (pv 1) pe_int) (pe_op (kAdd (K := K)) (pe_callB (kLen (K := K)) (by rfl) T.b_len boot_len (pa_cons (pv 0) pa_nil)) pe_int)))
     (pss_cons (ps_set (i := 4) sc__law_sign_spoiled.nd rfl (Or.inl rfl) (pe_ix (kIx (K := K)) (pv 2) (pe_op op_mod (pe_op op_fdivW (pv 1) pe_int) (pe_callB (kLen (K := K)) (by rfl) T.b_len boot_len (pa_cons (pv 2) pa_nil))) (fun _ _ => rfl)))
     (pss_cons (ps_if (pt_cmpR (kEq (K := K) (hu64 hr)) (pe_op op_mod (pe_op op_fdivW (pv 1) pe_int) pe_int) pe_int (nomark _)) (pss_one (ps_set (i := 4) sc__law_sign_spoiled.nd rfl (Or.inl rfl) (pe_callS G__law_sign_by (hr.mono (by decide)) (by rfl) m__law_sign_by kp__law_sign_by b__law_sign_by (fun σ => passAt (takes_of rfl rfl rfl rfl) σ) (pa_cons (pe_op op_fdivW (pv 1) pe_int) pa_nil)))) pss_nil)
     (pss_cons (ps_if (pt_cmpR (kEq (K := K) (hu64 hr)) (pe_op op_mod (pv 1) pe_int) pe_int (nomark _)) (pss_one (ps_ret (pe_op (kAdd (K := K)) (pe_op (kAdd (K := K)) (pe_slice (kSl (K := K)) (pv 0) po_none (po_some (pv 3))) (pv 4)) (pe_slice (kSl (K := K)) (pv 0) (po_some (pv 3)) po_none)))) pss_nil)
     (pss_cons (ps_if (pt_cmpR (kEq (K := K) (hu64 hr)) (pe_op op_mod (pv 1) pe_int) pe_int (nomark _)) (pss_one (ps_ret (pe_op (kAdd (K := K)) (pe_op (kAdd (K := K)) (pe_slice (kSl (K := K)) (pv 0) po_none (po_some (pv 3))) (pv 4)) (pe_slice (kSl (K := K)) (pv 0) (po_some (pe_op (kAdd (K := K)) (pv 3) pe_int)) po_none)))) pss_nil)
     (pss_one (ps_ret (pe_op (kAdd (K := K)) (pe_slice (kSl (K := K)) (pv 0) po_none (po_some (pv 3))) (pe_slice (kSl (K := K)) (pv 0) (po_some (pe_op (kAdd (K := K)) (pv 3) pe_int)) po_none)))))))))), ?_⟩
  exact fun L => (ds_seq (ds_asg (df_str (x := (" -0123456789[]()." : Str))) (dg_name (i := 2)))
     (ds_seq (ds_asg (df_op rd_mod (DF.e (df_op rd_div (DF.e (df_var (i := 1))) (DF.e (df_int (i := 3))))) (DF.e (df_op rd_add (DF.e (df_B rc_len (da_cons (DF.e (df_var (i := 0))) da_nil))) (DF.e (df_int (i := 1)))))) (dg_name (i := 3)))
     (ds_seq (ds_asg (df_op rd_ix (DF.e (df_var (i := 2))) (DF.e (df_op rd_mod (DF.e (df_op rd_div (DF.e (df_var (i := 1))) (DF.e (df_int (i := 1009))))) (DF.e (df_B rc_len (da_cons (DF.e (df_var (i := 2))) da_nil)))))) (dg_name (i := 4)))
     (ds_seq (ds_if (dt_test (DF.e (df_op rd_eq (DF.e (df_op rd_mod (DF.e (df_op rd_div (DF.e (df_var (i := 1))) (DF.e (df_int (i := 7))))) (DF.e (df_int (i := 2))))) (DF.e (df_int (i := 1)))))) (ds_asg (df_call (daf_cons (df_op rd_div (DF.e (df_var (i := 1))) (DF.e (df_int (i := 1009)))) daf_nil)) (dg_name (i := 4))) ds_next)
     (ds_seq (ds_if (dt_test (DF.e (df_op rd_eq (DF.e (df_op rd_mod (DF.e (df_var (i := 1))) (DF.e (df_int (i := 3))))) (DF.e (df_int (i := 0)))))) (ds_ret (df_op rd_add (DF.e (df_op rd_add (DF.e (df_sl rs_sl (DF.e (df_var (i := 0))) do_none (do_some (DF.e (df_var (i := 3)))))) (DF.e (df_var (i := 4))))) (DF.e (df_sl rs_sl (DF.e (df_var (i := 0))) (do_some (DF.e (df_var (i := 3)))) do_none)))) ds_next)
     (ds_seq (ds_if (dt_test (DF.e (df_op rd_eq (DF.e (df_op rd_mod (DF.e (df_var (i := 1))) (DF.e (df_int (i := 3))))) (DF.e (df_int (i := 1)))))) (ds_ret (df_op rd_add (DF.e (df_op rd_add (DF.e (df_sl rs_sl (DF.e (df_var (i := 0))) do_none (do_some (DF.e (df_var (i := 3)))))) (DF.e (df_var (i := 4))))) (DF.e (df_sl rs_sl (DF.e (df_var (i := 0))) (do_some (DF.e (df_op rd_add (DF.e (df_var (i := 3))) (DF.e (df_int (i := 1)))))) do_none)))) ds_next)
     (ds_ret (df_op rd_add (DF.e (df_sl rs_sl (DF.e (df_var (i := 0))) do_none (do_some (DF.e (df_var (i := 3)))))) (DF.e (df_sl rs_sl (DF.e (df_var (i := 0))) (do_some (DF.e (df_op rd_add (DF.e (df_var (i := 3))) (DF.e (df_int (i := 1)))))) do_none))))))))))
end
abbrev s_law : Stmt := topS 33
abbrev N_law : List Str := ["script", "e", "mates", "text", "turns", "turn", "due", "signs", "found", "cell", "stave"]
abbrev P_law : List Str := ["script"]
theorem sc_law : FnScope N_law P_law (defScope s_law) := ⟨rfl, rfl, rfl, by decide +kernel, rfl, by decide +kernel, by decide +kernel⟩
noncomputable def b1_law : MS :=
 (sSeq (sAsg (gN 9) (e2 modD (e2 mulD (e2 addD (e2 modD (eCall f__law_cell_at (aCons (eVarF 0) (aCons (eC (.int 2)) aNil))) (eC (.int 1000000007))) (eVarF 5)) (eC (.int 48271))) (eC (.int 2147483647))))
 (sSeq (sAsg (gN 9) (e2 modD (e2 mulD (eVarF 9) (eVarF 9)) (eC (.int 2147483647))))
 (sIf (tE (e2 eqD (e2 modD (eVarF 9) (eC (.int 4))) (eC (.int 1)))) (sAsg (gN 3) (eCall f__law_part_spoiled (aCons (eVarF 3) (aCons (e2 divD (eVarF 9) (eC (.int 4))) aNil)))) (sIf (tE (e2 eqD (e2 modD (eVarF 9) (eC (.int 4))) (eC (.int 2)))) (sAsg (gN 3) (eCall f__law_number_spoiled (aCons (eVarF 3) (aCons (e2 divD (eVarF 9) (eC (.int 4))) aNil)))) (sAsg (gN 3) (eCall f__law_sign_spoiled (aCons (eVarF 3) (aCons (e2 divD (eVarF 9) (eC (.int 4))) aNil))))))))
noncomputable def g_law : MS :=
 (sSeq (sAsg (gN 2) (eCall f__law_mates (aCons (eSl slD (eVarF 0) (oSome (eC (.int 3))) oNone) (aCons (eCall f__law_staves (aCons (eCall f__law_cell_at (aCons (eVarF 0) (aCons (eC (.int 0)) aNil))) aNil)) aNil))))
 (sSeq (sAsg (gN 3) (eCall f__law_text_else (aCons (eVarF 2) (aCons (eCall f__law_cell_at (aCons (eVarF 0) (aCons (eC (.int 1)) aNil))) aNil))))
 (sSeq (sAsg (gN 4) (e2 addD (eC (.int 1)) (e2 modD (e2 divD (eCall f__law_cell_at (aCons (eVarF 0) (aCons (eC (.int 1)) aNil))) (eC (.int 221))) (eC (.int 3)))))
 (sSeq (sIf (tE (e2 eqD (e2 modD (e2 divD (eCall f__law_cell_at (aCons (eVarF 0) (aCons (eC (.int 1)) aNil))) (eC (.int 663))) (eC (.int 8))) (eC (.int 1)))) (sSeq (sAsg (gN 3) (eM1 joinD (eC (.str (" " : Str))) (eL (eLc (iR1 (aCons (e2 addD (eC (.int 39)) (e2 modD (e2 divD (eCall f__law_cell_at (aCons (eVarF 0) (aCons (eC (.int 1)) aNil))) (eC (.int 5304))) (eC (.int 4)))) aNil)) (gN 10) tYesF (e2 addD (e2 addD (eC (.str ("[" : Str))) (eB strD (aCons (eVarF 10) aNil))) (eC (.str ("]" : Str)))) [10]))))
 (sAsg (gN 4) (e2 modD (e2 divD (eCall f__law_cell_at (aCons (eVarF 0) (aCons (eC (.int 1)) aNil))) (eC (.int 221))) (eC (.int 2))))) sNext)
 (sSeq (sFor (iR1 (aCons (eVarF 4) aNil)) (gN 5) b1_law)
 (sSeq (sAsg (gN 6) (eCall f__law_read (aCons (eVarF 3) aNil)))
 (sSeq (sAsg (gN 7) (eL aNil))
 (sSeq (sAsg (gN 8) (eC .none))
 (sSeq (sTryAs 1 tab_ClaspError (sAsg (gN 8) (eCall f_read_work (aCons (eVarF 3) aNil))) (fun n => (sAsg (gN 7) (eL (aCons (eIsE 1 tab_NoText n) (aCons (eIsE 1 tab_ValueError n) (aCons (eIsE 1 tab_BadWork n) aNil)))))))
 (sSeq (sIf (tE (e2 isD (eVarF 6) (eC .none))) (sRet (e2 eqD (eVarF 7) (eL (aCons (eC (.bool true)) (aCons (eC (.bool true)) (aCons (eC (.bool false)) aNil)))))) sNext)
 (sRet (eBool (eAnd (e2 eqD (eVarF 7) (eL aNil)) (eCall f__law_numbers (aCons (eVarF 8) (aCons (eVarF 6) aNil))))))))))))))))
noncomputable def f_law : List D → M D := mFn 1 11 g_law
section
variable {P : Program} {w : World} {K : PySem.W.Frag} {mg : Str → Option Value} {base : Heap}
theorem ok_law {f : Addr} {fd : FuncData} (T : Txt K mg) (F : Fun K "law" "law" s_law f fd) (c__law_cell_at : FnAt P w K mg base "_law_cell_at" P__law_cell_at 1 f__law_cell_at) (c__law_mates : FnAt P w K mg base "_law_mates" P__law_mates 1 f__law_mates) (c__law_number_spoiled : FnAt P w K mg base "_law_number_spoiled" P__law_number_spoiled 1 f__law_number_spoiled) (c__law_numbers : FnAt P w K mg base "_law_numbers" P__law_numbers 2 f__law_numbers) (c__law_part_spoiled : FnAt P w K mg base "_law_part_spoiled" P__law_part_spoiled 1 f__law_part_spoiled) (c__law_read : FnAt P w K mg base "_law_read" P__law_read 3 f__law_read) (c__law_sign_spoiled : FnAt P w K mg base "_law_sign_spoiled" P__law_sign_spoiled 2 f__law_sign_spoiled) (c__law_staves : FnAt P w K mg base "_law_staves" P__law_staves 1 f__law_staves) (c__law_text_else : FnAt P w K mg base "_law_text_else" P__law_text_else 4 f__law_text_else) (c_read_work : FnAt P w K mg base "read_work" P_read_work 3 f_read_work) (hlaw : ∀ ns, Scr ns → f_law [scrD ns] = .ok (.bool true)) : FnOk P w K mg base CX0 5 f fd ["script"] (spLaw K) := by
  obtain ⟨a__law_cell_at, fd__law_cell_at, m__law_cell_at, kp__law_cell_at, b__law_cell_at, G__law_cell_at⟩ := c__law_cell_at
  obtain ⟨a__law_mates, fd__law_mates, m__law_mates, kp__law_mates, b__law_mates, G__law_mates⟩ := c__law_mates
  obtain ⟨a__law_number_spoiled, fd__law_number_spoiled, m__law_number_spoiled, kp__law_number_spoiled, b__law_number_spoiled, G__law_number_spoiled⟩ := c__law_number_spoiled
  obtain ⟨a__law_numbers, fd__law_numbers, m__law_numbers, kp__law_numbers, b__law_numbers, G__law_numbers⟩ := c__law_numbers
  obtain ⟨a__law_part_spoiled, fd__law_part_spoiled, m__law_part_spoiled, kp__law_part_spoiled, b__law_part_spoiled, G__law_part_spoiled⟩ := c__law_part_spoiled
  obtain ⟨a__law_read, fd__law_read, m__law_read, kp__law_read, b__law_read, G__law_read⟩ := c__law_read
  obtain ⟨a__law_sign_spoiled, fd__law_sign_spoiled, m__law_sign_spoiled, kp__law_sign_spoiled, b__law_sign_spoiled, G__law_sign_spoiled⟩ := c__law_sign_spoiled
  obtain ⟨a__law_staves, fd__law_staves, m__law_staves, kp__law_staves, b__law_staves, G__law_staves⟩ := c__law_staves
  obtain ⟨a__law_text_else, fd__law_text_else, m__law_text_else, kp__law_text_else, b__law_text_else, G__law_text_else⟩ := c__law_text_else
  obtain ⟨a_read_work, fd_read_work, m_read_work, kp_read_work, b_read_work, G_read_work⟩ := c_read_work
  obtain ⟨D_BadWork, g_BadWork, F_BadWork⟩ := T.k_BadWork
  obtain ⟨D_ClaspError, g_ClaspError, F_ClaspError⟩ := T.k_ClaspError
  obtain ⟨D_NoText, g_NoText, F_NoText⟩ := T.k_NoText
  refine law_at (N := N_law) (g := g_law) sc_law F ?_ hlaw
  intro f cdv A outer s H E hr
  refine ⟨_, (pss_cons (ps_set (i := 2) sc_law.nd rfl (Or.inl rfl) (pe_callS G__law_mates (hr.mono (by decide)) (by rfl) m__law_mates kp__law_mates b__law_mates (fun σ => passAt takes0 σ) (pa_cons (pe_slice (kSl (K := K)) (pv 0) (po_some pe_int) po_none) (pa_cons (pe_callS G__law_staves (hr.mono (by decide)) (by rfl) m__law_staves kp__law_staves b__law_staves (fun σ => passAt takes0 σ) (pa_cons (pe_callS G__law_cell_at (hr.mono (by decide)) (by rfl) m__law_cell_at kp__law_cell_at b__law_cell_at (fun σ => passAt takes0 σ) (pa_cons (pv 0) (pa_cons pe_int pa_nil))) pa_nil)) pa_nil))))
     (pss_cons (ps_set (i := 3) sc_law.nd rfl (Or.inl rfl) (pe_callS G__law_text_else (hr.mono (by decide)) (by rfl) m__law_text_else kp__law_text_else b__law_text_else (fun σ => passAt takes0 σ) (pa_cons (pv 2) (pa_cons (pe_callS G__law_cell_at (hr.mono (by decide)) (by rfl) m__law_cell_at kp__law_cell_at b__law_cell_at (fun σ => passAt takes0 σ) (pa_cons (pv 0) (pa_cons pe_int pa_nil))) pa_nil))))
     (pss_cons (ps_set (i := 4) sc_law.nd rfl (Or.inl rfl) (pe_op (kAdd (K := K)) pe_int (pe_op op_mod (pe_op op_fdivW (pe_callS G__law_cell_at (hr.mono (by decide)) (by rfl) m__law_cell_at kp__law_cell_at b__law_cell_at (fun σ => passAt takes0 σ) (pa_cons (pv 0) (pa_cons pe_int pa_nil))) pe_int) pe_int)))
     (pss_cons (ps_if (pt_cmpR (kEq (K := K) (hu64 hr)) (pe_op op_mod (pe_op op_fdivW (pe_callS G__law_cell_at (hr.mono (by decide)) (by rfl) m__law_cell_at kp__law_cell_at b__law_cell_at (fun σ => passAt takes0 σ) (pa_cons (pv 0) (pa_cons pe_int pa_nil))) pe_int) pe_int) pe_int (nomark _)) (pss_cons (ps_set (i := 3) sc_law.nd rfl (Or.inl rfl) (pe_joinK (K := K) pe_str (pe_lc (own := [("stave", 10)]) (by rfl) sc_law.nd (pi_range1 (by rfl) T.b_range (pa_cons (pe_op (kAdd (K := K)) pe_int (pe_op op_mod (pe_op op_fdivW (pe_callS G__law_cell_at (hr.mono (by decide)) (by rfl) m__law_cell_at kp__law_cell_at b__law_cell_at (fun σ => passAt takes0 σ) (pa_cons (pv 0) (pa_cons pe_int pa_nil))) pe_int) pe_int)) pa_nil)) (blkOk_by (own := [("stave", 10)]) (N := N_law) (sc := defScope s_law) (by decide +kernel)) (fun _ _ _ _ _ => (pg_name (i := 10) sc_law.nd rfl (Or.inl rfl))) (fun _ _ _ _ _ => pts_nil) (fun _ _ _ _ _ => (pe_op (kAdd (K := K)) (pe_op (kAdd (K := K)) pe_str (pe_callTy call_strU (by rfl) T.b_str boot_str (pa_cons (pv 10) pa_nil))) pe_str)))))
     (pss_one (ps_set (i := 4) sc_law.nd rfl (Or.inl rfl) (pe_op op_mod (pe_op op_fdivW (pe_callS G__law_cell_at (hr.mono (by decide)) (by rfl) m__law_cell_at kp__law_cell_at b__law_cell_at (fun σ => passAt takes0 σ) (pa_cons (pv 0) (pa_cons pe_int pa_nil))) pe_int) pe_int)))) pss_nil)
     (pss_cons (ps_for PassesOwn.never rfl (pi_range1 (by rfl) T.b_range (pa_cons (pv 4) pa_nil)) (pg_name (i := 5) sc_law.nd rfl (Or.inl rfl)) (pss_cons (ps_set (i := 9) sc_law.nd rfl (Or.inl rfl) (pe_op op_mod (pe_op op_mulU (pe_op (kAdd (K := K)) (pe_op op_mod (pe_callS G__law_cell_at (hr.mono (by decide)) (by rfl) m__law_cell_at kp__law_cell_at b__law_cell_at (fun σ => passAt takes0 σ) (pa_cons (pv 0) (pa_cons pe_int pa_nil))) pe_int) (pv 5)) pe_int) pe_int))
     (pss_cons (ps_set (i := 9) sc_law.nd rfl (Or.inl rfl) (pe_op op_mod (pe_op op_mulU (pv 9) (pv 9)) pe_int))
     (pss_one (ps_if (pt_cmpR (kEq (K := K) (hu64 hr)) (pe_op op_mod (pv 9) pe_int) pe_int (nomark _)) (pss_one (ps_set (i := 3) sc_law.nd rfl (Or.inl rfl) (pe_callS G__law_part_spoiled (hr.mono (by decide)) (by rfl) m__law_part_spoiled kp__law_part_spoiled b__law_part_spoiled (fun σ => passAt takes0 σ) (pa_cons (pv 3) (pa_cons (pe_op op_fdivW (pv 9) pe_int) pa_nil))))) (pss_one (ps_if (pt_cmpR (kEq (K := K) (hu64 hr)) (pe_op op_mod (pv 9) pe_int) pe_int (nomark _)) (pss_one (ps_set (i := 3) sc_law.nd rfl (Or.inl rfl) (pe_callS G__law_number_spoiled (hr.mono (by decide)) (by rfl) m__law_number_spoiled kp__law_number_spoiled b__law_number_spoiled (fun σ => passAt takes0 σ) (pa_cons (pv 3) (pa_cons (pe_op op_fdivW (pv 9) pe_int) pa_nil))))) (pss_one (ps_set (i := 3) sc_law.nd rfl (Or.inl rfl) (pe_callS G__law_sign_spoiled (hr.mono (by decide)) (by rfl) m__law_sign_spoiled kp__law_sign_spoiled b__law_sign_spoiled (fun σ => passAt takes0 σ) (pa_cons (pv 3) (pa_cons (pe_op op_fdivW (pv 9) pe_int) pa_nil))))))))))))
     (pss_cons (ps_set (i := 6) sc_law.nd rfl (Or.inl rfl) (pe_callS G__law_read (hr.mono (by decide)) (by rfl) m__law_read kp__law_read b__law_read (fun σ => passAt takes0 σ) (pa_cons (pv 3) pa_nil)))
     (pss_cons (ps_set (i := 7) sc_law.nd rfl (Or.inl rfl) (pe_lst pa_nil))
     (pss_cons (ps_set (i := 8) sc_law.nd rfl (Or.inl rfl) pe_non)
     (pss_cons (ps_try_as (i := 1) rfl rfl sc_law.nd rfl rfl ⟨by rfl, by decide, Or.inl g_ClaspError⟩ takes0 (fun W pn1 xe tk1 hpo1 => pssId _ (pss_one (ps_set (i := 8) sc_law.nd rfl (Or.inl rfl) (pe_callS G_read_work (hr.mono (by decide)) (by rfl) m_read_work kp_read_work b_read_work (fun σ => passAt tk1 σ) (pa_cons (pv 3) pa_nil)))) rfl) (fun a oe cls d pn hz hf => pssId _ (pss_one (ps_set (i := 7) sc_law.nd rfl (Or.inl rfl) (pe_lst (pa_cons (pe_callB (call_isX (K := K) hz hf) (by rfl) T.b_isinstance boot_isinstance (pa_cons (pv 1) (pa_cons (pe_glob (v := .ref D_NoText) (by rfl) g_NoText rfl) pa_nil))) (pa_cons (pe_callB (call_isX (K := K) hz hf) (by rfl) T.b_isinstance boot_isinstance (pa_cons (pv 1) (pa_cons (pe_bltn (v := .ty "ValueError") (by rfl) T.b_ValueError boot_ValueError rfl) pa_nil))) (pa_cons (pe_callB (call_isX (K := K) hz hf) (by rfl) T.b_isinstance boot_isinstance (pa_cons (pv 1) (pa_cons (pe_glob (v := .ref D_BadWork) (by rfl) g_BadWork rfl) pa_nil))) pa_nil)))))) rfl))
     (pss_cons (ps_if (pt_cmpR op_isU (pv 6) pe_non (nomark _)) (pss_one (ps_ret (pe_cmpR (kEq (K := K) (hu64 hr)) (pv 7) (pe_lst (pa_cons pe_bl (pa_cons pe_bl (pa_cons pe_bl pa_nil)))) (nomark _)))) pss_nil)
     (pss_one (ps_ret (pe_and (pe_cmpR (kEq (K := K) (hu64 hr)) (pv 7) (pe_lst pa_nil) (nomark _)) (pe_one (pe_callS G__law_numbers (hr.mono (by decide)) (by rfl) m__law_numbers kp__law_numbers b__law_numbers (fun σ => passAt takes0 σ) (pa_cons (pv 8) (pa_cons (pv 6) pa_nil))))))))))))))))), ?_⟩
  exact fun L => (ds_seq (ds_asg (df_call (daf_cons (df_sl rs_sl (DF.e (df_var (i := 0))) (do_some (DF.e (df_int (i := 3)))) do_none) (daf_cons (df_call (daf_cons (df_call (daf_cons (df_var (i := 0)) (daf_cons (df_int (i := 0)) daf_nil))) daf_nil)) daf_nil))) (dg_name (i := 2)))
     (ds_seq (ds_asg (df_call (daf_cons (df_var (i := 2)) (daf_cons (df_call (daf_cons (df_var (i := 0)) (daf_cons (df_int (i := 1)) daf_nil))) daf_nil))) (dg_name (i := 3)))
     (ds_seq (ds_asg (df_op rd_add (DF.e (df_int (i := 1))) (DF.e (df_op rd_mod (DF.e (df_op rd_div (DF.e (df_call (daf_cons (df_var (i := 0)) (daf_cons (df_int (i := 1)) daf_nil)))) (DF.e (df_int (i := 221))))) (DF.e (df_int (i := 3)))))) (dg_name (i := 4)))
     (ds_seq (ds_if (dt_test (DF.e (df_op rd_eq (DF.e (df_op rd_mod (DF.e (df_op rd_div (DF.e (df_call (daf_cons (df_var (i := 0)) (daf_cons (df_int (i := 1)) daf_nil)))) (DF.e (df_int (i := 663))))) (DF.e (df_int (i := 8))))) (DF.e (df_int (i := 1)))))) (ds_seq (ds_asg (df_m1 rs_join (DF.e (df_str (x := (" " : Str)))) (DF.e (DL.fz (dl_lc (vs := [10]) (di_b (di_rng1 (da_cons (DF.e (df_op rd_add (DF.e (df_int (i := 39))) (DF.e (df_op rd_mod (DF.e (df_op rd_div (DF.e (df_call (daf_cons (df_var (i := 0)) (daf_cons (df_int (i := 1)) daf_nil)))) (DF.e (df_int (i := 5304))))) (DF.e (df_int (i := 4))))))) da_nil))) (dg_name (i := 10)) (by decide) dt_yes (df_op rd_add (DF.e (df_op rd_add (DF.e (df_str (x := ("[" : Str)))) (DF.e (df_B rc_str (da_cons (DF.e (df_var (i := 10))) da_nil))))) (DF.e (df_str (x := ("]" : Str))))))))) (dg_name (i := 3)))
     (ds_asg (df_op rd_mod (DF.e (df_op rd_div (DF.e (df_call (daf_cons (df_var (i := 0)) (daf_cons (df_int (i := 1)) daf_nil)))) (DF.e (df_int (i := 221))))) (DF.e (df_int (i := 2)))) (dg_name (i := 4)))) ds_next)
     (ds_seq (ds_for (di_rng1 (da_cons (DF.e (df_var (i := 4))) da_nil)) (dg_name (i := 5)) (ds_seq (ds_asg (df_op rd_mod (DF.e (df_op rd_mul (DF.e (df_op rd_add (DF.e (df_op rd_mod (DF.e (df_call (daf_cons (df_var (i := 0)) (daf_cons (df_int (i := 2)) daf_nil)))) (DF.e (df_int (i := 1000000007))))) (DF.e (df_var (i := 5))))) (DF.e (df_int (i := 48271))))) (DF.e (df_int (i := 2147483647)))) (dg_name (i := 9)))
     (ds_seq (ds_asg (df_op rd_mod (DF.e (df_op rd_mul (DF.e (df_var (i := 9))) (DF.e (df_var (i := 9))))) (DF.e (df_int (i := 2147483647)))) (dg_name (i := 9)))
     (ds_if (dt_test (DF.e (df_op rd_eq (DF.e (df_op rd_mod (DF.e (df_var (i := 9))) (DF.e (df_int (i := 4))))) (DF.e (df_int (i := 1)))))) (ds_asg (df_call (daf_cons (df_var (i := 3)) (daf_cons (df_op rd_div (DF.e (df_var (i := 9))) (DF.e (df_int (i := 4)))) daf_nil))) (dg_name (i := 3))) (ds_if (dt_test (DF.e (df_op rd_eq (DF.e (df_op rd_mod (DF.e (df_var (i := 9))) (DF.e (df_int (i := 4))))) (DF.e (df_int (i := 2)))))) (ds_asg (df_call (daf_cons (df_var (i := 3)) (daf_cons (df_op rd_div (DF.e (df_var (i := 9))) (DF.e (df_int (i := 4)))) daf_nil))) (dg_name (i := 3))) (ds_asg (df_call (daf_cons (df_var (i := 3)) (daf_cons (df_op rd_div (DF.e (df_var (i := 9))) (DF.e (df_int (i := 4)))) daf_nil))) (dg_name (i := 3))))))))
     (ds_seq (ds_asg (df_call (daf_cons (df_var (i := 3)) daf_nil)) (dg_name (i := 6)))
     (ds_seq (ds_asg (DL.fz (dl_lst daf_nil few_nil)) (dg_name (i := 7)))
     (ds_seq (ds_asg df_non (dg_name (i := 8)))
     (ds_seq (ds_tryAs (i := 1) (fun n b C e h => exm_at F_ClaspError g_ClaspError T.t_ClaspError e h) (fun W1 => (ds_asg (df_call (daf_cons (df_var (i := 3)) daf_nil)) (dg_name (i := 8)))) (fun a n C l hn0 hn => by
     have HC := T.l_ClaspError n _ C hn0 hn
     exact (ds_asg (DL.fz (dl_lst (daf_cons (df_isC (i := 1) HC hn F_NoText g_NoText T.t_NoText) (daf_cons (df_isTy (i := 1) HC hn (by decide +kernel) T.t_ValueError) (daf_cons (df_isC (i := 1) HC hn F_BadWork g_BadWork T.t_BadWork) daf_nil))) (few_cons (few_cons (few_cons few_nil))))) (dg_name (i := 7)))))
     (ds_seq (ds_if (dt_test (DF.e (df_op rd_is (DF.e (df_var (i := 6))) (DF.e df_non)))) (ds_ret (df_op rd_eq (DF.e (df_var (i := 7))) (DF.e (DL.fz (dl_lst (daf_cons (df_bl (b := true)) (daf_cons (df_bl (b := true)) (daf_cons (df_bl (b := false)) daf_nil))) (few_cons (few_cons (few_cons few_nil)))))))) ds_next)
     (ds_ret (df_ofE_bool (de_and (DF.e (df_op rd_eq (DF.e (df_var (i := 7))) (DF.e (DL.fz (dl_lst daf_nil few_nil))))) (DF.e (df_call (daf_cons (df_var (i := 8)) (daf_cons (df_var (i := 6)) daf_nil)))))))))))))))))
end
section
variable {P : Program} {w : World} {K : PySem.W.Frag} {mg : Str → Option Value} {base : Heap}
theorem all_ok {f : Addr} {fd : FuncData} (T : Txt K mg) (d__law_mates : DefAt K mg "_law_mates" s__law_mates) (d__law_far : DefAt K mg "_law_far" s__law_far) (d__law_chain : DefAt K mg "_law_chain" s__law_chain) (d__law_chains : DefAt K mg "_law_chains" s__law_chains) (d__law_back : DefAt K mg "_law_back" s__law_back) (d__law_written : DefAt K mg "_law_written" s__law_written) (d__law_text_else : DefAt K mg "_law_text_else" s__law_text_else) (d__law_stave : DefAt K mg "_law_stave" s__law_stave) (d__law_read_chains : DefAt K mg "_law_read_chains" s__law_read_chains) (d__law_read : DefAt K mg "_law_read" s__law_read) (d__law_staves : DefAt K mg "_law_staves" s__law_staves) (d__law_cell_at : DefAt K mg "_law_cell_at" s__law_cell_at) (d_work_by : DefAt K mg "work_by" s_work_by) (d_far_end : DefAt K mg "far_end" s_far_end) (d_work_from : DefAt K mg "work_from" s_work_from) (d_read_stave : DefAt K mg "read_stave" s_read_stave) (d_read_work : DefAt K mg "read_work" s_read_work) (d__law_whole : DefAt K mg "_law_whole" s__law_whole) (d__law_numbers : DefAt K mg "_law_numbers" s__law_numbers) (d__law_part_spoiled : DefAt K mg "_law_part_spoiled" s__law_part_spoiled) (d__law_number_spoiled : DefAt K mg "_law_number_spoiled" s__law_number_spoiled) (d__law_sign_by : DefAt K mg "_law_sign_by" s__law_sign_by) (d__law_sign_spoiled : DefAt K mg "_law_sign_spoiled" s__law_sign_spoiled) (F : Fun K "law" "law" s_law f fd) (hlaw : ∀ ns, Scr ns → f_law [scrD ns] = .ok (.bool true)) : FnOk P w K mg base CX0 5 f fd ["script"] (spLaw K) := by
  have c__law_mates : FnAt P w K mg base "_law_mates" P__law_mates 1 f__law_mates := ok__law_mates T d__law_mates 
  have c__law_far : FnAt P w K mg base "_law_far" P__law_far 1 f__law_far := ok__law_far T d__law_far 
  have c__law_chain : FnAt P w K mg base "_law_chain" P__law_chain 2 f__law_chain := ok__law_chain T d__law_chain c__law_far
  have c__law_chains : FnAt P w K mg base "_law_chains" P__law_chains 3 f__law_chains := ok__law_chains T d__law_chains c__law_chain
  have c__law_back : FnAt P w K mg base "_law_back" P__law_back 2 f__law_back := ok__law_back T d__law_back c__law_far
  have c__law_written : FnAt P w K mg base "_law_written" P__law_written 1 f__law_written := ok__law_written T d__law_written 
  have c__law_text_else : FnAt P w K mg base "_law_text_else" P__law_text_else 4 f__law_text_else := ok__law_text_else T d__law_text_else c__law_back c__law_chains c__law_written
  have c__law_stave : FnAt P w K mg base "_law_stave" P__law_stave 1 f__law_stave := ok__law_stave T d__law_stave 
  have c__law_read_chains : FnAt P w K mg base "_law_read_chains" P__law_read_chains 2 f__law_read_chains := ok__law_read_chains T d__law_read_chains c__law_stave
  have c__law_read : FnAt P w K mg base "_law_read" P__law_read 3 f__law_read := ok__law_read T d__law_read c__law_far c__law_read_chains
  have c__law_staves : FnAt P w K mg base "_law_staves" P__law_staves 1 f__law_staves := ok__law_staves T d__law_staves 
  have c__law_cell_at : FnAt P w K mg base "_law_cell_at" P__law_cell_at 1 f__law_cell_at := ok__law_cell_at T d__law_cell_at 
  have c_work_by : FnAtN P w K mg base "work_by" P_work_by 1 f_work_by := ok_work_by T d_work_by 
  have c_far_end : FnAtN P w K mg base "far_end" P_far_end 1 f_far_end := ok_far_end T d_far_end 
  have c_work_from : FnAtN P w K mg base "work_from" P_work_from 2 f_work_from := ok_work_from T d_work_from c_far_end c_work_by
  have c_read_stave : FnAt P w K mg base "read_stave" P_read_stave 1 f_read_stave := ok_read_stave T d_read_stave 
  have c_read_work : FnAt P w K mg base "read_work" P_read_work 3 f_read_work := ok_read_work T d_read_work c_read_stave c_work_from
  have c__law_whole : FnAt P w K mg base "_law_whole" P__law_whole 1 f__law_whole := ok__law_whole T d__law_whole 
  have c__law_numbers : FnAt P w K mg base "_law_numbers" P__law_numbers 2 f__law_numbers := ok__law_numbers T d__law_numbers c__law_whole
  have c__law_part_spoiled : FnAt P w K mg base "_law_part_spoiled" P__law_part_spoiled 1 f__law_part_spoiled := ok__law_part_spoiled T d__law_part_spoiled 
  have c__law_number_spoiled : FnAt P w K mg base "_law_number_spoiled" P__law_number_spoiled 1 f__law_number_spoiled := ok__law_number_spoiled T d__law_number_spoiled 
  have c__law_sign_by : FnAt P w K mg base "_law_sign_by" P__law_sign_by 1 f__law_sign_by := ok__law_sign_by T d__law_sign_by 
  have c__law_sign_spoiled : FnAt P w K mg base "_law_sign_spoiled" P__law_sign_spoiled 2 f__law_sign_spoiled := ok__law_sign_spoiled T d__law_sign_spoiled c__law_sign_by
  exact ok_law T F c__law_cell_at c__law_mates c__law_number_spoiled c__law_numbers c__law_part_spoiled c__law_read c__law_sign_spoiled c__law_staves c__law_text_else c_read_work hlaw
end
end Lw
set_option Elab.async false
set_option linter.all false
set_option maxRecDepth 100000
set_option maxHeartbeats 4000000
namespace Dn
open PySem L2
theorem inits_lasts : ∀ {cs : List (List Nat)}, (∀ c ∈ cs, c ≠ []) → (cs.flatMap List.dropLast ++ cs.map (·.getLastD 0)).Perm cs.flatten
  | [], _ => List.Perm.refl _
  | c :: cs, h => by
    have ih := inits_lasts (cs := cs) fun d hd => h d (List.mem_cons_of_mem _ hd)
    have hc := h c List.mem_cons_self
    have e : c.dropLast ++ [c.getLastD 0] = c := by
      rw [List.getLastD_eq_getLast?, List.getLast?_eq_some_getLast hc]
      exact List.dropLast_concat_getLast hc
    rw [List.flatMap_cons, List.map_cons, List.flatten_cons]
    have p : (c.dropLast ++ cs.flatMap List.dropLast ++ c.getLastD 0 :: cs.map (·.getLastD 0)).Perm (c.dropLast ++ c.getLastD 0 :: (cs.flatMap List.dropLast ++ cs.map (·.getLastD 0))) := by
      refine List.perm_middle.trans ?_
      rw [List.append_assoc]
      exact List.perm_middle.symm
    refine p.trans ?_
    rw [List.append_cons, e]
    exact ih.append_left c
theorem cps_fst : ∀ (xs : List Nat), (cps xs).map (fun p => far p.1) = xs.dropLast
  | [] => rfl
  | [x] => rfl
  | x :: y :: r => by
    show far (far x) :: (cps (y :: r)).map (fun p => far p.1) = x :: (y :: r).dropLast
    rw [cps_fst (y :: r), far_far]
theorem cl1_at {r : List Nat} (h : r ≠ []) : ∃ a b, r.head? = some a ∧ r.getLast? = some b ∧ clo1 r = (far b, a) := by
  cases r with
  | nil => exact (h rfl).elim
  | cons x r =>
    refine ⟨x, (x :: r).getLast (by simp), rfl, List.getLast?_eq_some_getLast (by simp), ?_⟩
    unfold clo1
    rw [List.getLastD_eq_getLast?, List.getLast?_eq_some_getLast (by simp)]
    rfl
/-- the work of chains -/
def cgM (rows rings : List (List Nat)) : Nat → Nat := (allC rows rings).foldl clasF id
section
variable {s : Nat} {rows rings : List (List Nat)} (ne : ∀ c ∈ rows ++ rings, c ≠ []) (st : (stsL (rows ++ rings).flatten).Perm (List.range s))
include st
theorem cg_pw : ((rows ++ rings).flatten).Pairwise fun x y => x / 2 ≠ y / 2 := by
  have nd : (stsL (rows ++ rings).flatten).Nodup := st.nodup_iff.mpr List.nodup_range
  unfold stsL at nd
  rw [List.Nodup, List.pairwise_map] at nd
  exact nd
theorem cg_nd : ((rows ++ rings).flatten).Nodup := (cg_pw st).imp fun h e => h (by rw [e])
theorem cg_one {x y : Nat} (hx : x ∈ (rows ++ rings).flatten) (hy : y ∈ (rows ++ rings).flatten) (e : x / 2 = y / 2) : x = y := by
  have nd := cg_pw st
  obtain ⟨i, hi, rfl⟩ := List.mem_iff_getElem.mp hx
  obtain ⟨j, hj, rfl⟩ := List.mem_iff_getElem.mp hy
  rw [List.pairwise_iff_getElem] at nd
  rcases Nat.lt_trichotomy i j with h | h | h
  · exact (nd i j hi hj h e).elim
  · subst h; rfl
  · exact (nd j i hj hi h e.symm).elim
theorem cg_lt {x : Nat} (hx : x ∈ (rows ++ rings).flatten) : x < 2 * s := by
  have : x / 2 ∈ List.range s := st.mem_iff.mp (List.mem_map_of_mem hx)
  have := List.mem_range.mp this
  omega
omit st
include ne
theorem cg_in {p : Nat × Nat} (hp : p ∈ allC rows rings) : p.2 ∈ (rows ++ rings).flatten ∧ far p.1 ∈ (rows ++ rings).flatten := by
  unfold allC at hp
  rcases List.mem_append.mp hp with hp | hp
  · obtain ⟨r, hr, hp⟩ := List.mem_flatMap.mp hp
    obtain ⟨h1, h2⟩ := cps_in hp
    exact ⟨List.mem_flatten.mpr ⟨r, hr, h1⟩, List.mem_flatten.mpr ⟨r, hr, h2⟩⟩
  · obtain ⟨r, hr, rfl⟩ := List.mem_map.mp hp
    obtain ⟨a, b, e1, e2, e3⟩ := cl1_at (ne r (List.mem_append_right _ hr))
    rw [e3]
    refine ⟨List.mem_flatten.mpr ⟨r, List.mem_append_right _ hr, List.mem_of_mem_head? (by rw [e1]; rfl)⟩, List.mem_flatten.mpr ⟨r, List.mem_append_right _ hr, ?_⟩⟩
    show far (far b) ∈ r
    rw [far_far]
    exact List.mem_of_mem_getLast? (by rw [e2]; rfl)
omit ne
theorem cg_snd : (allC rows rings).map Prod.snd = (rows ++ rings).flatMap List.tail ++ rings.map (·.headD 0) := by
  unfold allC
  rw [List.map_append, List.map_map, List.map_flatMap]
  congr 1
  congr 1
  exact funext cps_snd
theorem cg_fst : (allC rows rings).map (fun p => far p.1) = (rows ++ rings).flatMap List.dropLast ++ rings.map (·.getLastD 0) := by
  unfold allC
  rw [List.map_append, List.map_map, List.map_flatMap]
  congr 1
  · congr 1
    exact funext cps_fst
  · refine List.map_congr_left fun r _ => ?_
    show far (far (r.getLastD 0)) = _
    rw [far_far]
include ne st
theorem cg_dst : Dst (2 * s) (allC rows rings) := by
  have key : ∀ p ∈ allC rows rings, ∀ q ∈ allC rows rings, p.1 ≠ q.2 := fun p hp q hq e => by
    obtain ⟨_, h1⟩ := cg_in ne hp
    obtain ⟨h2, _⟩ := cg_in ne hq
    rw [← e] at h2
    exact far_ne (cg_one st h1 h2 far_half)
  have lt : ∀ p ∈ allC rows rings, p.1 < 2 * s ∧ p.2 < 2 * s := fun p hp => by
    obtain ⟨h2, h1⟩ := cg_in ne hp
    have := far_lt (n := 2 * s) (by omega) (cg_lt st h1)
    rw [far_far] at this
    exact ⟨this, cg_lt st h2⟩
  have nf := cg_nd st
  have n2 : ((allC rows rings).map Prod.snd).Nodup := by
    rw [cg_snd]
    refine List.Nodup.sublist ?_ ((tails_heads (cs := rows ++ rings) ne).nodup_iff.mpr nf)
    refine List.Sublist.append_left ?_ _
    rw [List.map_append]
    exact List.sublist_append_right _ _
  have n1 : ((allC rows rings).map fun p => far p.1).Nodup := by
    rw [cg_fst]
    refine List.Nodup.sublist ?_ ((inits_lasts (cs := rows ++ rings) ne).nodup_iff.mpr nf)
    refine List.Sublist.append_left ?_ _
    rw [List.map_append]
    exact List.sublist_append_right _ _
  rw [List.Nodup, List.pairwise_map] at n1 n2
  refine ⟨List.Pairwise.imp_of_mem (fun {p q} hp hq h => ⟨fun e => h.1 (by rw [e]), key p hp q hq, fun e => key q hq p hp e.symm, h.2⟩) (n1.and n2), fun p hp => ⟨key p hp p hp, lt p hp⟩⟩
theorem cg_inv : Inv (2 * s) (cgM rows rings) := fun e he => by
  obtain ⟨f1, f2⟩ := put_all (allC rows rings) id (cg_dst ne st)
  have dl := (cg_dst ne st).2
  unfold cgM
  by_cases q : ∃ p ∈ allC rows rings, e = p.1 ∨ e = p.2
  · obtain ⟨p, hp, h⟩ := q
    obtain ⟨g1, g2⟩ := f1 p hp
    obtain ⟨_, l1, l2⟩ := dl p hp
    rcases h with rfl | rfl
    · rw [g1]; exact ⟨l2, g2⟩
    · rw [g2]; exact ⟨l1, g1⟩
  · have out : ∀ p ∈ allC rows rings, e ≠ p.1 ∧ e ≠ p.2 := fun p hp => ⟨fun z => q ⟨p, hp, .inl z⟩, fun z => q ⟨p, hp, .inr z⟩⟩
    have := f2 e out
    have this : (allC rows rings).foldl clasF id e = e := this
    rw [this]
    exact ⟨he, this⟩
theorem cg_cover : Cover s (cgM rows rings) rows rings := by
  obtain ⟨f1, f2⟩ := put_all (allC rows rings) id (cg_dst ne st)
  have nf := cg_nd st
  have inC : ∀ r ∈ rows ++ rings, ∀ p ∈ cps r, p ∈ allC rows rings := fun r hr p hp => List.mem_append_left _ (List.mem_flatMap.mpr ⟨r, hr, hp⟩)
  refine ⟨fun r hr => ⟨ne r (List.mem_append_left _ hr), fun p hp => (f1 p (inC r (List.mem_append_left _ hr) p hp)).1, fun a ha => ?_, fun b hb => ?_⟩, fun r hr => ⟨ne r (List.mem_append_right _ hr), fun p hp => (f1 p (inC r (List.mem_append_right _ hr) p hp)).1, fun a b ha hb => ?_⟩, st⟩
  · have am : a ∈ (rows ++ rings).flatten := List.mem_flatten.mpr ⟨r, List.mem_append_left _ hr, List.mem_of_mem_head? (by rw [ha]; rfl)⟩
    refine f2 a fun p hp => ⟨fun e => ?_, fun e => ?_⟩
    · obtain ⟨_, h1⟩ := cg_in ne hp
      rw [← e] at h1
      exact far_ne (cg_one st h1 am far_half)
    · have nd := (tails_heads (cs := rows ++ rings) ne).nodup_iff.mpr nf
      have m2 : p.2 ∈ (allC rows rings).map Prod.snd := List.mem_map_of_mem hp
      rw [cg_snd] at m2
      have ma : a ∈ rows.map (·.headD 0) := List.mem_map.mpr ⟨r, hr, by rw [List.headD_eq_head?_getD, ha]; rfl⟩
      rw [List.map_append] at nd
      rw [e] at ma
      have nd2 : ((rows.map (·.headD 0)) ++ ((rows ++ rings).flatMap List.tail ++ rings.map (·.headD 0))).Nodup := by
        refine List.Perm.nodup_iff ?_ |>.mpr nd
        rw [← List.append_assoc, ← List.append_assoc]
        exact (List.perm_append_comm).append_right _
      exact (List.nodup_append.mp nd2).2.2 _ ma _ m2 rfl
  · have bm : b ∈ (rows ++ rings).flatten := List.mem_flatten.mpr ⟨r, List.mem_append_left _ hr, List.mem_of_mem_getLast? (by rw [hb]; rfl)⟩
    refine f2 (far b) fun p hp => ⟨fun e => ?_, fun e => ?_⟩
    · have nd := (inits_lasts (cs := rows ++ rings) ne).nodup_iff.mpr nf
      have m2 : far p.1 ∈ (allC rows rings).map (fun p => far p.1) := List.mem_map.mpr ⟨p, hp, rfl⟩
      rw [cg_fst, ← e, far_far] at m2
      have ma : b ∈ rows.map (·.getLastD 0) := List.mem_map.mpr ⟨r, hr, by rw [List.getLastD_eq_getLast?, hb]; rfl⟩
      rw [List.map_append] at nd
      have nd2 : ((rows.map (·.getLastD 0)) ++ ((rows ++ rings).flatMap List.dropLast ++ rings.map (·.getLastD 0))).Nodup := by
        refine List.Perm.nodup_iff ?_ |>.mpr nd
        rw [← List.append_assoc, ← List.append_assoc]
        exact (List.perm_append_comm).append_right _
      exact (List.nodup_append.mp nd2).2.2 _ ma _ m2 rfl
    · obtain ⟨h1, _⟩ := cg_in ne hp
      rw [← e] at h1
      exact far_ne (cg_one st h1 bm far_half)
  · have hne := ne r (List.mem_append_right _ hr)
    obtain ⟨a', b', e1, e2, e3⟩ := cl1_at hne
    rw [ha] at e1; rw [hb] at e2
    cases e1; cases e2
    have := (f1 (clo1 r) (List.mem_append_right _ (List.mem_map_of_mem hr))).1
    rw [e3] at this
    exact this
end
end Dn
set_option Elab.async false
set_option linter.all false
set_option maxRecDepth 100000
set_option maxHeartbeats 4000000
namespace Dn
open PySem L2 TL
def isDg (c : Nat) : Bool := Nat.ble 48 c && Nat.ble c 57
theorem isDg_iff {c : Nat} : isDg c = true ↔ 48 ≤ c ∧ c ≤ 57 := by
  unfold isDg
  rw [Bool.and_eq_true, Nat.ble_eq, Nat.ble_eq]
/-- one or two figures, no nought ahead of another one -/
def figP : List Nat → Option Nat
  | [] => none
  | c :: r => match r with
    | [] => if isDg c = true then some (c - 48) else none
    | d :: r2 => match r2 with
      | [] => if (isDg c && isDg d && !(Nat.beq c 48)) = true then some (10 * (c - 48) + (d - 48)) else none
      | _ :: _ => none
theorem figP_num {fs : List Nat} {v : Nat} (h : figP fs = some v) : fs = numL v ∧ v < 100 := by
  match fs, h with
  | [], h => cases h
  | [c], h =>
    have e : figP [c] = if isDg c = true then some (c - 48) else none := rfl
    rw [e] at h
    split at h
    case isTrue q =>
      have q := isDg_iff.mp q
      cases h
      refine ⟨?_, by omega⟩
      rw [numL_lt (by omega), show 48 + (c - 48) = c by omega]
    case isFalse => cases h
  | [c, d], h =>
    have e : figP [c, d] = if (isDg c && isDg d && !(Nat.beq c 48)) = true then some (10 * (c - 48) + (d - 48)) else none := rfl
    rw [e] at h
    split at h
    case isTrue q =>
      rw [Bool.and_eq_true, Bool.and_eq_true, isDg_iff, isDg_iff, Bool.not_eq_true'] at q
      have n : c ≠ 48 := fun z => by
        have q2 := q.2
        rw [z] at q2
        exact absurd q2 (by decide)
      cases h
      obtain ⟨⟨q1, q2⟩, _⟩ := q
      refine ⟨?_, by omega⟩
      rw [numL_step (by omega), show (10 * (c - 48) + (d - 48)) / 10 = c - 48 by omega, show (10 * (c - 48) + (d - 48)) % 10 = d - 48 by omega, numL_lt (by omega), show 48 + (c - 48) = c by omega, show 48 + (d - 48) = d by omega]
      rfl
    case isFalse => cases h
  | _ :: _ :: _ :: _, h => cases h
/-- a stave's text -/
def stvP : List Nat → Option Nat
  | [] => none
  | c :: r => if Nat.beq c 45 = true then (figP r).map fun v => 2 * v + 1 else (figP (c :: r)).map fun v => 2 * v
/-- the parts between the signs y -/
def wsp (y : Nat) : List Nat → List (List Nat)
  | [] => [[]]
  | c :: r => match wsp y r with
    | [] => [[c]]
    | w :: ws => if Nat.beq c y = true then [] :: w :: ws else (c :: w) :: ws
theorem wsp_ex (y : Nat) : ∀ cs : List Nat, ∃ w ws, wsp y cs = w :: ws
  | [] => ⟨_, _, rfl⟩
  | c :: r => by
    obtain ⟨w, ws, e⟩ := wsp_ex y r
    unfold wsp
    rw [e]
    show ∃ w' ws', (if Nat.beq c y = true then [] :: w :: ws else (c :: w) :: ws) = w' :: ws'
    split
    · exact ⟨_, _, rfl⟩
    · exact ⟨_, _, rfl⟩
theorem wsp_cons (y c : Nat) (r : List Nat) {w : List Nat} {ws : List (List Nat)} (e : wsp y r = w :: ws) : wsp y (c :: r) = if c = y then [] :: w :: ws else (c :: w) :: ws := by
  have h : wsp y (c :: r) = (match wsp y r with
    | [] => [[c]]
    | w :: ws => if Nat.beq c y = true then [] :: w :: ws else (c :: w) :: ws) := rfl
  rw [h, e]
  show (if Nat.beq c y = true then [] :: w :: ws else (c :: w) :: ws) = _
  by_cases q : c = y
  · rw [if_pos q, if_pos (by rw [q]; exact Nat.beq_refl y)]
  · rw [if_neg q, if_neg (fun z => q (Nat.eq_of_beq_eq_true z))]
theorem wsp_ne (y : Nat) (cs : List Nat) : wsp y cs ≠ [] := by
  obtain ⟨w, ws, e⟩ := wsp_ex y cs
  rw [e]
  intro z
  cases z
theorem wsp_join (y : Nat) : ∀ cs : List Nat, joinL [y] (wsp y cs) = cs
  | [] => rfl
  | c :: r => by
    obtain ⟨w, ws, e⟩ := wsp_ex y r
    have ih := wsp_join y r
    rw [e] at ih
    rw [wsp_cons y c r e]
    split
    case isTrue q =>
      subst q
      show [] ++ ([c] ++ joinL [c] (w :: ws)) = _
      rw [ih]
      rfl
    case isFalse q =>
      cases ws with
      | nil =>
        have ih : w = r := ih
        rw [ih]
        rfl
      | cons v vs =>
        have ih : w ++ ([y] ++ joinL [y] (v :: vs)) = r := ih
        show (c :: w) ++ ([y] ++ joinL [y] (v :: vs)) = _
        rw [List.cons_append, ih]
theorem wsp_free (y : Nat) : ∀ cs : List Nat, ∀ w ∈ wsp y cs, y ∉ w
  | [], w, h => by
    have h : w ∈ [[]] := h
    rw [List.mem_singleton] at h
    subst h
    simp
  | c :: r, w, h => by
    obtain ⟨w1, ws, e⟩ := wsp_ex y r
    have ih := wsp_free y r
    rw [e] at ih
    rw [wsp_cons y c r e] at h
    split at h
    · rcases List.mem_cons.mp h with h | h
      · subst h; simp
      · exact ih w h
    case isFalse q =>
      rcases List.mem_cons.mp h with h | h
      · subst h
        intro z
        rcases List.mem_cons.mp z with z | z
        · exact q z.symm
        · exact ih w1 List.mem_cons_self z
      · exact ih w (List.mem_cons_of_mem _ h)
theorem wsp_len (y : Nat) : ∀ cs : List Nat, (wsp y cs).length ≤ cs.length + 1 ∧ ∀ w ∈ wsp y cs, w.length ≤ cs.length
  | [] => ⟨Nat.le_refl _, fun w h => by
    have h : w ∈ [[]] := h
    rw [List.mem_singleton] at h
    subst h
    exact Nat.le_refl _⟩
  | c :: r => by
    obtain ⟨w1, ws, e⟩ := wsp_ex y r
    obtain ⟨l1, l2⟩ := wsp_len y r
    rw [e] at l1 l2
    rw [wsp_cons y c r e]
    rw [List.length_cons] at l1
    split
    · refine ⟨by simp only [List.length_cons]; omega, fun w h => ?_⟩
      rcases List.mem_cons.mp h with h | h
      · subst h; exact Nat.zero_le _
      · have := l2 w h; rw [List.length_cons]; omega
    · refine ⟨by simp only [List.length_cons]; omega, fun w h => ?_⟩
      rcases List.mem_cons.mp h with h | h
      · subst h
        have := l2 w1 List.mem_cons_self
        simp only [List.length_cons]; omega
      · have := l2 w (List.mem_cons_of_mem _ h); rw [List.length_cons]; omega
abbrev RS := List Kc × Option Kc
def cloS (ks : List Kc) (b : Bool) (ys w : List Nat) : Option RS :=
  if w.getLast? = some (clC b) then (stvP w.dropLast).map fun x => (ks ++ [(b, ys ++ [x])], none) else (stvP w).map fun x => (ks, some (b, ys ++ [x]))
def stpS : RS → List Nat → Option RS
  | (ks, some (b, ys)), w => cloS ks b ys w
  | (_, none), [] => none
  | (ks, none), c :: w => if c = 91 then cloS ks true [] w else if c = 40 then cloS ks false [] w else none
def goS : List (List Nat) → RS → Option RS
  | [], s => some s
  | w :: ws, s => match stpS s w with
    | some s' => goS ws s'
    | none => none
def parP (ls : List (List Nat)) : Option (List Kc) := match goS ls ([], none) with
  | some (ks, none) => some ks
  | _ => none
def stvK (ks : List Kc) : List Nat := stsL (ks.flatMap Prod.snd)
def okK (ks : List Kc) : Bool := decide ((stvK ks).length ≤ 40) && (stvK ks).isPerm (List.range (stvK ks).length)
def readP (cs : List Nat) : Option (List Kc) := if cs = [46] then some [] else match parP (wsp 32 cs) with
  | some ks => if okK ks = true then some ks else none
  | none => none
def rowK (ks : List Kc) : List (List Nat) := (ks.filter fun k => k.1).map Prod.snd
def rinK (ks : List Kc) : List (List Nat) := (ks.filter fun k => !k.1).map Prod.snd
def sK (ks : List Kc) : Nat := (stvK ks).length
def mK (ks : List Kc) : Nat → Nat := cgM (rowK ks) (rinK ks)
theorem kc_perm : ∀ ks : List Kc, (rowK ks ++ rinK ks).Perm (ks.map Prod.snd)
  | [] => List.Perm.refl _
  | (b, xs) :: ks => by
    have ih := kc_perm ks
    cases b
    · show (rowK ks ++ xs :: rinK ks).Perm (xs :: ks.map Prod.snd)
      exact List.perm_middle.trans (ih.cons xs)
    · exact ih.cons xs
theorem kc_st (ks : List Kc) : (stsL (rowK ks ++ rinK ks).flatten).Perm (stvK ks) := by
  unfold stvK stsL
  refine List.Perm.map _ ?_
  have := (kc_perm ks).flatten
  rw [← List.flatMap_def] at this
  exact this
/-- the chains that are read have staves, all below a hundred -/
structure RSok (k : Nat) (s : RS) : Prop where
  ne : ∀ c ∈ s.1, c.2 ≠ []
  nc : ∀ c, s.2 = some c → c.2 ≠ []
  le : (s.1.flatMap Prod.snd).length + (s.2.elim 0 fun c => c.2.length) ≤ k
  lc : s.1.length + (s.2.elim 0 fun _ => 1) ≤ k
theorem cloS_ok {k : Nat} {ks : List Kc} {b : Bool} {ys w : List Nat} {s' : RS} (ne : ∀ c ∈ ks, c.2 ≠ []) (le : (ks.flatMap Prod.snd).length + ys.length ≤ k) (lc : ks.length + 1 ≤ k + 1) (h : cloS ks b ys w = some s') : RSok (k + 1) s' := by
  unfold cloS at h
  split at h
  · obtain ⟨x, _, rfl⟩ := Option.map_eq_some_iff.mp h
    refine ⟨fun c hc => ?_, fun c hc => (by cases hc), ?_, ?_⟩
    · rcases List.mem_append.mp hc with hc | hc
      · exact ne c hc
      · rw [List.mem_singleton] at hc
        subst hc
        simp
    · show ((ks ++ [(b, ys ++ [x])]).flatMap Prod.snd).length + 0 ≤ _
      rw [List.flatMap_append, List.length_append]
      show _ + ((ys ++ [x]) ++ []).length + 0 ≤ _
      rw [List.append_nil, List.length_append, List.length_singleton]
      omega
    · show (ks ++ [(b, ys ++ [x])]).length + 0 ≤ _
      rw [List.length_append, List.length_singleton]
      omega
  · obtain ⟨x, _, rfl⟩ := Option.map_eq_some_iff.mp h
    refine ⟨ne, fun c hc => ?_, ?_, ?_⟩
    · have hc : some (b, ys ++ [x]) = some c := hc
      cases hc
      simp
    · show (ks.flatMap Prod.snd).length + (ys ++ [x]).length ≤ _
      rw [List.length_append, List.length_singleton]
      omega
    · exact lc
theorem stpS_ok {k : Nat} {s s' : RS} {w : List Nat} (R : RSok k s) (h : stpS s w = some s') : RSok (k + 1) s' := by
  obtain ⟨ks, cur⟩ := s
  cases cur with
  | some c =>
    obtain ⟨b, ys⟩ := c
    have le : (ks.flatMap Prod.snd).length + ys.length ≤ k := R.le
    have lc : ks.length + 1 ≤ k := R.lc
    exact cloS_ok (ks := ks) R.ne le (by omega) h
  | none =>
    have le : (ks.flatMap Prod.snd).length + 0 ≤ k := R.le
    have lc : ks.length + 0 ≤ k := R.lc
    cases w with
    | nil => cases h
    | cons c w =>
      have h : (if c = 91 then cloS ks true [] w else if c = 40 then cloS ks false [] w else none) = some s' := h
      split at h
      · exact cloS_ok (ks := ks) (ys := []) R.ne le (by omega) h
      · split at h
        · exact cloS_ok (ks := ks) (ys := []) R.ne le (by omega) h
        · cases h
theorem goS_ok : ∀ (ws : List (List Nat)) {k : Nat} {s s' : RS}, RSok k s → goS ws s = some s' → RSok (k + ws.length) s'
  | [], k, s, s', R, h => by cases h; exact R
  | w :: ws, k, s, s', R, h => by
    have h : (match stpS s w with | some s' => goS ws s' | none => none) = some s' := h
    cases e : stpS s w with
    | none => rw [e] at h; cases h
    | some t =>
      rw [e] at h
      have := goS_ok ws (stpS_ok R e) h
      rw [List.length_cons, show k + (ws.length + 1) = k + 1 + ws.length by omega]
      exact this
theorem parP_ok {ls : List (List Nat)} {ks : List Kc} (h : parP ls = some ks) : RSok ls.length (ks, none) := by
  unfold parP at h
  have R0 : RSok 0 (([], none) : RS) := ⟨fun c hc => (by cases hc), fun c hc => (by cases hc), Nat.le_refl _, Nat.le_refl _⟩
  cases e : goS ls ([], none) with
  | none => rw [e] at h; cases h
  | some t =>
    rw [e] at h
    obtain ⟨k1, c1⟩ := t
    cases c1 with
    | some c => cases h
    | none =>
      cases h
      have := goS_ok ls R0 e
      rw [Nat.zero_add] at this
      exact this
theorem okK_perm {ks : List Kc} (h : okK ks = true) : sK ks ≤ 40 ∧ (stvK ks).Perm (List.range (sK ks)) := by
  unfold okK at h
  rw [Bool.and_eq_true, decide_eq_true_eq, List.isPerm_iff] at h
  exact h
theorem readK_cover {ks : List Kc} (ne : ∀ c ∈ ks, c.2 ≠ []) (h : okK ks = true) : Cover (sK ks) (mK ks) (rowK ks) (rinK ks) ∧ Inv (2 * sK ks) (mK ks) := by
  obtain ⟨_, p⟩ := okK_perm h
  have n2 : ∀ c ∈ rowK ks ++ rinK ks, c ≠ [] := fun c hc => by
    obtain ⟨k, hk, rfl⟩ := List.mem_map.mp ((kc_perm ks).mem_iff.mp hc)
    exact ne k hk
  have st := (kc_st ks).trans p
  exact ⟨cg_cover n2 st, cg_inv n2 st⟩
end Dn
set_option Elab.async false
set_option linter.all false
set_option maxRecDepth 100000
set_option maxHeartbeats 4000000
namespace Lw
open PySem L2 Dn TL
theorem digit_in {c : Nat} (h : 48 ≤ c) (h2 : c ≤ 57) : c ∈ ("0123456789" : Str).cps.toList := by
  have e : ("0123456789" : Str).cps.toList = [48, 49, 50, 51, 52, 53, 54, 55, 56, 57] := by decide +kernel
  rw [e]
  simp
  omega
theorem sign_loop (s0 s1 : S) (cs : List Nat) (h : ∀ c ∈ cs, 48 ≤ c ∧ c ≤ 57) : ∃ t, loopFor (forB (gN 2) b1_read_stave) (cs.map fun c => .str ⟨#[c]⟩) [s0, s1, .none] = .nx [s0, s1, t] := by
  refine for_inv (Post := fun o => ∃ t, o = .nx [s0, s1, t]) (fun _ ρ => ∃ t, ρ = [s0, s1, t]) ⟨_, rfl⟩ ?_ ?_
  · rintro j d ρ hd ⟨t, rfl⟩
    rw [List.getElem?_map] at hd
    obtain ⟨c, hc, rfl⟩ := Option.map_eq_some_iff.mp hd
    obtain ⟨h1, h2⟩ := h c (List.mem_of_getElem? hc)
    have e : ninSD (.str ⟨#[c]⟩) (.str ("0123456789" : Str)) = some (.bool false) := by
      have : ninSD (.str ⟨#[c]⟩) (.str ("0123456789" : Str)) = some (.bool (!decide (c ∈ ("0123456789" : Str).cps.toList))) := rfl
      rw [this, decide_eq_true (digit_in h1 h2)]
      rfl
    have tn : forB (gN 2) b1_read_stave (.str ⟨#[c]⟩) [s0, s1, t] = .nx [s0, s1, .val (.str ⟨#[c]⟩)] := by
      generalize PyData.str ⟨#[c]⟩ = P at *
      simp [b1_read_stave, e]
    rw [tn]
    exact ⟨_, rfl⟩
  · rintro ρ ⟨t, rfl⟩
    exact ⟨t, rfl⟩
theorem lit_minus : ("-" : Str) = sC [45] := by decide +kernel
theorem lit_zero : ("0" : Str) = sC [48] := by decide +kernel
end Lw
set_option Elab.async false
set_option maxRecDepth 100000
set_option maxHeartbeats 4000000
namespace Lw
open PySem L2 Dn
theorem whole_int (e : Int) : f__law_whole [.int e] = .ok (.bool true) := by
  simp [f__law_whole, mFn, g__law_whole, start']
theorem cell_at_eq (ns : List Int) (k : Nat) : f__law_cell_at [scrD ns, .int k] = .ok (.int (ns[k]?.getD 0)) := by
  by_cases h : k < ns.length
  · have e : ns[k]? = some ns[k] := List.getElem?_eq_getElem h
    have hx : ixD (scrD ns) (.int (k : Int)) = some (.int ns[k]) := ixD_is (by omega) (by simpa using e)
    simp [f__law_cell_at, mFn, g__law_cell_at, start', h, hx, e]
  · have e : ns[k]? = none := List.getElem?_eq_none (by omega)
    simp [f__law_cell_at, mFn, g__law_cell_at, start', h, e]
def stv (c : Int) : Int := if c / 9 % 3 = 1 then c / 27 % 41 else c % 9
theorem stv_pos (c : Int) : 0 ≤ stv c ∧ stv c ≤ 40 := by
  unfold stv
  split <;> omega
theorem staves_eq (c : Int) : f__law_staves [.int c] = .ok (.int (stv c)) := by
  by_cases h : c / 9 % 3 = 1
  · simp [f__law_staves, mFn, g__law_staves, start', stv, h]
  · simp [f__law_staves, mFn, g__law_staves, start', stv, h]
/-- one end is freed -/
theorem free_turn {ms : List Int} (h : Mates ms) {e : Nat} (he : e < ms.length) (x n s3 s4 s5 s6 : S) : ∃ ms', Mates ms' ∧ ms'.length = ms.length ∧ ms'[e]? = some (e : Int) ∧ (∀ j : Nat, ms[j]? = some (j : Int) → ms'[j]? = some (j : Int)) ∧
    forB (gN 6) b1__law_mates (.int e) [x, n, .own (.lst (ms.map .int)), s3, s4, s5, s6] = .nx [x, n, .own (.lst (ms'.map .int)), s3, s4, s5, .val (.int e)] := by
  obtain ⟨m, lm, hm⟩ := h.get he
  refine ⟨(ms.set m (m : Int)).set e (e : Int), h.free hm, by simp, ?_, fun j hj => ?_, ?_⟩
  · simp [he]
  · have lj : j < ms.length := (List.getElem?_eq_some_iff.mp hj).1
    simp only [List.length_set, List.getElem?_set]
    split
    · rename_i c; subst c; simp [he]
    · split
      · rename_i c; subst c; simp [lm]
      · exact hj
  · have hx : ixD (.list (ms.map .int)) (.int (e : Int)) = some (.int (m : Int)) := ixD_il (by omega) (by simpa using hm)
    have s1 := setL_int (ms := ms) (i := (m : Int)) (v := (m : Int)) (by omega) (by omega)
    have s2 := setL_int (ms := ms.set m (m : Int)) (i := (e : Int)) (v := (e : Int)) (by omega) (by simp; omega)
    simp [b1__law_mates, hx, s1, s2, -List.map_set]
theorem mates_turn {ms : List Int} (h : Mates ms) {n : Nat} (hl : ms.length = 2 * n) (hn : n ≤ 1000) (c : Int) (x s3 s4 s5 s6 : S) : ∃ ms' t4 t5 t6, Mates ms' ∧ ms'.length = 2 * n ∧
    forB (gN 3) b2__law_mates (.int c) [x, .val (.int n), .own (.lst (ms.map .int)), s3, s4, s5, s6] = .nx [x, .val (.int n), .own (.lst (ms'.map .int)), .val (.int c), t4, t5, t6] := by
  by_cases hz : n = 0
  · subst hz
    exact ⟨ms, s4, s5, s6, h, hl, by simp [b2__law_mates]⟩
  · have p : (0 : Int) < 2 * n := by omega
    have p0 : (0 : Int) < n := by omega
    obtain ⟨a, ha⟩ : ∃ a : Nat, (a : Int) = c % (2 * (n : Int)) := ⟨(c % (2 * (n : Int))).toNat, by have := Int.emod_nonneg c (show 2 * (n : Int) ≠ 0 by omega); omega⟩
    have la : a < ms.length := by have := Int.emod_lt_of_pos c p; omega
    obtain ⟨b, hb⟩ : ∃ b : Nat, (b : Int) = c % 1000000007 * 48271 % 2147483647 / 89 % (2 * (n : Int)) := ⟨(c % 1000000007 * 48271 % 2147483647 / 89 % (2 * (n : Int))).toNat, by have := Int.emod_nonneg (c % 1000000007 * 48271 % 2147483647 / 89) (show 2 * (n : Int) ≠ 0 by omega); omega⟩
    have lb : b < ms.length := by have := Int.emod_lt_of_pos (c % 1000000007 * 48271 % 2147483647 / 89) p; omega
    obtain ⟨m1, M1, l1, g1, k1, t1⟩ := free_turn h la x (.val (.int n)) (.val (.int c)) (.val (.int (a : Int))) (.val (.int (b : Int))) s6
    obtain ⟨m2, M2, l2, g2, k2, t2⟩ := free_turn M1 (e := b) (by omega) x (.val (.int n)) (.val (.int c)) (.val (.int (a : Int))) (.val (.int (b : Int))) (.val (.int (a : Int)))
    have ga := k2 a g1
    have s1 := setL_int (ms := m2) (i := (a : Int)) (v := (b : Int)) (by omega) (by omega)
    have s2 := setL_int (ms := m2.set a (b : Int)) (i := (b : Int)) (v := (a : Int)) (by omega) (by simp; omega)
    refine ⟨(m2.set a (b : Int)).set b (a : Int), .val (.int (a : Int)), .val (.int (b : Int)), .val (.int (b : Int)), M2.put ga g2, by simp; omega, ?_⟩
    have lp : loopFor (forB (gN 6) b1__law_mates) [.int (a : Int), .int (b : Int)] [x, .val (.int n), .own (.lst (ms.map .int)), .val (.int c), .val (.int (a : Int)), .val (.int (b : Int)), s6] =
        .nx [x, .val (.int n), .own (.lst (m2.map .int)), .val (.int c), .val (.int (a : Int)), .val (.int (b : Int)), .val (.int (b : Int))] := by
      show (match forB (gN 6) b1__law_mates (.int (a : Int)) _ with | .nx ρ' => _ | .cont ρ' => _ | .brk ρ' => _ | o => o) = _
      rw [t1]
      show (match forB (gN 6) b1__law_mates (.int (b : Int)) _ with | .nx ρ' => _ | .cont ρ' => _ | .brk ρ' => _ | o => o) = _
      rw [t2]
      rfl
    rw [forB_ap, gN_ap, ofO_some]
    simp [b2__law_mates, hz, p, p0, ← ha, ← hb, lp, s1, s2, -List.map_set, -forB_ap]
theorem mates_eq (fl : List Int) (n : Nat) (hn : n ≤ 40) : ∃ ms, Mates ms ∧ ms.length = 2 * n ∧ f__law_mates [.list (fl.map .int), .int n] = .ok (.list (ms.map .int)) := by
  have hr : RgOk 0 (2 * (n : Int)) := ⟨by decide, by decide, by omega, by omega, by omega⟩
  have e2 : (2 * (n : Int)) = ((2 * n : Nat) : Int) := by omega
  have lp : ∃ ms s3 s4 s5 s6, Mates ms ∧ ms.length = 2 * n ∧ loopFor (forB (gN 3) b2__law_mates) (fl.map .int) [.val (.list (fl.map .int)), .val (.int n), .own (.lst ((idxN (2 * n)).map .int)), .none, .none, .none, .none] = .nx [.val (.list (fl.map .int)), .val (.int n), .own (.lst (ms.map .int)), s3, s4, s5, s6] := by
    refine for_inv (Post := fun o => ∃ ms s3 s4 s5 s6, Mates ms ∧ ms.length = 2 * n ∧ o = .nx [.val (.list (fl.map .int)), .val (.int n), .own (.lst (ms.map .int)), s3, s4, s5, s6])
      (fun _ ρ => ∃ ms s3 s4 s5 s6, Mates ms ∧ ms.length = 2 * n ∧ ρ = [.val (.list (fl.map .int)), .val (.int n), .own (.lst (ms.map .int)), s3, s4, s5, s6]) ⟨_, _, _, _, _, mates_idx _, idxN_len _, rfl⟩ ?_ ?_
    · rintro j d ρ hd ⟨ms, s3, s4, s5, s6, M, l, rfl⟩
      rw [List.getElem?_map] at hd
      obtain ⟨c, _, rfl⟩ := Option.map_eq_some_iff.mp hd
      obtain ⟨ms', t4, t5, t6, M', l', t⟩ := mates_turn M l (by omega) c (.val (.list (fl.map .int))) s3 s4 s5 s6
      rw [t]
      exact ⟨_, _, _, _, _, M', l', rfl⟩
    · rintro ρ ⟨ms, s3, s4, s5, s6, M, l, rfl⟩
      exact ⟨_, _, _, _, _, M, l, rfl⟩
  obtain ⟨ms, s3, s4, s5, s6, M, l, lp⟩ := lp
  refine ⟨ms, M, l, ?_⟩
  rw [← idxN_rng, ← e2] at lp
  simp [f__law_mates, mFn, g__law_mates, start', rgLD_ok hr, lp, -forB_ap]
end Lw
set_option Elab.async false
set_option linter.all false
set_option maxRecDepth 100000
set_option maxHeartbeats 4000000
namespace Lw
open PySem L2 Dn
abbrev wkD (n : Nat) (m : Nat → Nat) : D := .tuple ((tab n m).map .int)
section
variable {n : Nat} {m : Nat → Nat} {a b x y K : Nat}
theorem far_int (x : Nat) : ((far x : Nat) : Int) = (x : Int) + 1 - 2 * ((x : Int) % 2) := by
  unfold far
  split <;> omega
theorem far_end_eq (x : Nat) : f_far_end [.int (x : Int)] = .ok (.int (far x : Nat)) := by
  have m2 : modD (.int (x : Int)) (.int 2) = some (.int ((x : Int) % 2)) := modD_pos (by decide)
  have ml : mulD (.int 2) (.int ((x : Int) % 2)) = some (.int (2 * ((x : Int) % 2))) := mulD_small (by decide)
  rw [far_int]
  simp [f_far_end, mFn, g_far_end, start', m2, ml, -modD_pos]
theorem ix_last {xs : List D} {x : D} : ixD (.list (xs ++ [x])) (.int (-1)) = some x := by
  show atI (xs ++ [x]) (-1) = some x
  have e : ixN (xs ++ [x]).length (-1) = some xs.length := by
    unfold ixN
    simp
    omega
  unfold atI
  rw [e]
  simp
theorem ix_lastT {xs : List D} {x : D} : ixD (.tuple (xs ++ [x])) (.int (-1)) = some x := by
  show atI (xs ++ [x]) (-1) = some x
  have e : ixN (xs ++ [x]).length (-1) = some xs.length := by
    unfold ixN
    simp
    omega
  unfold atI
  rw [e]
  simp
def wkL (m : Nat → Nat) (a k : Nat) : List D := (List.range k).map fun i => .int (wk m a i : Nat)
theorem wkL_succ (k : Nat) : wkL m a (k + 1) = wkL m a k ++ [.int (wk m a k : Nat)] := by
  unfold wkL
  rw [List.range_succ, List.map_append]
  rfl
theorem wkL_len (k : Nat) : (wkL m a k).length = k := by unfold wkL; rw [List.length_map, List.length_range]
open Classical in
noncomputable def kOf (n : Nat) (m : Nat → Nat) (a : Nat) : Nat := if h : ∃ K, K < n ∧ Ends m a K then Classical.choose h else 0
theorem kOf_spec (S : Sz n m) (ha : a < n) : kOf n m a < n ∧ Ends m a (kOf n m a) := by
  unfold kOf
  rw [dif_pos (ends_ex S ha)]
  exact Classical.choose_spec (ends_ex S ha)
end
end Lw
set_option Elab.async false
set_option linter.all false
set_option maxRecDepth 100000
set_option maxHeartbeats 4000000
namespace Lw
open PySem L2 Dn
def pD (t : Nat × Nat) : D := .tuple [.int (t.1 : Int), .int (t.2 : Int)]
section
variable {n N : Nat} {es : Nat → Nat}
theorem wb_loop (s0 s1 : S) : ∀ (cl : List (Nat × Nat)) (c : Nat → Nat) (s4 s5 : S), Dst n cl → (∀ p ∈ cl, c p.1 = p.1 ∧ c p.2 = p.2) → ∃ t4 t5,
    loopFor (forB (gT (gC (gN 4) (gC (gN 5) gNil'))) b1_work_by) (cl.map pD) [s0, s1, .val (.int (n : Int)), .own (.lst ((tab n c).map .int)), s4, s5] = .nx [s0, s1, .val (.int (n : Int)), .own (.lst ((tab n (cl.foldl clasF c)).map .int)), t4, t5]
  | [], c, s4, s5, _, _ => ⟨s4, s5, rfl⟩
  | p :: cl, c, s4, s5, D, hc => by
    have D1 := D.1
    rw [List.pairwise_cons] at D1
    obtain ⟨h1, h2, h3⟩ := D.2 p List.mem_cons_self
    obtain ⟨c1, c2⟩ := hc p List.mem_cons_self
    obtain ⟨t4, t5, ih⟩ := wb_loop s0 s1 cl (clasF c p) (.val (.int (p.1 : Int))) (.val (.int (p.2 : Int))) ⟨D1.2, fun q hq => D.2 q (List.mem_cons_of_mem _ hq)⟩ fun q hq => by
      obtain ⟨d1, d2, d3, d4⟩ := D1.1 q hq
      obtain ⟨e1, e2⟩ := hc q (List.mem_cons_of_mem _ hq)
      unfold clasF
      rw [if_neg (fun z => d3 z.symm), if_neg (fun z => d1 z.symm), if_neg (fun z => d4 z.symm), if_neg (fun z => d2 z.symm)]
      exact ⟨e1, e2⟩
    have i1 := ix_tabL (m := c) h2
    have i2 := ix_tabL (m := c) h3
    rw [c1] at i1
    rw [c2] at i2
    have st1 := set_tab (m := c) (v := p.2) h2
    have st2 := set_tab (m := fun j => if j = p.1 then p.2 else c j) (v := p.1) h3
    have st2 : setL ((tab n fun j => if j = p.1 then p.2 else c j).map .int) (.int (p.2 : Int)) (.int (p.1 : Int)) = some ((tab n (clasF c p)).map .int) := st2
    have tn : forB (gT (gC (gN 4) (gC (gN 5) gNil'))) b1_work_by (pD p) [s0, s1, .val (.int (n : Int)), .own (.lst ((tab n c).map .int)), s4, s5] = .nx [s0, s1, .val (.int (n : Int)), .own (.lst ((tab n (clasF c p)).map .int)), .val (.int (p.1 : Int)), .val (.int (p.2 : Int))] := by
      have g1 : ¬ (p.1 : Int) < 0 := by omega
      have g2 : ¬ (n : Int) ≤ p.1 := by omega
      have g3 : ¬ (p.2 : Int) < 0 := by omega
      have g4 : ¬ (n : Int) ≤ p.2 := by omega
      have g5 : ¬ (p.1 : Int) = p.2 := by omega
      unfold pD
      generalize (tab n c).map PyData.int = T0 at *
      generalize (tab n fun j => if j = p.1 then p.2 else c j).map PyData.int = T1 at *
      generalize (tab n (clasF c p)).map PyData.int = T2 at *
      generalize (p.1 : Int) = x at *
      generalize (p.2 : Int) = y at *
      simp [b1_work_by, g1, g2, g3, g4, g5, i1, i2, st1, st2]
    rw [List.map_cons, loop_nx tn, ih]
    exact ⟨t4, t5, rfl⟩
theorem work_by_eq (s : Nat) (hs : s ≤ 500) (cl : List (Nat × Nat)) (D : Dst (2 * s) cl) : f_work_by [.int (s : Int), .list (cl.map pD)] = .ok (wkD (2 * s) (cl.foldl clasF id)) := by
  obtain ⟨t4, t5, lp⟩ := wb_loop (n := 2 * s) (.val (.int (s : Int))) (.val (.list (cl.map pD))) cl id .none .none D fun p _ => ⟨rfl, rfl⟩
  have ml : mulD (.int 2) (.int (s : Int)) = some (.int ((2 * s : Nat) : Int)) := by
    rw [mulD_small (by decide)]
    congr 2
  have rd : rgLD 0 ((2 * s : Nat) : Int) = .ok ((tab (2 * s) id).map .int) := by
    rw [rgLD_ok (by show _ ∧ _; omega), rng_nat]
    unfold tab
    rw [List.map_map]
    rfl
  generalize ((2 * s : Nat) : Int) = q at *
  simp only [f_work_by, mFn, g_work_by, start']
  simp [ml, rd, lp, -mulD_small, -forB_ap]
end
end Lw
set_option Elab.async false
set_option linter.all false
set_option maxRecDepth 100000
set_option maxHeartbeats 4000000
namespace Lw
open PySem L2 Dn
abbrev Cn := Bool × List Int
def chB (c : Cn) : D := if c.1 = true then .tuple (c.2.map .int) else .list (c.2.map .int)
theorem chB_items (c : Cn) : itemsD (chB c) = .ok (c.2.map .int) := by unfold chB; split <;> rfl
theorem chB_len (c : Cn) : lenD [chB c] = some (.int (c.2.length : Int)) := by
  unfold chB
  split
  · rw [lenD_t, List.length_map]
  · rw [lenD_l, List.length_map]
theorem chB_ix {c : Cn} {j : Nat} {x : Int} (h : c.2[j]? = some x) : ixD (chB c) (.int (j : Int)) = some (.int x) := by
  unfold chB
  split
  · exact ixD_it (by omega) (by rw [show (j : Int).toNat = j by omega]; exact h)
  · exact ixD_il (by omega) (by rw [show (j : Int).toNat = j by omega]; exact h)
theorem chB_lst {c : Cn} {xs : List Int} {x : Int} (h : c.2 = xs ++ [x]) : ixD (chB c) (.int (-1)) = some (.int x) := by
  unfold chB
  rw [h, List.map_append]
  split
  · exact ix_lastT
  · exact ix_last
def farI (x : Int) : Int := x + 1 - 2 * (x % 2)
theorem farI_eq (x : Int) : f_far_end [.int x] = .ok (.int (farI x)) := by
  have m2 : modD (.int x) (.int 2) = some (.int (x % 2)) := modD_pos (by decide)
  have ml : mulD (.int 2) (.int (x % 2)) = some (.int (2 * (x % 2))) := mulD_small (by decide)
  unfold farI
  simp [f_far_end, mFn, g_far_end, start', m2, ml, -modD_pos]
theorem farI_nat (x : Nat) : farI (x : Int) = ((far x : Nat) : Int) := (far_int x).symm
def ip2 (p : Int × Int) : D := .tuple [.int p.1, .int p.2]
def cpI (xs : List Int) (k : Nat) : List (Int × Int) := (List.range k).map fun i => (farI (xs.getD i 0), xs.getD (i + 1) 0)
theorem cpI_succ (xs : List Int) (k : Nat) : cpI xs (k + 1) = cpI xs k ++ [(farI (xs.getD k 0), xs.getD (k + 1) 0)] := by
  unfold cpI
  rw [List.range_succ, List.map_append]; rfl
theorem cpI_nat : ∀ (xs : List Nat) , cpI (xs.map fun i : Nat => (i : Int)) (xs.length - 1) = (cps xs).map fun p => ((p.1 : Int), (p.2 : Int))
  | [] => rfl
  | [x] => rfl
  | x :: y :: r => by
    have ih := cpI_nat (y :: r)
    unfold cpI at *
    show (List.range (r.length + 1)).map _ = (((far x : Nat) : Int), (y : Int)) :: (cps (y :: r)).map (fun p => ((p.1 : Int), (p.2 : Int)))
    rw [← ih, List.range_succ_eq_map, List.map_cons, List.map_map]
    congr 1
    show (farI (x : Int), (y : Int)) = _
    rw [farI_nat]
def tot (cs : List Cn) : Nat := (cs.map fun c => c.2.length).sum
theorem half_loop (s0 s1 s2 s4 s5 s7 : S) : ∀ (xs : List Int) (B : List Int) (s6 : S), B.length + xs.length ≤ 1000000 → ∃ t6, loopFor (forB (gN 6) b1_work_from) (xs.map .int) [s0, s1, s2, .own (.lst (B.map .int)), s4, s5, s6, s7] = .nx [s0, s1, s2, .own (.lst ((B ++ xs.map (· / 2)).map .int)), s4, s5, t6, s7]
  | [], B, s6, _ => ⟨s6, by rw [List.map_nil, List.map_nil, List.append_nil]; rfl⟩
  | x :: xs, B, s6, h => by
    rw [List.length_cons] at h
    obtain ⟨t6, ih⟩ := half_loop s0 s1 s2 s4 s5 s7 xs (B ++ [x / 2]) (.val (.int x)) (by rw [List.length_append, List.length_singleton]; omega)
    have dv : divD (.int x) (.int 2) = some (.int (x / 2)) := divD_pos (by decide) (by decide)
    have ap := appM_ok (ds := B.map PyData.int) (e := .int (x / 2)) (by rw [List.length_map]; omega)
    refine ⟨t6, ?_⟩
    rw [List.map_cons]
    refine (loop_nx ?_).trans (by rw [ih, List.append_assoc]; rfl)
    rw [List.map_append, List.map_singleton]
    generalize B.map PyData.int = BB at *
    generalize x / 2 = q at *
    simp [b1_work_from, dv, ap, -divD_pos, -appM_ok]
theorem clasp_loop (c : Cn) (s0 s1 s3 s5 s6 s7 : S) (A : List (Int × Int)) (hA : A.length + c.2.length ≤ 1000000) : ∃ t7, loopFor (forB (gN 7) b2_work_from) (rngL 1 (c.2.length : Int)) [s0, s1, .own (.lst (A.map ip2)), s3, .val (chB c), s5, s6, s7] =
    .nx [s0, s1, .own (.lst ((A ++ cpI c.2 (c.2.length - 1)).map ip2)), s3, .val (chB c), s5, s6, t7] := by
  have r1 : rngL 1 (c.2.length : Int) = rngL ((1 : Nat) : Int) (c.2.length : Int) := rfl
  rw [r1, rng_nat2]
  refine for_inv (Post := fun o => ∃ t7, o = .nx [s0, s1, .own (.lst ((A ++ cpI c.2 (c.2.length - 1)).map ip2)), s3, .val (chB c), s5, s6, t7])
    (fun k ρ => ∃ t7, ρ = [s0, s1, .own (.lst ((A ++ cpI c.2 k).map ip2)), s3, .val (chB c), s5, s6, t7]) ⟨s7, by unfold cpI; simp⟩ ?_ ?_
  · rintro k d ρ hd ⟨t7, rfl⟩
    rw [List.getElem?_map] at hd
    obtain ⟨y, hy, rfl⟩ := Option.map_eq_some_iff.mp hd
    obtain ⟨hk, e⟩ := List.getElem?_eq_some_iff.mp hy
    rw [List.getElem_range] at e
    rw [List.length_range] at hk
    subst e
    have i0 := chB_ix (c := c) (j := k) (x := c.2.getD k 0) (by rw [List.getD_eq_getElem?_getD, List.getElem?_eq_getElem (by omega)]; rfl)
    have i1 := chB_ix (c := c) (j := 1 + k) (x := c.2.getD (k + 1) 0) (by rw [List.getD_eq_getElem?_getD, show 1 + k = k + 1 by omega, List.getElem?_eq_getElem (by omega)]; rfl)
    have fe := farI_eq (c.2.getD k 0)
    have ap := appM_ok (ds := (A ++ cpI c.2 k).map ip2) (e := ip2 (farI (c.2.getD k 0), c.2.getD (k + 1) 0)) (by rw [List.length_map, List.length_append]; unfold cpI; rw [List.length_map, List.length_range]; omega)
    have st : (A ++ cpI c.2 (k + 1)).map ip2 = (A ++ cpI c.2 k).map ip2 ++ [ip2 (farI (c.2.getD k 0), c.2.getD (k + 1) 0)] := by
      rw [cpI_succ, ← List.append_assoc, List.map_append]
      rfl
    rw [st]
    obtain ⟨q, hq⟩ : ∃ q : Int, ((1 + k : Nat) : Int) = q := ⟨_, rfl⟩
    rw [hq] at i1 ⊢
    have hq1 : q - 1 = (k : Int) := by omega
    have pe : ip2 (farI (c.2.getD k 0), c.2.getD (k + 1) 0) = .tuple [.int (farI (c.2.getD k 0)), .int (c.2.getD (k + 1) 0)] := rfl
    rw [pe] at ap ⊢
    generalize (A ++ cpI c.2 k).map ip2 = acc at *
    generalize c.2.getD (k + 1) 0 = w1 at *
    generalize c.2.getD k 0 = w0 at *
    generalize farI w0 = w2 at *
    generalize chB c = CB at *
    have tn : forB (gN 7) b2_work_from (.int q) [s0, s1, .own (.lst acc), s3, .val CB, s5, s6, t7] = .nx [s0, s1, .own (.lst (acc ++ [.tuple [.int w2, .int w1]])), s3, .val CB, s5, s6, .val (.int q)] := by
      simp [b2_work_from, hq1, i0, i1, fe, ap, -appM_ok]
    rw [tn]
    exact ⟨_, rfl⟩
  · rintro ρ ⟨t7, rfl⟩
    rw [List.length_map, List.length_range]
    exact ⟨t7, rfl⟩
/-- the clasps within, the staves of chains -/
def cpA (cs : List Cn) : List (Int × Int) := cs.flatMap fun c => cpI c.2 (c.2.length - 1)
def stA (cs : List Cn) : List Int := cs.flatMap fun c => c.2.map (· / 2)
theorem chain_turn (c : Cn) (hc : c.2 ≠ []) (s0 s1 s4 s5 s6 s7 : S) (A : List (Int × Int)) (B : List Int) (hA : A.length + c.2.length ≤ 1000000) (hB : B.length + c.2.length ≤ 1000000) : ∃ t6 t7, forB (gN 4) b3_work_from (chB c) [s0, s1, .own (.lst (A.map ip2)), .own (.lst (B.map .int)), s4, s5, s6, s7] =
    .nx [s0, s1, .own (.lst ((A ++ cpI c.2 (c.2.length - 1)).map ip2)), .own (.lst ((B ++ c.2.map (· / 2)).map .int)), .val (chB c), s5, t6, t7] := by
  have ln := chB_len c
  have it := chB_items c
  have l0 : ¬ (c.2.length : Int) = 0 := by have := List.length_pos_iff.mpr hc; omega
  obtain ⟨t6, h1⟩ := half_loop s0 s1 (.own (.lst (A.map ip2))) (.val (chB c)) s5 s7 c.2 B s6 hB
  obtain ⟨t7, h2⟩ := clasp_loop c s0 s1 (.own (.lst ((B ++ c.2.map (· / 2)).map .int))) s5 t6 s7 A hA
  have rd := rngM2_ok (in62 (i := 1) (by decide)) (in62 (i := (c.2.length : Int)) (by omega))
  refine ⟨t6, t7, ?_⟩
  generalize (A ++ cpI c.2 (c.2.length - 1)).map ip2 = A2 at *
  generalize A.map ip2 = A1 at *
  generalize (B ++ c.2.map (· / 2)).map PyData.int = B2 at *
  generalize B.map PyData.int = B1 at *
  generalize c.2.map PyData.int = X at *
  generalize rngL 1 (c.2.length : Int) = RG at *
  generalize (c.2.length : Int) = n at *
  generalize chB c = CB at *
  rw [forB_ap]
  simp [b3_work_from, ln, l0, it, rd, h1, h2, -forB_ap]
theorem chains_loop (s0 s1 s5 : S) : ∀ (cs : List Cn) (A : List (Int × Int)) (B : List Int) (s4 s6 s7 : S), (∀ c ∈ cs, c.2 ≠ []) → A.length + tot cs ≤ 1000000 → B.length + tot cs ≤ 1000000 → ∃ t4 t6 t7, loopFor (forB (gN 4) b3_work_from) (cs.map chB) [s0, s1, .own (.lst (A.map ip2)), .own (.lst (B.map .int)), s4, s5, s6, s7] =
    .nx [s0, s1, .own (.lst ((A ++ cpA cs).map ip2)), .own (.lst ((B ++ stA cs).map .int)), t4, s5, t6, t7]
  | [], A, B, s4, s6, s7, _, _, _ => ⟨s4, s6, s7, by unfold cpA stA; simp [loopFor]⟩
  | c :: cs, A, B, s4, s6, s7, h, hA, hB => by
    have e : tot (c :: cs) = c.2.length + tot cs := by unfold tot; rw [List.map_cons, List.sum_cons]
    rw [e] at hA hB
    obtain ⟨u6, u7, tn⟩ := chain_turn c (h c List.mem_cons_self) s0 s1 s4 s5 s6 s7 A B (by omega) (by omega)
    obtain ⟨t4, t6, t7, ih⟩ := chains_loop s0 s1 s5 cs (A ++ cpI c.2 (c.2.length - 1)) (B ++ c.2.map (· / 2)) (.val (chB c)) u6 u7 (fun d hd => h d (List.mem_cons_of_mem _ hd)) (by
      rw [List.length_append]; unfold cpI; rw [List.length_map, List.length_range]; omega) (by rw [List.length_append, List.length_map]; omega)
    refine ⟨t4, t6, t7, ?_⟩
    rw [List.map_cons]
    refine (loop_nx tn).trans ?_
    rw [ih]
    unfold cpA stA
    rw [List.flatMap_cons, List.flatMap_cons, List.append_assoc, List.append_assoc]
def idxI (k : Nat) : List Int := (List.range k).map fun i : Nat => (i : Int)
theorem rg_idx (k : Nat) (h : k ≤ 1000000) : rgLD 0 (k : Int) = .ok ((idxI k).map .int) := by
  rw [rgLD_ok (by show _ ∧ _; omega), rng_nat]
  unfold idxI
  rw [List.map_map]; rfl
theorem sort_idx {B : List Int} {k : Nat} (p : B.Perm (idxI k)) : sortI B = idxI k := by
  refine List.Perm.eq_of_pairwise (le := (· ≤ ·)) (fun a b _ _ h1 h2 => Int.le_antisymm h1 h2) (sortI_sorted _) ?_ ((sortI_perm _).trans p)
  unfold idxI
  rw [List.pairwise_map]
  exact (List.pairwise_lt_range (n := k)).imp fun h => by omega
abbrev csD (cs : List Cn) : D := .list (cs.map chB)
section
variable {rows rings : List Cn}
/-- the head of work_from -/
theorem from_items (rows rings : List Cn) (h : rows.length + rings.length ≤ 10000) : addD (.list (rows.map chB)) (.list (rings.map chB)) = some (.list ((rows ++ rings).map chB)) := by
  rw [List.map_append]
  exact addD_l (by simp; omega)
/-- staves that are not told each once -/
theorem from_bad (h : ∀ c ∈ rows ++ rings, c.2 ≠ []) (hl : tot (rows ++ rings) ≤ 100000) (hk : rows.length + rings.length ≤ 10000) (bad : 40 < (stA (rows ++ rings)).length ∨ ¬ (stA (rows ++ rings)).Perm (idxI (stA (rows ++ rings)).length)) : f_work_from [csD rows, csD rings] = .exc "BadWork" := by
  have ad := from_items rows rings hk
  obtain ⟨t4, t6, t7, lp⟩ := chains_loop (.val (csD rows)) (.val (csD rings)) .none (rows ++ rings) [] [] .none .none .none h (by simp; omega) (by simp; omega)
  have sl : (stA (rows ++ rings)).length ≤ 100000 := by
    refine Nat.le_trans (Nat.le_of_eq ?_) hl
    unfold stA tot
    rw [List.length_flatMap]
    simp
  rw [List.nil_append, List.nil_append] at lp
  have lp : loopFor (forB (gN 4) b3_work_from) ((rows ++ rings).map chB) [.val (csD rows), .val (csD rings), .own (.lst []), .own (.lst []), .none, .none, .none, .none] = _ := lp
  have it : itemsD (.list ((rows ++ rings).map chB)) = .ok ((rows ++ rings).map chB) := rfl
  generalize stA (rows ++ rings) = B at *
  have ln : lenD [.list (B.map PyData.int)] = some (.int (B.length : Int)) := by rw [lenD_l, List.length_map]
  have so : sortUD [.list (B.map PyData.int)] = some ((sortI B).map .int) := sortUD_l
  have rg := rg_idx B.length (by omega)
  have ne := neD_l gr_int (by decide) (sortI B) (idxI B.length)
  have nn : ¬ 40 < B.length → sortI B ≠ idxI B.length := fun c e => (bad.resolve_left c) ((sortI_perm B).symm.trans (List.Perm.of_eq e))
  generalize (cpA (rows ++ rings)).map ip2 = A1 at *
  generalize (idxI B.length).map PyData.int = I1 at *
  generalize (sortI B).map PyData.int = S1 at *
  generalize B.map PyData.int = B1 at *
  unfold csD at *
  generalize (rows ++ rings).map chB = RR at *
  generalize rows.map chB = R1 at *
  generalize rings.map chB = R2 at *
  by_cases c : 40 < B.length
  · have c' : (40 : Int) < (B.length : Int) := by omega
    generalize (B.length : Int) = bl at *
    simp [f_work_from, mFn, g_work_from, start', ad, it, lp, ln, c', -forB_ap, -addD_l, -lenD_l]
  · have c' : ¬ (40 : Int) < (B.length : Int) := by omega
    rw [decide_eq_false (nn c)] at ne
    generalize (B.length : Int) = bl at *
    simp [f_work_from, mFn, g_work_from, start', ad, it, lp, ln, c', so, rg, ne, -forB_ap, -addD_l, -lenD_l, -sortUD_l]
end
end Lw
set_option Elab.async false
set_option linter.all false
set_option maxRecDepth 100000
set_option maxHeartbeats 4000000
namespace Lw
open PySem L2 Dn
abbrev Ck := Bool × List Nat
def cnN (c : Ck) : Cn := (c.1, c.2.map fun i : Nat => (i : Int))
def cI (p : Nat × Nat) : Int × Int := ((p.1 : Int), (p.2 : Int))
theorem cpA_nat (cs : List Ck) : cpA (cs.map cnN) = ((cs.map Prod.snd).flatMap cps).map cI := by
  induction cs with
  | nil => rfl
  | cons c cs ih =>
    unfold cpA at ih ⊢
    rw [List.map_cons, List.flatMap_cons, List.map_cons, List.flatMap_cons, List.map_append, ih]
    congr 1
    have := cpI_nat c.2
    show cpI (c.2.map fun i : Nat => (i : Int)) ((c.2.map fun i : Nat => (i : Int)).length - 1) = _
    rw [List.length_map, this]
    rfl
theorem stA_nat (cs : List Ck) : stA (cs.map cnN) = (stsL (cs.map Prod.snd).flatten).map fun i : Nat => (i : Int) := by
  induction cs with
  | nil => rfl
  | cons c cs ih =>
    unfold stA at ih ⊢
    rw [List.map_cons, List.flatMap_cons, List.map_cons, List.flatten_cons, ih]
    unfold stsL
    rw [List.map_append, List.map_append]
    congr 1
    show (c.2.map fun i : Nat => (i : Int)).map (· / 2) = (c.2.map (· / 2)).map fun i : Nat => (i : Int)
    rw [List.map_map, List.map_map]
    exact List.map_congr_left fun x _ => by
      show (x : Int) / 2 = ((x / 2 : Nat) : Int)
      omega
theorem close_loop (s0 s1 s3 s4 s6 s7 : S) : ∀ (rs : List Ck) (A : List (Nat × Nat)) (s5 : S), (∀ c ∈ rs, c.2 ≠ []) → A.length + rs.length ≤ 1000000 → ∃ t5, loopFor (forB (gN 5) b4_work_from) ((rs.map cnN).map chB) [s0, s1, .own (.lst (A.map pD)), s3, s4, s5, s6, s7] =
    .nx [s0, s1, .own (.lst ((A ++ (rs.map Prod.snd).map clo1).map pD)), s3, s4, t5, s6, s7]
  | [], A, s5, _, _ => ⟨s5, by simp [loopFor]⟩
  | c :: rs, A, s5, h, hA => by
    rw [List.length_cons] at hA
    have hc := h c List.mem_cons_self
    obtain ⟨t5, ih⟩ := close_loop s0 s1 s3 s4 s6 s7 rs (A ++ [clo1 c.2]) (.val (chB (cnN c))) (fun d hd => h d (List.mem_cons_of_mem _ hd)) (by rw [List.length_append, List.length_singleton]; omega)
    refine ⟨t5, ?_⟩
    obtain ⟨t, xs⟩ := c
    obtain ⟨x0, xs0, e0⟩ : ∃ x xs', xs = x :: xs' := by
      cases xs with
      | nil => exact (hc rfl).elim
      | cons x xs => exact ⟨x, xs, rfl⟩
    have el : xs = xs.dropLast ++ [xs.getLast hc] := (List.dropLast_concat_getLast hc).symm
    have i0 : ixD (chB (cnN (t, xs))) (.int 0) = some (.int (x0 : Int)) := chB_ix (c := cnN (t, xs)) (j := 0) (by subst e0; rfl)
    have i1 : ixD (chB (cnN (t, xs))) (.int (-1)) = some (.int ((xs.getLast hc : Nat) : Int)) := chB_lst (c := cnN (t, xs)) (xs := xs.dropLast.map fun i : Nat => (i : Int)) (by
      show (xs.map fun i : Nat => (i : Int)) = _
      rw [show xs.map (fun i : Nat => (i : Int)) = (xs.dropLast ++ [xs.getLast hc]).map fun i : Nat => (i : Int) from congrArg _ el, List.map_append]; rfl)
    have ce : clo1 xs = (far (xs.getLast hc), x0) := by
      unfold clo1
      rw [List.getLastD_eq_getLast?, List.getLast?_eq_some_getLast hc]
      subst e0; rfl
    have fe := far_end_eq (xs.getLast hc)
    have ng : negD (.int 1) = some (.int (-1)) := rfl
    have ap := appM_ok (ds := A.map pD) (e := pD (clo1 xs)) (by rw [List.length_map]; omega)
    have pe : pD (clo1 xs) = .tuple [.int ((far (xs.getLast hc) : Nat) : Int), .int (x0 : Int)] := by rw [ce]; rfl
    rw [List.map_cons, List.map_cons]
    refine (loop_nx ?_).trans (by rw [ih, List.append_assoc]; rfl)
    rw [List.map_append, List.map_singleton]
    show forB (gN 5) b4_work_from (chB (cnN (t, xs))) _ = .nx [s0, s1, .own (.lst (A.map pD ++ [pD (clo1 xs)])), s3, s4, .val (chB (cnN (t, xs))), s6, s7]
    rw [pe] at ap ⊢
    generalize chB (cnN (t, xs)) = CB at *
    generalize A.map pD = AA at *
    generalize ((far (xs.getLast hc) : Nat) : Int) = w at *
    generalize ((xs.getLast hc : Nat) : Int) = z at *
    generalize (x0 : Int) = y at *
    rw [forB_ap]
    simp [b4_work_from, i0, i1, fe, ng, ap, -appM_ok]
theorem tab_eq {n : Nat} {f g : Nat → Nat} (h : ∀ j, j < n → f j = g j) : tab n f = tab n g := by
  unfold tab
  exact List.map_congr_left fun j hj => by rw [h j (List.mem_range.mp hj)]
theorem sum_len (cs : List Ck) : tot (cs.map cnN) = (stsL (cs.map Prod.snd).flatten).length := by
  unfold stsL
  rw [List.length_map, List.length_flatten]
  unfold tot
  rw [List.map_map, List.map_map]
  congr 1
  exact List.map_congr_left fun c _ => by show (c.2.map _).length = _; rw [List.length_map]; rfl
/-- chains that cover a work tell it -/
theorem from_good {s : Nat} {m : Nat → Nat} {rows rings : List Ck} (C : Cover s m (rows.map Prod.snd) (rings.map Prod.snd)) (I : Dn.Inv (2 * s) m) (hs : s ≤ 40) : f_work_from [csD (rows.map cnN), csD (rings.map cnN)] = .ok (wkD (2 * s) m) := by
  have sn : (stsL (rows.map Prod.snd ++ rings.map Prod.snd).flatten).length = s := by rw [C.st.length_eq, List.length_range]
  have e0 : rows.map Prod.snd ++ rings.map Prod.snd = (rows ++ rings).map Prod.snd := List.map_append.symm
  have e1 : rows.map cnN ++ rings.map cnN = (rows ++ rings).map cnN := List.map_append.symm
  have ne : ∀ c ∈ rows ++ rings, c.2 ≠ [] := fun c hc => by
    refine C.ne (r := c.2) ?_
    rw [e0]
    exact List.mem_map_of_mem hc
  have ti := sum_len (rows ++ rings)
  rw [← e0, sn] at ti
  have kl : (rows ++ rings).length ≤ s := by
    rw [← ti]
    unfold tot
    have : ∀ cs : List Ck, (∀ c ∈ cs, c.2 ≠ []) → cs.length ≤ ((cs.map cnN).map fun c => c.2.length).sum := by
      intro cs
      induction cs with
      | nil => exact fun _ => Nat.le_refl _
      | cons c cs ih =>
        intro h
        have := ih fun d hd => h d (List.mem_cons_of_mem _ hd)
        have := List.length_pos_iff.mpr (h c List.mem_cons_self)
        have e : (cnN c).2.length = c.2.length := List.length_map _
        simp only [List.map_cons, List.sum_cons, List.length_cons]
        omega
    exact this _ ne
  have kl2 : rows.length + rings.length ≤ s := by rw [← List.length_append]; exact kl
  have ad := from_items (rows.map cnN) (rings.map cnN) (by rw [List.length_map, List.length_map]; omega)
  obtain ⟨t4, t6, t7, lp⟩ := chains_loop (.val (csD (rows.map cnN))) (.val (csD (rings.map cnN))) .none (rows.map cnN ++ rings.map cnN) [] [] .none .none .none (fun c hc => by
    rw [e1] at hc
    obtain ⟨d, hd, rfl⟩ := List.mem_map.mp hc
    intro z
    exact ne d hd (List.map_eq_nil_iff.mp z)) (by rw [e1, ti]; simp; omega) (by rw [e1, ti]; simp; omega)
  rw [List.nil_append, List.nil_append, e1, stA_nat, cpA_nat, ← e0] at lp
  have lp : loopFor (forB (gN 4) b3_work_from) (((rows ++ rings).map cnN).map chB) [.val (csD (rows.map cnN)), .val (csD (rings.map cnN)), .own (.lst []), .own (.lst []), .none, .none, .none, .none] = _ := lp
  rw [e1] at ad
  have it : itemsD (.list (((rows ++ rings).map cnN).map chB)) = .ok (((rows ++ rings).map cnN).map chB) := rfl
  have it2 : itemsD (.list ((rings.map cnN).map chB)) = .ok ((rings.map cnN).map chB) := rfl
  obtain ⟨t5, l2⟩ := close_loop (.val (csD (rows.map cnN))) (.val (csD (rings.map cnN))) (.val (.list (((stsL (rows.map Prod.snd ++ rings.map Prod.snd).flatten).map fun i : Nat => (i : Int)).map .int))) t4 t6 t7 rings ((rows.map Prod.snd ++ rings.map Prod.snd).flatMap cps) .none (fun c hc => ne c (List.mem_append_right _ hc)) (by
    have : ((rows.map Prod.snd ++ rings.map Prod.snd).flatMap cps).length ≤ (allC (rows.map Prod.snd) (rings.map Prod.snd)).length := by unfold allC; rw [List.length_append]; omega
    have d := (C.dst I)
    have l3 : (allC (rows.map Prod.snd) (rings.map Prod.snd)).length ≤ 2 * s := by
      have nd : ((allC (rows.map Prod.snd) (rings.map Prod.snd)).map Prod.snd).Nodup := by
        rw [List.Nodup, List.pairwise_map]
        exact d.1.imp fun h => h.2.2.2
      have := nd_len2 _ (List.range (2 * s)) nd fun x hx => by
        obtain ⟨p, hp, rfl⟩ := List.mem_map.mp hx
        exact List.mem_range.mpr (d.2 p hp).2.2
      rw [List.length_map, List.length_range] at this
      exact this
    omega)
  have ac : (rows.map Prod.snd ++ rings.map Prod.snd).flatMap cps ++ (rings.map Prod.snd).map clo1 = allC (rows.map Prod.snd) (rings.map Prod.snd) := rfl
  rw [ac] at l2
  have wb := work_by_eq s (by omega) (allC (rows.map Prod.snd) (rings.map Prod.snd)) (C.dst I)
  rw [show wkD (2 * s) ((allC (rows.map Prod.snd) (rings.map Prod.snd)).foldl clasF id) = wkD (2 * s) m by unfold wkD; rw [tab_eq fun j hj => C.work I hj]] at wb
  have cc : (((rows.map Prod.snd ++ rings.map Prod.snd).flatMap cps).map cI).map ip2 = ((rows.map Prod.snd ++ rings.map Prod.snd).flatMap cps).map pD := by rw [List.map_map]; rfl
  rw [cc] at lp
  have bp : ((stsL (rows.map Prod.snd ++ rings.map Prod.snd).flatten).map fun i : Nat => (i : Int)).Perm (idxI s) := C.st.map _
  have bl : ((stsL (rows.map Prod.snd ++ rings.map Prod.snd).flatten).map fun i : Nat => (i : Int)).length = s := by rw [List.length_map, sn]
  generalize ((stsL (rows.map Prod.snd ++ rings.map Prod.snd).flatten).map fun i : Nat => (i : Int)) = B at *
  have ln : lenD [.list (B.map PyData.int)] = some (.int (s : Int)) := by rw [lenD_l, List.length_map, bl]
  have so : sortUD [.list (B.map PyData.int)] = some ((sortI B).map .int) := sortUD_l
  rw [sort_idx bp] at so
  have rg := rg_idx s (by omega)
  have ne2 := neD_l gr_int (by decide) (idxI s) (idxI s)
  rw [decide_eq_true rfl] at ne2
  have c' : ¬ (40 : Int) < (s : Int) := by omega
  unfold csD at *
  generalize ((rows.map Prod.snd ++ rings.map Prod.snd).flatMap cps).map pD = A1 at *
  generalize (allC (rows.map Prod.snd) (rings.map Prod.snd)).map pD = A2 at *
  generalize (idxI s).map PyData.int = I1 at *
  generalize B.map PyData.int = B1 at *
  generalize ((rows ++ rings).map cnN).map chB = RR at *
  generalize (rows.map cnN).map chB = R1 at *
  generalize (rings.map cnN).map chB = R2 at *
  generalize (s : Int) = s' at *
  generalize wkD (2 * s) m = WW at *
  simp [f_work_from, mFn, g_work_from, start', ad, it, it2, lp, l2, ln, c', so, rg, ne2, wb, -forB_ap, -addD_l, -lenD_l, -sortUD_l]
end Lw
set_option Elab.async false
set_option linter.all false
set_option maxRecDepth 100000
set_option maxHeartbeats 4000000
namespace Dn
open PySem L2 TL
section
variable {k1 k2 : Str} {i : Nat} {ρ : Fr} {x : List Ch × List Ch} {d k j : D} {g h : MS} {tf : MT} {b : Bool} {ds es : List D} {kf jf : ME} {as f : ML} {fm : List D → List D → Option (List D × D)} {s : Bool × List Ch} {u : Nat × List D} {r : List D × D}
theorem sIfR_at (ht : tf (ρ.set i mkE) = .ok b) : sIfR i tf g h ρ = if b = true then g ρ else h ρ := by
  unfold sIfR
  rw [ht]; rfl
theorem sTwoNew_at (hi : ρ[i]? = some (.val (encT2 x))) (hk : kf (ρ.set i mkE) = .ok k) (hs : selT k1 k2 x k = some s) (hf : f (ρ.set i mkE) = .ok ds) (hl : s.2.length < sizeLine) : sTwoNew k1 k2 i kf f ρ = .nx (ρ.set i (.val (encT2 (putT x s.1 (s.2 ++ [.own ds]))))) := by
  unfold sTwoNew
  rw [viewT_at hi, ofO_some, hk, mB_ok, ofO_some]
  show Out.ofO (selT k1 k2 x k) _ = _
  rw [hs, ofO_some, hf, mB_ok, ofO_some]
  exact if_pos hl
theorem sTwoMut_at (hi : ρ[i]? = some (.val (encT2 x))) (hk : kf (ρ.set i mkE) = .ok k) (hs : selT k1 k2 x k = some s) (hj : jf (ρ.set i mkE) = .ok j) (hu : ownC s.2 j = some u) (ha : as (ρ.set i mkE) = .ok es) (hf : fm u.2 es = some r) :
    sTwoMut k1 k2 i kf jf fm as ρ = .nx (ρ.set i (.val (encT2 (putT x s.1 (s.2.set u.1 (.own r.1)))))) := by
  unfold sTwoMut
  rw [viewT_at hi, ofO_some, hk, mB_ok, ofO_some]
  show Out.ofO (selT k1 k2 x k) _ = _
  rw [hs, ofO_some, hj, mB_ok, ofO_some, hu, ofO_some, ha]
  show Out.ofO (fm u.2 es) _ = _
  rw [hf, ofO_some]
theorem ownC_last (cs : List Ch) (ds : List D) : ownC (cs ++ [.own ds]) (.int (-1)) = some (cs.length, ds) := by
  have e : ixN (cs ++ [Ch.own ds]).length (-1) = some cs.length := by
    unfold ixN
    simp
    omega
  show ((ixN (cs ++ [Ch.own ds]).length (-1)).bind fun n => match (cs ++ [Ch.own ds])[n]? with
    | some (.own ds) => some (n, ds)
    | _ => none) = _
  rw [e]
  show (match (cs ++ [Ch.own ds])[cs.length]? with
    | some (.own ds) => some (cs.length, ds)
    | _ => none) = _
  rw [List.getElem?_append_right (Nat.le_refl _), Nat.sub_self]
  rfl
end
end Dn
namespace Lw
open PySem L2 Dn TL
theorem lit_sq : ("[" : Str) = sC [91] := by decide +kernel
theorem lit_ro : ("(" : Str) = sC [40] := by decide +kernel
theorem lit_sq2 : ("]" : Str) = sC [93] := by decide +kernel
theorem lit_ro2 : (")" : Str) = sC [41] := by decide +kernel
theorem lit_e : ("" : Str) = sC [] := by decide +kernel
theorem lit_sp : (" " : Str) = sC [32] := by decide +kernel
abbrev chs (A : List (List Nat)) : List Ch := A.map fun xs => Ch.own ((xs.map fun i : Nat => (i : Int)).map .int)
theorem chs_app (A B : List (List Nat)) : chs (A ++ B) = chs A ++ chs B := List.map_append
theorem chs_one (x : List Nat) : chs [x] = [Ch.own ((x.map fun i : Nat => (i : Int)).map .int)] := rfl
abbrev P2 := List (List Nat) × List (List Nat)
def sdP (b : Bool) (P : P2) : List (List Nat) := if b = true then P.1 else P.2
def psP (b : Bool) (P : P2) (Y : List (List Nat)) : P2 := if b = true then (Y, P.2) else (P.1, Y)
abbrev eP (P : P2) : List Ch × List Ch := (chs P.1, chs P.2)
theorem selT_b (b : Bool) (P : P2) : selT ("[" : Str) ("(" : Str) (eP P) (.str (sC [opC b])) = some (!b, chs (sdP b P)) := by
  have e1 : sC [91] = ("[" : Str) := lit_sq.symm
  have e2 : sC [40] = ("(" : Str) := lit_ro.symm
  have n : ¬ ("(" : Str) = ("[" : Str) := by decide +kernel
  cases b
  · show (if sC [40] = ("[" : Str) then some (false, chs P.1) else if sC [40] = ("(" : Str) then some (true, chs P.2) else none) = _
    rw [e2, if_neg n, if_pos rfl]
    rfl
  · show (if sC [91] = ("[" : Str) then some (false, chs P.1) else if sC [91] = ("(" : Str) then some (true, chs P.2) else none) = _
    rw [e1, if_pos rfl]
    rfl
theorem putT_b (b : Bool) (P : P2) (Y : List (List Nat)) : putT (eP P) (!b) (chs Y) = eP (psP b P Y) := by cases b <;> rfl
theorem dget_b (b : Bool) : dgetD (dspD [(("[" : Str), ("]" : Str)), (("(" : Str), (")" : Str))]) (.str (sC [opC b])) = some (.str (sC [clC b])) := by
  have q : ∀ s : Str, dgetD (dspD [(("[" : Str), ("]" : Str)), (("(" : Str), (")" : Str))]) (.str s) = vget (dspK [(("[" : Str), ("]" : Str)), (("(" : Str), (")" : Str))]) (.inr s) := fun s => by
    unfold dspD dgetD
    rw [od_dK]
    rfl
  rw [q]
  unfold dspK
  rw [List.map_cons, List.map_cons, lit_sq, lit_ro, lit_sq2, lit_ro2]
  cases b
  · exact (vget_neg (by intro z; injection z with z; exact absurd (sC_inj z) (by decide))).trans (vget_pos rfl)
  · exact vget_pos rfl
theorem nin_b (b : Bool) : ninAS (.str (sC [opC b])) (.tuple [.str ("[" : Str), .str ("(" : Str)]) = some (.bool false) := by
  have h := ninAS_t (sC [opC b]) [("[" : Str), ("(" : Str)]
  rw [decide_eq_true] at h
  · exact h
  · rw [lit_sq, lit_ro]
    cases b
    · exact List.mem_cons_of_mem _ List.mem_cons_self
    · exact List.mem_cons_self
noncomputable abbrev rdOPEN : MS := (sSeq (sLiftX 1 (sAsg (gN 2) (eSl slD (eVarF 3) oNone (oSome (eC (.int 1)))))) (sSeq (sLiftX 1 (sAsg (gN 3) (eSl slD (eVarF 3) (oSome (eC (.int 1))) oNone))) (sSeq (sLiftX 1 (sIf (tE (e2 ninAS (eVarF 2) (eTup (aCons (eC (.str ("[" : Str))) (aCons (eC (.str ("(" : Str))) aNil))))) (sRaise "NoText") sNext)) (sTwoNew ("[" : Str) ("(" : Str) 1 (eVarF 2) aNil))))
noncomputable abbrev rdA4 : MS := (sLiftX 1 (sAsg (gN 4) (e2 dgetD (eC (dspD [(("[" : Str), ("]" : Str)), (("(" : Str), (")" : Str))])) (eVarF 2))))
noncomputable abbrev rdMU1 : MS := (sTwoMut ("[" : Str) ("(" : Str) 1 (eVarF 2) (e1 negD (eC (.int 1))) appM (aCons (eCall f_read_stave (aCons (eSl slD (eVarF 3) oNone (oSome (e1 negD (eC (.int 1))))) aNil)) aNil))
noncomputable abbrev rdCL : MS := (sLiftX 1 (sAsg (gN 2) (eC (.str ("" : Str)))))
noncomputable abbrev rdMU2 : MS := (sTwoMut ("[" : Str) ("(" : Str) 1 (eVarF 2) (e1 negD (eC (.int 1))) appM (aCons (eCall f_read_stave (aCons (eVarF 3) aNil)) aNil))
noncomputable abbrev rdREST : MS := sSeq rdA4 (sIfR 1 (tE (e2 eqD (eSl slD (eVarF 3) (oSome (e1 negD (eC (.int 1)))) oNone) (eVarF 4))) (sSeq rdMU1 rdCL) rdMU2)
theorem rd_is : b1_read_work = sSeq (sIfR 1 (tE (e2 eqD (eVarF 2) (eC (.str ("" : Str))))) rdOPEN sNext) rdREST := rfl
abbrev fr6 (TX : D) (P : P2) (o p c : S) : Fr := [.val TX, .val (encT2 (eP P)), o, p, c, .none]
abbrev mk6 (TX : D) (o p c : S) : Fr := [.val TX, mkE, o, p, c, .none]
section
variable (TX : D) (b : Bool) (P : P2)
theorem lift6 {g : MS} {o p c o' p' c' : S} (h : g (mk6 TX o p c) = .nx (mk6 TX o' p' c')) (e1 : isErr o' = false) (e2 : isErr p' = false) (e3 : isErr c' = false) : sLiftX 1 g (fr6 TX P o p c) = .nx (fr6 TX P o' p' c') :=
  sLiftX_nx (i := 1) (s := .val (encT2 (eP P))) (ρ1 := mk6 TX o' p' c') rfl h rfl (by simp [e1, e2, e3])
theorem open_at (w : List Nat) (hw : w.length ≤ 9000) (hs : (sdP b P).length ≤ 9000) (c : S) (hc : isErr c = false) : rdOPEN (fr6 TX P ((S.val (PyData.str (sC [])))) ((S.val (PyData.str (sC (opC b :: w))))) c) = .nx (fr6 TX (psP b P (sdP b P ++ [[]])) ((S.val (PyData.str (sC [opC b])))) ((S.val (PyData.str (sC w)))) c) := by
  have s1 := slD_c (l := opC b :: w) (lo := none) (hi := some 1) (by rw [List.length_cons]; omega)
  have s2 := slD_c (l := opC b :: w) (lo := some 1) (hi := none) (by rw [List.length_cons]; omega)
  rw [cutL_one] at s1
  rw [cutL_tail] at s2
  have s1 : slD (.str (sC (opC b :: w))) none (some 1) = some (.str (sC [opC b])) := s1
  have s2 : slD (.str (sC (opC b :: w))) (some 1) none = some (.str (sC w)) := s2
  have nb := nin_b b
  unfold rdOPEN
  rw [sSeq_ap, lift6 TX P (o' := (S.val (PyData.str (sC [opC b])))) (p' := (S.val (PyData.str (sC (opC b :: w))))) (c' := c) ?_ rfl rfl hc, seq_nx, sSeq_ap, lift6 TX P (o' := (S.val (PyData.str (sC [opC b])))) (p' := (S.val (PyData.str (sC w)))) (c' := c) ?_ rfl rfl hc, seq_nx, sSeq_ap, lift6 TX P (o' := (S.val (PyData.str (sC [opC b])))) (p' := (S.val (PyData.str (sC w)))) (c' := c) ?_ rfl rfl hc, seq_nx]
  · refine (sTwoNew_at (x := eP P) (k := .str (sC [opC b])) (s := (!b, chs (sdP b P))) (ds := []) rfl rfl (selT_b b P) rfl ?_).trans ?_
    · show (chs (sdP b P)).length < _
      rw [List.length_map, sz]
      omega
    · have e : chs (sdP b P) ++ [Ch.own []] = chs (sdP b P ++ [[]]) := by rw [chs_app]; rfl
      show Out.nx ((fr6 TX P ((S.val (PyData.str (sC [opC b])))) ((S.val (PyData.str (sC w)))) c).set 1 (.val (encT2 (putT (eP P) (!b) (chs (sdP b P) ++ [Ch.own []]))))) = _
      rw [e, putT_b]
      rfl
  · generalize sC [opC b] = O at *
    generalize sC w = Q at *
    simp [nb]
  · generalize sC (opC b :: w) = Q at *
    generalize sC [opC b] = O at *
    simp [s2]
  · generalize sC (opC b :: w) = Q at *
    generalize sC [opC b] = O at *
    simp [s1]
theorem mut_at (Y : List (List Nat)) (ys : List Nat) (hP : sdP b P = Y ++ [ys]) (hy : ys.length ≤ 9000) (x : Nat) (o p c : S) (ho : o = (S.val (PyData.str (sC [opC b])))) {as : ML} (ha : as (mk6 TX o p c) = .ok [.int (x : Int)]) :
    sTwoMut ("[" : Str) ("(" : Str) 1 (eVarF 2) (e1 negD (eC (.int 1))) appM as (fr6 TX P o p c) = .nx (fr6 TX (psP b P (Y ++ [ys ++ [x]])) o p c) := by
  subst ho
  have ng : negD (.int 1) = some (.int (-1)) := rfl
  have ec : chs (sdP b P) = chs Y ++ [Ch.own ((ys.map fun i : Nat => (i : Int)).map .int)] := by rw [hP, chs_app]; rfl
  refine (sTwoMut_at (x := eP P) (k := .str (sC [opC b])) (s := (!b, chs (sdP b P))) (j := .int (-1)) (u := ((chs Y).length, (ys.map fun i : Nat => (i : Int)).map .int)) (es := [.int (x : Int)]) (r := ((ys.map fun i : Nat => (i : Int)).map .int ++ [.int (x : Int)], .none)) rfl rfl (selT_b b P) ?_ ?_ ha ?_).trans ?_
  · show e1 negD (eC (.int 1)) _ = _
    simp [ng]
  · show ownC (chs (sdP b P)) _ = _
    rw [ec]
    exact ownC_last _ _
  · exact appM_ok (by rw [List.length_map, List.length_map]; omega)
  · have e : (chs (sdP b P)).set (chs Y).length (Ch.own ((ys.map fun i : Nat => (i : Int)).map .int ++ [.int (x : Int)])) = chs (Y ++ [ys ++ [x]]) := by
      rw [ec, List.set_append_right _ _ (Nat.le_refl _), Nat.sub_self]
      show chs Y ++ [Ch.own _] = _
      rw [chs_app, chs_one, List.map_append, List.map_append]
      rfl
    show Out.nx ((fr6 TX P ((S.val (PyData.str (sC [opC b])))) p c).set 1 (.val (encT2 (putT (eP P) (!b) ((chs (sdP b P)).set (chs Y).length (Ch.own ((ys.map fun i : Nat => (i : Int)).map .int ++ [.int (x : Int)]))))))) = _
    rw [e, putT_b]
    rfl
theorem psP_ps (Y Z : List (List Nat)) : psP b (psP b P Y) Z = psP b P Z := by cases b <;> rfl
theorem sdP_ps (Y : List (List Nat)) : sdP b (psP b P Y) = Y := by cases b <;> rfl
end
end Lw
set_option Elab.async false
set_option linter.all false
set_option maxRecDepth 100000
set_option maxHeartbeats 4000000
namespace Lw
open PySem L2 Dn TL
abbrev st1 (l : List Nat) : D := .str (sC l)
end Lw
set_option Elab.async false
set_option linter.all false
set_option maxRecDepth 100000
set_option maxHeartbeats 4000000
namespace Dn
open PySem L2
theorem sRegT_at {i : Nat} {g : MS} {ρ ρ1 : Fr} {d : D} (h1 : (noErr ρ && decide (i < ρ.length)) = true) (hg : g (ρ.set i (.val (encT2 ([], [])))) = .ret d ρ1) (ne : noErr (clrI i ρ1) = true) : sRegT i g ρ = .ret d (clrI i ρ1) := by
  unfold sRegT
  rw [if_pos h1, hg]
  exact if_pos ne
end Dn
namespace Lw
open PySem L2 Dn TL
theorem outT_sq (x : List Ch × List Ch) : dgetD (outT ("[" : Str) ("(" : Str) x) (.str ("[" : Str)) = some (outN x.1) := by
  have q : dgetD (outT ("[" : Str) ("(" : Str) x) (.str ("[" : Str)) = vget [(Sum.inr ("[" : Str), outN x.1), (.inr ("(" : Str), outN x.2)] (.inr ("[" : Str) : Key) := by
    unfold outT dgetD
    rw [od_dK]
    rfl
  rw [q]
  exact vget_pos rfl
theorem outT_ro (x : List Ch × List Ch) : dgetD (outT ("[" : Str) ("(" : Str) x) (.str ("(" : Str)) = some (outN x.2) := by
  have q : dgetD (outT ("[" : Str) ("(" : Str) x) (.str ("(" : Str)) = vget [(Sum.inr ("[" : Str), outN x.1), (.inr ("(" : Str), outN x.2)] (.inr ("(" : Str) : Key) := by
    unfold outT dgetD
    rw [od_dK]
    rfl
  rw [q]
  refine (vget_neg ?_).trans (vget_pos rfl)
  intro z
  injection z with z
  exact absurd z (by decide +kernel)
theorem out_chs (A : List (List Nat)) : outN (chs A) = csD ((A.map fun xs => ((false, xs) : Ck)).map cnN) := by
  unfold outN csD
  rw [List.map_map, List.map_map, List.map_map]
  rfl
end Lw
set_option Elab.async false
set_option linter.all false
set_option maxRecDepth 100000
set_option maxHeartbeats 4000000
namespace Lw
open PySem L2 Dn TL
theorem intW_h {n : Nat} (h : n < 100) : intWD [.str (sC (numL n))] = some (.int n) := by
  have l := numL_len (n := n) (k := 2) (by decide) (by omega)
  have i := int_num (n := n) (by omega)
  have e : intWD [.str (sC (numL n))] = if (sC (numL n)).length ≤ 640 then (PySem.intText? (sC (numL n))).map .int else none := rfl
  rw [e, if_pos (by rw [sC_len]; omega), ← num_c, show PySem.intText? (Str.ofString (toString ((n : Nat) : Int))) = some (n : Int) from i]
  rfl
/-- the signs are looked at: all are figures, or one is none -/
theorem sign_bad (s0 s1 : S) : ∀ (cs : List Nat) (t : S), (∃ c ∈ cs, ¬ (48 ≤ c ∧ c ≤ 57)) → ∃ ρ, loopFor (forB (gN 2) b1_read_stave) (cs.map fun c => .str ⟨#[c]⟩) [s0, s1, t] = .exc "NoText" ρ
  | [], t, h => by obtain ⟨c, hc, _⟩ := h; cases hc
  | c :: cs, t, h => by
    have ee : ("0123456789" : Str).cps.toList = [48, 49, 50, 51, 52, 53, 54, 55, 56, 57] := by decide +kernel
    have e : ninSD (.str ⟨#[c]⟩) (.str ("0123456789" : Str)) = some (.bool (!decide (c ∈ ("0123456789" : Str).cps.toList))) := rfl
    by_cases g : 48 ≤ c ∧ c ≤ 57
    · have h2 : ∃ d ∈ cs, ¬ (48 ≤ d ∧ d ≤ 57) := by
        obtain ⟨d, hd, n⟩ := h
        rcases List.mem_cons.mp hd with rfl | hd
        · exact (n g).elim
        · exact ⟨d, hd, n⟩
      obtain ⟨ρ, ih⟩ := sign_bad s0 s1 cs (.val (.str ⟨#[c]⟩)) h2
      rw [decide_eq_true (digit_in g.1 g.2)] at e
      refine ⟨ρ, ?_⟩
      rw [List.map_cons]
      refine Eq.trans (loop_nx ?_) ih
      generalize PyData.str ⟨#[c]⟩ = P at *
      simp [b1_read_stave, e]
    · have nm : ¬ c ∈ ("0123456789" : Str).cps.toList := by
        rw [ee]
        simp
        omega
      rw [decide_eq_false nm] at e
      refine ⟨[s0, s1, .val (.str ⟨#[c]⟩)], ?_⟩
      rw [List.map_cons]
      generalize PyData.str ⟨#[c]⟩ = P at *
      have one : forB (gN 2) b1_read_stave P [s0, s1, t] = .exc "NoText" [s0, s1, .val P] := by simp [b1_read_stave, e]
      show (match forB (gN 2) b1_read_stave P [s0, s1, t] with
        | .nx ρ' => loopFor (forB (gN 2) b1_read_stave) _ ρ'
        | .cont ρ' => loopFor (forB (gN 2) b1_read_stave) _ ρ'
        | .brk ρ' => .nx ρ'
        | o => o) = _
      rw [one]
/-- what the figures tell -/
noncomputable abbrev rsTail : MS := (sSeq (sIf (tO (tE (e2 ltD (eB lenD (aCons (eVarF 1) aNil)) (eC (.int 1)))) (tO (tE (e2 gtD (eB lenD (aCons (eVarF 1) aNil)) (eC (.int 2)))) (tA (tE (e2 eqD (e2 ixD (eVarF 1) (eC (.int 0))) (eC (.str ("0" : Str))))) (tE (e2 gtD (eB lenD (aCons (eVarF 1) aNil)) (eC (.int 1))))))) (sRaise "NoText") sNext)
 (sSeq (sFor (iS (eVarF 1)) (gN 2) b1_read_stave)
 (sRet (e2 subD (e2 addD (e2 mulD (eC (.int 2)) (eB intWD (aCons (eVarF 1) aNil))) (eB lenD (aCons (eVarF 0) aNil))) (eB lenD (aCons (eVarF 1) aNil))))))
theorem tail_good {tx fs : List Nat} {v k : Nat} (h : figP fs = some v) (ht : tx.length = fs.length + k) (hk : k ≤ 1) : ∃ ρ, rsTail [.val (.str (sC tx)), .val (.str (sC fs)), .none] = .ret (.int ((2 * v + k : Nat) : Int)) ρ := by
  obtain ⟨rfl, hv⟩ := figP_num h
  have nl := numL_len (n := v) (k := 2) (by decide) (by omega)
  have dg : ∀ d ∈ numL v, 48 ≤ d ∧ d ≤ 57 := fun d hd => by have := numL_digits v d hd; omega
  have iw := intW_h hv
  have ln := lenD_c (l := numL v) (by omega)
  have lt := lenD_c (l := tx) (by omega)
  obtain ⟨c, r, e, q1⟩ : ∃ c r, numL v = c :: r ∧ (c = 48 → r = []) := by
    by_cases g : v < 10
    · exact ⟨_, [], numL_lt g, fun _ => rfl⟩
    · exact ⟨48 + v / 10, [48 + v % 10], by rw [numL_step (by omega), numL_lt (by omega)]; rfl, fun z => by omega⟩
  have i0 := ixD_c (l := numL v) e (by omega)
  have q0 : eqD (.str (sC [c])) (.str ("0" : Str)) = some (.bool (decide (c = 48))) := by
    rw [lit_zero, eqD_c]
    congr 2
    exact decide_eq_decide.mpr ⟨fun z => (by injection z), fun z => (by rw [z])⟩
  have n1 : ¬ ((numL v).length : Int) < 1 := by rw [e, List.length_cons]; omega
  have n2 : ¬ (2 : Int) < ((numL v).length : Int) := by omega
  have n3 : c = 48 → ¬ (1 : Int) < ((numL v).length : Int) := fun z => by rw [e, q1 z]; simp
  have ml : mulD (.int 2) (.int ((v : Nat) : Int)) = some (.int (2 * ((v : Nat) : Int))) := mulD_small (by decide)
  obtain ⟨t, lp⟩ := sign_loop (.val (.str (sC tx))) (.val (.str (sC (numL v)))) (numL v) dg
  have fin : 2 * ((v : Nat) : Int) + (tx.length : Int) - ((numL v).length : Int) = ((2 * v + k : Nat) : Int) := by rw [ht]; omega
  have cp := sC_cps (numL v)
  generalize ((2 * v + k : Nat) : Int) = RR at *
  generalize tx.length = tl at *
  generalize (v : Int) = vv at *
  generalize sC tx = T at *
  refine ⟨[S.val (PyData.str T), S.val (PyData.str (sC (numL v))), t], ?_⟩
  by_cases c0 : c = 48
  · have n3 := n3 c0
    rw [decide_eq_true c0] at q0
    simp [rsTail, ln, lt, n1, n2, n3, i0, q0, iS, cp, lp, iw, ml, fin, -forB_ap, -eqD_str, -mulD_small, -mulD_smallR]
  · rw [decide_eq_false c0] at q0
    simp [rsTail, ln, lt, n1, n2, i0, q0, iS, cp, lp, iw, ml, fin, -forB_ap, -eqD_str, -mulD_small, -mulD_smallR]
theorem tail_bad {tx fs : List Nat} (h : figP fs = none) (hl : fs.length ≤ 100000) : ∃ ρ, rsTail [.val (.str (sC tx)), .val (.str (sC fs)), .none] = .exc "NoText" ρ := by
  have ln := lenD_c (l := fs) (by omega)
  have cp := sC_cps fs
  match fs, h with
  | [], h =>
    have n1 : (([] : List Nat).length : Int) < 1 := by decide
    generalize (([] : List Nat).length : Int) = z at *
    generalize sC [] = T at *
    exact ⟨_, by simp [rsTail, ln, n1]; rfl⟩
  | c :: d :: e :: r, h =>
    have n1 : ¬ ((c :: d :: e :: r).length : Int) < 1 := by simp only [List.length_cons]; omega
    have n2 : (2 : Int) < ((c :: d :: e :: r).length : Int) := by simp only [List.length_cons]; omega
    generalize ((c :: d :: e :: r).length : Int) = z at *
    generalize sC (c :: d :: e :: r) = T at *
    exact ⟨_, by simp [rsTail, ln, n1, n2]; rfl⟩
  | [c], h =>
    have e : figP [c] = if isDg c = true then some (c - 48) else none := rfl
    rw [e] at h
    split at h
    · cases h
    case isFalse q =>
      have q : ¬ (48 ≤ c ∧ c ≤ 57) := fun z => q (isDg_iff.mpr z)
      obtain ⟨ρ, lp⟩ := sign_bad (.val (.str (sC tx))) (.val (.str (sC [c]))) [c] .none ⟨c, List.mem_singleton.mpr rfl, q⟩
      have i0 := ixD_c (l := [c]) rfl (by simp)
      have q0 : eqD (.str (sC [c])) (.str ("0" : Str)) = some (.bool (decide (c = 48))) := by
        rw [lit_zero, eqD_c]
        congr 2
        exact decide_eq_decide.mpr ⟨fun z => (by injection z), fun z => (by rw [z])⟩
      rw [decide_eq_false (fun z => q (by omega))] at q0
      have n1 : ¬ (([c] : List Nat).length : Int) < 1 := by simp
      have n2 : ¬ (2 : Int) < (([c] : List Nat).length : Int) := by simp
      generalize (([c] : List Nat).length : Int) = z at *
      generalize sC tx = T at *
      refine ⟨ρ, ?_⟩
      simp [rsTail, ln, n1, n2, i0, q0, iS, cp, -forB_ap, -eqD_str]
      simp at lp
      simp [lp]
  | [c, d], h =>
    have e : figP [c, d] = if (isDg c && isDg d && !(Nat.beq c 48)) = true then some (10 * (c - 48) + (d - 48)) else none := rfl
    rw [e] at h
    split at h
    · cases h
    case isFalse q =>
      have i0 := ixD_c (l := [c, d]) rfl (by simp)
      have q0 : eqD (.str (sC [c])) (.str ("0" : Str)) = some (.bool (decide (c = 48))) := by
        rw [lit_zero, eqD_c]
        congr 2
        exact decide_eq_decide.mpr ⟨fun z => (by injection z), fun z => (by rw [z])⟩
      have n1 : ¬ (([c, d] : List Nat).length : Int) < 1 := by simp only [List.length_cons, List.length_nil]; omega
      have n2 : ¬ (2 : Int) < (([c, d] : List Nat).length : Int) := by simp only [List.length_cons, List.length_nil]; omega
      have n3 : (1 : Int) < (([c, d] : List Nat).length : Int) := by simp only [List.length_cons, List.length_nil]; omega
      by_cases c0 : c = 48
      · rw [decide_eq_true c0] at q0
        generalize (([c, d] : List Nat).length : Int) = z at *
        generalize sC tx = T at *
        generalize sC [c, d] = T2 at *
        exact ⟨_, by simp [rsTail, ln, n1, n2, n3, i0, q0, -eqD_str]; rfl⟩
      · rw [decide_eq_false c0] at q0
        have q : ∃ x ∈ [c, d], ¬ (48 ≤ x ∧ x ≤ 57) := by
          by_cases g1 : 48 ≤ c ∧ c ≤ 57
          · refine ⟨d, by simp, fun g2 => q ?_⟩
            rw [isDg_iff.mpr g1, isDg_iff.mpr g2]
            have : Nat.beq c 48 = false := by
              cases z : Nat.beq c 48 with
              | false => rfl
              | true => exact (c0 (Nat.eq_of_beq_eq_true z)).elim
            rw [this]
            rfl
          · exact ⟨c, by simp, g1⟩
        obtain ⟨ρ, lp⟩ := sign_bad (.val (.str (sC tx))) (.val (.str (sC [c, d]))) [c, d] .none q
        generalize (([c, d] : List Nat).length : Int) = z at *
        generalize sC tx = T at *
        refine ⟨ρ, ?_⟩
        simp [rsTail, ln, n1, n2, i0, q0, iS, cp, -forB_ap, -eqD_str]
        simp at lp
        simp [lp]
def stvM (cs : List Nat) : M D := match stvP cs with
  | some x => .ok (.int (x : Int))
  | none => .exc "NoText"
theorem stave_gen (cs : List Nat) (hl : cs.length ≤ 100000) : f_read_stave [.str (sC cs)] = stvM cs := by
  have sl := slD_c (l := cs) (lo := none) (hi := some 1) (by omega)
  have sd := slD_c (l := cs) (lo := some 1) (hi := none) (by omega)
  rw [cutL_one] at sl
  rw [cutL_tail] at sd
  have gi : g_read_stave = sSeq (sAsg (gN 1) (eVarF 0)) (sSeq (sIf (tE (e2 eqD (eSl slD (eVarF 0) oNone (oSome (eC (.int 1)))) (eC (.str ("-" : Str))))) (sAsg (gN 1) (eSl slD (eVarF 0) (oSome (eC (.int 1))) oNone)) sNext) rsTail) := rfl
  have fin : ∀ (b : Bool) (fs : List Nat) (k : Nat), eqD (.str (sC (cs.take 1))) (.str ("-" : Str)) = some (.bool b) → (b = true → fs = cs.drop 1) → (b = false → fs = cs) → cs.length = fs.length + k → k ≤ 1 →
      f_read_stave [.str (sC cs)] = match figP fs with | some v => .ok (.int ((2 * v + k : Nat) : Int)) | none => .exc "NoText" := by
    intro b fs k qb b1 b2 hk hk1
    have hd : g_read_stave [.val (.str (sC cs)), .none, .none] = rsTail [.val (.str (sC cs)), .val (.str (sC fs)), .none] := by
      rw [gi]
      generalize rsTail = RT
      cases b with
      | true =>
        rw [← b1 rfl] at sd
        generalize sC fs = F at *
        generalize sC (cs.take 1) = A at *
        generalize sC cs = C at *
        simp [sl, sd, qb, -eqD_str]
      | false =>
        rw [b2 rfl]
        generalize sC (cs.take 1) = A at *
        generalize sC cs = C at *
        simp [sl, qb, -eqD_str]
    cases hf : figP fs with
    | none =>
      obtain ⟨ρ, t⟩ := tail_bad (tx := cs) hf (by omega)
      rw [t] at hd
      show f_read_stave [.str (sC cs)] = .exc "NoText"
      unfold f_read_stave
      simp [mFn, start', hd]
    | some v =>
      obtain ⟨ρ, t⟩ := tail_good (tx := cs) hf hk hk1
      rw [t] at hd
      show f_read_stave [.str (sC cs)] = .ok (.int ((2 * v + k : Nat) : Int))
      unfold f_read_stave
      generalize ((2 * v + k : Nat) : Int) = RR at *
      simp [mFn, start', hd]
  have sc : ∀ (c : Nat) (r : List Nat), stvP (c :: r) = if Nat.beq c 45 = true then (figP r).map fun v => 2 * v + 1 else (figP (c :: r)).map fun v => 2 * v := fun _ _ => rfl
  unfold stvM
  cases cs with
  | nil =>
    have q : eqD (.str (sC (([] : List Nat).take 1))) (.str ("-" : Str)) = some (.bool false) := by rw [lit_minus, eqD_c]; rfl
    exact fin false [] 0 q (fun z => by cases z) (fun _ => rfl) rfl (by decide)
  | cons c r =>
    have q : eqD (.str (sC ((c :: r).take 1))) (.str ("-" : Str)) = some (.bool (decide (c = 45))) := by
      rw [lit_minus, eqD_c]
      congr 2
      exact decide_eq_decide.mpr ⟨fun z => (by injection z), fun z => (by rw [z]; rfl)⟩
    by_cases g : c = 45
    · rw [decide_eq_true g] at q
      have := fin true r 1 q (fun _ => rfl) (fun z => by cases z) rfl (by decide)
      rw [this]
      rw [sc, if_pos (by rw [g]; rfl)]
      cases figP r <;> rfl
    · rw [decide_eq_false g] at q
      have := fin false (c :: r) 0 q (fun z => by cases z) (fun _ => rfl) rfl (by decide)
      rw [this]
      rw [sc, if_neg (fun z => g (Nat.eq_of_beq_eq_true z))]
      cases figP (c :: r) <;> rfl
end Lw
set_option Elab.async false
set_option linter.all false
set_option maxRecDepth 100000
set_option maxHeartbeats 4000000
namespace Dn
open PySem L2 TL
section
variable {k1 k2 : Str} {i : Nat} {ρ ρ1 : Fr} {x : List Ch × List Ch} {k j d : D} {g h : MS} {kf jf : ME} {as : ML} {fm : List D → List D → Option (List D × D)} {s : Bool × List Ch} {u : Nat × List D} {n : Str} {sl : S} {ds : List D}
theorem sTwoMut_exc (hi : ρ[i]? = some (.val (encT2 x))) (hk : kf (ρ.set i mkE) = .ok k) (hs : selT k1 k2 x k = some s) (hj : jf (ρ.set i mkE) = .ok j) (hu : ownC s.2 j = some u) (ha : as (ρ.set i mkE) = .exc n) :
    sTwoMut k1 k2 i kf jf fm as ρ = .exc n (ρ.set i mkE) := by
  unfold sTwoMut
  rw [viewT_at hi, ofO_some, hk, mB_ok, ofO_some]
  show Out.ofO (selT k1 k2 x k) _ = _
  rw [hs, ofO_some, hj, mB_ok, ofO_some, hu, ofO_some, ha]
  rfl
theorem sLiftX_exc (hi : ρ[i]? = some sl) (hg : g (ρ.set i mkE) = .exc n ρ1) : sLiftX i g ρ = .exc n ρ1 := by
  unfold sLiftX
  rw [hi, ofO_some, hg]
theorem sSeq_exc (hg : g ρ = .exc n ρ1) : sSeq g h ρ = .exc n ρ1 := by
  unfold sSeq
  rw [hg]
theorem loopR_exc {tg : D → Fr → Option Fr} {ρ2 : Fr} (h1 : tg d ρ = some ρ1) (h2 : g ρ1 = .exc n ρ2) : loopR tg g (d :: ds) ρ = .exc n ρ2 := by
  show Out.ofO (tg d ρ) _ = _
  rw [h1, ofO_some, h2]
end
end Dn
namespace Lw
open PySem L2 Dn TL
theorem cut_lst' (w : List Nat) : cutL w (some (-1)) none = w.getLast?.toList := by
  rcases List.eq_nil_or_concat w with h | ⟨v, z, h⟩
  · subst h; rfl
  · rw [List.concat_eq_append] at h
    subst h
    rw [cutL_lst, List.getLast?_append]
    rfl
theorem cut_init' (w : List Nat) : cutL w none (some (-1)) = w.dropLast := by
  rcases List.eq_nil_or_concat w with h | ⟨v, z, h⟩
  · subst h; rfl
  · rw [List.concat_eq_append] at h
    subst h
    rw [cutL_init, List.dropLast_concat]
section
variable (TX : D) (b : Bool) (P : P2)
theorem mut_exc (Y : List (List Nat)) (ys : List Nat) (hP : sdP b P = Y ++ [ys]) (o p c : S) (ho : o = (S.val (PyData.str (sC [opC b])))) {as : ML} (ha : as (mk6 TX o p c) = .exc "NoText") :
    sTwoMut ("[" : Str) ("(" : Str) 1 (eVarF 2) (e1 negD (eC (.int 1))) appM as (fr6 TX P o p c) = .exc "NoText" (mk6 TX o p c) := by
  subst ho
  have ng : negD (.int 1) = some (.int (-1)) := rfl
  have ec : chs (sdP b P) = chs Y ++ [Ch.own ((ys.map fun i : Nat => (i : Int)).map .int)] := by rw [hP, chs_app]; rfl
  refine (sTwoMut_exc (x := eP P) (k := .str (sC [opC b])) (s := (!b, chs (sdP b P))) (j := .int (-1)) (u := ((chs Y).length, (ys.map fun i : Nat => (i : Int)).map .int)) rfl rfl (selT_b b P) ?_ ?_ ha)
  · show e1 negD (eC (.int 1)) _ = _
    simp [ng]
  · show ownC (chs (sdP b P)) _ = _
    rw [ec]
    exact ownC_last _ _
/-- a part within a chain -/
def stvB (b : Bool) (w : List Nat) : Option Nat := if w.getLast? = some (clC b) then stvP w.dropLast else stvP w
def oNx (b : Bool) (w : List Nat) : S := if w.getLast? = some (clC b) then (S.val (PyData.str (sC []))) else (S.val (PyData.str (sC [opC b])))
theorem rest_gen (Y : List (List Nat)) (ys : List Nat) (hP : sdP b P = Y ++ [ys]) (hy : ys.length ≤ 9000) (w : List Nat) (hw : w.length ≤ 9000) (c : S) :
    match stvB b w with
    | some x => rdREST (fr6 TX P ((S.val (PyData.str (sC [opC b])))) ((S.val (PyData.str (sC w)))) c) = .nx (fr6 TX (psP b P (Y ++ [ys ++ [x]])) (oNx b w) ((S.val (PyData.str (sC w)))) ((S.val (PyData.str (sC [clC b])))))
    | none => rdREST (fr6 TX P ((S.val (PyData.str (sC [opC b])))) ((S.val (PyData.str (sC w)))) c) = .exc "NoText" (mk6 TX ((S.val (PyData.str (sC [opC b])))) ((S.val (PyData.str (sC w)))) ((S.val (PyData.str (sC [clC b]))))) := by
  have s1 := slD_c (l := w) (lo := some (-1)) (hi := none) (by omega)
  have s2 := slD_c (l := w) (lo := none) (hi := some (-1)) (by omega)
  rw [cut_lst'] at s1
  rw [cut_init'] at s2
  have ng : negD (.int 1) = some (.int (-1)) := rfl
  have dg := dget_b b
  have q := eqD_c w.getLast?.toList [clC b]
  have dl : w.dropLast.length ≤ 9000 := by rw [List.length_dropLast]; omega
  have hd : rdA4 (fr6 TX P ((S.val (PyData.str (sC [opC b])))) ((S.val (PyData.str (sC w)))) c) = .nx (fr6 TX P ((S.val (PyData.str (sC [opC b])))) ((S.val (PyData.str (sC w)))) ((S.val (PyData.str (sC [clC b]))))) := by
    unfold rdA4
    refine lift6 TX P ?_ rfl rfl rfl
    generalize dspD [(("[" : Str), ("]" : Str)), (("(" : Str), (")" : Str))] = DD at *
    generalize sC w = Q at *
    generalize sC [clC b] = C at *
    generalize sC [opC b] = O at *
    simp [dg]
  by_cases g : w.getLast? = some (clC b)
  · have eb : stvB b w = stvP w.dropLast := if_pos g
    have eo : oNx b w = (S.val (PyData.str (sC []))) := if_pos g
    rw [eb, eo]
    rw [g, show (some (clC b)).toList = [clC b] from rfl, decide_eq_true rfl] at q
    rw [g, show (some (clC b)).toList = [clC b] from rfl] at s1
    have st := stave_gen w.dropLast (by omega)
    have tst : sIfR 1 (tE (e2 eqD (eSl slD (eVarF 3) (oSome (e1 negD (eC (.int 1)))) oNone) (eVarF 4))) (sSeq rdMU1 rdCL) rdMU2 (fr6 TX P ((S.val (PyData.str (sC [opC b])))) ((S.val (PyData.str (sC w)))) ((S.val (PyData.str (sC [clC b]))))) = (sSeq rdMU1 rdCL) (fr6 TX P ((S.val (PyData.str (sC [opC b])))) ((S.val (PyData.str (sC w)))) ((S.val (PyData.str (sC [clC b]))))) := by
      rw [sIfR_at (b := true) ?_, if_pos rfl]
      show tE _ (mk6 TX ((S.val (PyData.str (sC [opC b])))) ((S.val (PyData.str (sC w)))) ((S.val (PyData.str (sC [clC b]))))) = _
      generalize sC w = Q at *
      generalize sC [clC b] = C at *
      generalize sC [opC b] = O at *
      simp [ng, s1, q]
    cases hs : stvP w.dropLast with
    | some x =>
      unfold stvM at st
      rw [hs] at st
      show rdREST _ = _
      unfold rdREST
      rw [sSeq_ap, hd, seq_nx, tst, sSeq_ap]
      unfold rdMU1
      rw [mut_at TX b P Y ys hP hy x _ _ _ rfl ?_, seq_nx]
      · refine lift6 TX _ ?_ rfl rfl rfl
        generalize sC w = Q at *
        generalize sC [clC b] = C at *
        simp [lit_e]
      · show aCons _ _ (mk6 TX ((S.val (PyData.str (sC [opC b])))) ((S.val (PyData.str (sC w)))) ((S.val (PyData.str (sC [clC b]))))) = _
        generalize sC w.dropLast = E at *
        generalize sC w = Q at *
        generalize sC [clC b] = C at *
        generalize sC [opC b] = O at *
        simp [ng, s2, st]
    | none =>
      unfold stvM at st
      rw [hs] at st
      show rdREST _ = _
      unfold rdREST
      rw [sSeq_ap, hd, seq_nx, tst]
      refine sSeq_exc ?_
      unfold rdMU1
      refine mut_exc TX b P Y ys hP _ _ _ rfl ?_
      show aCons _ _ (mk6 TX ((S.val (PyData.str (sC [opC b])))) ((S.val (PyData.str (sC w)))) ((S.val (PyData.str (sC [clC b]))))) = _
      generalize sC w.dropLast = E at *
      generalize sC w = Q at *
      generalize sC [clC b] = C at *
      generalize sC [opC b] = O at *
      simp [ng, s2, st]
  · have eb : stvB b w = stvP w := if_neg g
    have eo : oNx b w = (S.val (PyData.str (sC [opC b]))) := if_neg g
    rw [eb, eo]
    rw [decide_eq_false (fun z => g (by
      cases hh : w.getLast? with
      | none => rw [hh] at z; cases z
      | some y => rw [hh] at z; injection z with z; rw [z]))] at q
    have st := stave_gen w (by omega)
    have tst : sIfR 1 (tE (e2 eqD (eSl slD (eVarF 3) (oSome (e1 negD (eC (.int 1)))) oNone) (eVarF 4))) (sSeq rdMU1 rdCL) rdMU2 (fr6 TX P ((S.val (PyData.str (sC [opC b])))) ((S.val (PyData.str (sC w)))) ((S.val (PyData.str (sC [clC b]))))) = rdMU2 (fr6 TX P ((S.val (PyData.str (sC [opC b])))) ((S.val (PyData.str (sC w)))) ((S.val (PyData.str (sC [clC b]))))) := by
      rw [sIfR_at (b := false) ?_, if_neg Bool.false_ne_true]
      show tE _ (mk6 TX ((S.val (PyData.str (sC [opC b])))) ((S.val (PyData.str (sC w)))) ((S.val (PyData.str (sC [clC b]))))) = _
      generalize sC w.getLast?.toList = G at *
      generalize sC w = Q at *
      generalize sC [clC b] = C at *
      generalize sC [opC b] = O at *
      simp [ng, s1, q]
    cases hs : stvP w with
    | some x =>
      unfold stvM at st
      rw [hs] at st
      show rdREST _ = _
      unfold rdREST
      rw [sSeq_ap, hd, seq_nx, tst]
      unfold rdMU2
      refine mut_at TX b P Y ys hP hy x _ _ _ rfl ?_
      show aCons _ _ (mk6 TX ((S.val (PyData.str (sC [opC b])))) ((S.val (PyData.str (sC w)))) ((S.val (PyData.str (sC [clC b]))))) = _
      generalize sC w = Q at *
      generalize sC [clC b] = C at *
      generalize sC [opC b] = O at *
      simp [st]
    | none =>
      unfold stvM at st
      rw [hs] at st
      show rdREST _ = _
      unfold rdREST
      rw [sSeq_ap, hd, seq_nx, tst]
      unfold rdMU2
      refine mut_exc TX b P Y ys hP _ _ _ rfl ?_
      show aCons _ _ (mk6 TX ((S.val (PyData.str (sC [opC b])))) ((S.val (PyData.str (sC w)))) ((S.val (PyData.str (sC [clC b]))))) = _
      generalize sC w = Q at *
      generalize sC [clC b] = C at *
      generalize sC [opC b] = O at *
      simp [st]
/-- no bracket opens -/
theorem open_bad (w : List Nat) (hw : w.length ≤ 9000) (h : ∀ b v, w ≠ opC b :: v) (c : S) : rdOPEN (fr6 TX P (S.val (PyData.str (sC []))) ((S.val (PyData.str (sC w)))) c) = .exc "NoText" (mk6 TX ((S.val (PyData.str (sC (w.take 1))))) ((S.val (PyData.str (sC (w.drop 1))))) c) ∨ isErr c = true := by
  cases hc : isErr c with
  | true => exact .inr rfl
  | false =>
    left
    have s1 := slD_c (l := w) (lo := none) (hi := some 1) (by omega)
    have s2 := slD_c (l := w) (lo := some 1) (hi := none) (by omega)
    rw [cutL_one] at s1
    rw [cutL_tail] at s2
    have nb : ninAS (.str (sC (w.take 1))) (.tuple [.str ("[" : Str), .str ("(" : Str)]) = some (.bool true) := by
      have h2 := ninAS_t (sC (w.take 1)) [("[" : Str), ("(" : Str)]
      rw [decide_eq_false] at h2
      · exact h2
      · rw [lit_sq, lit_ro]
        intro z
        have k : ∀ y : Nat, sC (w.take 1) = sC [y] → ∃ v, w = y :: v := fun y e => by
          have e := sC_inj e
          cases w with
          | nil => cases e
          | cons a v => injection e with e; exact ⟨v, by rw [e]⟩
        rcases List.mem_cons.mp z with z | z
        · obtain ⟨v, e⟩ := k 91 z
          exact h true v e
        · rw [List.mem_singleton] at z
          obtain ⟨v, e⟩ := k 40 z
          exact h false v e
    unfold rdOPEN
    rw [sSeq_ap, lift6 TX P (o' := (S.val (PyData.str (sC (w.take 1))))) (p' := (S.val (PyData.str (sC w)))) (c' := c) ?_ rfl rfl hc, seq_nx, sSeq_ap, lift6 TX P (o' := (S.val (PyData.str (sC (w.take 1))))) (p' := (S.val (PyData.str (sC (w.drop 1))))) (c' := c) ?_ rfl rfl hc, seq_nx]
    · refine sSeq_exc (sLiftX_exc (sl := .val (encT2 (eP P))) rfl ?_)
      show (sIf (tE (e2 ninAS (eVarF 2) (eTup (aCons (eC (.str ("[" : Str))) (aCons (eC (.str ("(" : Str))) aNil))))) (sRaise "NoText") sNext) (mk6 TX ((S.val (PyData.str (sC (w.take 1))))) ((S.val (PyData.str (sC (w.drop 1))))) c) = _
      generalize sC (w.take 1) = O at *
      generalize sC (w.drop 1) = Q at *
      simp [nb]
    · generalize sC (w.take 1) = O at *
      generalize sC (w.drop 1) = Q1 at *
      generalize sC w = Q at *
      simp [s2]
    · generalize sC (w.take 1) = O at *
      generalize sC (w.drop 1) = Q1 at *
      generalize sC w = Q at *
      simp [s1]
end
def p2K (ks : List Kc) : P2 := (rowK ks, rinK ks)
theorem p2K_app (ks : List Kc) (b : Bool) (ys : List Nat) : p2K (ks ++ [(b, ys)]) = psP b (p2K ks) (sdP b (p2K ks) ++ [ys]) := by
  unfold p2K rowK rinK
  cases b
  · rw [List.filter_append, List.filter_append, List.map_append, List.map_append]
    simp [psP, sdP]
  · rw [List.filter_append, List.filter_append, List.map_append, List.map_append]
    simp [psP, sdP]
def stP (s : RS) : P2 := p2K (s.1 ++ s.2.toList)
def oS (s : RS) : S := match s.2 with
  | none => (S.val (PyData.str (sC [])))
  | some k => (S.val (PyData.str (sC [opC k.1])))
theorem oS_err (s : RS) : isErr (oS s) = false := by
  unfold oS
  cases s.2 <;> rfl
theorem p2K_len (ks : List Kc) (b : Bool) : (sdP b (p2K ks)).length ≤ ks.length := by
  cases b
  · show ((ks.filter _).map _).length ≤ _
    rw [List.length_map]
    exact List.length_filter_le _ _
  · show ((ks.filter _).map _).length ≤ _
    rw [List.length_map]
    exact List.length_filter_le _ _
section
variable (TX : D)
/-- the rest of a turn, at the state -/
theorem clo_run (ks : List Kc) (b : Bool) (ys w : List Nat) (hy : ys.length ≤ 9000) (hw : w.length ≤ 9000) (c : S) (hc : isErr c = false) :
    match cloS ks b ys w with
    | some s' => rdREST (fr6 TX (p2K (ks ++ [(b, ys)])) ((S.val (PyData.str (sC [opC b])))) ((S.val (PyData.str (sC w)))) c) = .nx (fr6 TX (stP s') (oS s') ((S.val (PyData.str (sC w)))) ((S.val (PyData.str (sC [clC b])))))
    | none => rdREST (fr6 TX (p2K (ks ++ [(b, ys)])) ((S.val (PyData.str (sC [opC b])))) ((S.val (PyData.str (sC w)))) c) = .exc "NoText" (mk6 TX ((S.val (PyData.str (sC [opC b])))) ((S.val (PyData.str (sC w)))) ((S.val (PyData.str (sC [clC b]))))) := by
  have r := rest_gen TX b (p2K (ks ++ [(b, ys)])) (sdP b (p2K ks)) ys (by rw [p2K_app, sdP_ps]) hy w hw c
  rw [p2K_app] at r
  simp only [psP_ps] at r
  rw [p2K_app]
  unfold cloS
  by_cases g : w.getLast? = some (clC b)
  · have eb : stvB b w = stvP w.dropLast := if_pos g
    have eo : oNx b w = (S.val (PyData.str (sC []))) := if_pos g
    rw [if_pos g]
    rw [eb, eo] at r
    cases h : stvP w.dropLast with
    | none => rw [h] at r; exact r
    | some x =>
      rw [h] at r
      have e : stP (ks ++ [(b, ys ++ [x])], none) = psP b (p2K ks) (sdP b (p2K ks) ++ [ys ++ [x]]) := by
        show p2K (ks ++ [(b, ys ++ [x])] ++ []) = _
        rw [List.append_nil, p2K_app]
      show _ = Out.nx (fr6 TX (stP (ks ++ [(b, ys ++ [x])], none)) (S.val (PyData.str (sC []))) _ _)
      rw [e]
      exact r
  · have eb : stvB b w = stvP w := if_neg g
    have eo : oNx b w = (S.val (PyData.str (sC [opC b]))) := if_neg g
    rw [if_neg g]
    rw [eb, eo] at r
    cases h : stvP w with
    | none => rw [h] at r; exact r
    | some x =>
      rw [h] at r
      have e : stP (ks, some (b, ys ++ [x])) = psP b (p2K ks) (sdP b (p2K ks) ++ [ys ++ [x]]) := p2K_app ks b (ys ++ [x])
      show _ = Out.nx (fr6 TX (stP (ks, some (b, ys ++ [x]))) ((S.val (PyData.str (sC [opC b])))) _ _)
      rw [e]
      exact r
theorem body_open_exc {P : P2} {c : S} {d : D} {ρ1 : Fr} (h : rdOPEN (fr6 TX P (S.val (PyData.str (sC []))) (.val d) c) = .exc "NoText" ρ1) : b1_read_work (fr6 TX P (S.val (PyData.str (sC []))) (.val d) c) = .exc "NoText" ρ1 := by
  rw [rd_is]
  refine sSeq_exc ?_
  rw [sIfR_at (b := true) ?_, if_pos rfl, h]
  have q := eqD_c [] []
  rw [decide_eq_true rfl, ← lit_e] at q
  show tE _ (mk6 TX (.val (.str (sC []))) (.val d) c) = _
  rw [← lit_e]
  generalize ("" : Str) = E at *
  simp [q]
theorem body_open_o {P : P2} {c : S} {d : D} {ρ1 : Fr} {o : Out} (h : rdOPEN (fr6 TX P (S.val (PyData.str (sC []))) (.val d) c) = .nx ρ1) (h2 : rdREST ρ1 = o) : b1_read_work (fr6 TX P (S.val (PyData.str (sC []))) (.val d) c) = o := by
  rw [rd_is, sSeq_ap, sIfR_at (b := true) ?_, if_pos rfl, h, seq_nx, h2]
  have q := eqD_c [] []
  rw [decide_eq_true rfl, ← lit_e] at q
  show tE _ (mk6 TX (.val (.str (sC []))) (.val d) c) = _
  rw [← lit_e]
  generalize ("" : Str) = E at *
  simp [q]
theorem body_go_o {P : P2} {k : Nat} {c : S} {d : D} {o : Out} (h2 : rdREST (fr6 TX P (.val (.str (sC [k]))) (.val d) c) = o) : b1_read_work (fr6 TX P (.val (.str (sC [k]))) (.val d) c) = o := by
  rw [rd_is, sSeq_ap, sIfR_at (b := false) ?_, if_neg Bool.false_ne_true]
  · exact h2
  · have q := eqD_c [k] []
    rw [decide_eq_false (by intro z; cases z), ← lit_e] at q
    show tE _ (mk6 TX (.val (.str (sC [k]))) (.val d) c) = _
    generalize ("" : Str) = E at *
    generalize sC [k] = O at *
    simp [q]
/-- a turn -/
theorem stp_run (s : RS) (w : List Nat) (hw : w.length ≤ 9000) (R : RSok 8000 s) (c : S) (hc : isErr c = false) :
    match stpS s w with
    | some s' => ∃ p' c', isErr p' = false ∧ isErr c' = false ∧ b1_read_work (fr6 TX (stP s) (oS s) ((S.val (PyData.str (sC w)))) c) = .nx (fr6 TX (stP s') (oS s') p' c')
    | none => ∃ o' p' c', isErr o' = false ∧ isErr p' = false ∧ isErr c' = false ∧ b1_read_work (fr6 TX (stP s) (oS s) ((S.val (PyData.str (sC w)))) c) = .exc "NoText" (mk6 TX o' p' c') := by
  obtain ⟨ks, cur⟩ := s
  cases cur with
  | some k =>
    obtain ⟨b, ys⟩ := k
    have le : (ks.flatMap Prod.snd).length + ys.length ≤ 8000 := R.le
    have r := clo_run TX ks b ys w (by omega) hw c hc
    show match cloS ks b ys w with
      | some s' => ∃ p' c', isErr p' = false ∧ isErr c' = false ∧ b1_read_work (fr6 TX (p2K (ks ++ [(b, ys)])) ((S.val (PyData.str (sC [opC b])))) ((S.val (PyData.str (sC w)))) c) = .nx (fr6 TX (stP s') (oS s') p' c')
      | none => ∃ o' p' c', isErr o' = false ∧ isErr p' = false ∧ isErr c' = false ∧ b1_read_work (fr6 TX (p2K (ks ++ [(b, ys)])) ((S.val (PyData.str (sC [opC b])))) ((S.val (PyData.str (sC w)))) c) = .exc "NoText" (mk6 TX o' p' c')
    cases h : cloS ks b ys w with
    | some s' => rw [h] at r; exact ⟨_, _, rfl, rfl, body_go_o TX r⟩
    | none => rw [h] at r; exact ⟨_, _, _, rfl, rfl, rfl, body_go_o TX r⟩
  | none =>
    have es : stP (ks, none) = p2K ks := by show p2K (ks ++ []) = _; rw [List.append_nil]
    have lc : ks.length + 0 ≤ 8000 := R.lc
    have bad : (∀ b v, w ≠ opC b :: v) → ∃ o' p' c', isErr o' = false ∧ isErr p' = false ∧ isErr c' = false ∧ b1_read_work (fr6 TX (stP (ks, none)) (S.val (PyData.str (sC []))) ((S.val (PyData.str (sC w)))) c) = .exc "NoText" (mk6 TX o' p' c') := fun h => by
      rcases open_bad TX (stP (ks, none)) w hw h c with e | e
      · exact ⟨_, _, _, rfl, rfl, hc, body_open_exc TX e⟩
      · rw [hc] at e; cases e
    have good : ∀ (b : Bool) (v : List Nat), w = opC b :: v → match cloS ks b [] v with
        | some s' => ∃ p' c', isErr p' = false ∧ isErr c' = false ∧ b1_read_work (fr6 TX (stP (ks, none)) (S.val (PyData.str (sC []))) ((S.val (PyData.str (sC w)))) c) = .nx (fr6 TX (stP s') (oS s') p' c')
        | none => ∃ o' p' c', isErr o' = false ∧ isErr p' = false ∧ isErr c' = false ∧ b1_read_work (fr6 TX (stP (ks, none)) (S.val (PyData.str (sC []))) ((S.val (PyData.str (sC w)))) c) = .exc "NoText" (mk6 TX o' p' c') := fun b v e => by
      subst e
      rw [List.length_cons] at hw
      have o := open_at TX b (p2K ks) v (by omega) (by have := p2K_len ks b; omega) c hc
      rw [← p2K_app] at o
      have r := clo_run TX ks b [] v (Nat.zero_le _) (by omega) c hc
      rw [es]
      cases h : cloS ks b [] v with
      | some s' => rw [h] at r; exact ⟨_, _, rfl, rfl, body_open_o TX o r⟩
      | none => rw [h] at r; exact ⟨_, _, _, rfl, rfl, rfl, body_open_o TX o r⟩
    cases w with
    | nil => exact bad fun b v e => by cases e
    | cons a v =>
      show match (if a = 91 then cloS ks true [] v else if a = 40 then cloS ks false [] v else none) with
        | some s' => ∃ p' c', isErr p' = false ∧ isErr c' = false ∧ b1_read_work (fr6 TX (stP (ks, none)) (S.val (PyData.str (sC []))) ((S.val (PyData.str (sC (a :: v))))) c) = .nx (fr6 TX (stP s') (oS s') p' c')
        | none => ∃ o' p' c', isErr o' = false ∧ isErr p' = false ∧ isErr c' = false ∧ b1_read_work (fr6 TX (stP (ks, none)) (S.val (PyData.str (sC []))) ((S.val (PyData.str (sC (a :: v))))) c) = .exc "NoText" (mk6 TX o' p' c')
      by_cases g1 : a = 91
      · rw [if_pos g1]
        exact good true v (by rw [g1]; rfl)
      · rw [if_neg g1]
        by_cases g2 : a = 40
        · rw [if_pos g2]
          exact good false v (by rw [g2]; rfl)
        · rw [if_neg g2]
          refine bad fun b u e => ?_
          injection e with e
          cases b
          · exact g2 e
          · exact g1 e
end
end Lw
set_option Elab.async false
set_option linter.all false
set_option maxRecDepth 100000
set_option maxHeartbeats 4000000
namespace Lw
open PySem L2 Dn TL
section
variable (TX : D)
theorem rs_mono {j k : Nat} {s : RS} (R : RSok j s) (h : j ≤ k) : RSok k s := ⟨R.ne, R.nc, Nat.le_trans R.le h, Nat.le_trans R.lc h⟩
theorem go_run : ∀ (ws : List (List Nat)) (k : Nat) (s : RS) (p c : S), (∀ w ∈ ws, w.length ≤ 9000) → RSok k s → k + ws.length ≤ 8000 → isErr p = false → isErr c = false →
    match goS ws s with
    | some s' => ∃ p' c', isErr p' = false ∧ isErr c' = false ∧ loopR (tgN 1 (gN 3)) b1_read_work (ws.map st1) (fr6 TX (stP s) (oS s) p c) = .nx (fr6 TX (stP s') (oS s') p' c')
    | none => ∃ o' p' c', isErr o' = false ∧ isErr p' = false ∧ isErr c' = false ∧ loopR (tgN 1 (gN 3)) b1_read_work (ws.map st1) (fr6 TX (stP s) (oS s) p c) = .exc "NoText" (mk6 TX o' p' c')
  | [], k, s, p, c, _, _, _, e1, e2 => ⟨p, c, e1, e2, rfl⟩
  | w :: ws, k, s, p, c, hw, R, hk, e1, e2 => by
    rw [List.length_cons] at hk
    have t := stp_run TX s w (hw w List.mem_cons_self) (rs_mono R (by omega)) c e2
    have tg : tgN 1 (gN 3) (st1 w) (fr6 TX (stP s) (oS s) p c) = some (fr6 TX (stP s) (oS s) (.val (st1 w)) c) := tgN_gN (s := .val (encT2 (eP (stP s)))) (by decide) rfl (by simp [oS_err, e1, e2])
    have eg : goS (w :: ws) s = match stpS s w with
      | some s' => goS ws s'
      | none => none := rfl
    rw [eg]
    cases h : stpS s w with
    | none =>
      rw [h] at t
      obtain ⟨o', p', c', i0, i1, i2, t⟩ := t
      exact ⟨o', p', c', i0, i1, i2, loopR_exc tg t⟩
    | some s' =>
      rw [h] at t
      obtain ⟨p', c', i1, i2, t⟩ := t
      have ih := go_run ws (k + 1) s' p' c' (fun v hv => hw v (List.mem_cons_of_mem _ hv)) (stpS_ok R h) (by omega) i1 i2
      have lc : loopR (tgN 1 (gN 3)) b1_read_work ((w :: ws).map st1) (fr6 TX (stP s) (oS s) p c) = loopR (tgN 1 (gN 3)) b1_read_work (ws.map st1) (fr6 TX (stP s') (oS s') p' c') := loopR_cons tg t
      show match goS ws s' with
        | some s' => ∃ p' c', isErr p' = false ∧ isErr c' = false ∧ loopR (tgN 1 (gN 3)) b1_read_work ((w :: ws).map st1) (fr6 TX (stP s) (oS s) p c) = .nx (fr6 TX (stP s') (oS s') p' c')
        | none => ∃ o' p' c', isErr o' = false ∧ isErr p' = false ∧ isErr c' = false ∧ loopR (tgN 1 (gN 3)) b1_read_work ((w :: ws).map st1) (fr6 TX (stP s) (oS s) p c) = .exc "NoText" (mk6 TX o' p' c')
      rw [lc]
      exact ih
end
/-- what read_work tells of a text -/
def readM (cs : List Nat) : M D := match readP cs with
  | some ks => .ok (wkD (2 * sK ks) (mK ks))
  | none => .exc "NoText"
theorem sTwoExit_any {k1 k2 : Str} {i : Nat} {h : MS} {ρ : Fr} {x : List Ch × List Ch} {o : Out} (hi : ρ[i]? = some (.val (encT2 x))) (hh : h (ρ.set i (.val (outT k1 k2 x))) = o) (ho : ∀ ρ1, o ≠ .nx ρ1 ∧ o ≠ .brk ρ1 ∧ o ≠ .cont ρ1 ∧ ∀ ds, o ≠ .retL ds ρ1) : sTwoExit k1 k2 i h ρ = o := by
  unfold sTwoExit
  rw [viewT_at hi, ofO_some]
  show (match h (ρ.set i (.val (outT k1 k2 x))) with | .ret d ρ1 => Out.ret d ρ1 | .exc n ρ1 => .exc n ρ1 | _ => .stuck) = _
  rw [hh]
  cases o with
  | ret d ρ1 => rfl
  | exc n ρ1 => rfl
  | stuck => rfl
  | nx ρ1 => exact ((ho ρ1).1 rfl).elim
  | brk ρ1 => exact ((ho ρ1).2.1 rfl).elim
  | cont ρ1 => exact ((ho ρ1).2.2.1 rfl).elim
  | retL ds ρ1 => exact ((ho ρ1).2.2.2 ds rfl).elim
theorem sRegT_exc {i : Nat} {g : MS} {ρ ρ1 : Fr} {n : Str} (h1 : (noErr ρ && decide (i < ρ.length)) = true) (hg : g (ρ.set i (.val (encT2 ([], [])))) = .exc n ρ1) (ne : noErr (clrI i ρ1) = true) : sRegT i g ρ = .exc n (clrI i ρ1) := by
  unfold sRegT
  rw [if_pos h1, hg]
  exact if_pos ne
theorem lk_bw : lk tab_BadWork "BadWork" = some true := by decide +kernel
/-- the works: work_from of what is read -/
theorem from_gen (ks : List Kc) (ne : ∀ c ∈ ks, c.2 ≠ []) (hk : ks.length ≤ 9000) (hl : (ks.flatMap Prod.snd).length ≤ 9000) :
    f_work_from [outN (chs (rowK ks)), outN (chs (rinK ks))] = if okK ks = true then .ok (wkD (2 * sK ks) (mK ks)) else .exc "BadWork" := by
  have e : ∀ A : List (List Nat), (A.map fun xs => ((false, xs) : Ck)).map Prod.snd = A := fun A => by rw [List.map_map]; exact (List.map_congr_left fun _ _ => rfl).trans (List.map_id _)
  rw [out_chs, out_chs]
  by_cases h : okK ks = true
  · rw [if_pos h]
    obtain ⟨C, I⟩ := readK_cover ne h
    exact from_good (by rw [e, e]; exact C) I (okK_perm h).1
  · rw [if_neg h]
    have pm := kc_perm ks
    have app : ((rowK ks).map fun xs => ((false, xs) : Ck)) ++ ((rinK ks).map fun xs => ((false, xs) : Ck)) = (rowK ks ++ rinK ks).map fun xs => ((false, xs) : Ck) := List.map_append.symm
    have nn : ∀ c ∈ rowK ks ++ rinK ks, c ≠ [] := fun c hc => by
      obtain ⟨k, hk, rfl⟩ := List.mem_map.mp (pm.mem_iff.mp hc)
      exact ne k hk
    have cl : (rowK ks).length + (rinK ks).length = ks.length := by
      have := pm.length_eq
      rw [List.length_append, List.length_map] at this
      exact this
    have tl : ((rowK ks ++ rinK ks).flatten).length = (ks.flatMap Prod.snd).length := by
      rw [pm.flatten.length_eq, List.flatMap_def]
    have sa : stA (((rowK ks ++ rinK ks).map fun xs => ((false, xs) : Ck)).map cnN) = (stsL (rowK ks ++ rinK ks).flatten).map fun i : Nat => (i : Int) := by
      rw [stA_nat, e]
    refine from_bad (rows := ((rowK ks).map fun xs => ((false, xs) : Ck)).map cnN) (rings := ((rinK ks).map fun xs => ((false, xs) : Ck)).map cnN) (fun c hc => ?_) ?_ ?_ ?_
    · rw [← List.map_append, app] at hc
      obtain ⟨d, hd, rfl⟩ := List.mem_map.mp hc
      obtain ⟨x, hx, rfl⟩ := List.mem_map.mp hd
      intro z
      exact nn x hx (List.map_eq_nil_iff.mp z)
    · rw [← List.map_append, app, sum_len, e]
      unfold stsL
      rw [List.length_map, tl]
      omega
    · rw [List.length_map, List.length_map, List.length_map, List.length_map]
      omega
    · rw [← List.map_append, app, sa, List.length_map]
      have sp := kc_st ks
      by_cases g : 40 < (stvK ks).length
      · left
        rw [sp.length_eq]
        exact g
      · right
        intro z
        apply h
        unfold okK
        rw [Bool.and_eq_true, decide_eq_true_eq, List.isPerm_iff]
        refine ⟨by omega, ?_⟩
        unfold idxI at z
        have z := z.map Int.toNat
        rw [List.map_map, List.map_map] at z
        have tn : (Int.toNat ∘ fun i : Nat => (i : Int)) = id := funext fun i => Int.toNat_natCast i
        rw [tn, List.map_id, List.map_id] at z
        rw [sp.length_eq] at z
        exact sp.symm.trans z
theorem read_gen (cs : List Nat) (hl : cs.length ≤ 7990) : f_read_work [.str (sC cs)] = readM cs := by
  have q0 : eqD (.str (sC cs)) (.str ("." : Str)) = some (.bool (decide (cs = [46]))) := by
    rw [show ("." : Str) = sC [46] by decide +kernel, eqD_c]
  by_cases c0 : cs = [46]
  · have er : readM cs = .ok (.tuple []) := by
      unfold readM readP
      rw [if_pos c0]
      rfl
    rw [er]
    rw [decide_eq_true c0] at q0
    generalize sC cs = T at *
    simp [f_read_work, mFn, g_read_work, start', q0, -eqD_str]
  · rw [decide_eq_false c0] at q0
    obtain ⟨wl1, wl2⟩ := wsp_len 32 cs
    have sp := splitD_c (y := 32) (by decide) (wsp_ne 32 cs) (wsp_free 32 cs) (by rw [wsp_join]; omega)
    rw [wsp_join, ← lit_sp] at sp
    have R0 : RSok 0 (([], none) : RS) := ⟨fun c hc => (by cases hc), fun c hc => (by cases hc), Nat.le_refl _, Nat.le_refl _⟩
    have run := go_run (.str (sC cs)) (wsp 32 cs) 0 ([], none) .none .none (fun w hw => by have := wl2 w hw; omega) R0 (by omega) rfl rfl
    have hd : ∀ o : Out, o ≠ .stuck → (∀ ρ1, o ≠ .nx ρ1 ∧ o ≠ .brk ρ1 ∧ o ≠ .cont ρ1 ∧ ∀ ds, o ≠ .retL ds ρ1) → (sSeq (sForR 1 (iE (eL (eM1L splitD (eVarF 0) (eC (.str (" " : Str)))))) (gN 3) b1_read_work)
 (sSeq (sLiftX 1 (sIf (tE (e2 neD (eVarF 2) (eC (.str ("" : Str))))) (sRaise "NoText") sNext))
 (sTwoExit ("[" : Str) ("(" : Str) 1 (sSeq (sTryOnlyR tab_BadWork (sAsg (gN 5) (eCall f_work_from (aCons (e2 dgetD (eVarF 1) (eC (.str ("[" : Str)))) (aCons (e2 dgetD (eVarF 1) (eC (.str ("(" : Str)))) aNil)))) (sRaise "NoText"))
 (sRet (eVarF 5)))))) (fr6 (.str (sC cs)) ([], []) (.val (.str (sC []))) .none .none) = o → (∀ n ρ1, o = .exc n ρ1 → noErr (clrI 1 ρ1) = true) → (∀ d ρ1, o = .ret d ρ1 → noErr (clrI 1 ρ1) = true) → f_read_work [.str (sC cs)] = match o with | .ret d _ => .ok d | .exc n _ => .exc n | _ => .stuck := by
      intro o hs ho run hn hr
      have st0 : (sIf (tE (e2 eqD (eVarF 0) (eC (.str ("." : Str))))) (sRet (eTup aNil)) sNext) [.val (.str (sC cs)), .none, .none, .none, .none, .none] = .nx [.val (.str (sC cs)), .none, .none, .none, .none, .none] := by
        generalize sC cs = T at *
        simp [q0]
      have first : sLiftX 1 (sAsg (gN 2) (eC (.str ("" : Str)))) (fr6 (.str (sC cs)) ([], []) .none .none .none) = .nx (fr6 (.str (sC cs)) ([], []) (.val (.str (sC []))) .none .none) := by
        refine lift6 (.str (sC cs)) ([], []) (o' := .val (.str (sC []))) (p' := .none) (c' := .none) ?_ rfl rfl rfl
        rw [← lit_e]
        generalize ("" : Str) = E at *
        simp
      cases o with
      | ret d ρ1 =>
        have hg : g_read_work [.val (.str (sC cs)), .none, .none, .none, .none, .none] = .ret d (clrI 1 ρ1) := by
          unfold g_read_work
          rw [sSeq_ap, st0, seq_nx]
          refine sRegT_at rfl ?_ (hr d ρ1 rfl)
          show sSeq _ _ (fr6 (.str (sC cs)) ([], []) .none .none .none) = _
          rw [sSeq_ap, first, seq_nx]
          exact run
        unfold f_read_work
        simp [mFn, start', hg]
      | exc n ρ1 =>
        have hg : g_read_work [.val (.str (sC cs)), .none, .none, .none, .none, .none] = .exc n (clrI 1 ρ1) := by
          unfold g_read_work
          rw [sSeq_ap, st0, seq_nx]
          refine sRegT_exc rfl ?_ (hn n ρ1 rfl)
          show sSeq _ _ (fr6 (.str (sC cs)) ([], []) .none .none .none) = _
          rw [sSeq_ap, first, seq_nx]
          exact run
        unfold f_read_work
        simp [mFn, start', hg]
      | stuck => exact (hs rfl).elim
      | nx ρ1 => exact ((ho ρ1).1 rfl).elim
      | brk ρ1 => exact ((ho ρ1).2.1 rfl).elim
      | cont ρ1 => exact ((ho ρ1).2.2.1 rfl).elim
      | retL ds ρ1 => exact ((ho ρ1).2.2.2 ds rfl).elim
    have fr : ∀ g : MS, sForR 1 (iE (eL (eM1L splitD (eVarF 0) (eC (.str (" " : Str)))))) (gN 3) g (fr6 (.str (sC cs)) ([], []) (.val (.str (sC []))) .none .none) = loopR (tgN 1 (gN 3)) g ((wsp 32 cs).map st1) (fr6 (.str (sC cs)) ([], []) (.val (.str (sC []))) .none .none) := fun g => by
      refine sForR_at ?_
      show iE _ (mk6 (.str (sC cs)) (.val (.str (sC []))) .none .none) = _
      generalize sC [] = E at *
      generalize sC cs = T at *
      simp [sp]
    unfold readM readP
    rw [if_neg c0]
    unfold parP
    cases h : goS (wsp 32 cs) ([], none) with
    | none =>
      rw [h] at run
      obtain ⟨o', p', c', i0, i1, i2, run⟩ := run
      have := hd (.exc "NoText" (mk6 (.str (sC cs)) o' p' c')) nofun (fun _ => ⟨nofun, nofun, nofun, nofun⟩) (sSeq_exc ((fr b1_read_work).trans run)) (fun n ρ1 e => by cases e; simp [clrI, i0, i1, i2]) (fun d ρ1 e => by cases e)
      exact this
    | some s =>
      rw [h] at run
      obtain ⟨p', c', i1, i2, run⟩ := run
      obtain ⟨ks, cur⟩ := s
      have ROK := goS_ok (wsp 32 cs) R0 h
      rw [Nat.zero_add] at ROK
      cases cur with
      | some k =>
        obtain ⟨b, ys⟩ := k
        have run : loopR (tgN 1 (gN 3)) b1_read_work ((wsp 32 cs).map st1) (fr6 (.str (sC cs)) ([], []) (.val (.str (sC []))) .none .none) = .nx (fr6 (.str (sC cs)) (stP (ks, some (b, ys))) (.val (.str (sC [opC b]))) p' c') := run
        have q1 : neD (.str (sC [opC b])) (.str ("" : Str)) = some (.bool true) := by
          rw [lit_e, neD_c, decide_eq_false (by intro z; cases z)]
          rfl
        refine hd (.exc "NoText" (mk6 (.str (sC cs)) (.val (.str (sC [opC b]))) p' c')) nofun (fun _ => ⟨nofun, nofun, nofun, nofun⟩) ?_ (fun n ρ1 e => by cases e; simp [clrI, i1, i2]) (fun d ρ1 e => by cases e)
        rw [sSeq_ap, fr, run, seq_nx]
        refine sSeq_exc (sLiftX_exc (sl := .val (encT2 (eP (stP (ks, some (b, ys)))))) rfl ?_)
        show (sIf (tE (e2 neD (eVarF 2) (eC (.str ("" : Str))))) (sRaise "NoText") sNext) (mk6 (.str (sC cs)) (.val (.str (sC [opC b]))) p' c') = _
        generalize sC [opC b] = O at *
        generalize sC cs = T at *
        simp [q1]
      | none =>
        have es : stP (ks, none) = (rowK ks, rinK ks) := by show p2K (ks ++ []) = _; rw [List.append_nil]; rfl
        have run : loopR (tgN 1 (gN 3)) b1_read_work ((wsp 32 cs).map st1) (fr6 (.str (sC cs)) ([], []) (.val (.str (sC []))) .none .none) = .nx (fr6 (.str (sC cs)) (stP (ks, none)) (.val (.str (sC []))) p' c') := run
        rw [es] at run
        have le : (ks.flatMap Prod.snd).length + 0 ≤ (wsp 32 cs).length := ROK.le
        have lc : ks.length + 0 ≤ (wsp 32 cs).length := ROK.lc
        have wf := from_gen ks ROK.ne (by omega) (by omega)
        have q1 : neD (.str (sC [])) (.str ("" : Str)) = some (.bool false) := by
          rw [lit_e, neD_c, decide_eq_true rfl]
          rfl
        have o1 := outT_sq (chs (rowK ks), chs (rinK ks))
        have o2 := outT_ro (chs (rowK ks), chs (rinK ks))
        have mid : sLiftX 1 (sIf (tE (e2 neD (eVarF 2) (eC (.str ("" : Str))))) (sRaise "NoText") sNext) (fr6 (.str (sC cs)) (rowK ks, rinK ks) (.val (.str (sC []))) p' c') = .nx (fr6 (.str (sC cs)) (rowK ks, rinK ks) (.val (.str (sC []))) p' c') := by
          refine lift6 (.str (sC cs)) (rowK ks, rinK ks) (o' := .val (.str (sC []))) (p' := p') (c' := c') ?_ rfl i1 i2
          generalize sC [] = E at *
          generalize sC cs = T at *
          simp [q1]
        show f_read_work [.str (sC cs)] = match (if okK ks = true then some ks else none : Option (List Kc)) with
          | some ks => .ok (wkD (2 * sK ks) (mK ks))
          | none => .exc "NoText"
        by_cases g : okK ks = true
        · rw [if_pos g] at wf ⊢
          refine hd (.ret (wkD (2 * sK ks) (mK ks)) [.val (.str (sC cs)), .val (outT ("[" : Str) ("(" : Str) (chs (rowK ks), chs (rinK ks))), .val (.str (sC [])), p', c', .val (wkD (2 * sK ks) (mK ks))]) nofun (fun _ => ⟨nofun, nofun, nofun, nofun⟩) ?_ (fun n ρ1 e => by cases e) (fun d ρ1 e => by cases e; simp [clrI, i1, i2])
          rw [sSeq_ap, fr, run, seq_nx, sSeq_ap, mid, seq_nx]
          refine sTwoExit_any (x := (chs (rowK ks), chs (rinK ks))) rfl ?_ (fun _ => ⟨nofun, nofun, nofun, nofun⟩)
          show sSeq _ _ [.val (.str (sC cs)), .val (outT ("[" : Str) ("(" : Str) (chs (rowK ks), chs (rinK ks))), .val (.str (sC [])), p', c', .none] = _
          generalize outT ("[" : Str) ("(" : Str) (chs (rowK ks), chs (rinK ks)) = OT at *
          generalize outN (chs (rowK ks)) = OA at *
          generalize outN (chs (rinK ks)) = OB at *
          generalize wkD (2 * sK ks) (mK ks) = WW at *
          generalize sC [] = E at *
          generalize sC cs = T at *
          simp [sTryOnlyR, o1, o2, wf]
        · rw [if_neg g] at wf ⊢
          refine hd (.exc "NoText" [.val (.str (sC cs)), .val (outT ("[" : Str) ("(" : Str) (chs (rowK ks), chs (rinK ks))), .val (.str (sC [])), p', c', .none]) nofun (fun _ => ⟨nofun, nofun, nofun, nofun⟩) ?_ (fun n ρ1 e => by cases e; simp [clrI, i1, i2]) (fun d ρ1 e => by cases e)
          rw [sSeq_ap, fr, run, seq_nx, sSeq_ap, mid, seq_nx]
          refine sTwoExit_any (x := (chs (rowK ks), chs (rinK ks))) rfl ?_ (fun _ => ⟨nofun, nofun, nofun, nofun⟩)
          show sSeq _ _ [.val (.str (sC cs)), .val (outT ("[" : Str) ("(" : Str) (chs (rowK ks), chs (rinK ks))), .val (.str (sC [])), p', c', .none] = _
          generalize outT ("[" : Str) ("(" : Str) (chs (rowK ks), chs (rinK ks)) = OT at *
          generalize outN (chs (rowK ks)) = OA at *
          generalize outN (chs (rinK ks)) = OB at *
          generalize sC [] = E at *
          generalize sC cs = T at *
          have lb := lk_bw
          simp [sTryOnlyR, o1, o2, wf, lb]
end Lw
set_option Elab.async false
set_option linter.all false
set_option maxRecDepth 100000
set_option maxHeartbeats 4000000
namespace Lw
open PySem L2 Dn
section
variable {n : Nat} {m : Nat → Nat} {a b x y K : Nat}
noncomputable def stOf (n : Nat) (m : Nat → Nat) (a : Nat) : List Nat := stv' m a (kOf n m a)
noncomputable def knw (n : Nat) (m : Nat → Nat) (as : List Nat) : List Nat := as.flatMap (stOf n m)
theorem knw_app (as bs : List Nat) : knw n m (as ++ bs) = knw n m as ++ knw n m bs := by unfold knw; rw [List.flatMap_append]
theorem knw_one (a : Nat) : knw n m [a] = stOf n m a := by unfold knw; simp
/-- the known staves, as the program keeps them -/
def Knows (kvs : List (Key × D)) (ss : List Nat) : Prop := ∀ s : Nat, inK kvs (s : Int) = decide (s ∈ ss)
theorem rng_stv (k : Nat) : ((List.range (k + 1)).map fun i => wk m a i / 2) = stv' m a k := rfl
end
end Lw
set_option Elab.async false
set_option linter.all false
set_option maxRecDepth 100000
set_option maxHeartbeats 4000000
namespace Dn
open PySem L2
theorem cps_rng (f : Nat → Nat) : ∀ k p, p ∈ cps ((List.range (k + 1)).map f) → ∃ i, i < k ∧ p = (far (f i), f (i + 1))
  | 0, p, h => by simp [cps] at h
  | k + 1, p, h => by
    rw [List.range_succ, List.map_append] at h
    rcases cps_app.mp h with h | h | ⟨b, a, e1, e2, rfl⟩
    · obtain ⟨i, hi, e⟩ := cps_rng f k p h
      exact ⟨i, by omega, e⟩
    · simp [cps] at h
    · rw [List.range_succ, List.map_append, List.getLast?_append] at e1
      cases e1
      cases e2
      exact ⟨k, by omega, rfl⟩
end Dn
namespace Lw
open PySem L2 Dn
section
variable {n : Nat} {m : Nat → Nat} {a : Nat}
noncomputable def chN (n : Nat) (m : Nat → Nat) (a : Nat) : List Nat := (List.range (kOf n m a + 1)).map (wk m a)
theorem chN_sts (a : Nat) : stsL (chN n m a) = stOf n m a := by
  unfold stsL chN stOf stv'
  rw [List.map_map]; rfl
theorem chN_D (a : Nat) : wkL m a (kOf n m a + 1) = ((chN n m a).map fun i : Nat => (i : Int)).map .int := by
  unfold wkL chN
  rw [List.map_map, List.map_map]; rfl
theorem chN_hd : (chN n m a).head? = some a := by
  unfold chN
  rw [List.range_succ_eq_map]; rfl
theorem chN_ls : (chN n m a).getLast? = some (wk m a (kOf n m a)) := by
  unfold chN
  rw [List.range_succ, List.map_append, List.getLast?_append]; rfl
theorem chN_ne : chN n m a ≠ [] := fun z => by
  have := chN_hd (n := n) (m := m) (a := a)
  rw [z] at this; cases this
theorem chN_cl : ∀ p ∈ cps (chN n m a), m p.1 = p.2 := fun p hp => by
  obtain ⟨i, hi, rfl⟩ := cps_rng _ _ p hp
  rfl
theorem chN_row (Z : Sz n m) (ha : a < n) (hl : m a = a) : RowOk m (chN n m a) where
  ne := chN_ne
  cl := chN_cl
  hd := fun b h => by rw [chN_hd] at h; cases h; exact hl
  ls := fun b h => by rw [chN_ls] at h; cases h; exact loose_end Z ha hl (kOf_spec Z ha).2
theorem chN_ring (h : nxt m (wk m a (kOf n m a)) = a) : RingOk m (chN n m a) where
  ne := chN_ne
  cl := chN_cl
  rd := fun b c h1 h2 => by
    rw [chN_hd] at h1; rw [chN_ls] at h2; cases h1; cases h2
    exact h
theorem knw_sts (as : List Nat) : stsL (as.map (chN n m)).flatten = knw n m as := by
  unfold knw
  induction as with
  | nil => rfl
  | cons a as ih =>
    rw [List.map_cons, List.flatten_cons, List.flatMap_cons, ← ih, ← chN_sts]
    unfold stsL
    rw [List.map_append]
end
end Lw
set_option Elab.async false
set_option linter.all false
set_option maxRecDepth 100000
set_option maxHeartbeats 4000000
namespace Lw
open PySem L2 Dn TL
theorem join_text (xs : List Nat) (hx : ∀ x ∈ xs, x < 80) (hl : xs.length ≤ 1000) : joinD (.str (" " : Str)) (.list ((xs.map enL).map fun l => .str (sC l))) = some (.str (sC (joinL [32] (xs.map enL)))) := by
  rw [lit_sp]
  exact joinD_c (k := 3) (fun l hl => by
    obtain ⟨x, h, rfl⟩ := List.mem_map.mp hl
    exact (enL_len (hx x h)).1) (by rw [List.length_map]; omega)
end Lw
set_option Elab.async false
set_option linter.all false
set_option maxRecDepth 100000
set_option maxHeartbeats 4000000
namespace Lw
open PySem L2 Dn
section
variable {n : Nat} {m : Nat → Nat} {a : Nat}
theorem law_far_eq (x : Nat) : f__law_far [.int (x : Int)] = .ok (.int (far x : Nat)) := by
  have m2 : modD (.int (x : Int)) (.int 2) = some (.int ((x : Int) % 2)) := modD_pos (by decide)
  have ml : mulD (.int 2) (.int ((x : Int) % 2)) = some (.int (2 * ((x : Int) % 2))) := mulD_small (by decide)
  rw [far_int]
  simp [f__law_far, mFn, g__law_far, start', m2, ml, -modD_pos]
abbrev tbL (n : Nat) (m : Nat → Nat) : D := .list ((tab n m).map .int)
theorem law_chain_eq (S : Sz n m) (ha : a < n) (hn : n ≤ 1000) : f__law_chain [tbL n m, .int (a : Int)] = .ok (.list (wkL m a (kOf n m a + 1))) := by
  obtain ⟨kn, E⟩ := kOf_spec S ha
  generalize kOf n m a = K at *
  have fa := law_far_eq a
  have ixf : ∀ x, x < n → ixD (tbL n m) (.int (far x : Nat)) = some (.int (nxt m x : Nat)) := fun x hx => ix_tabL (far_lt S.even hx)
  have lp : ∃ s3, sWhile (tA (tE (e2 neD (e2 ixD (eVarF 0) (eVarF 3)) (eVarF 3))) (tE (e2 neD (e2 ixD (eVarF 0) (eVarF 3)) (eVarF 1)))) b1__law_chain [.val (tbL n m), .val (.int (a : Int)), .own (.lst (wkL m a 1)), .val (.int (far (wk m a 0) : Nat))] = .nx [.val (tbL n m), .val (.int (a : Int)), .own (.lst (wkL m a (K + 1))), s3] := by
    refine while_inv (Post := fun o => ∃ s3, o = .nx [.val (tbL n m), .val (.int (a : Int)), .own (.lst (wkL m a (K + 1))), s3])
      (fun q ρ => ∃ j, j + q = K ∧ ρ = [.val (tbL n m), .val (.int (a : Int)), .own (.lst (wkL m a (j + 1))), .val (.int (far (wk m a j) : Nat))]) K ⟨0, by omega, rfl⟩ (by omega) ?_
    rintro q ρ ⟨j, hj, rfl⟩
    have ij := ixf (wk m a j) (wk_lt S ha _)
    generalize hT : tbL n m = T at *
    by_cases st : Stop m a (wk m a j)
    · have jk : j = K := by
        by_cases c : j < K
        · exact absurd st (E.go j c)
        · omega
      subst jk
      refine .inl ⟨?_, _, rfl⟩
      by_cases s1 : nxt m (wk m a j) = a
      · by_cases s2 : nxt m (wk m a j) = far (wk m a j)
        · rw [s2] at ij
          simp [ij]
        · have s2' : ¬ (nxt m (wk m a j) : Int) = (far (wk m a j) : Nat) := by omega
          rw [s1] at ij s2 s2'
          simp [ij, s2, s2']
      · have s2 : nxt m (wk m a j) = far (wk m a j) := st.resolve_left s1
        rw [s2] at ij
        simp [ij]
    · have jk : j < K := by
        apply Nat.lt_of_not_le
        intro c
        have : j = K := by omega
        subst this
        exact st E.stop
      have s1 : ¬ nxt m (wk m a j) = a := fun z => st (.inl z)
      have s2 : ¬ nxt m (wk m a j) = far (wk m a j) := fun z => st (.inr z)
      have s1' : ¬ (nxt m (wk m a j) : Int) = a := by omega
      have s2' : ¬ (nxt m (wk m a j) : Int) = (far (wk m a j) : Nat) := by omega
      refine .inr ⟨by simp [ij, s1, s2, s1', s2', Int.natCast_inj], ?_⟩
      have f1 := law_far_eq (wk m a (j + 1))
      have ap := appM_ok (ds := wkL m a (j + 1)) (e := .int (wk m a (j + 1) : Nat)) (by rw [wkL_len]; omega)
      rw [← wkL_succ] at ap
      have ij : ixD T (.int (far (wk m a j) : Nat)) = some (.int (wk m a (j + 1) : Nat)) := ij
      have tn : b1__law_chain [.val T, .val (.int (a : Int)), .own (.lst (wkL m a (j + 1))), .val (.int (far (wk m a j) : Nat))] = .nx [.val T, .val (.int (a : Int)), .own (.lst (wkL m a (j + 1 + 1))), .val (.int (far (wk m a (j + 1)) : Nat))] := by
        generalize wk m a (j + 1) = w at *
        generalize far (wk m a j) = u at *
        simp [b1__law_chain, ap, f1, ij, -appM_ok]
      rw [tn]
      exact ⟨q - 1, by omega, j + 1, by omega, rfl⟩
  obtain ⟨s3, lp⟩ := lp
  have w1 : wkL m a 1 = [.int (a : Int)] := rfl
  have w2 : wk m a 0 = a := rfl
  rw [w1, w2] at lp
  generalize tbL n m = T at *
  simp [f__law_chain, mFn, g__law_chain, start', fa, lp]
theorem known_loop (kvs : List (Key × D)) (ss : List Nat) (hk : Knows kvs ss) (k : Nat) (hz : kvs.length + k ≤ 1000000) (s0 s2 s3 s4 s5 : S) : ∃ kvs' t5, Knows kvs' (ss ++ (List.range k).map fun i => wk m a i / 2) ∧ kvs'.length ≤ kvs.length + k ∧
    loopFor (forB (gN 5) b1__law_chains) (wkL m a k) [s0, .own (.dK kvs), s2, s3, s4, s5] = .nx [s0, .own (.dK kvs'), s2, s3, s4, t5] := by
  refine for_inv (Post := fun o => ∃ kvs' t5, Knows kvs' (ss ++ (List.range k).map fun i => wk m a i / 2) ∧ kvs'.length ≤ kvs.length + k ∧ o = .nx [s0, .own (.dK kvs'), s2, s3, s4, t5])
    (fun j ρ => j ≤ k ∧ ∃ kvs' t5, Knows kvs' (ss ++ (List.range j).map fun i => wk m a i / 2) ∧ kvs'.length ≤ kvs.length + j ∧ ρ = [s0, .own (.dK kvs'), s2, s3, s4, t5]) ⟨Nat.zero_le _, kvs, s5, by simpa using hk, Nat.le_refl _, rfl⟩ ?_ ?_
  · rintro j d ρ hd ⟨_, kvs', t5, hk', hl, rfl⟩
    unfold wkL at hd
    rw [List.getElem?_map] at hd
    obtain ⟨i, hi, rfl⟩ := Option.map_eq_some_iff.mp hd
    obtain ⟨hj, e⟩ := List.getElem?_eq_some_iff.mp hi
    rw [List.getElem_range] at e
    rw [List.length_range] at hj
    subst e
    have dv : divD (.int (wk m a j : Nat)) (.int 2) = some (.int ((wk m a j / 2 : Nat) : Int)) := by
      rw [divD_pos (by decide) (by decide)]
      congr 2
    have pt := odPut_K (kvs := kvs') (i := ((wk m a j / 2 : Nat) : Int)) (v := .bool true) (by omega)
    have vl := vput_len kvs' (.inl ((wk m a j / 2 : Nat) : Int)) (PyData.bool true)
    have ks : Knows (vput kvs' (.inl ((wk m a j / 2 : Nat) : Int)) (PyData.bool true)) (ss ++ (List.range (j + 1)).map fun i => wk m a i / 2) := fun s => by
      have mm : s ∈ ss ++ (List.range (j + 1)).map (fun i => wk m a i / 2) ↔ s ∈ ss ++ (List.range j).map (fun i => wk m a i / 2) ∨ s = wk m a j / 2 := by
        rw [List.range_succ, List.map_append, ← List.append_assoc, List.mem_append (s := ss ++ (List.range j).map fun i => wk m a i / 2)]
        simp only [List.map_cons, List.map_nil, List.mem_singleton]
      rw [inK_put, hk' s, decide_eq_decide.mpr mm]
      by_cases q : s = wk m a j / 2
      · have q' : (s : Int) = ((wk m a j / 2 : Nat) : Int) := by omega
        rw [decide_eq_true q', decide_eq_true (Or.inr q), Bool.true_or]
      · have q' : ¬ (s : Int) = ((wk m a j / 2 : Nat) : Int) := by omega
        rw [decide_eq_false q', Bool.false_or]
        exact decide_eq_decide.mpr ⟨Or.inl, fun h => h.resolve_right q⟩
    generalize wk m a j / 2 = w2 at *
    generalize wk m a j = w at *
    generalize (w2 : Int) = q at *
    have tn : forB (gN 5) b1__law_chains (.int (w : Nat)) [s0, .own (.dK kvs'), s2, s3, s4, t5] = .nx [s0, .own (.dK (vput kvs' (.inl q) (.bool true))), s2, s3, s4, .val (.int (w : Nat))] := by
      simp [b1__law_chains, dv, pt, -divD_pos]
    rw [tn]
    exact ⟨hj, _, _, ks, by omega, rfl⟩
  · rintro ρ ⟨_, kvs', t5, hk', hl, rfl⟩
    rw [wkL_len] at hk' hl
    exact ⟨kvs', t5, hk', hl, rfl⟩
theorem b3c_is : b3__law_chains = b1__law_chains := rfl
noncomputable def rowD (n : Nat) (m : Nat → Nat) (a : Nat) : D := .list (wkL m a (kOf n m a + 1))
/-- rows found up to an end -/
structure RI (n : Nat) (m : Nat → Nat) (k : Nat) (as : List Nat) : Prop where
  lo : ∀ a ∈ as, a < n ∧ m a = a
  nd : (knw n m as).Nodup
  cl : Clo n m (knw n m as)
  al : ∀ z, z < k → m z = z → z / 2 ∈ knw n m as
  ln : as.length ≤ k
theorem RI.skip {k : Nat} {as : List Nat} (R : RI n m k as) (h : m k = k → k / 2 ∈ knw n m as) : RI n m (k + 1) as := ⟨R.lo, R.nd, R.cl, fun z hz hm => by
  by_cases q : z = k
  · subst q; exact h hm
  · exact R.al z (by omega) hm, by have := R.ln; omega⟩
theorem knw_in (Z : Sz n m) (ha : a < n) : a / 2 ∈ stOf n m a := stv_mem.mpr ⟨0, Nat.zero_le _, rfl⟩
theorem nd_more (Z : Sz n m) {as : List Nat} (nd : (knw n m as).Nodup) (cl : Clo n m (knw n m as)) (ha : a < n) (out : a / 2 ∉ knw n m as) : (knw n m (as ++ [a])).Nodup := by
  rw [knw_app, knw_one, List.nodup_append]
  refine ⟨nd, stv_nd Z ha (kOf_spec Z ha).2, ?_⟩
  rintro u hu v hv rfl
  obtain ⟨i, hi, e⟩ := stv_mem.mp hv
  exact chain_out Z ha cl out i (by rw [e]; exact hu)
theorem RI.more (Z : Sz n m) {k : Nat} {as : List Nat} (R : RI n m k as) (hk : k < n) (hm : m k = k) (out : k / 2 ∉ knw n m as) : RI n m (k + 1) (as ++ [k]) where
  lo := fun a ha => by
    rcases List.mem_append.mp ha with h | h
    · exact R.lo a h
    · rw [List.mem_singleton] at h; subst h; exact ⟨hk, hm⟩
  nd := nd_more Z R.nd R.cl hk out
  cl := by rw [knw_app, knw_one]; exact clo_app R.cl (chain_clo Z hk (kOf_spec Z hk).2 (.inl hm))
  al := fun z hz hz2 => by
    rw [knw_app, knw_one]
    by_cases q : z = k
    · subst q; exact List.mem_append_right _ (knw_in Z hk)
    · exact List.mem_append_left _ (R.al z (by omega) hz2)
  ln := by have := R.ln; rw [List.length_append, List.length_singleton]; omega
structure GI (n : Nat) (m : Nat → Nat) (k : Nat) (as gs : List Nat) : Prop where
  rg : ∀ g ∈ gs, g < n ∧ nxt m (wk m g (kOf n m g)) = g
  nd : (knw n m (as ++ gs)).Nodup
  cl : Clo n m (knw n m (as ++ gs))
  lo : Lo n m (knw n m (as ++ gs))
  al : ∀ z, z < k → z / 2 ∈ knw n m (as ++ gs)
  ln : gs.length ≤ k
theorem GI.skip {k : Nat} {as gs : List Nat} (R : GI n m k as gs) (h : k / 2 ∈ knw n m (as ++ gs)) : GI n m (k + 1) as gs := ⟨R.rg, R.nd, R.cl, R.lo, fun z hz => by
  by_cases q : z = k
  · subst q; exact h
  · exact R.al z (by omega), by have := R.ln; omega⟩
theorem GI.more (Z : Sz n m) {k : Nat} {as gs : List Nat} (R : GI n m k as gs) (hk : k < n) (out : k / 2 ∉ knw n m (as ++ gs)) : GI n m (k + 1) as (gs ++ [k]) := by
  have co := chain_out Z hk R.cl out
  have E := (kOf_spec Z hk).2
  have rd : nxt m (wk m k (kOf n m k)) = k := E.stop.resolve_right fun e => by
    have := R.lo (far (wk m k (kOf n m k))) (far_lt Z.even (wk_lt Z hk _)) e
    rw [far_half] at this
    exact co _ this
  have kk : knw n m (as ++ (gs ++ [k])) = knw n m (as ++ gs) ++ stOf n m k := by rw [← List.append_assoc, knw_app (as ++ gs), knw_one]
  refine ⟨fun g hg => ?_, ?_, ?_, ?_, fun z hz => ?_, ?_⟩
  · rcases List.mem_append.mp hg with h | h
    · exact R.rg g h
    · rw [List.mem_singleton] at h; subst h; exact ⟨hk, rd⟩
  · rw [← List.append_assoc]; exact nd_more Z R.nd R.cl hk out
  · rw [kk]; exact clo_app R.cl (chain_clo Z hk E (.inr rd))
  · rw [kk]; exact fun z hz hl => List.mem_append_left _ (R.lo z hz hl)
  · rw [kk]
    by_cases q : z = k
    · subst q; exact List.mem_append_right _ (knw_in Z hk)
    · exact List.mem_append_left _ (R.al z (by omega))
  · have := R.ln; rw [List.length_append, List.length_singleton]; omega
theorem GI.cover {s : Nat} {as gs : List Nat} (Z : Sz (2 * s) m) (R : RI (2 * s) m (2 * s) as) (G : GI (2 * s) m (2 * s) as gs) : Cover s m (as.map (chN (2 * s) m)) (gs.map (chN (2 * s) m)) where
  ro := fun r hr => by
    obtain ⟨a, ha, rfl⟩ := List.mem_map.mp hr
    exact chN_row Z (R.lo a ha).1 (R.lo a ha).2
  ri := fun r hr => by
    obtain ⟨a, ha, rfl⟩ := List.mem_map.mp hr
    exact chN_ring (G.rg a ha).2
  st := by
    rw [← List.map_append, knw_sts]
    refine (List.perm_ext_iff_of_nodup G.nd List.nodup_range).mpr fun x => ?_
    rw [List.mem_range]
    constructor
    · intro h
      unfold knw at h
      obtain ⟨a, ha, hx⟩ := List.mem_flatMap.mp h
      obtain ⟨i, hi, e⟩ := stv_mem.mp hx
      have an : a < 2 * s := by
        rcases List.mem_append.mp ha with q | q
        · exact (R.lo a q).1
        · exact (G.rg a q).1
      have := wk_lt Z an i
      omega
    · intro h
      have := G.al (2 * x) (by omega)
      rwa [show 2 * x / 2 = x by omega] at this
theorem law_chains_eq {s : Nat} (Z : Sz (2 * s) m) (hs : s ≤ 40) : ∃ as gs : List Nat, Cover s m (as.map (chN (2 * s) m)) (gs.map (chN (2 * s) m)) ∧ as.length + gs.length ≤ 160 ∧
    f__law_chains [tbL (2 * s) m] = .ok (.tuple [.list (as.map (rowD (2 * s) m)), .list (gs.map (rowD (2 * s) m))]) := by
  have dv : ∀ k : Nat, divD (.int (k : Int)) (.int 2) = some (.int ((k / 2 : Nat) : Int)) := fun k => by
    rw [divD_pos (by decide) (by decide)]
    congr 2
  have lng : ∀ a, a < 2 * s → kOf (2 * s) m a + 1 ≤ 80 := fun a ha => by have := (kOf_spec Z ha).1; omega
  have ng : negD (.int 1) = some (.int (-1)) := rfl
  have l1 : ∃ as kvs s4 s5, RI (2 * s) m (2 * s) as ∧ Knows kvs (knw (2 * s) m as) ∧ kvs.length ≤ 2 * s * 81 ∧ loopFor (forB (gN 4) b2__law_chains) (rngL 0 ((2 * s : Nat) : Int)) [.val (tbL (2 * s) m), .own (.dK []), .own (.lst []), .own (.lst []), .none, .none] =
      .nx [.val (tbL (2 * s) m), .own (.dK kvs), .own (.lst (as.map (rowD (2 * s) m))), .own (.lst []), s4, s5] := by
    refine for_inv (Post := fun o => ∃ as kvs s4 s5, RI (2 * s) m (2 * s) as ∧ Knows kvs (knw (2 * s) m as) ∧ kvs.length ≤ 2 * s * 81 ∧ o = .nx [.val (tbL (2 * s) m), .own (.dK kvs), .own (.lst (as.map (rowD (2 * s) m))), .own (.lst []), s4, s5])
      (fun k ρ => ∃ as kvs s4 s5, RI (2 * s) m k as ∧ Knows kvs (knw (2 * s) m as) ∧ kvs.length ≤ k * 81 ∧ ρ = [.val (tbL (2 * s) m), .own (.dK kvs), .own (.lst (as.map (rowD (2 * s) m))), .own (.lst []), s4, s5])
      ⟨[], [], _, _, ⟨fun a h => (by cases h), List.nodup_nil, fun x _ h => (by cases h), fun z h => absurd h (Nat.not_lt_zero _), Nat.le_refl _⟩, fun s => by simp [inK_nil, knw], Nat.le_refl _, rfl⟩ ?_ ?_
    · rintro k d ρ hd ⟨as, kvs, s4, s5, R, hk, hl, rfl⟩
      obtain ⟨kn, rfl⟩ := rng_get hd
      have ix : ixD (tbL (2 * s) m) (.int (k : Int)) = some (.int (m k : Nat)) := ix_tabL kn
      have dk := dv k
      by_cases c : m k = k
      · have dn : dninD (.int ((k / 2 : Nat) : Int)) (.dict (dkD kvs)) = some (.bool (!(inK kvs ((k / 2 : Nat) : Int)))) := dninD_K
        rw [hk (k / 2)] at dn
        rw [c] at ix
        by_cases q : k / 2 ∈ knw (2 * s) m as
        · rw [decide_eq_true q] at dn
          refine ?_
          have tn : forB (gN 4) b2__law_chains (.int (k : Int)) [.val (tbL (2 * s) m), .own (.dK kvs), .own (.lst (as.map (rowD (2 * s) m))), .own (.lst []), s4, s5] = .nx [.val (tbL (2 * s) m), .own (.dK kvs), .own (.lst (as.map (rowD (2 * s) m))), .own (.lst []), .val (.int (k : Int)), s5] := by
            generalize tbL (2 * s) m = T at *
            generalize ((k / 2 : Nat) : Int) = k2 at *
            generalize (k : Int) = k' at *
            simp [b2__law_chains, ix, dk, dn, -dninD_K, -divD_pos]
          rw [tn]
          exact ⟨as, kvs, _, _, R.skip fun _ => q, hk, by omega, rfl⟩
        · rw [decide_eq_false q] at dn
          have lc : f__law_chain [tbL (2 * s) m, .int (k : Int)] = .ok (rowD (2 * s) m k) := law_chain_eq Z kn (by omega)
          have ls := lng k kn
          have hk81 : k * 81 ≤ 80 * 81 := Nat.mul_le_mul_right _ (by omega)
          have ap := appM_ok (ds := as.map (rowD (2 * s) m)) (e := rowD (2 * s) m k) (by have := R.ln; rw [List.length_map]; omega)
          obtain ⟨kvs', u5, hk', hl', lp⟩ := known_loop (m := m) (a := k) kvs _ hk (kOf (2 * s) m k + 1) (by omega) (.val (tbL (2 * s) m)) (.own (.lst (as.map (rowD (2 * s) m) ++ [rowD (2 * s) m k]))) (.own (.lst [])) (.val (.int (k : Int))) s5
          rw [rng_stv] at hk'
          have ks : knw (2 * s) m (as ++ [k]) = knw (2 * s) m as ++ stv' m k (kOf (2 * s) m k) := by rw [knw_app, knw_one]; rfl
          rw [← ks] at hk'
          have li : ixD (.list (as.map (rowD (2 * s) m) ++ [rowD (2 * s) m k])) (.int (-1)) = some (rowD (2 * s) m k) := ix_last
          have it : itemsD (rowD (2 * s) m k) = .ok (wkL m k (kOf (2 * s) m k + 1)) := rfl
          have tn : forB (gN 4) b2__law_chains (.int (k : Int)) [.val (tbL (2 * s) m), .own (.dK kvs), .own (.lst (as.map (rowD (2 * s) m))), .own (.lst []), s4, s5] = .nx [.val (tbL (2 * s) m), .own (.dK kvs'), .own (.lst (as.map (rowD (2 * s) m) ++ [rowD (2 * s) m k])), .own (.lst []), .val (.int (k : Int)), u5] := by
            generalize tbL (2 * s) m = T at *
            generalize rowD (2 * s) m k = RD at *
            generalize as.map (rowD (2 * s) m) = AD at *
            generalize ((k / 2 : Nat) : Int) = k2 at *
            generalize (k : Int) = k' at *
            generalize wkL m k (kOf (2 * s) m k + 1) = WL at *
            rw [forB_ap]
            simp [b2__law_chains, ix, dk, dn, lc, ap, li, ng, it, lp, -dninD_K, -divD_pos, -appM_ok, -forB_ap]
          rw [tn]
          exact ⟨as ++ [k], kvs', _, _, R.more Z kn c q, hk', by omega, by rw [List.map_append]; rfl⟩
      · have c' : ¬ (m k : Int) = (k : Int) := by omega
        have tn : forB (gN 4) b2__law_chains (.int (k : Int)) [.val (tbL (2 * s) m), .own (.dK kvs), .own (.lst (as.map (rowD (2 * s) m))), .own (.lst []), s4, s5] = .nx [.val (tbL (2 * s) m), .own (.dK kvs), .own (.lst (as.map (rowD (2 * s) m))), .own (.lst []), .val (.int (k : Int)), s5] := by
          generalize tbL (2 * s) m = T at *
          generalize (m k : Int) = mk at *
          generalize (k : Int) = k' at *
          simp [b2__law_chains, ix, c']
        rw [tn]
        exact ⟨as, kvs, _, _, R.skip fun z => (c z).elim, hk, by omega, rfl⟩
    · rintro ρ ⟨as, kvs, s4, s5, R, hk, hl, rfl⟩
      rw [rng_len0] at R hl
      exact ⟨as, kvs, s4, s5, R, hk, hl, rfl⟩
  obtain ⟨as, kvs0, s4, s5, R, hk0, hl0, lp1⟩ := l1
  have hs81 : 2 * s * 81 ≤ 80 * 81 := Nat.mul_le_mul_right _ (by omega)
  have l2 : ∃ gs t1 t4 t5, GI (2 * s) m (2 * s) as gs ∧ loopFor (forB (gN 4) b4__law_chains) (rngL 0 ((2 * s : Nat) : Int)) [.val (tbL (2 * s) m), .own (.dK kvs0), .own (.lst (as.map (rowD (2 * s) m))), .own (.lst []), s4, s5] =
      .nx [.val (tbL (2 * s) m), t1, .own (.lst (as.map (rowD (2 * s) m))), .own (.lst (gs.map (rowD (2 * s) m))), t4, t5] := by
    refine for_inv (Post := fun o => ∃ gs t1 t4 t5, GI (2 * s) m (2 * s) as gs ∧ o = .nx [.val (tbL (2 * s) m), t1, .own (.lst (as.map (rowD (2 * s) m))), .own (.lst (gs.map (rowD (2 * s) m))), t4, t5])
      (fun k ρ => ∃ gs kvs t4 t5, GI (2 * s) m k as gs ∧ Knows kvs (knw (2 * s) m (as ++ gs)) ∧ kvs.length ≤ 80 * 81 + k * 81 ∧ ρ = [.val (tbL (2 * s) m), .own (.dK kvs), .own (.lst (as.map (rowD (2 * s) m))), .own (.lst (gs.map (rowD (2 * s) m))), t4, t5])
      ⟨[], kvs0, _, _, ⟨fun a h => (by cases h), by rw [List.append_nil]; exact R.nd, by rw [List.append_nil]; exact R.cl, by rw [List.append_nil]; exact fun z hz hm => R.al z hz hm, fun z h => absurd h (Nat.not_lt_zero _), Nat.le_refl _⟩, by rw [List.append_nil]; exact hk0, by omega, rfl⟩ ?_ ?_
    · rintro k d ρ hd ⟨gs, kvs, t4, t5, G, hk, hl, rfl⟩
      obtain ⟨kn, rfl⟩ := rng_get hd
      have dk := dv k
      have dn : dninD (.int ((k / 2 : Nat) : Int)) (.dict (dkD kvs)) = some (.bool (!(inK kvs ((k / 2 : Nat) : Int)))) := dninD_K
      rw [hk (k / 2)] at dn
      by_cases q : k / 2 ∈ knw (2 * s) m (as ++ gs)
      · rw [decide_eq_true q] at dn
        have tn : forB (gN 4) b4__law_chains (.int (k : Int)) [.val (tbL (2 * s) m), .own (.dK kvs), .own (.lst (as.map (rowD (2 * s) m))), .own (.lst (gs.map (rowD (2 * s) m))), t4, t5] = .nx [.val (tbL (2 * s) m), .own (.dK kvs), .own (.lst (as.map (rowD (2 * s) m))), .own (.lst (gs.map (rowD (2 * s) m))), .val (.int (k : Int)), t5] := by
          generalize tbL (2 * s) m = T at *
          generalize ((k / 2 : Nat) : Int) = k2 at *
          generalize (k : Int) = k' at *
          simp [b4__law_chains, dk, dn, -dninD_K, -divD_pos]
        rw [tn]
        exact ⟨gs, kvs, _, _, G.skip q, hk, by omega, rfl⟩
      · rw [decide_eq_false q] at dn
        have lc : f__law_chain [tbL (2 * s) m, .int (k : Int)] = .ok (rowD (2 * s) m k) := law_chain_eq Z kn (by omega)
        have ls := lng k kn
        have hk81 : k * 81 ≤ 80 * 81 := Nat.mul_le_mul_right _ (by omega)
        have ap := appM_ok (ds := gs.map (rowD (2 * s) m)) (e := rowD (2 * s) m k) (by have := G.ln; rw [List.length_map]; omega)
        obtain ⟨kvs', u5, hk', hl', lp⟩ := known_loop (m := m) (a := k) kvs _ hk (kOf (2 * s) m k + 1) (by omega) (.val (tbL (2 * s) m)) (.own (.lst (as.map (rowD (2 * s) m)))) (.own (.lst (gs.map (rowD (2 * s) m) ++ [rowD (2 * s) m k]))) (.val (.int (k : Int))) t5
        rw [rng_stv] at hk'
        have ks : knw (2 * s) m (as ++ (gs ++ [k])) = knw (2 * s) m (as ++ gs) ++ stv' m k (kOf (2 * s) m k) := by rw [← List.append_assoc, knw_app (as ++ gs), knw_one]; rfl
        rw [← ks] at hk'
        have li : ixD (.list (gs.map (rowD (2 * s) m) ++ [rowD (2 * s) m k])) (.int (-1)) = some (rowD (2 * s) m k) := ix_last
        have it : itemsD (rowD (2 * s) m k) = .ok (wkL m k (kOf (2 * s) m k + 1)) := rfl
        have tn : forB (gN 4) b4__law_chains (.int (k : Int)) [.val (tbL (2 * s) m), .own (.dK kvs), .own (.lst (as.map (rowD (2 * s) m))), .own (.lst (gs.map (rowD (2 * s) m))), t4, t5] = .nx [.val (tbL (2 * s) m), .own (.dK kvs'), .own (.lst (as.map (rowD (2 * s) m))), .own (.lst (gs.map (rowD (2 * s) m) ++ [rowD (2 * s) m k])), .val (.int (k : Int)), u5] := by
          generalize tbL (2 * s) m = T at *
          generalize rowD (2 * s) m k = RD at *
          generalize as.map (rowD (2 * s) m) = AD at *
          generalize gs.map (rowD (2 * s) m) = GD at *
          generalize ((k / 2 : Nat) : Int) = k2 at *
          generalize (k : Int) = k' at *
          generalize wkL m k (kOf (2 * s) m k + 1) = WL at *
          rw [forB_ap]
          simp [b4__law_chains, b3c_is, dk, dn, lc, ap, li, ng, it, lp, -dninD_K, -divD_pos, -appM_ok, -forB_ap]
        rw [tn]
        exact ⟨gs ++ [k], kvs', _, _, G.more Z kn q, hk', by omega, by rw [List.map_append]; rfl⟩
    · rintro ρ ⟨gs, kvs, t4, t5, G, hk, hl, rfl⟩
      rw [rng_len0] at G
      exact ⟨gs, _, t4, t5, G, rfl⟩
  obtain ⟨gs, t1, t4, t5, G, lp2⟩ := l2
  refine ⟨as, gs, GI.cover Z R G, by have := R.ln; have := G.ln; omega, ?_⟩
  have ln : lenD [tbL (2 * s) m] = some (.int ((2 * s : Nat) : Int)) := by
    show lenD [.list _] = _
    rw [lenD_l, List.length_map, tab_len]
  have rd := rngM1_ok (in62 (i := ((2 * s : Nat) : Int)) (by omega))
  generalize tbL (2 * s) m = T at *
  generalize as.map (rowD (2 * s) m) = AD at *
  generalize gs.map (rowD (2 * s) m) = GD at *
  generalize ((2 * s : Nat) : Int) = q at *
  simp [f__law_chains, mFn, g__law_chains, start', ln, rd, lp1, lp2, -forB_ap, -lenD_l]
end
end Lw
set_option Elab.async false
set_option linter.all false
set_option maxRecDepth 100000
set_option maxHeartbeats 4000000
namespace Lw
open PySem L2 Dn
abbrev nI (xs : List Nat) : List D := (xs.map fun i : Nat => (i : Int)).map .int
abbrev lD (xs : List Nat) : D := .list (nI xs)
theorem nI_len (xs : List Nat) : (nI xs).length = xs.length := by unfold nI; rw [List.length_map, List.length_map]
theorem rowD_l {n : Nat} {m : Nat → Nat} (a : Nat) : rowD n m a = lD (chN n m a) := by unfold rowD; rw [chN_D]
theorem back_eq (xs : List Nat) (hl : xs.length ≤ 1000) : f__law_back [lD xs] = .ok (lD (backL xs)) := by
  have it : itemsD (lD xs) = .ok (nI xs) := rfl
  have lc : loopLc (gN 1) tYesF (eCall f__law_far (aCons (eVarF 1) aNil)) [1] [.val (lD xs), .none] (nI xs).reverse [] = .ok (nI (backL xs)) := by
    have h := lc_map0 (fun i : Nat => PyData.int (i : Int)) (fun i : Nat => PyData.int ((far i : Nat) : Int)) (tg := gN 1) (e := eCall f__law_far (aCons (eVarF 1) aNil)) (vs := [1]) (ρ := [.val (lD xs), .none]) xs.reverse (by rw [List.length_reverse]; omega) fun z hz => ⟨_, rfl, by
      have := law_far_eq z
      generalize lD xs = X at *
      simp [wipeF, this]⟩
    have e1 : (nI xs).reverse = xs.reverse.map fun i : Nat => PyData.int (i : Int) := by unfold nI; rw [List.map_map, List.map_reverse]; rfl
    have e2 : nI (backL xs) = xs.reverse.map fun i : Nat => PyData.int ((far i : Nat) : Int) := by unfold nI backL; rw [List.map_map, List.map_map]; rfl
    rw [e1, e2]
    exact h
  have e3 : PyData.list (nI (backL xs)) = lD (backL xs) := rfl
  generalize lD (backL xs) = BD at *
  generalize nI (backL xs) = NB at *
  generalize lD xs = X at *
  generalize nI xs = NX at *
  simp [f__law_back, mFn, g__law_back, start', it, lc, e3]
theorem stsL_app (a b : List Nat) : stsL (a ++ b) = stsL a ++ stsL b := by unfold stsL; rw [List.map_append]
/-- the same staves -/
def PS (A B : List (List Nat)) : Prop := (stsL A.flatten).Perm (stsL B.flatten)
theorem PS.snoc {A B : List (List Nat)} {x y : List Nat} (h : PS A B) (g : (stsL x).Perm (stsL y)) : PS (A ++ [x]) (B ++ [y]) := by
  unfold PS at *
  rw [List.flatten_append, List.flatten_append, stsL_app, stsL_app]
  refine h.append ?_
  simpa using g
theorem PS.perm {A B : List (List Nat)} (h : A.Perm B) : PS A B := h.flatten.map _
theorem PS.trans {A B C : List (List Nat)} (h : PS A B) (g : PS B C) : PS A C := List.Perm.trans h g
theorem nat_mod' (c : Int) {m : Int} (h : 0 < m) : ∃ k : Nat, c % m = (k : Int) ∧ (k : Int) < m :=
  ⟨(c % m).toNat, by have := Int.emod_nonneg c (show m ≠ 0 by omega); omega, by have := Int.emod_nonneg c (show m ≠ 0 by omega); have := Int.emod_lt_of_pos c h; omega⟩
section
variable {n s : Nat} {m : Nat → Nat} {rows rings : List (List Nat)}
theorem cov_len (C : Cover s m rows rings) {r : List Nat} (h : r ∈ rows ++ rings) : r.length ≤ s := by
  have e := C.st.length_eq
  unfold stsL at e
  rw [List.length_map, List.length_range, List.length_flatten] at e
  rw [← e]
  have : ∀ cs : List (List Nat), r ∈ cs → r.length ≤ (cs.map List.length).sum := by
    intro cs
    induction cs with
    | nil => intro h; cases h
    | cons c cs ih =>
      intro h
      rw [List.map_cons, List.sum_cons]
      rcases List.mem_cons.mp h with rfl | h
      · omega
      · have := ih h; omega
  exact this _ h
theorem cov_lt (C : Cover s m rows rings) {r : List Nat} (h : r ∈ rows ++ rings) : ∀ x ∈ r, x < 2 * s := fun x hx => C.lt (List.mem_flatten.mpr ⟨r, h, hx⟩)
theorem cov_cnt (C : Cover s m rows rings) : rows.length + rings.length ≤ s := by
  have e := C.st.length_eq
  unfold stsL at e
  rw [List.length_map, List.length_range, List.length_flatten] at e
  rw [← e, ← List.length_append]
  have : ∀ cs : List (List Nat), (∀ c ∈ cs, c ≠ []) → cs.length ≤ (cs.map List.length).sum := by
    intro cs
    induction cs with
    | nil => intro _; exact Nat.le_refl _
    | cons c cs ih =>
      intro h
      have := ih fun d hd => h d (List.mem_cons_of_mem _ hd)
      have := List.length_pos_iff.mpr (h c List.mem_cons_self)
      rw [List.length_cons, List.map_cons, List.sum_cons]; omega
  exact this _ fun c hc => C.ne hc
end
end Lw
set_option Elab.async false
set_option linter.all false
set_option maxRecDepth 100000
set_option maxHeartbeats 4000000
namespace Lw
open PySem L2 Dn TL
theorem ixD_c1 {c d : Nat} : ixD (.str (sC [c, d])) (.int 1) = some (.str (sC [d])) := by
  have q : ixD (.str (sC [c, d])) (.int 1) = if (sC [c, d]).length ≤ sizeLine then (atI (sC [c, d]).cps.toList 1).map fun c => .str ⟨#[c]⟩ else none := rfl
  rw [q, if_pos (by rw [sC_len, sz]; simp), sC_cps]
  simp [atI, ixN, sC]
theorem written_eq (b : Bool) (xs : List Nat) (hx : ∀ x ∈ xs, x < 80) (hl : xs.length ≤ 1000) {br : Str} (hb : br = sC [opC b, clC b]) : f__law_written [lD xs, .str br] = .ok (.str (sC (kcL (b, xs)))) := by
  have it : itemsD (lD xs) = .ok (xs.map fun x : Nat => PyData.int (x : Int)) := by
    show M.ok ((xs.map fun i : Nat => (i : Int)).map PyData.int) = _
    rw [List.map_map]; rfl
  have i0 : ixD (.str br) (.int 0) = some (.str (sC [opC b])) := by rw [hb]; exact ixD_c rfl (by simp)
  have i1 : ixD (.str br) (.int 1) = some (.str (sC [clC b])) := by rw [hb]; exact ixD_c1
  have lc := lc_map0 (fun x : Nat => PyData.int (x : Int)) (fun x : Nat => PyData.str (sC (enL x))) (tg := gN 3) (e := e2 addD (e2 ixD (eL (aCons (eC (.str ("" : Str))) (aCons (eC (.str ("-" : Str))) aNil))) (e2 modD (eVarF 3) (eC (.int 2)))) (eB strD (aCons (e2 divD (eVarF 3) (eC (.int 2))) aNil))) (vs := [3]) (ρ := [.val (lD xs), .val (.str br), .none, .none]) xs (by omega) fun x h => ⟨_, rfl, by
    have x80 := hx x h
    have m2 : modD (.int (x : Int)) (.int 2) = some (.int ((x % 2 : Nat) : Int)) := by rw [modD_pos (by decide)]; congr 2
    have d2 : divD (.int (x : Int)) (.int 2) = some (.int ((x / 2 : Nat) : Int)) := by rw [divD_pos (by decide) (by decide)]; congr 2
    have sd := strD_c (n := x / 2) (by omega)
    have nl := numL_len (n := x / 2) (k := 2) (by decide) (by omega)
    have j0 : ixD (.list [.str ("" : Str), .str ("-" : Str)]) (.int 0) = some (.str ("" : Str)) := rfl
    have j1 : ixD (.list [.str ("" : Str), .str ("-" : Str)]) (.int 1) = some (.str ("-" : Str)) := rfl
    show e2 addD _ _ [.val (lD xs), .val (.str br), .none, .val (.int (x : Int))] = _
    unfold enL
    by_cases p : x % 2 = 1
    · rw [if_pos p]
      rw [p] at m2
      have m2 : modD (.int (x : Int)) (.int 2) = some (.int 1) := m2
      have ad : addD (.str ("-" : Str)) (.str (sC (numL (x / 2)))) = some (.str (sC (45 :: numL (x / 2)))) := by
        rw [lit_minus, addD_c (by simp; omega)]; rfl
      generalize ((x / 2 : Nat) : Int) = h at *
      generalize sC (45 :: numL (x / 2)) = Q2 at *
      generalize sC (numL (x / 2)) = Q at *
      generalize (x : Int) = x' at *
      generalize lD xs = X at *
      simp [m2, d2, sd, j1, ad, -modD_pos, -divD_pos]
    · rw [if_neg p]
      have p0 : x % 2 = 0 := by omega
      rw [p0] at m2
      have m2 : modD (.int (x : Int)) (.int 2) = some (.int 0) := m2
      have ad : addD (.str ("" : Str)) (.str (sC (numL (x / 2)))) = some (.str (sC (numL (x / 2)))) := by
        rw [lit_e, addD_c (by simp; omega)]; rfl
      generalize ((x / 2 : Nat) : Int) = h at *
      generalize sC (numL (x / 2)) = Q at *
      generalize (x : Int) = x' at *
      generalize lD xs = X at *
      simp [m2, d2, sd, j0, ad, -modD_pos, -divD_pos]⟩
  have jt := join_text xs hx hl
  rw [List.map_map] at jt
  have jt : joinD (.str (" " : Str)) (.list (xs.map fun x : Nat => PyData.str (sC (enL x)))) = _ := jt
  have jl := joinL_len 3 (xs.map enL) (fun l hl => by
    obtain ⟨x, h, rfl⟩ := List.mem_map.mp hl
    exact (enL_len (hx x h)).1)
  rw [List.length_map] at jl
  have a1 : addD (.str (sC [opC b])) (.str (sC (joinL [32] (xs.map enL)))) = some (.str (sC (opC b :: joinL [32] (xs.map enL)))) := by
    rw [addD_c (by simp; omega)]; rfl
  have a2 : addD (.str (sC (opC b :: joinL [32] (xs.map enL)))) (.str (sC [clC b])) = some (.str (sC (kcL (b, xs)))) := by
    rw [addD_c (by simp; omega)]; rfl
  generalize sC (kcL (b, xs)) = Q1 at *
  generalize sC (opC b :: joinL [32] (xs.map enL)) = Q2 at *
  generalize sC (joinL [32] (xs.map enL)) = Q3 at *
  generalize sC [opC b] = Q4 at *
  generalize sC [clC b] = Q5 at *
  generalize (xs.map fun x : Nat => PyData.str (sC (enL x))) = L1 at *
  generalize (xs.map fun x : Nat => PyData.int (x : Int)) = L0 at *
  generalize lD xs = X at *
  simp [f__law_written, mFn, g__law_written, start', it, lc, jt, i0, i1, a1, a2]
/-- chains with their marks -/
def KOk (m : Nat → Nat) (ks : List Kc) : Prop := ∀ k ∈ ks, if k.1 = true then RowOk m k.2 else RingOk m k.2
theorem flt_perm : ∀ ks : List Kc, ((ks.filter fun k => k.1) ++ (ks.filter fun k => !k.1)).Perm ks
  | [] => List.Perm.refl _
  | k :: ks => by
    have ih := flt_perm ks
    obtain ⟨b, xs⟩ := k
    cases b
    · rw [List.filter_cons_of_neg (by simp), List.filter_cons_of_pos (by simp)]
      exact List.perm_middle.trans (ih.cons _)
    · rw [List.filter_cons_of_pos (by simp), List.filter_cons_of_neg (by simp)]
      exact ih.cons _
theorem KOk.cover {s : Nat} {m : Nat → Nat} {ks : List Kc} (h : KOk m ks) (p : (stsL (ks.map Prod.snd).flatten).Perm (List.range s)) : Cover s m ((ks.filter fun k => k.1).map Prod.snd) ((ks.filter fun k => !k.1).map Prod.snd) where
  ro := fun r hr => by
    obtain ⟨k, hk, rfl⟩ := List.mem_map.mp hr
    obtain ⟨h1, h2⟩ := List.mem_filter.mp hk
    have := h k h1
    rwa [if_pos h2] at this
  ri := fun r hr => by
    obtain ⟨k, hk, rfl⟩ := List.mem_map.mp hr
    obtain ⟨h1, h2⟩ := List.mem_filter.mp hk
    have := h k h1
    rwa [if_neg (by simpa using h2)] at this
  st := by
    rw [← List.map_append]
    exact List.Perm.trans (PS.perm ((flt_perm ks).map Prod.snd)) p
abbrev kD (k : Kc) : D := .str (sC (kcL k))
end Lw
set_option Elab.async false
set_option linter.all false
set_option maxRecDepth 100000
set_option maxHeartbeats 4000000
namespace Lw
open PySem L2 Dn TL
theorem KOk.snoc {m : Nat → Nat} {ks : List Kc} {k : Kc} (h : KOk m ks) (g : if k.1 = true then RowOk m k.2 else RingOk m k.2) : KOk m (ks ++ [k]) := fun z hz => by
  rcases List.mem_append.mp hz with hz | hz
  · exact h z hz
  · rw [List.mem_singleton] at hz; subst hz; exact g
theorem KOk.perm {m : Nat → Nat} {ks js : List Kc} (h : KOk m ks) (p : js.Perm ks) : KOk m js := fun z hz => h z (p.mem_iff.mp hz)
section
variable {s : Nat} {m : Nat → Nat} {rows rings : List (List Nat)} (C : Cover s m rows rings) (I : Dn.Inv (2 * s) m) (hs : s ≤ 40)
include C I hs
theorem rows_text (cell : Int) (s0 s3 s4 s5 s8 s9 : S) : ∃ (A : List Kc) (t6 t7 : S), A.length = rows.length ∧ KOk m A ∧ PS (A.map Prod.snd) rows ∧
    loopFor (forB (gT (gC (gN 6) (gC (gN 7) gNil'))) b1__law_text_else) (enumL (rows.map lD)) [s0, .val (.int cell), .own (.lst []), s3, s4, s5, .none, .none, s8, s9] = .nx [s0, .val (.int cell), .own (.lst (A.map kD)), s3, s4, s5, t6, t7, s8, s9] := by
  have cnt := cov_cnt C
  refine for_inv (Post := fun o => ∃ (A : List Kc) (t6 t7 : S), A.length = rows.length ∧ KOk m A ∧ PS (A.map Prod.snd) rows ∧ o = .nx [s0, .val (.int cell), .own (.lst (A.map kD)), s3, s4, s5, t6, t7, s8, s9])
    (fun k ρ => ∃ (A : List Kc) (t6 t7 : S), A.length = k ∧ KOk m A ∧ PS (A.map Prod.snd) (rows.take k) ∧ ρ = [s0, .val (.int cell), .own (.lst (A.map kD)), s3, s4, s5, t6, t7, s8, s9])
    ⟨[], .none, .none, rfl, fun r h => (by cases h), List.Perm.refl _, rfl⟩ ?_ ?_
  · rintro k d ρ hd ⟨A, t6, t7, la, oa, pa, rfl⟩
    have kn : k < rows.length := by
      have := (List.getElem?_eq_some_iff.mp hd).1
      rwa [enum_len, List.length_map] at this
    have hd2 := enum_get (ds := rows.map lD) (i := k) (d := lD rows[k]) (by rw [List.getElem?_map, List.getElem?_eq_getElem kn]; rfl)
    rw [hd2] at hd
    cases hd
    have rm2 : rows[k] ∈ rows ++ rings := List.mem_append_left _ (List.getElem_mem kn)
    have R := C.ro _ (List.getElem_mem kn)
    have tk : rows.take (k + 1) = rows.take k ++ [rows[k]] := by rw [List.take_add_one, List.getElem?_eq_getElem kn]; rfl
    have lt := cov_lt C rm2
    have ln := cov_len C rm2
    generalize rows[k] = r at *
    have be := back_eq r (by omega)
    obtain ⟨r2, R2, p2, x2, l2, br⟩ : ∃ r2, RowOk m r2 ∧ (stsL r2).Perm (stsL r) ∧ (∀ x ∈ r2, x < 2 * s) ∧ r2.length = r.length ∧ (((cell / 5 + (k : Int) * (k : Int)) % 3 = 1 ∧ r2 = backL r) ∨ (¬ (cell / 5 + (k : Int) * (k : Int)) % 3 = 1 ∧ r2 = r)) := by
      by_cases c : (cell / 5 + (k : Int) * (k : Int)) % 3 = 1
      · refine ⟨backL r, R.back I lt (by omega), back_sts, fun x hx => ?_, by unfold backL; rw [List.length_map, List.length_reverse], .inl ⟨c, rfl⟩⟩
        unfold backL at hx
        obtain ⟨y, hy, rfl⟩ := List.mem_map.mp hx
        exact far_lt (by omega) (lt y (List.mem_reverse.mp hy))
      · exact ⟨r, R, List.Perm.refl _, lt, rfl, .inr ⟨c, rfl⟩⟩
    have wr := written_eq true r2 (fun x hx => by have := x2 x hx; omega) (by omega) (br := ("[]" : Str)) (by decide +kernel)
    have d5 : divD (.int cell) (.int 5) = some (.int (cell / 5)) := divD_pos (by decide) (by decide)
    have mk : mulD (.int (k : Int)) (.int (k : Int)) = some (.int ((k : Int) * (k : Int))) := mulD_small (by omega)
    have m3 : modD (.int (cell / 5 + (k : Int) * (k : Int))) (.int 3) = some (.int ((cell / 5 + (k : Int) * (k : Int)) % 3)) := modD_pos (by decide)
    have ap := appM_ok (ds := A.map kD) (e := kD (true, r2)) (by rw [List.length_map]; omega)
    have tn : forB (gT (gC (gN 6) (gC (gN 7) gNil'))) b1__law_text_else (.tuple [.int (k : Int), lD r]) [s0, .val (.int cell), .own (.lst (A.map kD)), s3, s4, s5, t6, t7, s8, s9] = .nx [s0, .val (.int cell), .own (.lst (A.map kD ++ [kD (true, r2)])), s3, s4, s5, .val (.int (k : Int)), .val (lD r2), s8, s9] := by
      have wr : f__law_written [lD r2, .str ("[]" : Str)] = .ok (kD (true, r2)) := wr
      rcases br with ⟨c, e⟩ | ⟨c, e⟩
      · rw [c] at m3
        rw [← e] at be
        generalize kD (true, r2) = K at *
        generalize lD r2 = Q at *
        generalize lD r = P at *
        generalize A.map kD = AD at *
        generalize (k : Int) = k' at *
        generalize k' * k' = kk at *
        generalize cell / 5 = c5 at *
        simp [b1__law_text_else, d5, mk, m3, be, wr, ap, -appM_ok, -modD_pos, -divD_pos, -mulD_small, -mulD_smallR]
      · subst e
        generalize kD (true, r2) = K at *
        generalize lD r2 = Q at *
        generalize A.map kD = AD at *
        generalize (k : Int) = k' at *
        generalize k' * k' = kk at *
        generalize cell / 5 = c5 at *
        simp [b1__law_text_else, d5, mk, m3, c, wr, ap, -appM_ok, -modD_pos, -divD_pos, -mulD_small, -mulD_smallR]
    rw [tn, tk]
    exact ⟨A ++ [(true, r2)], _, _, by rw [List.length_append, la]; rfl, oa.snoc (by rw [if_pos rfl]; exact R2), by rw [List.map_append]; exact pa.snoc p2, by rw [List.map_append]; rfl⟩
  · rintro ρ ⟨A, t6, t7, la, oa, pa, rfl⟩
    rw [enum_len, List.length_map] at la pa
    rw [List.take_length] at pa
    exact ⟨A, t6, t7, la, oa, pa, rfl⟩
theorem rings_text (cell : Int) (A0 : List Kc) (lA : A0.length = rows.length) (oA : KOk m A0) (pA : PS (A0.map Prod.snd) rows) (s0 s3 s4 s5 s6 s7 : S) : ∃ (A : List Kc) (t6 t8 t9 : S), A.length = rows.length + rings.length ∧ KOk m A ∧ PS (A.map Prod.snd) (rows ++ rings) ∧
    loopFor (forB (gT (gC (gN 6) (gC (gN 8) gNil'))) b2__law_text_else) (enumL (rings.map lD)) [s0, .val (.int cell), .own (.lst (A0.map kD)), s3, s4, s5, s6, s7, .none, .none] = .nx [s0, .val (.int cell), .own (.lst (A.map kD)), s3, s4, s5, t6, s7, t8, t9] := by
  have cnt := cov_cnt C
  refine for_inv (Post := fun o => ∃ (A : List Kc) (t6 t8 t9 : S), A.length = rows.length + rings.length ∧ KOk m A ∧ PS (A.map Prod.snd) (rows ++ rings) ∧ o = .nx [s0, .val (.int cell), .own (.lst (A.map kD)), s3, s4, s5, t6, s7, t8, t9])
    (fun k ρ => ∃ (A : List Kc) (t6 t8 t9 : S), A.length = rows.length + k ∧ KOk m A ∧ PS (A.map Prod.snd) (rows ++ rings.take k) ∧ ρ = [s0, .val (.int cell), .own (.lst (A.map kD)), s3, s4, s5, t6, s7, t8, t9])
    ⟨A0, s6, .none, .none, lA, oA, by rw [List.take_zero, List.append_nil]; exact pA, rfl⟩ ?_ ?_
  · rintro k d ρ hd ⟨A, t6, t8, t9, la, oa, pa, rfl⟩
    have kn : k < rings.length := by
      have := (List.getElem?_eq_some_iff.mp hd).1
      rwa [enum_len, List.length_map] at this
    have hd2 := enum_get (ds := rings.map lD) (i := k) (d := lD rings[k]) (by rw [List.getElem?_map, List.getElem?_eq_getElem kn]; rfl)
    rw [hd2] at hd
    cases hd
    have rm2 : rings[k] ∈ rows ++ rings := List.mem_append_right _ (List.getElem_mem kn)
    have R := C.ri _ (List.getElem_mem kn)
    have tk : rings.take (k + 1) = rings.take k ++ [rings[k]] := by rw [List.take_add_one, List.getElem?_eq_getElem kn]; rfl
    have lt := cov_lt C rm2
    have rlen := cov_len C rm2
    have rpos := List.length_pos_iff.mpr R.ne
    generalize rings[k] = r at *
    obtain ⟨a, ha, ha2⟩ := nat_mod' (cell / 7 + 3 * (k : Int)) (m := (r.length : Int)) (by omega)
    have d7 : divD (.int cell) (.int 7) = some (.int (cell / 7)) := divD_pos (by decide) (by decide)
    have mk : mulD (.int 3) (.int (k : Int)) = some (.int (3 * (k : Int))) := mulD_small (by decide)
    have ln : lenD [lD r] = some (.int (r.length : Int)) := by show lenD [.list _] = _; rw [lenD_l, nI_len]
    have ml : modD (.int (cell / 7 + 3 * (k : Int))) (.int (r.length : Int)) = some (.int (a : Int)) := by rw [modD_pos (by omega), ha]
    have sf : slD (lD r) (some (a : Int)) none = some (lD (r.drop a)) := by
      show slD (.list _) _ _ = some (.list _)
      rw [slD_l, cutL_from]
      unfold nI
      rw [List.map_drop, List.map_drop]
    have st : slD (lD r) none (some (a : Int)) = some (lD (r.take a)) := by
      show slD (.list _) _ _ = some (.list _)
      rw [slD_l, cutL_to]
      unfold nI
      rw [List.map_take, List.map_take]
    have ad : addD (lD (r.drop a)) (lD (r.take a)) = some (lD (r.drop a ++ r.take a)) := by
      show addD (.list _) (.list _) = some (.list _)
      rw [addD_l (by rw [nI_len, nI_len, List.length_drop, List.length_take]; omega)]
      unfold nI
      rw [List.map_append, List.map_append]
    have pr : (r.drop a ++ r.take a).Perm r := List.perm_append_comm.trans (List.Perm.of_eq (List.take_append_drop a r))
    have R1 : RingOk m (r.drop a ++ r.take a) := RingOk.turn (xs := r.take a) (ys := r.drop a) (by rw [List.take_append_drop]; exact R)
    have lt1 : ∀ x ∈ r.drop a ++ r.take a, x < 2 * s := fun x hx => lt x (pr.mem_iff.mp hx)
    have l1 := pr.length_eq
    have s1' : (stsL (r.drop a ++ r.take a)).Perm (stsL r) := pr.map _
    generalize r.drop a ++ r.take a = r1 at *
    have d11 : divD (.int cell) (.int 11) = some (.int (cell / 11)) := divD_pos (by decide) (by decide)
    have mk2 : mulD (.int (k : Int)) (.int (k : Int)) = some (.int ((k : Int) * (k : Int))) := mulD_small (by omega)
    have m3 : modD (.int (cell / 11 + (k : Int) * (k : Int))) (.int 3) = some (.int ((cell / 11 + (k : Int) * (k : Int)) % 3)) := modD_pos (by decide)
    have be := back_eq r1 (by omega)
    obtain ⟨r2, R2, p2, x2, l2, br⟩ : ∃ r2, RingOk m r2 ∧ (stsL r2).Perm (stsL r) ∧ (∀ x ∈ r2, x < 2 * s) ∧ r2.length = r.length ∧ (((cell / 11 + (k : Int) * (k : Int)) % 3 = 1 ∧ r2 = backL r1) ∨ (¬ (cell / 11 + (k : Int) * (k : Int)) % 3 = 1 ∧ r2 = r1)) := by
      by_cases c : (cell / 11 + (k : Int) * (k : Int)) % 3 = 1
      · refine ⟨backL r1, R1.back I lt1 (by omega), back_sts.trans s1', fun x hx => ?_, by unfold backL; rw [List.length_map, List.length_reverse, l1], .inl ⟨c, rfl⟩⟩
        unfold backL at hx
        obtain ⟨y, hy, rfl⟩ := List.mem_map.mp hx
        exact far_lt (by omega) (lt1 y (List.mem_reverse.mp hy))
      · exact ⟨r1, R1, s1', lt1, l1, .inr ⟨c, rfl⟩⟩
    have wr := written_eq false r2 (fun x hx => by have := x2 x hx; omega) (by omega) (br := ("()" : Str)) (by decide +kernel)
    have wr : f__law_written [lD r2, .str ("()" : Str)] = .ok (kD (false, r2)) := wr
    have d13 : divD (.int cell) (.int 13) = some (.int (cell / 13)) := divD_pos (by decide) (by decide)
    have mk5 : mulD (.int 5) (.int (k : Int)) = some (.int (5 * (k : Int))) := mulD_small (by decide)
    obtain ⟨u, hu, hu2⟩ := nat_mod' (cell / 13 + 5 * (k : Int)) (m := (A.length : Int) + 1) (by omega)
    have lnA : lenD [.list (A.map kD)] = some (.int (A.length : Int)) := by rw [lenD_l, List.length_map]
    have mlA : modD (.int (cell / 13 + 5 * (k : Int))) (.int ((A.length : Int) + 1)) = some (.int (u : Int)) := by rw [modD_pos (by omega), hu]
    have ins := insM_ok (ds := A.map kD) (i := (u : Int)) (y := kD (false, r2)) (by rw [List.length_map]; omega) (by omega) (by omega)
    rw [show ((u : Int)).toNat = u by omega] at ins
    have insE : (A.map kD).take u ++ [kD (false, r2)] ++ (A.map kD).drop u = (A.take u ++ [(false, r2)] ++ A.drop u).map kD := by
      rw [List.map_append, List.map_append, List.map_take, List.map_drop]; rfl
    rw [insE] at ins
    have pI : (A.take u ++ [((false, r2) : Kc)] ++ A.drop u).Perm (A ++ [(false, r2)]) := by
      rw [List.append_assoc]
      refine List.perm_middle.trans ?_
      show ((false, r2) :: (A.take u ++ A.drop u)).Perm _
      rw [List.take_append_drop]
      exact (List.perm_append_singleton _ _).symm
    have tn : forB (gT (gC (gN 6) (gC (gN 8) gNil'))) b2__law_text_else (.tuple [.int (k : Int), lD r]) [s0, .val (.int cell), .own (.lst (A.map kD)), s3, s4, s5, t6, s7, t8, t9] = .nx [s0, .val (.int cell), .own (.lst ((A.take u ++ [(false, r2)] ++ A.drop u).map kD)), s3, s4, s5, .val (.int (k : Int)), s7, .val (lD r2), .val (.int (a : Int))] := by
      generalize (A.take u ++ [((false, r2) : Kc)] ++ A.drop u).map kD = A2 at *
      rcases br with ⟨c, e⟩ | ⟨c, e⟩
      · rw [c] at m3
        rw [← e] at be
        generalize kD (false, r2) = K at *
        generalize lD r2 = Q at *
        generalize lD r1 = Q1 at *
        generalize lD (r.drop a) = Q2 at *
        generalize lD (r.take a) = Q3 at *
        generalize lD r = P at *
        generalize A.map kD = AD at *
        generalize (r.length : Int) = rl at *
        generalize (A.length : Int) = al at *
        generalize (a : Int) = a' at *
        generalize (u : Int) = u' at *
        generalize (k : Int) = k' at *
        generalize k' * k' = kk at *
        generalize 3 * k' = k3 at *
        generalize 5 * k' = k5 at *
        generalize cell / 7 = c7 at *
        generalize cell / 11 = c11 at *
        generalize cell / 13 = c13 at *
        simp [b2__law_text_else, d7, mk, ln, ml, sf, st, ad, d11, mk2, m3, be, d13, mk5, lnA, mlA, wr, ins, -modD_pos, -divD_pos, -mulD_small, -mulD_smallR, -lenD_l]
      · subst e
        generalize kD (false, r2) = K at *
        generalize lD r2 = Q1 at *
        generalize lD (r.drop a) = Q2 at *
        generalize lD (r.take a) = Q3 at *
        generalize lD r = P at *
        generalize A.map kD = AD at *
        generalize (r.length : Int) = rl at *
        generalize (A.length : Int) = al at *
        generalize (a : Int) = a' at *
        generalize (u : Int) = u' at *
        generalize (k : Int) = k' at *
        generalize k' * k' = kk at *
        generalize 3 * k' = k3 at *
        generalize 5 * k' = k5 at *
        generalize cell / 7 = c7 at *
        generalize cell / 11 = c11 at *
        generalize cell / 13 = c13 at *
        simp [b2__law_text_else, d7, mk, ln, ml, sf, st, ad, d11, mk2, m3, c, d13, mk5, lnA, mlA, wr, ins, -modD_pos, -divD_pos, -mulD_small, -mulD_smallR, -lenD_l]
    rw [tn, tk]
    refine ⟨_, _, _, _, ?_, (oa.snoc (k := (false, r2)) (by rw [if_neg Bool.false_ne_true]; exact R2)).perm pI, ?_, rfl⟩
    · rw [pI.length_eq, List.length_append, la]; rfl
    · refine PS.trans (PS.perm (pI.map Prod.snd)) ?_
      rw [List.map_append, ← List.append_assoc]
      exact pa.snoc p2
  · rintro ρ ⟨A, t6, t8, t9, la, oa, pa, rfl⟩
    rw [enum_len, List.length_map] at la pa
    rw [List.take_length] at pa
    exact ⟨A, t6, t8, t9, la, oa, pa, rfl⟩
end
end Lw
set_option Elab.async false
set_option linter.all false
set_option maxRecDepth 100000
set_option maxHeartbeats 4000000
namespace Dn
open PySem L2 TL
theorem ixD_ck {l : List Nat} {k c : Nat} (e : l[k]? = some c) (h : l.length ≤ 16777216) : ixD (.str (sC l)) (.int (k : Int)) = some (.str (sC [c])) := by
  have q : ixD (.str (sC l)) (.int (k : Int)) = if (sC l).length ≤ sizeLine then (atI (sC l).cps.toList (k : Int)).map fun c => .str ⟨#[c]⟩ else none := rfl
  have kl : k < l.length := (List.getElem?_eq_some_iff.mp e).1
  rw [q, if_pos (by rw [sC_len, sz]; exact h), sC_cps]
  have a : atI l (k : Int) = some c := by
    unfold atI
    have : ixN l.length (k : Int) = some k := by
      unfold ixN
      simp
      omega
    rw [this]
    exact e
  rw [a]
  rfl
end Dn
namespace Lw
open PySem L2 Dn TL
theorem sign_by_ok (c : Int) : ∃ s, f__law_sign_by [.int c] = .ok (.str (sC [s])) := by
  obtain ⟨z1, z2, gi, h1, h2⟩ : ∃ z1 z2 : Str, g__law_sign_by = (sSeq (sAsg (gN 1) (eC (.str z1))) (sSeq (sAsg (gN 1) (e2 addD (eVarF 1) (eC (.str z2)))) (sRet (e2 ixD (eVarF 1) (e2 modD (eVarF 0) (eB lenD (aCons (eVarF 1) aNil))))))) ∧ 0 < (tl z1).length ∧ (tl z1).length + (tl z2).length ≤ 1000 := ⟨_, _, rfl, by decide +kernel, by decide +kernel⟩
  rw [← sC_of z1, ← sC_of z2] at gi
  generalize tl z1 = l1 at *
  generalize tl z2 = l2 at *
  have ad := addD_c (a := l1) (b := l2) (by omega)
  have ln := lenD_c (l := l1 ++ l2) (by rw [List.length_append]; omega)
  obtain ⟨k, hk, hk2⟩ := nat_mod' c (m := ((l1 ++ l2).length : Int)) (by rw [List.length_append]; omega)
  have md : modD (.int c) (.int ((l1 ++ l2).length : Int)) = some (.int (k : Int)) := by rw [modD_pos (by rw [List.length_append]; omega), hk]
  have kl : k < (l1 ++ l2).length := by omega
  have ix := ixD_ck (l := l1 ++ l2) (k := k) (List.getElem?_eq_getElem kl) (by rw [List.length_append]; omega)
  refine ⟨(l1 ++ l2)[k], ?_⟩
  generalize sC [(l1 ++ l2)[k]] = R at *
  generalize sC (l1 ++ l2) = L at *
  generalize sC l1 = L1 at *
  generalize sC l2 = L2 at *
  generalize ((l1 ++ l2).length : Int) = n at *
  generalize (k : Int) = kk at *
  simp [f__law_sign_by, mFn, gi, start', ad, ln, md, ix, -modD_pos]
theorem cut_app (a b : List Nat) : (a ++ b).length = a.length + b.length := List.length_append
theorem sign_spoiled_ok (cs : List Nat) (hl : cs.length ≤ 100000) (c : Int) : ∃ ds : List Nat, ds.length ≤ cs.length + 1 ∧ f__law_sign_spoiled [.str (sC cs), .int c] = .ok (.str (sC ds)) := by
  obtain ⟨z, gi, h1, h2⟩ : ∃ z : Str, g__law_sign_spoiled = (sSeq (sAsg (gN 2) (eC (.str z)))
     (sSeq (sAsg (gN 3) (e2 modD (e2 divD (eVarF 1) (eC (.int 3))) (e2 addD (eB lenD (aCons (eVarF 0) aNil)) (eC (.int 1)))))
     (sSeq (sAsg (gN 4) (e2 ixD (eVarF 2) (e2 modD (e2 divD (eVarF 1) (eC (.int 1009))) (eB lenD (aCons (eVarF 2) aNil)))))
     (sSeq (sIf (tE (e2 eqD (e2 modD (e2 divD (eVarF 1) (eC (.int 7))) (eC (.int 2))) (eC (.int 1)))) (sAsg (gN 4) (eCall f__law_sign_by (aCons (e2 divD (eVarF 1) (eC (.int 1009))) aNil))) sNext)
     (sSeq (sIf (tE (e2 eqD (e2 modD (eVarF 1) (eC (.int 3))) (eC (.int 0)))) (sRet (e2 addD (e2 addD (eSl slD (eVarF 0) oNone (oSome (eVarF 3))) (eVarF 4)) (eSl slD (eVarF 0) (oSome (eVarF 3)) oNone))) sNext)
     (sSeq (sIf (tE (e2 eqD (e2 modD (eVarF 1) (eC (.int 3))) (eC (.int 1)))) (sRet (e2 addD (e2 addD (eSl slD (eVarF 0) oNone (oSome (eVarF 3))) (eVarF 4)) (eSl slD (eVarF 0) (oSome (e2 addD (eVarF 3) (eC (.int 1)))) oNone))) sNext)
     (sRet (e2 addD (eSl slD (eVarF 0) oNone (oSome (eVarF 3))) (eSl slD (eVarF 0) (oSome (e2 addD (eVarF 3) (eC (.int 1)))) oNone))))))))) ∧ 0 < (tl z).length ∧ (tl z).length ≤ 1000 := ⟨_, rfl, by decide +kernel, by decide +kernel⟩
  rw [← sC_of z] at gi
  generalize tl z = l1 at *
  obtain ⟨s0, hs0⟩ := sign_by_ok (c / 1009)
  have ln1 := lenD_c (l := l1) (by omega)
  have ln := lenD_c (l := cs) (by omega)
  have d3 : divD (.int c) (.int 3) = some (.int (c / 3)) := divD_pos (by decide) (by decide)
  have d9 : divD (.int c) (.int 1009) = some (.int (c / 1009)) := divD_pos (by decide) (by decide)
  have d7 : divD (.int c) (.int 7) = some (.int (c / 7)) := divD_pos (by decide) (by decide)
  have m2 : modD (.int (c / 7)) (.int 2) = some (.int (c / 7 % 2)) := modD_pos (by decide)
  have m3 : modD (.int c) (.int 3) = some (.int (c % 3)) := modD_pos (by decide)
  obtain ⟨k, hk, hk2⟩ := nat_mod' (c / 3) (m := (cs.length : Int) + 1) (by omega)
  have mk : modD (.int (c / 3)) (.int ((cs.length : Int) + 1)) = some (.int (k : Int)) := by rw [modD_pos (by omega), hk]
  obtain ⟨j, hj, hj2⟩ := nat_mod' (c / 1009) (m := (l1.length : Int)) (by omega)
  have mj : modD (.int (c / 1009)) (.int (l1.length : Int)) = some (.int (j : Int)) := by rw [modD_pos (by omega), hj]
  have jl : j < l1.length := by omega
  have ix := ixD_ck (l := l1) (k := j) (List.getElem?_eq_getElem jl) (by omega)
  have s1 := slD_c (l := cs) (lo := none) (hi := some (k : Int)) (by omega)
  have s2 := slD_c (l := cs) (lo := some (k : Int)) (hi := none) (by omega)
  have s3 := slD_c (l := cs) (lo := some ((k : Int) + 1)) (hi := none) (by omega)
  rw [cutL_to] at s1
  rw [cutL_from] at s2
  rw [show ((k : Int) + 1) = ((k + 1 : Nat) : Int) by omega, cutL_from] at s3
  rw [show ((k + 1 : Nat) : Int) = (k : Int) + 1 by omega] at s3
  have tk : (cs.take k).length ≤ cs.length := by rw [List.length_take]; omega
  have tk2 : (cs.take k).length + (cs.drop k).length = cs.length := by rw [List.length_take, List.length_drop]; omega
  have tk3 : (cs.drop (k + 1)).length ≤ (cs.drop k).length := by rw [List.length_drop, List.length_drop]; omega
  obtain ⟨s, hs⟩ : ∃ s, (if c / 7 % 2 = 1 then s0 else l1[j]) = s := ⟨_, rfl⟩
  have a1 := addD_c (a := cs.take k) (b := [s]) (by rw [List.length_singleton]; omega)
  have a2 := addD_c (a := cs.take k ++ [s]) (b := cs.drop k) (by rw [cut_app, List.length_singleton]; omega)
  have a3 := addD_c (a := cs.take k ++ [s]) (b := cs.drop (k + 1)) (by rw [cut_app, List.length_singleton]; omega)
  have a4 := addD_c (a := cs.take k) (b := cs.drop (k + 1)) (by omega)
  have fin : ∀ r, f__law_sign_spoiled [.str (sC cs), .int c] = .ok (.str (sC r)) → r.length ≤ cs.length + 1 → ∃ ds : List Nat, ds.length ≤ cs.length + 1 ∧ f__law_sign_spoiled [.str (sC cs), .int c] = .ok (.str (sC ds)) := fun r h1 h2 => ⟨r, h2, h1⟩
  have l2 : (cs.take k ++ [s] ++ cs.drop k).length ≤ cs.length + 1 := by rw [cut_app, cut_app, List.length_singleton]; omega
  have l3 : (cs.take k ++ [s] ++ cs.drop (k + 1)).length ≤ cs.length + 1 := by rw [cut_app, cut_app, List.length_singleton]; omega
  have l4 : (cs.take k ++ cs.drop (k + 1)).length ≤ cs.length + 1 := by rw [cut_app]; omega
  by_cases c7 : c / 7 % 2 = 1
  · rw [if_pos c7] at hs
    subst hs
    by_cases c30 : c % 3 = 0
    · refine fin _ ?_ l2
      generalize sC (cs.take k ++ [s0] ++ cs.drop k) = R at *
      generalize sC (cs.take k ++ [s0]) = R1 at *
      generalize sC (cs.take k) = R2 at *
      generalize sC (cs.drop k) = R3 at *
      generalize sC [s0] = S0 at *
      generalize sC [l1[j]] = S1 at *
      generalize sC cs = C at *
      generalize sC l1 = L1 at *
      generalize (k : Int) = kk at *
      generalize (j : Int) = jj at *
      generalize (cs.length : Int) = n at *
      generalize (l1.length : Int) = n1 at *
      simp [f__law_sign_spoiled, mFn, gi, start', ln, ln1, d3, d9, d7, m2, m3, mk, mj, ix, hs0, c7, c30, s1, s2, a1, a2, -modD_pos, -divD_pos]
    · by_cases c31 : c % 3 = 1
      · refine fin _ ?_ l3
        generalize sC (cs.take k ++ [s0] ++ cs.drop (k + 1)) = R at *
        generalize sC (cs.take k ++ [s0]) = R1 at *
        generalize sC (cs.take k) = R2 at *
        generalize sC (cs.drop (k + 1)) = R3 at *
        generalize sC [s0] = S0 at *
        generalize sC [l1[j]] = S1 at *
        generalize sC cs = C at *
        generalize sC l1 = L1 at *
        generalize (k : Int) = kk at *
        generalize (j : Int) = jj at *
        generalize (cs.length : Int) = n at *
        generalize (l1.length : Int) = n1 at *
        simp [f__law_sign_spoiled, mFn, gi, start', ln, ln1, d3, d9, d7, m2, m3, mk, mj, ix, hs0, c7, c31, s1, s3, a1, a3, -modD_pos, -divD_pos]
      · refine fin _ ?_ l4
        generalize sC (cs.take k ++ cs.drop (k + 1)) = R at *
        generalize sC (cs.take k) = R2 at *
        generalize sC (cs.drop (k + 1)) = R3 at *
        generalize sC [s0] = S0 at *
        generalize sC [l1[j]] = S1 at *
        generalize sC cs = C at *
        generalize sC l1 = L1 at *
        generalize (k : Int) = kk at *
        generalize (j : Int) = jj at *
        generalize (cs.length : Int) = n at *
        generalize (l1.length : Int) = n1 at *
        simp [f__law_sign_spoiled, mFn, gi, start', ln, ln1, d3, d9, d7, m2, m3, mk, mj, ix, hs0, c7, c30, c31, s1, s3, a4, -modD_pos, -divD_pos]
  · rw [if_neg c7] at hs
    subst hs
    by_cases c30 : c % 3 = 0
    · refine fin _ ?_ l2
      generalize sC (cs.take k ++ [l1[j]] ++ cs.drop k) = R at *
      generalize sC (cs.take k ++ [l1[j]]) = R1 at *
      generalize sC (cs.take k) = R2 at *
      generalize sC (cs.drop k) = R3 at *
      generalize sC [s0] = S0 at *
      generalize sC [l1[j]] = S1 at *
      generalize sC cs = C at *
      generalize sC l1 = L1 at *
      generalize (k : Int) = kk at *
      generalize (j : Int) = jj at *
      generalize (cs.length : Int) = n at *
      generalize (l1.length : Int) = n1 at *
      simp [f__law_sign_spoiled, mFn, gi, start', ln, ln1, d3, d9, d7, m2, m3, mk, mj, ix, c7, c30, s1, s2, a1, a2, -modD_pos, -divD_pos]
    · by_cases c31 : c % 3 = 1
      · refine fin _ ?_ l3
        generalize sC (cs.take k ++ [l1[j]] ++ cs.drop (k + 1)) = R at *
        generalize sC (cs.take k ++ [l1[j]]) = R1 at *
        generalize sC (cs.take k) = R2 at *
        generalize sC (cs.drop (k + 1)) = R3 at *
        generalize sC [s0] = S0 at *
        generalize sC [l1[j]] = S1 at *
        generalize sC cs = C at *
        generalize sC l1 = L1 at *
        generalize (k : Int) = kk at *
        generalize (j : Int) = jj at *
        generalize (cs.length : Int) = n at *
        generalize (l1.length : Int) = n1 at *
        simp [f__law_sign_spoiled, mFn, gi, start', ln, ln1, d3, d9, d7, m2, m3, mk, mj, ix, c7, c31, s1, s3, a1, a3, -modD_pos, -divD_pos]
      · refine fin _ ?_ l4
        generalize sC (cs.take k ++ cs.drop (k + 1)) = R at *
        generalize sC (cs.take k) = R2 at *
        generalize sC (cs.drop (k + 1)) = R3 at *
        generalize sC [s0] = S0 at *
        generalize sC [l1[j]] = S1 at *
        generalize sC cs = C at *
        generalize sC l1 = L1 at *
        generalize (k : Int) = kk at *
        generalize (j : Int) = jj at *
        generalize (cs.length : Int) = n at *
        generalize (l1.length : Int) = n1 at *
        simp [f__law_sign_spoiled, mFn, gi, start', ln, ln1, d3, d9, d7, m2, m3, mk, mj, ix, c7, c30, c31, s1, s3, a4, -modD_pos, -divD_pos]
end Lw
set_option Elab.async false
set_option linter.all false
set_option maxRecDepth 100000
set_option maxHeartbeats 4000000
namespace Lw
open PySem L2 Dn TL
def tS (ls : List (List Nat)) : Nat := (ls.map fun l => l.length + 1).sum
theorem tS_app (a b : List (List Nat)) : tS (a ++ b) = tS a + tS b := by unfold tS; rw [List.map_append, List.sum_append]
theorem tS_one (a : List Nat) : tS [a] = a.length + 1 := by simp [tS]
theorem tS_cons (a : List Nat) (b : List (List Nat)) : tS (a :: b) = a.length + 1 + tS b := by simp [tS]
theorem join_tS : ∀ ls : List (List Nat), (joinL [32] ls).length ≤ tS ls ∧ (ls ≠ [] → (joinL [32] ls).length + 1 = tS ls)
  | [] => ⟨Nat.zero_le _, fun h => (h rfl).elim⟩
  | [a] => by
    rw [tS_one]
    show a.length ≤ a.length + 1 ∧ (_ → a.length + 1 = a.length + 1)
    exact ⟨Nat.le_succ _, fun _ => rfl⟩
  | a :: b :: r => by
    obtain ⟨_, h⟩ := join_tS (b :: r)
    have h := h (by simp)
    rw [tS_cons]
    have e : (joinL [32] (a :: b :: r)).length = a.length + (1 + (joinL [32] (b :: r)).length) := by
      show (a ++ ([32] ++ joinL [32] (b :: r))).length = _
      rw [List.length_append, List.length_append]
      rfl
    rw [e]
    exact ⟨by omega, fun _ => by omega⟩
theorem tS_erase : ∀ (ls : List (List Nat)) (k : Nat), tS (ls.eraseIdx k) ≤ tS ls
  | [], k => by simp
  | a :: r, 0 => by rw [List.eraseIdx_cons_zero, tS_cons]; omega
  | a :: r, k + 1 => by
    have := tS_erase r k
    rw [List.eraseIdx_cons_succ, tS_cons, tS_cons]; omega
theorem tS_cnt : ∀ ls : List (List Nat), ls.length ≤ tS ls
  | [] => Nat.zero_le _
  | a :: r => by
    have := tS_cnt r
    rw [tS_cons, List.length_cons]; omega
theorem tS_mem : ∀ {ls : List (List Nat)} {l : List Nat}, l ∈ ls → l.length + 1 ≤ tS ls
  | a :: r, l, h => by
    rw [tS_cons]
    rcases List.mem_cons.mp h with h | h
    · subst h; omega
    · have := tS_mem h; omega
theorem erase_map {α β : Type} (f : α → β) : ∀ (l : List α) (k : Nat), (l.map f).eraseIdx k = (l.eraseIdx k).map f
  | [], _ => rfl
  | _ :: _, 0 => rfl
  | a :: r, k + 1 => by
    rw [List.map_cons, List.eraseIdx_cons_succ, List.eraseIdx_cons_succ, List.map_cons, erase_map f r k]
theorem part_spoiled_ok (cs : List Nat) (hl : cs.length ≤ 2000) (c : Int) : ∃ ds : List Nat, ds.length ≤ 2 * cs.length + 2 ∧ f__law_part_spoiled [.str (sC cs), .int c] = .ok (.str (sC ds)) := by
  have sp := splitD_c (y := 32) (by decide) (wsp_ne 32 cs) (wsp_free 32 cs) (by rw [wsp_join]; omega)
  rw [wsp_join, ← lit_sp] at sp
  have tw : tS (wsp 32 cs) = cs.length + 1 := by
    have := (join_tS (wsp 32 cs)).2 (wsp_ne 32 cs)
    rw [wsp_join] at this
    exact this.symm
  have ne := wsp_ne 32 cs
  generalize wsp 32 cs = ws at *
  have wp := List.length_pos_iff.mpr ne
  have wc := tS_cnt ws
  have d3 : divD (.int c) (.int 3) = some (.int (c / 3)) := divD_pos (by decide) (by decide)
  have d9 : divD (.int c) (.int 1009) = some (.int (c / 1009)) := divD_pos (by decide) (by decide)
  have m3 : modD (.int c) (.int 3) = some (.int (c % 3)) := modD_pos (by decide)
  obtain ⟨k, hk, hk2⟩ := nat_mod' (c / 3) (m := (ws.length : Int)) (by omega)
  have mk : modD (.int (c / 3)) (.int (ws.length : Int)) = some (.int (k : Int)) := by rw [modD_pos (by omega), hk]
  obtain ⟨j, hj, hj2⟩ := nat_mod' (c / 1009) (m := (ws.length : Int)) (by omega)
  have mj : modD (.int (c / 1009)) (.int (ws.length : Int)) = some (.int (j : Int)) := by rw [modD_pos (by omega), hj]
  have kl : k < ws.length := by omega
  have ln : lenD [.list (ws.map st1)] = some (.int (ws.length : Int)) := by rw [lenD_l, List.length_map]
  have ix : ixD (.list (ws.map st1)) (.int (k : Int)) = some (st1 ws[k]) := ixD_l (by omega) (by rw [show (k : Int).toNat = k by omega, List.getElem?_map, List.getElem?_eq_getElem kl]; rfl)
  have pm := tS_mem (List.getElem_mem kl)
  obtain ⟨PP, pop⟩ : ∃ PP, popAtM (ws.map st1) [.int (k : Int)] = some ((ws.eraseIdx k).map st1, PP) := ⟨_, by rw [popAtM_ok (by rw [List.length_map]; exact kl) (by omega), erase_map]⟩
  have er := tS_erase ws k
  have el : (ws.eraseIdx k).length ≤ ws.length := by
    rw [List.length_eraseIdx]; split <;> omega
  have ins : ∀ vs : List (List Nat), vs.length ≤ 4000 → insM (vs.map st1) [.int (j : Int), st1 ws[k]] = some ((vs.take j ++ [ws[k]] ++ vs.drop j).map st1, .none) := fun vs hv => by
    rw [insM_ok (by rw [List.length_map]; omega) (by omega) (by omega), show (j : Int).toNat = j by omega, List.map_append, List.map_append, List.map_take, List.map_drop]
    rfl
  have tins : ∀ vs : List (List Nat), tS (vs.take j ++ [ws[k]] ++ vs.drop j) = tS vs + (ws[k].length + 1) := fun vs => by
    have e : tS vs = tS (vs.take j) + tS (vs.drop j) := by rw [← tS_app, List.take_append_drop]
    rw [tS_app, tS_app, tS_one, e]; omega
  have jn : ∀ vs : List (List Nat), tS vs ≤ 2 * cs.length + 2 → joinD (.str (" " : Str)) (.list (vs.map st1)) = some (.str (sC (joinL [32] vs))) ∧ (joinL [32] vs).length ≤ 2 * cs.length + 2 := fun vs hv => by
    have a := tS_cnt vs
    have b := (join_tS vs).1
    refine ⟨?_, by omega⟩
    rw [lit_sp]
    refine joinD_c (y := 32) (ys := vs) (k := 4002) (fun l hl2 => by have := tS_mem hl2; omega) ?_
    have : vs.length * (4002 + 1) ≤ 4002 * 4003 := Nat.mul_le_mul (by omega) (by omega)
    omega
  have fin : ∀ vs : List (List Nat), tS vs ≤ 2 * cs.length + 2 → f__law_part_spoiled [.str (sC cs), .int c] = .ok (.str (sC (joinL [32] vs))) → ∃ ds : List Nat, ds.length ≤ 2 * cs.length + 2 ∧ f__law_part_spoiled [.str (sC cs), .int c] = .ok (.str (sC ds)) := fun vs h1 h2 => ⟨_, (jn vs h1).2, h2⟩
  have sp : splitD (.str (sC cs)) (.str (" " : Str)) = some (ws.map st1) := sp
  by_cases c1 : c % 3 = 1
  · have hv : tS (ws.take j ++ [ws[k]] ++ ws.drop j) ≤ 2 * cs.length + 2 := by rw [tins]; omega
    refine fin _ hv ?_
    have i1 := ins ws (by omega)
    have j1 := (jn _ hv).1
    have q1 : ¬ ((1 : Int) = 0) := by decide
    generalize sC (joinL [32] (ws.take j ++ [ws[k]] ++ ws.drop j)) = R at *
    generalize (ws.take j ++ [ws[k]] ++ ws.drop j).map st1 = V at *
    generalize st1 ws[k] = P at *
    generalize ws.map st1 = W at *
    generalize sC cs = C at *
    generalize (k : Int) = kk at *
    generalize (j : Int) = jj at *
    generalize (ws.length : Int) = n at *
    rw [c1] at m3
    simp [f__law_part_spoiled, mFn, g__law_part_spoiled, start', sp, ln, d3, d9, m3, mk, mj, ix, i1, j1, -modD_pos, -divD_pos, -lenD_l]
  · by_cases c0 : c % 3 = 0
    · have hv : tS (ws.eraseIdx k) ≤ 2 * cs.length + 2 := by omega
      refine fin _ hv ?_
      have j1 := (jn _ hv).1
      generalize sC (joinL [32] (ws.eraseIdx k)) = R at *
      generalize (ws.eraseIdx k).map st1 = V at *
      generalize st1 ws[k] = P at *
      generalize ws.map st1 = W at *
      generalize sC cs = C at *
      generalize (k : Int) = kk at *
      generalize (j : Int) = jj at *
      generalize (ws.length : Int) = n at *
      rw [c0] at m3
      simp [f__law_part_spoiled, mFn, g__law_part_spoiled, start', sp, ln, d3, d9, m3, mk, mj, ix, pop, j1, -modD_pos, -divD_pos, -lenD_l]
    · have hv : tS ((ws.eraseIdx k).take j ++ [ws[k]] ++ (ws.eraseIdx k).drop j) ≤ 2 * cs.length + 2 := by rw [tins]; omega
      refine fin _ hv ?_
      have i1 := ins (ws.eraseIdx k) (by omega)
      have j1 := (jn _ hv).1
      generalize sC (joinL [32] ((ws.eraseIdx k).take j ++ [ws[k]] ++ (ws.eraseIdx k).drop j)) = R at *
      generalize ((ws.eraseIdx k).take j ++ [ws[k]] ++ (ws.eraseIdx k).drop j).map st1 = V at *
      generalize (ws.eraseIdx k).map st1 = V1 at *
      generalize st1 ws[k] = P at *
      generalize ws.map st1 = W at *
      generalize sC cs = C at *
      generalize (k : Int) = kk at *
      generalize (j : Int) = jj at *
      generalize (ws.length : Int) = n at *
      generalize c % 3 = c3 at *
      simp [f__law_part_spoiled, mFn, g__law_part_spoiled, start', sp, ln, d3, d9, m3, mk, mj, ix, pop, i1, j1, c0, c1, -modD_pos, -divD_pos, -lenD_l]
def isFg (c : Nat) : Bool := decide (c ∈ ("0123456789" : Str).cps.toList)
theorem while_a (cs : List Nat) (hl : cs.length ≤ 100000) (s1 s2 s4 : S) (k : Nat) (hk : k ≤ cs.length) : ∃ a : Nat, a ≤ cs.length ∧ sWhile (tA (tE (e2 ltD (eVarF 3) (eB lenD (aCons (eVarF 0) aNil)))) (tE (e2 ninSD (e2 ixD (eVarF 0) (eVarF 3)) (eC (.str ("0123456789" : Str)))))) b1__law_number_spoiled [.val (.str (sC cs)), s1, s2, .val (.int (k : Int)), s4] = .nx [.val (.str (sC cs)), s1, s2, .val (.int (a : Int)), s4] := by
  have ln := lenD_c (l := cs) (by omega)
  refine while_inv (Post := fun o => ∃ a : Nat, a ≤ cs.length ∧ o = .nx [.val (.str (sC cs)), s1, s2, .val (.int (a : Int)), s4])
    (fun q ρ => ∃ j : Nat, j + q = cs.length ∧ ρ = [.val (.str (sC cs)), s1, s2, .val (.int (j : Int)), s4]) (cs.length - k) ⟨k, by omega, rfl⟩ (by omega) ?_
  rintro q ρ ⟨j, hj, rfl⟩
  by_cases e : j < cs.length
  · have lt : ((j : Nat) : Int) < (cs.length : Int) := by omega
    have ix := ixD_ck (l := cs) (k := j) (List.getElem?_eq_getElem e) (by omega)
    have nn : ninSD (.str (sC [cs[j]])) (.str ("0123456789" : Str)) = some (.bool (!isFg cs[j])) := rfl
    cases fg : isFg cs[j] with
    | true =>
      rw [fg] at nn
      refine .inl ⟨?_, j, by omega, rfl⟩
      generalize sC [cs[j]] = P at *
      generalize sC cs = C at *
      generalize (cs.length : Int) = n at *
      generalize (j : Int) = jj at *
      generalize ("0123456789" : Str) = FF at *
      simp [ln, lt, ix, nn]
    | false =>
      rw [fg] at nn
      refine .inr ⟨?_, ?_⟩
      · generalize sC [cs[j]] = P at *
        generalize sC cs = C at *
        generalize (cs.length : Int) = n at *
        generalize (j : Int) = jj at *
        generalize ("0123456789" : Str) = FF at *
        simp [ln, lt, ix, nn]
      · have st : b1__law_number_spoiled [.val (.str (sC cs)), s1, s2, .val (.int (j : Int)), s4] = .nx [.val (.str (sC cs)), s1, s2, .val (.int ((j + 1 : Nat) : Int)), s4] := by
          rw [show ((j + 1 : Nat) : Int) = (j : Int) + 1 by omega]
          generalize sC cs = C at *
          generalize (j : Int) = jj at *
          simp [b1__law_number_spoiled]
        rw [st]
        exact ⟨cs.length - (j + 1), by omega, j + 1, by omega, rfl⟩
  · have lt : ¬ ((j : Nat) : Int) < (cs.length : Int) := by omega
    refine .inl ⟨?_, j, by omega, rfl⟩
    generalize sC cs = C at *
    generalize (cs.length : Int) = n at *
    generalize (j : Int) = jj at *
    generalize ("0123456789" : Str) = FF at *
    simp [ln, lt]
theorem while_b (cs : List Nat) (hl : cs.length ≤ 100000) (s1 s2 s3 : S) (k : Nat) (hk : k ≤ cs.length) : ∃ a : Nat, k ≤ a ∧ a ≤ cs.length ∧ sWhile (tA (tE (e2 ltD (eVarF 4) (eB lenD (aCons (eVarF 0) aNil)))) (tE (e2 inSD (e2 ixD (eVarF 0) (eVarF 4)) (eC (.str ("0123456789" : Str)))))) b2__law_number_spoiled [.val (.str (sC cs)), s1, s2, s3, .val (.int (k : Int))] = .nx [.val (.str (sC cs)), s1, s2, s3, .val (.int (a : Int))] := by
  have ln := lenD_c (l := cs) (by omega)
  refine while_inv (Post := fun o => ∃ a : Nat, k ≤ a ∧ a ≤ cs.length ∧ o = .nx [.val (.str (sC cs)), s1, s2, s3, .val (.int (a : Int))])
    (fun q ρ => ∃ j : Nat, k ≤ j ∧ j + q = cs.length ∧ ρ = [.val (.str (sC cs)), s1, s2, s3, .val (.int (j : Int))]) (cs.length - k) ⟨k, Nat.le_refl _, by omega, rfl⟩ (by omega) ?_
  rintro q ρ ⟨j, hkj, hj, rfl⟩
  by_cases e : j < cs.length
  · have lt : ((j : Nat) : Int) < (cs.length : Int) := by omega
    have ix := ixD_ck (l := cs) (k := j) (List.getElem?_eq_getElem e) (by omega)
    have nn : inSD (.str (sC [cs[j]])) (.str ("0123456789" : Str)) = some (.bool (isFg cs[j])) := rfl
    cases fg : isFg cs[j] with
    | false =>
      rw [fg] at nn
      refine .inl ⟨?_, j, hkj, by omega, rfl⟩
      generalize sC [cs[j]] = P at *
      generalize sC cs = C at *
      generalize (cs.length : Int) = n at *
      generalize (j : Int) = jj at *
      generalize ("0123456789" : Str) = FF at *
      simp [ln, lt, ix, nn]
    | true =>
      rw [fg] at nn
      refine .inr ⟨?_, ?_⟩
      · generalize sC [cs[j]] = P at *
        generalize sC cs = C at *
        generalize (cs.length : Int) = n at *
        generalize (j : Int) = jj at *
        generalize ("0123456789" : Str) = FF at *
        simp [ln, lt, ix, nn]
      · have st : b2__law_number_spoiled [.val (.str (sC cs)), s1, s2, s3, .val (.int (j : Int))] = .nx [.val (.str (sC cs)), s1, s2, s3, .val (.int ((j + 1 : Nat) : Int))] := by
          rw [show ((j + 1 : Nat) : Int) = (j : Int) + 1 by omega]
          generalize sC cs = C at *
          generalize (j : Int) = jj at *
          simp [b2__law_number_spoiled]
        rw [st]
        exact ⟨cs.length - (j + 1), by omega, j + 1, by omega, by omega, rfl⟩
  · have lt : ¬ ((j : Nat) : Int) < (cs.length : Int) := by omega
    refine .inl ⟨?_, j, hkj, by omega, rfl⟩
    generalize sC cs = C at *
    generalize (cs.length : Int) = n at *
    generalize (j : Int) = jj at *
    generalize ("0123456789" : Str) = FF at *
    simp [ln, lt]
theorem number_spoiled_ok (cs : List Nat) (hl : cs.length ≤ 90000) (c : Int) : ∃ ds : List Nat, ds.length ≤ cs.length + 3 ∧ f__law_number_spoiled [.str (sC cs), .int c] = .ok (.str (sC ds)) := by
  have ln := lenD_c (l := cs) (by omega)
  have d16 : divD (.int c) (.int 16) = some (.int (c / 16)) := divD_pos (by decide) (by decide)
  obtain ⟨k, hk, hk2⟩ := nat_mod' (c / 16) (m := (cs.length : Int) + 1) (by omega)
  have mk : modD (.int (c / 16)) (.int ((cs.length : Int) + 1)) = some (.int (k : Int)) := by rw [modD_pos (by omega), hk]
  obtain ⟨OD, hod, gi⟩ : ∃ OD : List Str, (OD.length = 16 ∧ ∀ z ∈ OD, (tl z).length ≤ 3) ∧ ∀ ρ : Fr, aCons (eC (.str ("0" : Str))) (aCons (eC (.str ("1" : Str))) (aCons (eC (.str ("7" : Str))) (aCons (eC (.str ("39" : Str))) (aCons (eC (.str ("40" : Str))) (aCons (eC (.str ("00" : Str))) (aCons (eC (.str ("01" : Str))) (aCons (eC (.str ("-0" : Str))) (aCons (eC (.str ("--1" : Str))) (aCons (eC (.str ("+1" : Str))) (aCons (eC (.str ("1_" : Str))) (aCons (eC (.str ("100" : Str))) (aCons (eC (.str ("" : Str))) (aCons (eC (.str ("-" : Str))) (aCons (eC (.str ("-2" : Str))) (aCons (eC (.str ("5" : Str))) aNil))))))))))))))) ρ = .ok (OD.map .str) :=
    ⟨["0", "1", "7", "39", "40", "00", "01", "-0", "--1", "+1", "1_", "100", "", "-", "-2", "5"], ⟨rfl, by decide +kernel⟩, fun ρ => rfl⟩
  obtain ⟨j, hj, hj2⟩ := nat_mod' c (m := 16) (by decide)
  have mj : modD (.int c) (.int 16) = some (.int (j : Int)) := by rw [modD_pos (by omega), hj]
  have jl : j < OD.length := by omega
  have ixo : ixD (.list (OD.map .str)) (.int (j : Int)) = some (.str (sC (tl OD[j]))) := ixD_l (by omega) (by rw [show (j : Int).toNat = j by omega, List.getElem?_map, List.getElem?_eq_getElem jl, sC_of]; rfl)
  have lo := hod.2 _ (List.getElem_mem jl)
  have lno : lenD [.list (OD.map .str)] = some (.int 16) := by rw [lenD_l, List.length_map, hod.1]; rfl
  generalize tl OD[j] = od at *
  obtain ⟨a, ha, wa⟩ := while_a cs (by omega) (.val (.int c)) (.val (.list (OD.map .str))) .none k (by omega)
  obtain ⟨b, hb, hb2, wb⟩ := while_b cs (by omega) (.val (.int c)) (.val (.list (OD.map .str))) (.val (.int (a : Int))) a ha
  have s1 := slD_c (l := cs) (lo := none) (hi := some (a : Int)) (by omega)
  have s2 := slD_c (l := cs) (lo := some (b : Int)) (hi := none) (by omega)
  rw [cutL_to] at s1
  rw [cutL_from] at s2
  have t1 : (cs.take a).length = a := by rw [List.length_take]; omega
  have t2 : (cs.drop b).length = cs.length - b := by rw [List.length_drop]
  have a1 := addD_c (a := cs.take a) (b := od) (by omega)
  have a2 := addD_c (a := cs.take a ++ od) (b := cs.drop b) (by rw [cut_app]; omega)
  refine ⟨cs.take a ++ od ++ cs.drop b, by rw [cut_app, cut_app]; omega, ?_⟩
  have gd : g__law_number_spoiled = (sSeq (sAsg (gN 2) (eL (aCons (eC (.str ("0" : Str))) (aCons (eC (.str ("1" : Str))) (aCons (eC (.str ("7" : Str))) (aCons (eC (.str ("39" : Str))) (aCons (eC (.str ("40" : Str))) (aCons (eC (.str ("00" : Str))) (aCons (eC (.str ("01" : Str))) (aCons (eC (.str ("-0" : Str))) (aCons (eC (.str ("--1" : Str))) (aCons (eC (.str ("+1" : Str))) (aCons (eC (.str ("1_" : Str))) (aCons (eC (.str ("100" : Str))) (aCons (eC (.str ("" : Str))) (aCons (eC (.str ("-" : Str))) (aCons (eC (.str ("-2" : Str))) (aCons (eC (.str ("5" : Str))) aNil))))))))))))))))))
     (sSeq (sAsg (gN 3) (e2 modD (e2 divD (eVarF 1) (eC (.int 16))) (e2 addD (eB lenD (aCons (eVarF 0) aNil)) (eC (.int 1)))))
     (sSeq (sWhile (tA (tE (e2 ltD (eVarF 3) (eB lenD (aCons (eVarF 0) aNil)))) (tE (e2 ninSD (e2 ixD (eVarF 0) (eVarF 3)) (eC (.str ("0123456789" : Str)))))) b1__law_number_spoiled)
     (sSeq (sAsg (gN 4) (eVarF 3))
     (sSeq (sWhile (tA (tE (e2 ltD (eVarF 4) (eB lenD (aCons (eVarF 0) aNil)))) (tE (e2 inSD (e2 ixD (eVarF 0) (eVarF 4)) (eC (.str ("0123456789" : Str)))))) b2__law_number_spoiled)
     (sRet (e2 addD (e2 addD (eSl slD (eVarF 0) oNone (oSome (eVarF 3))) (e2 ixD (eVarF 2) (e2 modD (eVarF 1) (eB lenD (aCons (eVarF 2) aNil))))) (eSl slD (eVarF 0) (oSome (eVarF 4)) oNone)))))))) := rfl
  rw [show (aCons (eC (.str ("0" : Str))) (aCons (eC (.str ("1" : Str))) (aCons (eC (.str ("7" : Str))) (aCons (eC (.str ("39" : Str))) (aCons (eC (.str ("40" : Str))) (aCons (eC (.str ("00" : Str))) (aCons (eC (.str ("01" : Str))) (aCons (eC (.str ("-0" : Str))) (aCons (eC (.str ("--1" : Str))) (aCons (eC (.str ("+1" : Str))) (aCons (eC (.str ("1_" : Str))) (aCons (eC (.str ("100" : Str))) (aCons (eC (.str ("" : Str))) (aCons (eC (.str ("-" : Str))) (aCons (eC (.str ("-2" : Str))) (aCons (eC (.str ("5" : Str))) aNil)))))))))))))))) = fun _ => .ok (OD.map .str) from funext gi] at gd
  generalize OD.map PyData.str = LO at *
  generalize sC (cs.take a ++ od ++ cs.drop b) = R at *
  generalize sC (cs.take a ++ od) = R1 at *
  generalize sC (cs.take a) = R2 at *
  generalize sC (cs.drop b) = R3 at *
  generalize sC od = R4 at *
  generalize sC cs = C at *
  generalize (k : Int) = kk at *
  generalize (j : Int) = jj at *
  generalize (a : Int) = aa at *
  generalize (b : Int) = bb at *
  generalize (cs.length : Int) = n at *
  simp [f__law_number_spoiled, mFn, gd, start', eL, ln, d16, mk, wa, wb, mj, lno, ixo, s1, s2, a1, a2, -modD_pos, -divD_pos, -lenD_l]
end Lw
set_option Elab.async false
set_option linter.all false
set_option maxRecDepth 100000
set_option maxHeartbeats 4000000
namespace Lw
open PySem L2 Dn TL
theorem lsign_good (s0 s1 : S) (cs : List Nat) (h : ∀ c ∈ cs, 48 ≤ c ∧ c ≤ 57) : ∃ t, loopFor (forB (gN 2) b1__law_stave) (cs.map fun c => .str ⟨#[c]⟩) [s0, s1, .none] = .nx [s0, s1, t] := by
  refine for_inv (Post := fun o => ∃ t, o = .nx [s0, s1, t]) (fun _ ρ => ∃ t, ρ = [s0, s1, t]) ⟨_, rfl⟩ ?_ ?_
  · rintro j d ρ hd ⟨t, rfl⟩
    rw [List.getElem?_map] at hd
    obtain ⟨c, hc, rfl⟩ := Option.map_eq_some_iff.mp hd
    obtain ⟨h1, h2⟩ := h c (List.mem_of_getElem? hc)
    have e : ninSD (.str ⟨#[c]⟩) (.str ("0123456789" : Str)) = some (.bool false) := by
      have : ninSD (.str ⟨#[c]⟩) (.str ("0123456789" : Str)) = some (.bool (!decide (c ∈ ("0123456789" : Str).cps.toList))) := rfl
      rw [this, decide_eq_true (digit_in h1 h2)]
      rfl
    have tn : forB (gN 2) b1__law_stave (.str ⟨#[c]⟩) [s0, s1, t] = .nx [s0, s1, .val (.str ⟨#[c]⟩)] := by
      generalize PyData.str ⟨#[c]⟩ = P at *
      simp [b1__law_stave, e]
    rw [tn]
    exact ⟨_, rfl⟩
  · rintro ρ ⟨t, rfl⟩
    exact ⟨t, rfl⟩
theorem lsign_bad (s0 s1 : S) : ∀ (cs : List Nat) (t : S), (∃ c ∈ cs, ¬ (48 ≤ c ∧ c ≤ 57)) → ∃ ρ, loopFor (forB (gN 2) b1__law_stave) (cs.map fun c => .str ⟨#[c]⟩) [s0, s1, t] = .ret .none ρ
  | [], t, h => by obtain ⟨c, hc, _⟩ := h; cases hc
  | c :: cs, t, h => by
    have ee : ("0123456789" : Str).cps.toList = [48, 49, 50, 51, 52, 53, 54, 55, 56, 57] := by decide +kernel
    have e : ninSD (.str ⟨#[c]⟩) (.str ("0123456789" : Str)) = some (.bool (!decide (c ∈ ("0123456789" : Str).cps.toList))) := rfl
    by_cases g : 48 ≤ c ∧ c ≤ 57
    · have h2 : ∃ d ∈ cs, ¬ (48 ≤ d ∧ d ≤ 57) := by
        obtain ⟨d, hd, n⟩ := h
        rcases List.mem_cons.mp hd with rfl | hd
        · exact (n g).elim
        · exact ⟨d, hd, n⟩
      obtain ⟨ρ, ih⟩ := lsign_bad s0 s1 cs (.val (.str ⟨#[c]⟩)) h2
      rw [decide_eq_true (digit_in g.1 g.2)] at e
      refine ⟨ρ, ?_⟩
      rw [List.map_cons]
      refine Eq.trans (loop_nx ?_) ih
      generalize PyData.str ⟨#[c]⟩ = P at *
      simp [b1__law_stave, e]
    · have nm : ¬ c ∈ ("0123456789" : Str).cps.toList := by
        rw [ee]
        simp
        omega
      rw [decide_eq_false nm] at e
      refine ⟨[s0, s1, .val (.str ⟨#[c]⟩)], ?_⟩
      rw [List.map_cons]
      generalize PyData.str ⟨#[c]⟩ = P at *
      have one : forB (gN 2) b1__law_stave P [s0, s1, t] = .ret .none [s0, s1, .val P] := by simp [b1__law_stave, e]
      show (match forB (gN 2) b1__law_stave P [s0, s1, t] with
        | .nx ρ' => loopFor (forB (gN 2) b1__law_stave) _ ρ'
        | .cont ρ' => loopFor (forB (gN 2) b1__law_stave) _ ρ'
        | .brk ρ' => .nx ρ'
        | o => o) = _
      rw [one]
noncomputable abbrev lsTail : MS := (sSeq (sIf (tO (tE (e2 ninD (eB lenD (aCons (eVarF 1) aNil)) (eL (aCons (eC (.int 1)) (aCons (eC (.int 2)) aNil))))) (tA (tE (e2 eqD (eB lenD (aCons (eVarF 1) aNil)) (eC (.int 2)))) (tE (e2 eqD (e2 ixD (eVarF 1) (eC (.int 0))) (eC (.str ("0" : Str))))))) (sRet (eC .none)) sNext)
 (sSeq (sFor (iS (eVarF 1)) (gN 2) b1__law_stave)
 (sRet (e2 subD (e2 addD (e2 mulD (eC (.int 2)) (eB intWD (aCons (eVarF 1) aNil))) (eB lenD (aCons (eVarF 0) aNil))) (eB lenD (aCons (eVarF 1) aNil))))))
theorem nin12 (n : Int) : ninD (.int n) (.list [.int 1, .int 2]) = some (.bool (!decide (n = 1 ∨ n = 2))) := by
  have h := ninD_g gr_int (by decide) n [1, 2]
  have e : decide (n ∈ ([1, 2] : List Int)) = decide (n = 1 ∨ n = 2) := decide_eq_decide.mpr (by simp)
  rw [e] at h
  exact h
theorem ltail_good {tx fs : List Nat} {v k : Nat} (h : figP fs = some v) (ht : tx.length = fs.length + k) (hk : k ≤ 1) : ∃ ρ, lsTail [.val (.str (sC tx)), .val (.str (sC fs)), .none] = .ret (.int ((2 * v + k : Nat) : Int)) ρ := by
  obtain ⟨rfl, hv⟩ := figP_num h
  have nl := numL_len (n := v) (k := 2) (by decide) (by omega)
  have dg : ∀ d ∈ numL v, 48 ≤ d ∧ d ≤ 57 := fun d hd => by have := numL_digits v d hd; omega
  have iw := intW_h hv
  have ln := lenD_c (l := numL v) (by omega)
  have lt := lenD_c (l := tx) (by omega)
  obtain ⟨c, r, e, q1⟩ : ∃ c r, numL v = c :: r ∧ (c = 48 → r = []) := by
    by_cases g : v < 10
    · exact ⟨_, [], numL_lt g, fun _ => rfl⟩
    · exact ⟨48 + v / 10, [48 + v % 10], by rw [numL_step (by omega), numL_lt (by omega)]; rfl, fun z => by omega⟩
  have i0 := ixD_c (l := numL v) e (by omega)
  have q0 : eqD (.str (sC [c])) (.str ("0" : Str)) = some (.bool (decide (c = 48))) := by
    rw [lit_zero, eqD_c]
    congr 2
    exact decide_eq_decide.mpr ⟨fun z => (by injection z), fun z => (by rw [z])⟩
  have n12 := nin12 ((numL v).length : Int)
  have one2 : ((numL v).length : Int) = 1 ∨ ((numL v).length : Int) = 2 := by
    have : 1 ≤ (numL v).length := by rw [e, List.length_cons]; omega
    omega
  rw [decide_eq_true one2] at n12
  have n3 : c = 48 → ¬ ((numL v).length : Int) = 2 := fun z => by rw [e, q1 z]; simp
  have ml : mulD (.int 2) (.int ((v : Nat) : Int)) = some (.int (2 * ((v : Nat) : Int))) := mulD_small (by decide)
  obtain ⟨t, lp⟩ := lsign_good (.val (.str (sC tx))) (.val (.str (sC (numL v)))) (numL v) dg
  have fin : 2 * ((v : Nat) : Int) + (tx.length : Int) - ((numL v).length : Int) = ((2 * v + k : Nat) : Int) := by rw [ht]; omega
  have cp := sC_cps (numL v)
  generalize ((2 * v + k : Nat) : Int) = RR at *
  generalize tx.length = tl at *
  generalize (v : Int) = vv at *
  generalize sC tx = T at *
  refine ⟨[S.val (PyData.str T), S.val (PyData.str (sC (numL v))), t], ?_⟩
  by_cases c0 : c = 48
  · have n3 := n3 c0
    rw [decide_eq_true c0] at q0
    simp [lsTail, ln, lt, n12, n3, i0, q0, iS, cp, lp, iw, ml, fin, -forB_ap, -eqD_str, -mulD_small, -mulD_smallR]
  · rw [decide_eq_false c0] at q0
    by_cases n2 : ((numL v).length : Int) = 2
    · rw [n2] at fin n12 ln
      simp [lsTail, ln, lt, n12, i0, q0, iS, cp, lp, iw, ml, fin, -forB_ap, -eqD_str, -mulD_small, -mulD_smallR]
    · simp [lsTail, ln, lt, n12, n2, i0, q0, iS, cp, lp, iw, ml, fin, -forB_ap, -eqD_str, -mulD_small, -mulD_smallR]
theorem ltail_bad {tx fs : List Nat} (h : figP fs = none) (hl : fs.length ≤ 100000) : ∃ ρ, lsTail [.val (.str (sC tx)), .val (.str (sC fs)), .none] = .ret .none ρ := by
  have ln := lenD_c (l := fs) (by omega)
  have cp := sC_cps fs
  have n12 := nin12 (fs.length : Int)
  match fs, h with
  | [], h =>
    rw [decide_eq_false (by simp)] at n12
    generalize (([] : List Nat).length : Int) = z at *
    generalize sC [] = T at *
    exact ⟨[_, _, _], by simp [lsTail, ln, n12]; exact ⟨rfl, rfl, rfl⟩⟩
  | c :: d :: e :: r, h =>
    rw [decide_eq_false (by simp only [List.length_cons]; omega)] at n12
    generalize ((c :: d :: e :: r).length : Int) = z at *
    generalize sC (c :: d :: e :: r) = T at *
    exact ⟨[_, _, _], by simp [lsTail, ln, n12]; exact ⟨rfl, rfl, rfl⟩⟩
  | [c], h =>
    have e : figP [c] = if isDg c = true then some (c - 48) else none := rfl
    rw [e] at h
    split at h
    · cases h
    case isFalse q =>
      have q : ¬ (48 ≤ c ∧ c ≤ 57) := fun z => q (isDg_iff.mpr z)
      obtain ⟨ρ, lp⟩ := lsign_bad (.val (.str (sC tx))) (.val (.str (sC [c]))) [c] .none ⟨c, List.mem_singleton.mpr rfl, q⟩
      have i0 := ixD_c (l := [c]) rfl (by simp)
      rw [decide_eq_true (by simp)] at n12
      have n2 : ¬ (([c] : List Nat).length : Int) = 2 := by simp
      generalize (([c] : List Nat).length : Int) = z at *
      generalize sC tx = T at *
      refine ⟨ρ, ?_⟩
      simp [lsTail, ln, n12, n2, iS, cp, -forB_ap, -eqD_str]
      simp at lp
      simp [lp]
  | [c, d], h =>
    have e : figP [c, d] = if (isDg c && isDg d && !(Nat.beq c 48)) = true then some (10 * (c - 48) + (d - 48)) else none := rfl
    rw [e] at h
    split at h
    · cases h
    case isFalse q =>
      have i0 := ixD_c (l := [c, d]) rfl (by simp)
      have q0 : eqD (.str (sC [c])) (.str ("0" : Str)) = some (.bool (decide (c = 48))) := by
        rw [lit_zero, eqD_c]
        congr 2
        exact decide_eq_decide.mpr ⟨fun z => (by injection z), fun z => (by rw [z])⟩
      have n2 : (([c, d] : List Nat).length : Int) = 2 := by simp
      rw [n2] at n12 ln
      rw [decide_eq_true (by decide)] at n12
      by_cases c0 : c = 48
      · rw [decide_eq_true c0] at q0
        generalize sC tx = T at *
        generalize sC [c, d] = T2 at *
        exact ⟨[_, _, _], by simp [lsTail, ln, n12, i0, q0, -eqD_str]; exact ⟨rfl, rfl, rfl⟩⟩
      · rw [decide_eq_false c0] at q0
        have q : ∃ x ∈ [c, d], ¬ (48 ≤ x ∧ x ≤ 57) := by
          by_cases g1 : 48 ≤ c ∧ c ≤ 57
          · refine ⟨d, by simp, fun g2 => q ?_⟩
            rw [isDg_iff.mpr g1, isDg_iff.mpr g2]
            have : Nat.beq c 48 = false := by
              cases z : Nat.beq c 48 with
              | false => rfl
              | true => exact (c0 (Nat.eq_of_beq_eq_true z)).elim
            rw [this]
            rfl
          · exact ⟨c, by simp, g1⟩
        obtain ⟨ρ, lp⟩ := lsign_bad (.val (.str (sC tx))) (.val (.str (sC [c, d]))) [c, d] .none q
        generalize sC tx = T at *
        refine ⟨ρ, ?_⟩
        simp [lsTail, ln, n12, i0, q0, iS, cp, -forB_ap, -eqD_str]
        simp at lp
        simp [lp]
def stvO (cs : List Nat) : D := match stvP cs with
  | some x => .int (x : Int)
  | none => .none
theorem lstave_gen (cs : List Nat) (hl : cs.length ≤ 100000) : f__law_stave [.str (sC cs)] = .ok (stvO cs) := by
  have sl := slD_c (l := cs) (lo := none) (hi := some 1) (by omega)
  have sd := slD_c (l := cs) (lo := some 1) (hi := none) (by omega)
  rw [cutL_one] at sl
  rw [cutL_tail] at sd
  have gi : g__law_stave = sSeq (sAsg (gN 1) (eVarF 0)) (sSeq (sIf (tE (e2 eqD (eSl slD (eVarF 0) oNone (oSome (eC (.int 1)))) (eC (.str ("-" : Str))))) (sAsg (gN 1) (eSl slD (eVarF 0) (oSome (eC (.int 1))) oNone)) sNext) lsTail) := rfl
  have fin : ∀ (b : Bool) (fs : List Nat) (k : Nat), eqD (.str (sC (cs.take 1))) (.str ("-" : Str)) = some (.bool b) → (b = true → fs = cs.drop 1) → (b = false → fs = cs) → cs.length = fs.length + k → k ≤ 1 →
      f__law_stave [.str (sC cs)] = .ok (match figP fs with | some v => .int ((2 * v + k : Nat) : Int) | none => .none) := by
    intro b fs k qb b1 b2 hk hk1
    have hd : g__law_stave [.val (.str (sC cs)), .none, .none] = lsTail [.val (.str (sC cs)), .val (.str (sC fs)), .none] := by
      rw [gi]
      generalize lsTail = RT
      cases b with
      | true =>
        rw [← b1 rfl] at sd
        generalize sC fs = F at *
        generalize sC (cs.take 1) = A at *
        generalize sC cs = C at *
        simp [sl, sd, qb, -eqD_str]
      | false =>
        rw [b2 rfl]
        generalize sC (cs.take 1) = A at *
        generalize sC cs = C at *
        simp [sl, qb, -eqD_str]
    cases hf : figP fs with
    | none =>
      obtain ⟨ρ, t⟩ := ltail_bad (tx := cs) hf (by omega)
      rw [t] at hd
      show f__law_stave [.str (sC cs)] = .ok .none
      unfold f__law_stave
      simp [mFn, start', hd]
    | some v =>
      obtain ⟨ρ, t⟩ := ltail_good (tx := cs) hf hk hk1
      rw [t] at hd
      show f__law_stave [.str (sC cs)] = .ok (.int ((2 * v + k : Nat) : Int))
      unfold f__law_stave
      generalize ((2 * v + k : Nat) : Int) = RR at *
      simp [mFn, start', hd]
  have sc : ∀ (c : Nat) (r : List Nat), stvP (c :: r) = if Nat.beq c 45 = true then (figP r).map fun v => 2 * v + 1 else (figP (c :: r)).map fun v => 2 * v := fun _ _ => rfl
  unfold stvO
  cases cs with
  | nil =>
    have q : eqD (.str (sC (([] : List Nat).take 1))) (.str ("-" : Str)) = some (.bool false) := by rw [lit_minus, eqD_c]; rfl
    exact fin false [] 0 q (fun z => by cases z) (fun _ => rfl) rfl (by decide)
  | cons c r =>
    have q : eqD (.str (sC ((c :: r).take 1))) (.str ("-" : Str)) = some (.bool (decide (c = 45))) := by
      rw [lit_minus, eqD_c]
      congr 2
      exact decide_eq_decide.mpr ⟨fun z => (by injection z), fun z => (by rw [z]; rfl)⟩
    by_cases g : c = 45
    · rw [decide_eq_true g] at q
      have := fin true r 1 q (fun _ => rfl) (fun z => by cases z) rfl (by decide)
      rw [this, sc, if_pos (by rw [g]; rfl)]
      cases figP r <;> rfl
    · rw [decide_eq_false g] at q
      have := fin false (c :: r) 0 q (fun z => by cases z) (fun _ => rfl) rfl (by decide)
      rw [this, sc, if_neg (fun z => g (Nat.eq_of_beq_eq_true z))]
      cases figP (c :: r) <;> rfl
end Lw
set_option Elab.async false
set_option linter.all false
set_option maxRecDepth 100000
set_option maxHeartbeats 4000000
namespace Lw
open PySem L2 Dn TL
def chQ (b : Bool) (ys : List Nat) : List D := .str (sC [opC b]) :: (ys.map fun i : Nat => .int (i : Int))
def kcQ (k : Kc) : D := .list (chQ k.1 k.2)
def curQ (c : Option Kc) : S := match c with
  | none => .val .none
  | some k => .own (.lst (chQ k.1 k.2))
abbrev frq (TX : D) (s : RS) (t3 t4 t5 : S) : Fr := [.val TX, .own (.lst (s.1.map kcQ)), curQ s.2, t3, t4, t5]
noncomputable abbrev lcR : MS := (sSeq (sAsg (gN 4) (eBool (eOr (eAnd (e2 eqD (eSl slD (eVarF 3) (oSome (e1 negD (eC (.int 1)))) oNone) (eC (.str ("]" : Str)))) (e2 eqD (e2 ixD (eVar 2) (eC (.int 0))) (eC (.str ("[" : Str))))) (eAnd (e2 eqD (eSl slD (eVarF 3) (oSome (e1 negD (eC (.int 1)))) oNone) (eC (.str (")" : Str)))) (e2 eqD (e2 ixD (eVar 2) (eC (.int 0))) (eC (.str ("(" : Str))))))))
 (sSeq (sIf (tE (eVarF 4)) (sAsg (gN 3) (eSl slD (eVarF 3) oNone (oSome (e1 negD (eC (.int 1)))))) sNext)
 (sSeq (sAsg (gN 5) (eCall f__law_stave (aCons (eVarF 3) aNil)))
 (sSeq (sIf (tE (e2 isD (eVarF 5) (eC .none))) (sRet (eC .none)) sNext)
 (sSeq (sMut 2 appM (aCons (eVarF 5) aNil))
 (sIf (tE (eVarF 4)) (sSeq (sFrz 2 (sMut 1 appM (aCons (eVarF 2) aNil)))
 (sAsg (gN 2) (eC .none))) sNext))))))
noncomputable abbrev lcA : MS := (sIf (tE (e2 isD (eVar 2) (eC .none))) (sSeq (sIf (tE (e2 ninLS (eSl slD (eVarF 3) oNone (oSome (eC (.int 1)))) (eL (aCons (eC (.str ("[" : Str))) (aCons (eC (.str ("(" : Str))) aNil))))) (sRet (eC .none)) sNext)
 (sSeq (sAsgL 2 (aCons (e2 ixD (eVarF 3) (eC (.int 0))) aNil))
 (sAsg (gN 3) (eSl slD (eVarF 3) (oSome (eC (.int 1))) oNone)))) sNext)
theorem lc_is : b1__law_read_chains = sSeq lcA lcR := rfl
theorem chQ_app (b : Bool) (ys : List Nat) (x : Nat) : chQ b ys ++ [.int (x : Int)] = chQ b (ys ++ [x]) := by
  unfold chQ
  rw [List.map_append]
  rfl
/-- the last sign and the bracket told: is the chain closed -/
theorem closed_eq (b : Bool) (TX S1 : D) (X1 : S) (ys w : List Nat) (hw : w.length ≤ 9000) (s4 s5 : S) : (sAsg (gN 4) (eBool (eOr (eAnd (e2 eqD (eSl slD (eVarF 3) (oSome (e1 negD (eC (.int 1)))) oNone) (eC (.str ("]" : Str)))) (e2 eqD (e2 ixD (eVar 2) (eC (.int 0))) (eC (.str ("[" : Str))))) (eAnd (e2 eqD (eSl slD (eVarF 3) (oSome (e1 negD (eC (.int 1)))) oNone) (eC (.str (")" : Str)))) (e2 eqD (e2 ixD (eVar 2) (eC (.int 0))) (eC (.str ("(" : Str)))))))) [.val TX, X1, .own (.lst (chQ b ys)), .val (.str (sC w)), s4, s5] =
    .nx [.val TX, X1, .own (.lst (chQ b ys)), .val (.str (sC w)), .val (.bool (decide (w.getLast? = some (clC b)))), s5] := by
  have s1 := slD_c (l := w) (lo := some (-1)) (hi := none) (by omega)
  rw [cut_lst'] at s1
  have ng : negD (.int 1) = some (.int (-1)) := rfl
  have q1 : eqD (.str (sC w.getLast?.toList)) (.str ("]" : Str)) = some (.bool (decide (w.getLast?.toList = [93]))) := by rw [lit_sq2, eqD_c]
  have q2 : eqD (.str (sC w.getLast?.toList)) (.str (")" : Str)) = some (.bool (decide (w.getLast?.toList = [41]))) := by rw [lit_ro2, eqD_c]
  have q3 : eqD (.str (sC [opC b])) (.str ("[" : Str)) = some (.bool b) := by rw [lit_sq, eqD_c]; cases b <;> rfl
  have q4 : eqD (.str (sC [opC b])) (.str ("(" : Str)) = some (.bool (!b)) := by rw [lit_ro, eqD_c]; cases b <;> rfl
  have i0 : ixD (.list (chQ b ys)) (.int 0) = some (.str (sC [opC b])) := ixD_l (by omega) rfl
  have e : decide (w.getLast? = some (clC b)) = decide (w.getLast?.toList = [clC b]) := by
    refine decide_eq_decide.mpr ?_
    cases w.getLast? <;> simp
  rw [e]
  generalize w.getLast?.toList = L at *
  generalize chQ b ys = CH at *
  generalize sC L = LS at *
  generalize sC w = W at *
  generalize sC [opC b] = O at *
  cases b with
  | true =>
    have e2 : clC true = 93 := rfl
    rw [e2]
    by_cases g : L = [93]
    · rw [decide_eq_true g] at q1 ⊢
      simp [ng, s1, q1, q3, i0]
    · rw [decide_eq_false g] at q1 ⊢
      generalize decide (L = [41]) = z at *
      cases z <;> simp [ng, s1, q1, q2, q3, q4, i0]
  | false =>
    have e2 : clC false = 41 := rfl
    rw [e2]
    by_cases g : L = [41]
    · rw [decide_eq_true g] at q2 ⊢
      generalize decide (L = [93]) = z at *
      cases z <;> simp [ng, s1, q1, q2, q3, q4, i0]
    · rw [decide_eq_false g] at q2 ⊢
      generalize decide (L = [93]) = z at *
      cases z <;> simp [ng, s1, q1, q2, q3, q4, i0]
theorem lclo (TX : D) (ks : List Kc) (b : Bool) (ys w : List Nat) (hk : ks.length ≤ 9000) (hy : ys.length ≤ 9000) (hw : w.length ≤ 9000) (s4 s5 : S) : match cloS ks b ys w with
    | some s' => ∃ t3 t4 t5, lcR [.val TX, .own (.lst (ks.map kcQ)), .own (.lst (chQ b ys)), .val (.str (sC w)), s4, s5] = .nx (frq TX s' t3 t4 t5)
    | none => ∃ ρ, lcR [.val TX, .own (.lst (ks.map kcQ)), .own (.lst (chQ b ys)), .val (.str (sC w)), s4, s5] = .ret .none ρ := by
  have cl := closed_eq b TX .none (.own (.lst (ks.map kcQ))) ys w hw s4 s5
  have s2 := slD_c (l := w) (lo := none) (hi := some (-1)) (by omega)
  rw [cut_init'] at s2
  have ng : negD (.int 1) = some (.int (-1)) := rfl
  have dl : w.dropLast.length ≤ 9000 := by rw [List.length_dropLast]; omega
  have lc := chQ_app b ys
  have ap2 : ∀ e : D, appM (chQ b ys) [e] = some (chQ b ys ++ [e], .none) := fun e => appM_ok (by unfold chQ; rw [List.length_cons, List.length_map]; omega)
  have ap1 : ∀ e : D, appM (ks.map kcQ) [e] = some (ks.map kcQ ++ [e], .none) := fun e => appM_ok (by rw [List.length_map]; omega)
  unfold lcR
  rw [sSeq_ap, cl, seq_nx]
  unfold cloS
  by_cases g : w.getLast? = some (clC b)
  · rw [decide_eq_true g, if_pos g]
    have st := lstave_gen w.dropLast (by omega)
    unfold stvO at st
    cases h : stvP w.dropLast with
    | none =>
      rw [h] at st
      have st : f__law_stave _ = .ok .none := st
      refine ⟨[.val TX, .own (.lst (ks.map kcQ)), .own (.lst (chQ b ys)), .val (.str (sC w.dropLast)), .val (.bool true), .val .none], ?_⟩
      generalize chQ b ys = CH at *
      generalize ks.map kcQ = KQ at *
      generalize sC w.dropLast = W1 at *
      generalize sC w = W at *
      simp [ng, s2, st]
    | some x =>
      rw [h] at st
      have st : f__law_stave _ = .ok (.int (x : Int)) := st
      have lcx := lc x
      have a2 := ap2 (.int (x : Int))
      rw [lcx] at a2
      have a1 := ap1 (.list (chQ b (ys ++ [x])))
      have e : (ks ++ [(b, ys ++ [x])]).map kcQ = ks.map kcQ ++ [.list (chQ b (ys ++ [x]))] := by rw [List.map_append]; rfl
      refine ⟨.val (.str (sC w.dropLast)), .val (.bool true), .val (.int (x : Int)), ?_⟩
      show _ = Out.nx [.val TX, .own (.lst ((ks ++ [(b, ys ++ [x])]).map kcQ)), .val .none, .val (.str (sC w.dropLast)), .val (.bool true), .val (.int (x : Int))]
      rw [e]
      generalize chQ b (ys ++ [x]) = CH2 at *
      generalize chQ b ys = CH at *
      generalize ks.map kcQ ++ [.list CH2] = KQ2 at *
      generalize ks.map kcQ = KQ at *
      generalize sC w.dropLast = W1 at *
      generalize sC w = W at *
      generalize (x : Int) = xx at *
      simp [ng, s2, st, a1, a2]
  · rw [decide_eq_false g, if_neg g]
    have st := lstave_gen w (by omega)
    unfold stvO at st
    cases h : stvP w with
    | none =>
      rw [h] at st
      have st : f__law_stave _ = .ok .none := st
      refine ⟨[.val TX, .own (.lst (ks.map kcQ)), .own (.lst (chQ b ys)), .val (.str (sC w)), .val (.bool false), .val .none], ?_⟩
      generalize chQ b ys = CH at *
      generalize ks.map kcQ = KQ at *
      generalize sC w = W at *
      simp [st]
    | some x =>
      rw [h] at st
      have st : f__law_stave _ = .ok (.int (x : Int)) := st
      have lcx := lc x
      have a2 := ap2 (.int (x : Int))
      rw [lcx] at a2
      refine ⟨.val (.str (sC w)), .val (.bool false), .val (.int (x : Int)), ?_⟩
      show _ = Out.nx [.val TX, .own (.lst (ks.map kcQ)), .own (.lst (chQ b (ys ++ [x]))), .val (.str (sC w)), .val (.bool false), .val (.int (x : Int))]
      generalize chQ b (ys ++ [x]) = CH2 at *
      generalize chQ b ys = CH at *
      generalize ks.map kcQ = KQ at *
      generalize sC w = W at *
      generalize (x : Int) = xx at *
      simp [st, a2]
theorem lstp (TX : D) (s : RS) (w : List Nat) (hw : w.length ≤ 9000) (R : RSok 8000 s) (t3 t4 t5 : S) : match stpS s w with
    | some s' => ∃ u3 u4 u5, forB (gN 3) b1__law_read_chains (.str (sC w)) (frq TX s t3 t4 t5) = .nx (frq TX s' u3 u4 u5)
    | none => ∃ ρ, forB (gN 3) b1__law_read_chains (.str (sC w)) (frq TX s t3 t4 t5) = .ret .none ρ := by
  obtain ⟨ks, cur⟩ := s
  have fb : forB (gN 3) b1__law_read_chains (.str (sC w)) (frq TX (ks, cur) t3 t4 t5) = (sSeq lcA lcR) [.val TX, .own (.lst (ks.map kcQ)), curQ cur, .val (.str (sC w)), t4, t5] := by
    rw [← lc_is]
    generalize b1__law_read_chains = B
    simp
  rw [fb]
  cases cur with
  | some k =>
    obtain ⟨b, ys⟩ := k
    have le : (ks.flatMap Prod.snd).length + ys.length ≤ 8000 := R.le
    have lk : ks.length + 1 ≤ 8000 := R.lc
    have r := lclo TX ks b ys w (by omega) (by omega) hw t4 t5
    have a : lcA [.val TX, .own (.lst (ks.map kcQ)), .own (.lst (chQ b ys)), .val (.str (sC w)), t4, t5] = .nx [.val TX, .own (.lst (ks.map kcQ)), .own (.lst (chQ b ys)), .val (.str (sC w)), t4, t5] := by
      have isn : isD (.list (chQ b ys)) .none = some (.bool false) := rfl
      generalize chQ b ys = CH at *
      generalize ks.map kcQ = KQ at *
      generalize sC w = W at *
      simp [isn]
    rw [sSeq_ap]
    show match cloS ks b ys w with
      | some s' => ∃ u3 u4 u5, (lcA [.val TX, .own (.lst (ks.map kcQ)), .own (.lst (chQ b ys)), .val (.str (sC w)), t4, t5]).seq lcR = .nx (frq TX s' u3 u4 u5)
      | none => ∃ ρ, (lcA [.val TX, .own (.lst (ks.map kcQ)), .own (.lst (chQ b ys)), .val (.str (sC w)), t4, t5]).seq lcR = .ret .none ρ
    rw [a, seq_nx]
    exact r
  | none =>
    have lk : ks.length + 0 ≤ 8000 := R.lc
    have s1 := slD_c (l := w) (lo := none) (hi := some 1) (by omega)
    have s2 := slD_c (l := w) (lo := some 1) (hi := none) (by omega)
    rw [cutL_one] at s1
    rw [cutL_tail] at s2
    have nin : ∀ z : Str, ninLS (.str z) (.list [.str ("[" : Str), .str ("(" : Str)]) = some (.bool (!decide (z ∈ [("[" : Str), ("(" : Str)]))) := fun z => ninLS_l z [("[" : Str), ("(" : Str)]
    have isn : isD .none .none = some (.bool true) := rfl
    have bad : (∀ b v, w ≠ opC b :: v) → ∃ ρ, (sSeq lcA lcR) [.val TX, .own (.lst (ks.map kcQ)), .val .none, .val (.str (sC w)), t4, t5] = .ret .none ρ := fun h => by
      have nb := nin (sC (w.take 1))
      rw [decide_eq_false] at nb
      · refine ⟨[.val TX, .own (.lst (ks.map kcQ)), .val .none, .val (.str (sC w)), t4, t5], ?_⟩
        rw [sSeq_ap]
        generalize lcR = RR
        generalize ks.map kcQ = KQ at *
        generalize sC (w.take 1) = W1 at *
        generalize sC w = W at *
        simp [isn, s1, nb]
      · rw [lit_sq, lit_ro]
        intro z
        have k : ∀ y : Nat, sC (w.take 1) = sC [y] → ∃ v, w = y :: v := fun y e => by
          have e := sC_inj e
          cases w with
          | nil => cases e
          | cons a v => injection e with e; exact ⟨v, by rw [e]⟩
        rcases List.mem_cons.mp z with z | z
        · obtain ⟨v, e⟩ := k 91 z
          exact h true v e
        · rw [List.mem_singleton] at z
          obtain ⟨v, e⟩ := k 40 z
          exact h false v e
    have good : ∀ (b : Bool) (v : List Nat), w = opC b :: v → match cloS ks b [] v with
        | some s' => ∃ u3 u4 u5, (sSeq lcA lcR) [.val TX, .own (.lst (ks.map kcQ)), .val .none, .val (.str (sC w)), t4, t5] = .nx (frq TX s' u3 u4 u5)
        | none => ∃ ρ, (sSeq lcA lcR) [.val TX, .own (.lst (ks.map kcQ)), .val .none, .val (.str (sC w)), t4, t5] = .ret .none ρ := fun b v e => by
      subst e
      rw [List.length_cons] at hw
      have r := lclo TX ks b [] v (by omega) (Nat.zero_le _) (by omega) t4 t5
      have nb := nin (sC [opC b])
      rw [decide_eq_true] at nb
      · have i0 := ixD_c (l := opC b :: v) rfl (by rw [List.length_cons]; omega)
        have a : lcA [.val TX, .own (.lst (ks.map kcQ)), .val .none, .val (.str (sC (opC b :: v))), t4, t5] = .nx [.val TX, .own (.lst (ks.map kcQ)), .own (.lst (chQ b [])), .val (.str (sC v)), t4, t5] := by
          have s1 : slD (.str (sC (opC b :: v))) none (some 1) = some (.str (sC [opC b])) := s1
          have s2 : slD (.str (sC (opC b :: v))) (some 1) none = some (.str (sC v)) := s2
          show _ = Out.nx [.val TX, .own (.lst (ks.map kcQ)), .own (.lst [.str (sC [opC b])]), .val (.str (sC v)), t4, t5]
          generalize ks.map kcQ = KQ at *
          generalize sC [opC b] = W1 at *
          generalize sC v = W2 at *
          generalize sC (opC b :: v) = W at *
          simp [isn, s1, s2, nb, i0]
        rw [sSeq_ap, a, seq_nx]
        exact r
      · rw [lit_sq, lit_ro]
        cases b
        · exact List.mem_cons_of_mem _ List.mem_cons_self
        · exact List.mem_cons_self
    show match stpS (ks, none) w with
      | some s' => ∃ u3 u4 u5, (sSeq lcA lcR) [.val TX, .own (.lst (ks.map kcQ)), .val .none, .val (.str (sC w)), t4, t5] = .nx (frq TX s' u3 u4 u5)
      | none => ∃ ρ, (sSeq lcA lcR) [.val TX, .own (.lst (ks.map kcQ)), .val .none, .val (.str (sC w)), t4, t5] = .ret .none ρ
    cases w with
    | nil => exact bad fun b v e => by cases e
    | cons a v =>
      show match (if a = 91 then cloS ks true [] v else if a = 40 then cloS ks false [] v else none) with
        | some s' => ∃ u3 u4 u5, (sSeq lcA lcR) [.val TX, .own (.lst (ks.map kcQ)), .val .none, .val (.str (sC (a :: v))), t4, t5] = .nx (frq TX s' u3 u4 u5)
        | none => ∃ ρ, (sSeq lcA lcR) [.val TX, .own (.lst (ks.map kcQ)), .val .none, .val (.str (sC (a :: v))), t4, t5] = .ret .none ρ
      by_cases g1 : a = 91
      · rw [if_pos g1]
        exact good true v (by rw [g1]; rfl)
      · rw [if_neg g1]
        by_cases g2 : a = 40
        · rw [if_pos g2]
          exact good false v (by rw [g2]; rfl)
        · rw [if_neg g2]
          refine bad fun b u e => ?_
          injection e with e
          cases b
          · exact g2 e
          · exact g1 e
end Lw
set_option Elab.async false
set_option linter.all false
set_option maxRecDepth 100000
set_option maxHeartbeats 4000000
namespace Dn
open PySem L2 TL
/-- a chain's clasps, in the law's order -/
def clK (k : Kc) : List (Nat × Nat) := (if k.1 = true then [] else [clo1 k.2]) ++ cps k.2
theorem clK_perm : ∀ ks : List Kc, (ks.flatMap clK).Perm (allC (rowK ks) (rinK ks))
  | [] => List.Perm.refl _
  | (b, xs) :: ks => by
    have ih := clK_perm ks
    rw [List.flatMap_cons]
    cases b
    · have e1 : rowK ((false, xs) :: ks) = rowK ks := rfl
      have e2 : rinK ((false, xs) :: ks) = xs :: rinK ks := rfl
      rw [e1, e2]
      have p : ((rowK ks ++ xs :: rinK ks).flatMap cps ++ (xs :: rinK ks).map clo1).Perm (clo1 xs :: (cps xs ++ allC (rowK ks) (rinK ks))) := by
        rw [List.map_cons]
        refine List.perm_middle.trans (List.Perm.cons _ ?_)
        unfold allC
        rw [← List.append_assoc]
        refine List.Perm.append_right _ ?_
        have := (List.perm_middle (a := xs) (l₁ := rowK ks) (l₂ := rinK ks)).flatMap_right cps
        exact this
      refine List.Perm.trans ?_ p.symm
      show (clo1 xs :: (cps xs ++ ks.flatMap clK)).Perm _
      exact (ih.append_left _).cons _
    · have e1 : rowK ((true, xs) :: ks) = xs :: rowK ks := rfl
      have e2 : rinK ((true, xs) :: ks) = rinK ks := rfl
      rw [e1, e2]
      show (cps xs ++ ks.flatMap clK).Perm (((xs :: rowK ks) ++ rinK ks).flatMap cps ++ (rinK ks).map clo1)
      rw [List.cons_append, List.flatMap_cons, List.append_assoc]
      exact ih.append_left _
theorem dst_perm {n : Nat} {a b : List (Nat × Nat)} (p : a.Perm b) (D : Dst n b) : Dst n a :=
  ⟨(p.pairwise_iff (fun {x y} h => ⟨fun e => h.1 e.symm, fun e => h.2.2.1 e.symm, fun e => h.2.1 e.symm, fun e => h.2.2.2 e.symm⟩)).mpr D.1, fun q hq => D.2 q (p.mem_iff.mp hq)⟩
theorem fold_perm {n : Nat} {a b : List (Nat × Nat)} (p : a.Perm b) (D : Dst n b) (j : Nat) : a.foldl clasF id j = b.foldl clasF id j := by
  obtain ⟨f1, f2⟩ := put_all b id D
  obtain ⟨g1, g2⟩ := put_all a id (dst_perm p D)
  by_cases q : ∃ c ∈ b, j = c.1 ∨ j = c.2
  · obtain ⟨c, hc, h⟩ := q
    have hc2 := p.mem_iff.mpr hc
    rcases h with rfl | rfl
    · rw [(f1 c hc).1, (g1 c hc2).1]
    · rw [(f1 c hc).2, (g1 c hc2).2]
  · have o1 : ∀ c ∈ b, j ≠ c.1 ∧ j ≠ c.2 := fun c hc => ⟨fun e => q ⟨c, hc, .inl e⟩, fun e => q ⟨c, hc, .inr e⟩⟩
    rw [f2 j o1, g2 j fun c hc => o1 c (p.mem_iff.mp hc)]
theorem cps_get : ∀ (xs : List Nat) (i : Nat), i + 1 < xs.length → (cps xs)[i]? = some (far (xs.getD i 0), xs.getD (i + 1) 0)
  | [], i, h => by simp at h
  | [x], i, h => by simp at h
  | x :: y :: r, 0, h => rfl
  | x :: y :: r, i + 1, h => by
    show (cps (y :: r))[i]? = _
    rw [cps_get (y :: r) i (by simpa using h)]
    rfl
theorem cps_len : ∀ xs : List Nat, (cps xs).length = xs.length - 1
  | [] => rfl
  | [x] => rfl
  | x :: y :: r => by
    show (cps (y :: r)).length + 1 = _
    rw [cps_len (y :: r)]
    rfl
/-- the clasps put behind j turns -/
def pfK (k : Kc) (j : Nat) : List (Nat × Nat) := (if k.1 = true then [] else [clo1 k.2].take j) ++ (cps k.2).take (j - 1)
theorem pfK_all {k : Kc} (h : k.2 ≠ []) : pfK k k.2.length = clK k := by
  unfold pfK clK
  have := List.length_pos_iff.mpr h
  rw [List.take_of_length_le (l := cps k.2) (by rw [cps_len]; omega), List.take_of_length_le (l := [clo1 k.2]) (by rw [List.length_singleton]; omega)]
theorem pfK_succ {k : Kc} {i : Nat} (h : i + 1 < k.2.length) : pfK k (i + 2) = pfK k (i + 1) ++ [(far (k.2.getD i 0), k.2.getD (i + 1) 0)] := by
  unfold pfK
  have g := cps_get k.2 i h
  rw [List.take_of_length_le (l := [clo1 k.2]) (by rw [List.length_singleton]; omega), List.take_of_length_le (l := [clo1 k.2]) (by rw [List.length_singleton]; omega), show i + 2 - 1 = i + 1 by omega, show i + 1 - 1 = i by omega, List.take_add_one, g]
  rw [← List.append_assoc]
  rfl
end Dn
namespace Lw
open PySem L2 Dn TL
theorem lgo (TX : D) : ∀ (ws : List (List Nat)) (k : Nat) (s : RS) (t3 t4 t5 : S), (∀ w ∈ ws, w.length ≤ 9000) → RSok k s → k + ws.length ≤ 8000 →
    match goS ws s with
    | some s' => ∃ u3 u4 u5, loopFor (forB (gN 3) b1__law_read_chains) (ws.map fun w => .str (sC w)) (frq TX s t3 t4 t5) = .nx (frq TX s' u3 u4 u5)
    | none => ∃ ρ, loopFor (forB (gN 3) b1__law_read_chains) (ws.map fun w => .str (sC w)) (frq TX s t3 t4 t5) = .ret .none ρ
  | [], k, s, t3, t4, t5, _, _, _ => ⟨t3, t4, t5, rfl⟩
  | w :: ws, k, s, t3, t4, t5, hw, R, hk => by
    rw [List.length_cons] at hk
    have t := lstp TX s w (hw w List.mem_cons_self) (rs_mono R (by omega)) t3 t4 t5
    have eg : goS (w :: ws) s = match stpS s w with
      | some s' => goS ws s'
      | none => none := rfl
    rw [eg]
    cases h : stpS s w with
    | none =>
      rw [h] at t
      obtain ⟨ρ, t⟩ := t
      refine ⟨ρ, ?_⟩
      rw [List.map_cons]
      show (match forB (gN 3) b1__law_read_chains (.str (sC w)) (frq TX s t3 t4 t5) with
        | .nx ρ' => loopFor (forB (gN 3) b1__law_read_chains) _ ρ'
        | .cont ρ' => loopFor (forB (gN 3) b1__law_read_chains) _ ρ'
        | .brk ρ' => .nx ρ'
        | o => o) = _
      rw [t]
    | some s' =>
      rw [h] at t
      obtain ⟨u3, u4, u5, t⟩ := t
      have ih := lgo TX ws (k + 1) s' u3 u4 u5 (fun v hv => hw v (List.mem_cons_of_mem _ hv)) (stpS_ok R h) (by omega)
      have lc : loopFor (forB (gN 3) b1__law_read_chains) ((w :: ws).map fun w => .str (sC w)) (frq TX s t3 t4 t5) = loopFor (forB (gN 3) b1__law_read_chains) (ws.map fun w => .str (sC w)) (frq TX s' u3 u4 u5) := loop_nx t
      show match goS ws s' with
        | some s' => ∃ u3 u4 u5, loopFor (forB (gN 3) b1__law_read_chains) ((w :: ws).map fun w => .str (sC w)) (frq TX s t3 t4 t5) = .nx (frq TX s' u3 u4 u5)
        | none => ∃ ρ, loopFor (forB (gN 3) b1__law_read_chains) ((w :: ws).map fun w => .str (sC w)) (frq TX s t3 t4 t5) = .ret .none ρ
      rw [lc]
      exact ih
def parO (o : Option (List Kc)) : D := match o with
  | some ks => .list (ks.map kcQ)
  | none => .none
theorem lchains_eq (cs : List Nat) (hl : cs.length ≤ 7990) : f__law_read_chains [.str (sC cs)] = .ok (parO (parP (wsp 32 cs))) := by
  obtain ⟨wl1, wl2⟩ := wsp_len 32 cs
  have sp := splitD_c (y := 32) (by decide) (wsp_ne 32 cs) (wsp_free 32 cs) (by rw [wsp_join]; omega)
  rw [wsp_join, ← lit_sp] at sp
  have R0 : RSok 0 (([], none) : RS) := ⟨fun c hc => (by cases hc), fun c hc => (by cases hc), Nat.le_refl _, Nat.le_refl _⟩
  have run := lgo (.str (sC cs)) (wsp 32 cs) 0 ([], none) .none .none .none (fun w hw => by have := wl2 w hw; omega) R0 (by omega)
  unfold parP
  cases h : goS (wsp 32 cs) ([], none) with
  | none =>
    rw [h] at run
    obtain ⟨ρ, run⟩ := run
    have run : loopFor (forB (gN 3) b1__law_read_chains) ((wsp 32 cs).map fun w => .str (sC w)) [.val (.str (sC cs)), .own (.lst []), .val .none, .none, .none, .none] = _ := run
    show f__law_read_chains [.str (sC cs)] = .ok .none
    generalize (wsp 32 cs).map (fun w => PyData.str (sC w)) = W at *
    generalize sC cs = C at *
    simp [f__law_read_chains, mFn, g__law_read_chains, start', sp, run, -forB_ap]
  | some s =>
    rw [h] at run
    obtain ⟨u3, u4, u5, run⟩ := run
    obtain ⟨ks, cur⟩ := s
    have run : loopFor (forB (gN 3) b1__law_read_chains) ((wsp 32 cs).map fun w => .str (sC w)) [.val (.str (sC cs)), .own (.lst []), .val .none, .none, .none, .none] = .nx [.val (.str (sC cs)), .own (.lst (ks.map kcQ)), curQ cur, u3, u4, u5] := run
    cases cur with
    | none =>
      have run : loopFor (forB (gN 3) b1__law_read_chains) ((wsp 32 cs).map fun w => .str (sC w)) [.val (.str (sC cs)), .own (.lst []), .val .none, .none, .none, .none] = .nx [.val (.str (sC cs)), .own (.lst (ks.map kcQ)), .val .none, u3, u4, u5] := run
      show f__law_read_chains [.str (sC cs)] = .ok (.list (ks.map kcQ))
      have isn : isnD .none .none = some (.bool false) := rfl
      generalize (wsp 32 cs).map (fun w => PyData.str (sC w)) = W at *
      generalize ks.map kcQ = KQ at *
      generalize sC cs = C at *
      simp [f__law_read_chains, mFn, g__law_read_chains, start', sp, run, isn, -forB_ap]
    | some k =>
      have run : loopFor (forB (gN 3) b1__law_read_chains) ((wsp 32 cs).map fun w => .str (sC w)) [.val (.str (sC cs)), .own (.lst []), .val .none, .none, .none, .none] = .nx [.val (.str (sC cs)), .own (.lst (ks.map kcQ)), .own (.lst (chQ k.1 k.2)), u3, u4, u5] := run
      show f__law_read_chains [.str (sC cs)] = .ok .none
      have isn : isnD (.list (chQ k.1 k.2)) .none = some (.bool true) := rfl
      generalize (wsp 32 cs).map (fun w => PyData.str (sC w)) = W at *
      generalize ks.map kcQ = KQ at *
      generalize chQ k.1 k.2 = CH at *
      generalize sC cs = C at *
      simp [f__law_read_chains, mFn, g__law_read_chains, start', sp, run, isn, -forB_ap]
theorem sts_loop (s0 s1 s4 s5 s6 : S) : ∀ (ks : List Kc) (A : List Nat) (s3 : S), A.length + (ks.flatMap Prod.snd).length ≤ 100000 → ∃ t3, loopFor (forB (gN 3) b1__law_read) (ks.map kcQ) [s0, s1, .own (.lst ((A.map fun i : Nat => (i : Int)).map .int)), s3, s4, s5, s6, .none] =
    .nx [s0, s1, .own (.lst (((A ++ stvK ks).map fun i : Nat => (i : Int)).map .int)), t3, s4, s5, s6, .none]
  | [], A, s3, _ => ⟨s3, by
    have e : stvK [] = [] := rfl
    rw [e, List.append_nil]
    rfl⟩
  | (b, xs) :: ks, A, s3, h => by
    rw [List.flatMap_cons, List.length_append] at h
    obtain ⟨t3, ih⟩ := sts_loop s0 s1 s4 s5 s6 ks (A ++ stsL xs) (.val (kcQ (b, xs))) (by rw [List.length_append]; unfold stsL; rw [List.length_map]; have : xs.length = (Prod.snd (b, xs)).length := rfl; omega)
    refine ⟨t3, ?_⟩
    have e : A ++ stvK ((b, xs) :: ks) = A ++ stsL xs ++ stvK ks := by
      unfold stvK stsL
      rw [List.flatMap_cons, List.map_append, List.append_assoc]
    rw [List.map_cons, e]
    refine (loop_nx ?_).trans ih
    have sl : slD (kcQ (b, xs)) (some 1) none = some (.list (xs.map fun i : Nat => .int (i : Int))) := by
      show slD (.list (chQ b xs)) _ _ = _
      rw [slD_l, show (1 : Int) = ((1 : Nat) : Int) from rfl, cutL_from]
      rfl
    have it : itemsD (.list (xs.map fun i : Nat => PyData.int (i : Int))) = .ok (xs.map fun i : Nat => .int (i : Int)) := rfl
    have lc : ∀ (q : D), loopLc (gN 7) tYesF (e2 divD (eVarF 7) (eC (.int 2))) [7] [s0, s1, .own (.lst ((A.map fun i : Nat => (i : Int)).map .int)), .val q, s4, s5, s6, .none] (xs.map fun i : Nat => .int (i : Int)) [] = .ok ((stsL xs).map fun i : Nat => .int (i : Int)) := fun q => by
      have := lc_map0 (fun i : Nat => PyData.int (i : Int)) (fun i : Nat => PyData.int ((i / 2 : Nat) : Int)) (tg := gN 7) (e := e2 divD (eVarF 7) (eC (.int 2))) (vs := [7]) (ρ := [s0, s1, .own (.lst ((A.map fun i : Nat => (i : Int)).map .int)), .val q, s4, s5, s6, .none]) xs (by have : xs.length = (Prod.snd (b, xs)).length := rfl; omega) fun i _ => by
        have dv : divD (.int (i : Int)) (.int 2) = some (.int ((i / 2 : Nat) : Int)) := divD_pos (by decide) (by decide)
        refine ⟨[s0, s1, .own (.lst ((A.map fun i : Nat => (i : Int)).map .int)), .val q, s4, s5, s6, .val (.int (i : Int))], rfl, ?_⟩
        generalize (A.map fun i : Nat => (i : Int)).map PyData.int = AA at *
        generalize ((i / 2 : Nat) : Int) = h2 at *
        simp [dv, -divD_pos]
      rw [this]
      unfold stsL
      rw [List.map_map]
      rfl
    have ex : extM ((A.map fun i : Nat => (i : Int)).map .int) [.list ((stsL xs).map fun i : Nat => .int (i : Int))] = some (((A ++ stsL xs).map fun i : Nat => (i : Int)).map .int, .none) := by
      rw [extM_ok (by rw [List.length_map, List.length_map, List.length_map]; unfold stsL; rw [List.length_map]; have : xs.length = (Prod.snd (b, xs)).length := rfl; omega), List.map_append, List.map_append, List.map_map, List.map_map]
      rfl
    have lc := lc (kcQ (b, xs))
    generalize ((A ++ stsL xs).map fun i : Nat => (i : Int)).map PyData.int = A2 at *
    generalize (A.map fun i : Nat => (i : Int)).map PyData.int = AA at *
    generalize (stsL xs).map (fun i : Nat => PyData.int (i : Int)) = SX at *
    generalize xs.map (fun i : Nat => PyData.int (i : Int)) = XX at *
    generalize kcQ (b, xs) = KQ at *
    simp [b1__law_read, sl, it, lc, ex, -extM_ok]
end Lw
set_option Elab.async false
set_option linter.all false
set_option maxRecDepth 100000
set_option maxHeartbeats 4000000
namespace Lw
open PySem L2 Dn TL
theorem chQ_get (b : Bool) (xs : List Nat) (i : Nat) (h : i < xs.length) : ixD (.list (chQ b xs)) (.int ((i : Int) + 1)) = some (.int ((xs.getD i 0 : Nat) : Int)) := by
  refine ixD_l (by omega) ?_
  rw [show ((i : Int) + 1).toNat = i + 1 by omega]
  show (xs.map fun i : Nat => PyData.int (i : Int))[i]? = _
  rw [List.getElem?_map, List.getElem?_eq_getElem h, List.getD_eq_getElem?_getD, List.getElem?_eq_getElem h]
  rfl
theorem chQ_last (b : Bool) (xs : List Nat) (h : xs ≠ []) : ixD (.list (chQ b xs)) (.int (-1)) = some (.int ((xs.getLastD 0 : Nat) : Int)) := by
  have e : chQ b xs = (.str (sC [opC b]) :: (xs.dropLast.map fun i : Nat => .int (i : Int))) ++ [.int ((xs.getLastD 0 : Nat) : Int)] := by
    have e2 : xs = xs.dropLast ++ [xs.getLastD 0] := by
      rw [List.getLastD_eq_getLast?, List.getLast?_eq_some_getLast h]
      exact (List.dropLast_concat_getLast h).symm
    unfold chQ
    rw [List.cons_append, ← List.map_singleton (f := fun i : Nat => PyData.int (i : Int)), ← List.map_append, ← e2]
  rw [e]
  exact ix_last
/-- one clasp is put -/
theorem put2 {n : Nat} {c : Nat → Nat} {p : Nat × Nat} (h1 : p.1 < n) (h2 : p.2 < n) : setL ((tab n c).map .int) (.int (p.1 : Int)) (.int (p.2 : Int)) = some ((tab n fun j => if j = p.1 then p.2 else c j).map .int) ∧
    setL ((tab n fun j => if j = p.1 then p.2 else c j).map .int) (.int (p.2 : Int)) (.int (p.1 : Int)) = some ((tab n (clasF c p)).map .int) :=
  ⟨set_tab h1, set_tab (m := fun j => if j = p.1 then p.2 else c j) (v := p.1) h2⟩
section
variable {n : Nat} (ev : n % 2 = 0)
include ev
theorem one_turn (b : Bool) (xs : List Nat) (hx : ∀ x ∈ xs, x < n) (ne : xs ≠ []) (c : Nat → Nat) (i : Nat) (hi : i < xs.length) (s0 s1 s2 s5 s6 s7 : S) : ∃ t6, forB (gN 5) b2__law_read (.int ((i : Int) + 1)) [s0, s1, s2, .val (.list (chQ b xs)), .own (.lst ((tab n ((pfK (b, xs) i).foldl clasF c)).map .int)), s5, s6, s7] =
    .nx [s0, s1, s2, .val (.list (chQ b xs)), .own (.lst ((tab n ((pfK (b, xs) (i + 1)).foldl clasF c)).map .int)), .val (.int ((i : Int) + 1)), t6, s7] := by
  have gi := chQ_get b xs i hi
  have xi : xs.getD i 0 < n := hx _ (by rw [List.getD_eq_getElem?_getD, List.getElem?_eq_getElem hi]; exact List.getElem_mem hi)
  have xl : xs.getLastD 0 < n := hx _ (by rw [List.getLastD_eq_getLast?, List.getLast?_eq_some_getLast ne]; exact List.getLast_mem ne)
  have ll := chQ_last b xs ne
  have i0 : ixD (.list (chQ b xs)) (.int 0) = some (.str (sC [opC b])) := ixD_l (by omega) rfl
  have q4 : eqD (.str (sC [opC b])) (.str ("(" : Str)) = some (.bool (!b)) := by rw [lit_ro, eqD_c]; cases b <;> rfl
  have ng : negD (.int 1) = some (.int (-1)) := rfl
  cases i with
  | zero =>
    have e0 : pfK (b, xs) 0 = [] := by unfold pfK; cases b <;> rfl
    rw [e0]
    have fl := law_far_eq (xs.getLastD 0)
    cases b with
    | true =>
      have e1 : pfK (true, xs) (0 + 1) = [] := rfl
      rw [e1]
      refine ⟨.val (.int ((far (xs.getLastD 0) : Nat) : Int)), ?_⟩
      have g : ¬ ((0 : Nat) : Int) + 1 > 1 := by omega
      have g : ¬ (1 : Int) < ((0 : Nat) : Int) + 1 := by omega
      generalize ((far (xs.getLastD 0) : Nat) : Int) = fx at *
      generalize ((xs.getLastD 0 : Nat) : Int) = lx at *
      generalize ((xs.getD 0 0 : Nat) : Int) = x0 at *
      generalize chQ true xs = CH at *
      generalize ((0 : Nat) : Int) + 1 = k1 at *
      generalize (tab n (([] : List (Nat × Nat)).foldl clasF c)).map PyData.int = T0 at *
      generalize sC [opC true] = O at *
      simp [b2__law_read, g, ng, ll, fl, i0, q4, -eqD_str]
    | false =>
      have e1 : pfK (false, xs) (0 + 1) = [(far (xs.getLastD 0), xs.headD 0)] := rfl
      rw [e1]
      have eh : xs.headD 0 = xs.getD 0 0 := by cases xs <;> rfl
      rw [eh]
      obtain ⟨p1, p2⟩ := put2 (n := n) (c := ([] : List (Nat × Nat)).foldl clasF c) (p := (far (xs.getLastD 0), xs.getD 0 0)) (far_lt ev xl) xi
      refine ⟨.val (.int ((far (xs.getLastD 0) : Nat) : Int)), ?_⟩
      have g : ¬ (1 : Int) < ((0 : Nat) : Int) + 1 := by omega
      have ef : [(far (xs.getLastD 0), xs.getD 0 0)].foldl clasF c = clasF (([] : List (Nat × Nat)).foldl clasF c) (far (xs.getLastD 0), xs.getD 0 0) := rfl
      rw [ef]
      have p1 : setL ((tab n (([] : List (Nat × Nat)).foldl clasF c)).map .int) (.int ((far (xs.getLastD 0) : Nat) : Int)) (.int ((xs.getD 0 0 : Nat) : Int)) = _ := p1
      have p2 : setL _ (.int ((xs.getD 0 0 : Nat) : Int)) (.int ((far (xs.getLastD 0) : Nat) : Int)) = _ := p2
      generalize (tab n (clasF (([] : List (Nat × Nat)).foldl clasF c) (far (xs.getLastD 0), xs.getD 0 0))).map PyData.int = T2 at *
      generalize (tab n fun j => if j = (far (xs.getLastD 0), xs.getD 0 0).1 then (far (xs.getLastD 0), xs.getD 0 0).2 else ([] : List (Nat × Nat)).foldl clasF c j).map PyData.int = T1 at *
      generalize (tab n (([] : List (Nat × Nat)).foldl clasF c)).map PyData.int = T0 at *
      generalize ((far (xs.getLastD 0) : Nat) : Int) = fx at *
      generalize ((xs.getLastD 0 : Nat) : Int) = lx at *
      generalize ((xs.getD 0 0 : Nat) : Int) = x0 at *
      generalize chQ false xs = CH at *
      generalize ((0 : Nat) : Int) + 1 = k1 at *
      generalize sC [opC false] = O at *
      simp [b2__law_read, g, ng, ll, fl, i0, q4, gi, p1, p2, -eqD_str]
  | succ i =>
    have gp := chQ_get b xs i (by omega)
    have fl := law_far_eq (xs.getD i 0)
    have xp : xs.getD i 0 < n := hx _ (by rw [List.getD_eq_getElem?_getD, List.getElem?_eq_getElem (by omega)]; exact List.getElem_mem (by omega))
    have e1 : pfK (b, xs) (i + 1 + 1) = pfK (b, xs) (i + 1) ++ [(far (xs.getD i 0), xs.getD (i + 1) 0)] := pfK_succ (k := (b, xs)) hi
    rw [e1, List.foldl_append]
    have ef : ∀ d : Nat → Nat, [(far (xs.getD i 0), xs.getD (i + 1) 0)].foldl clasF d = clasF d (far (xs.getD i 0), xs.getD (i + 1) 0) := fun _ => rfl
    rw [ef]
    generalize (pfK (b, xs) (i + 1)).foldl clasF c = d at *
    obtain ⟨p1, p2⟩ := put2 (n := n) (c := d) (p := (far (xs.getD i 0), xs.getD (i + 1) 0)) (far_lt ev xp) xi
    refine ⟨.val (.int ((far (xs.getD i 0) : Nat) : Int)), ?_⟩
    have g : (1 : Int) < ((i + 1 : Nat) : Int) + 1 := by omega
    have sb : ((i + 1 : Nat) : Int) + 1 - 1 = (i : Int) + 1 := by omega
    have p1 : setL ((tab n d).map .int) (.int ((far (xs.getD i 0) : Nat) : Int)) (.int ((xs.getD (i + 1) 0 : Nat) : Int)) = _ := p1
    have p2 : setL _ (.int ((xs.getD (i + 1) 0 : Nat) : Int)) (.int ((far (xs.getD i 0) : Nat) : Int)) = _ := p2
    generalize (tab n (clasF d (far (xs.getD i 0), xs.getD (i + 1) 0))).map PyData.int = T2 at *
    generalize (tab n fun j => if j = (far (xs.getD i 0), xs.getD (i + 1) 0).1 then (far (xs.getD i 0), xs.getD (i + 1) 0).2 else d j).map PyData.int = T1 at *
    generalize (tab n d).map PyData.int = T0 at *
    generalize ((far (xs.getD i 0) : Nat) : Int) = fx at *
    generalize ((xs.getD (i + 1) 0 : Nat) : Int) = x1 at *
    generalize ((xs.getD i 0 : Nat) : Int) = x0 at *
    generalize chQ b xs = CH at *
    generalize (i : Int) + 1 = k0 at *
    generalize ((i + 1 : Nat) : Int) + 1 = k1 at *
    simp [b2__law_read, g, sb, gp, fl, gi, p1, p2]
theorem chain_put (b : Bool) (xs : List Nat) (hx : ∀ x ∈ xs, x < n) (ne : xs ≠ []) (hl : xs.length ≤ 100000) (c : Nat → Nat) (s0 s1 s2 s3 s5 s6 s7 : S) : ∃ t5 t6, forB (gN 3) b3__law_read (kcQ (b, xs)) [s0, s1, s2, s3, .own (.lst ((tab n c).map .int)), s5, s6, s7] =
    .nx [s0, s1, s2, .val (kcQ (b, xs)), .own (.lst ((tab n ((clK (b, xs)).foldl clasF c)).map .int)), t5, t6, s7] := by
  have lp : ∃ t5 t6, loopFor (forB (gN 5) b2__law_read) (rngL ((1 : Nat) : Int) ((xs.length + 1 : Nat) : Int)) [s0, s1, s2, .val (.list (chQ b xs)), .own (.lst ((tab n c).map .int)), s5, s6, s7] =
      .nx [s0, s1, s2, .val (.list (chQ b xs)), .own (.lst ((tab n ((clK (b, xs)).foldl clasF c)).map .int)), t5, t6, s7] := by
    have e0 : pfK (b, xs) 0 = [] := by unfold pfK; cases b <;> rfl
    refine for_inv (Post := fun o => ∃ t5 t6, o = .nx [s0, s1, s2, .val (.list (chQ b xs)), .own (.lst ((tab n ((clK (b, xs)).foldl clasF c)).map .int)), t5, t6, s7])
      (fun i ρ => ∃ t5 t6, ρ = [s0, s1, s2, .val (.list (chQ b xs)), .own (.lst ((tab n ((pfK (b, xs) i).foldl clasF c)).map .int)), t5, t6, s7]) ⟨s5, s6, by rw [e0]; rfl⟩ ?_ ?_
    · rintro i d ρ hd ⟨t5, t6, rfl⟩
      rw [rng_nat2, List.getElem?_map] at hd
      obtain ⟨j, hj, rfl⟩ := Option.map_eq_some_iff.mp hd
      obtain ⟨hl, e⟩ := List.getElem?_eq_some_iff.mp hj
      rw [List.getElem_range] at e
      subst e
      rw [List.length_range] at hl
      obtain ⟨u6, t⟩ := one_turn ev b xs hx ne c i (by omega) s0 s1 s2 t5 t6 s7
      rw [show ((1 + i : Nat) : Int) = (i : Int) + 1 by omega, t]
      exact ⟨_, _, rfl⟩
    · rintro ρ ⟨t5, t6, rfl⟩
      rw [rng_nat2, List.length_map, List.length_range, show xs.length + 1 - 1 = xs.length by omega, pfK_all (k := (b, xs)) ne]
      exact ⟨_, _, rfl⟩
  obtain ⟨t5, t6, lp⟩ := lp
  refine ⟨t5, t6, ?_⟩
  have ln : lenD [.list (chQ b xs)] = some (.int ((xs.length + 1 : Nat) : Int)) := by
    rw [lenD_l]
    unfold chQ
    rw [List.length_cons, List.length_map]
  have rg : rngM2 [.int 1, .int ((xs.length + 1 : Nat) : Int)] = .ok (rngL ((1 : Nat) : Int) ((xs.length + 1 : Nat) : Int)) := rngM2_ok (in62 (by decide)) (in62 (by omega))
  show forB (gN 3) b3__law_read (.list (chQ b xs)) _ = Out.nx [s0, s1, s2, .val (.list (chQ b xs)), _, _, _, _]
  generalize (tab n ((clK (b, xs)).foldl clasF c)).map PyData.int = T2 at *
  generalize (tab n c).map PyData.int = T0 at *
  generalize rngL ((1 : Nat) : Int) ((xs.length + 1 : Nat) : Int) = RG at *
  generalize ((xs.length + 1 : Nat) : Int) = m at *
  generalize chQ b xs = CH at *
  simp [b3__law_read, ln, rg, lp, -forB_ap, -lenD_l]
  simp [ln, rg, lp, -lenD_l]
theorem chains_put (s0 s1 s2 s7 : S) : ∀ (ks : List Kc) (c : Nat → Nat) (s3 s5 s6 : S), (∀ k ∈ ks, k.2 ≠ [] ∧ k.2.length ≤ 100000 ∧ ∀ x ∈ k.2, x < n) → ∃ t3 t5 t6, loopFor (forB (gN 3) b3__law_read) (ks.map kcQ) [s0, s1, s2, s3, .own (.lst ((tab n c).map .int)), s5, s6, s7] =
    .nx [s0, s1, s2, t3, .own (.lst ((tab n ((ks.flatMap clK).foldl clasF c)).map .int)), t5, t6, s7]
  | [], c, s3, s5, s6, _ => ⟨s3, s5, s6, rfl⟩
  | (b, xs) :: ks, c, s3, s5, s6, h => by
    obtain ⟨h1, h2, h3⟩ := h (b, xs) List.mem_cons_self
    obtain ⟨t5, t6, t⟩ := chain_put ev b xs h3 h1 h2 c s0 s1 s2 s3 s5 s6 s7
    obtain ⟨u3, u5, u6, ih⟩ := chains_put s0 s1 s2 s7 ks ((clK (b, xs)).foldl clasF c) (.val (kcQ (b, xs))) t5 t6 fun k hk => h k (List.mem_cons_of_mem _ hk)
    refine ⟨u3, u5, u6, ?_⟩
    rw [List.map_cons, List.flatMap_cons, List.foldl_append]
    exact (loop_nx t).trans ih
end
end Lw
set_option Elab.async false
set_option linter.all false
set_option maxRecDepth 100000
set_option maxHeartbeats 4000000
namespace Lw
open PySem L2 Dn TL
def readL (cs : List Nat) : D := match readP cs with
  | some ks => .list ((tab (2 * sK ks) (mK ks)).map .int)
  | none => .none
theorem lread_eq (cs : List Nat) (hl : cs.length ≤ 7990) : f__law_read [.str (sC cs)] = .ok (readL cs) := by
  have q0 : eqD (.str (sC cs)) (.str ("." : Str)) = some (.bool (decide (cs = [46]))) := by
    rw [show ("." : Str) = sC [46] by decide +kernel, eqD_c]
  have lc := lchains_eq cs hl
  unfold readL readP
  by_cases c0 : cs = [46]
  · rw [if_pos c0]
    rw [decide_eq_true c0] at q0
    show f__law_read [.str (sC cs)] = .ok (.list [])
    generalize sC cs = C at *
    simp [f__law_read, mFn, g__law_read, start', q0, -eqD_str]
  · rw [if_neg c0]
    rw [decide_eq_false c0] at q0
    cases h : parP (wsp 32 cs) with
    | none =>
      rw [h] at lc
      have lc : f__law_read_chains [.str (sC cs)] = .ok .none := lc
      have isn : isD .none .none = some (.bool true) := rfl
      show f__law_read [.str (sC cs)] = .ok .none
      generalize sC cs = C at *
      simp [f__law_read, mFn, g__law_read, start', q0, lc, isn, -eqD_str]
    | some ks =>
      rw [h] at lc
      have lc : f__law_read_chains [.str (sC cs)] = .ok (.list (ks.map kcQ)) := lc
      have isn : isD (.list (ks.map kcQ)) .none = some (.bool false) := rfl
      obtain ⟨wl1, _⟩ := wsp_len 32 cs
      have R := parP_ok h
      have le : (ks.flatMap Prod.snd).length + 0 ≤ (wsp 32 cs).length := R.le
      have it : itemsD (.list (ks.map kcQ)) = .ok (ks.map kcQ) := rfl
      obtain ⟨t3, l1⟩ := sts_loop (.val (.str (sC cs))) (.val (.list (ks.map kcQ))) .none .none .none ks [] .none (by rw [List.length_nil]; omega)
      rw [List.nil_append] at l1
      have l1 : loopFor (forB (gN 3) b1__law_read) (ks.map kcQ) [.val (.str (sC cs)), .val (.list (ks.map kcQ)), .own (.lst []), .none, .none, .none, .none, .none] = _ := l1
      have sl : (stvK ks).length ≤ 8000 := by
        unfold stvK stsL
        rw [List.length_map]
        omega
      have ln : lenD [.list (((stvK ks).map fun i : Nat => (i : Int)).map .int)] = some (.int ((stvK ks).length : Int)) := by rw [lenD_l, List.length_map, List.length_map]
      have so : sortUD [.list (((stvK ks).map fun i : Nat => (i : Int)).map .int)] = some ((sortI ((stvK ks).map fun i : Nat => (i : Int))).map .int) := sortUD_l
      have rg := rg_idx (stvK ks).length (by omega)
      have ne := neD_l gr_int (by decide) (sortI ((stvK ks).map fun i : Nat => (i : Int))) (idxI (stvK ks).length)
      by_cases g : okK ks = true
      · obtain ⟨h40, p⟩ := okK_perm g
        have pI : ((stvK ks).map fun i : Nat => (i : Int)).Perm (idxI (stvK ks).length) := p.map _
        rw [sort_idx pI, decide_eq_true rfl] at ne
        rw [sort_idx pI] at so
        have n40 : ¬ (40 : Int) < ((stvK ks).length : Int) := by
          have : sK ks = (stvK ks).length := rfl
          omega
        have ml : mulD (.int 2) (.int ((stvK ks).length : Int)) = some (.int ((2 * sK ks : Nat) : Int)) := by
          rw [mulD_small (by decide)]
          rfl
        have rd : rgLD 0 ((2 * sK ks : Nat) : Int) = .ok ((tab (2 * sK ks) id).map .int) := by
          rw [rgLD_ok (by show _ ∧ _; omega), rng_nat]
          unfold tab
          rw [List.map_map]
          rfl
        have cl : ∀ k ∈ ks, k.2 ≠ [] ∧ k.2.length ≤ 100000 ∧ ∀ x ∈ k.2, x < 2 * sK ks := fun k hk => by
          have sub : ∀ x ∈ k.2, x ∈ ks.flatMap Prod.snd := fun x hx => List.mem_flatMap.mpr ⟨k, hk, hx⟩
          refine ⟨R.ne k hk, ?_, fun x hx => ?_⟩
          · have : ∀ cs : List Kc, k ∈ cs → k.2.length ≤ (cs.flatMap Prod.snd).length := by
              intro cs
              induction cs with
              | nil => intro h; cases h
              | cons c cs ih =>
                intro h
                rw [List.flatMap_cons, List.length_append]
                rcases List.mem_cons.mp h with h | h
                · rw [← h]; omega
                · have := ih h; omega
            have := this ks hk
            omega
          · have : x / 2 ∈ List.range (sK ks) := p.mem_iff.mp (List.mem_map_of_mem (sub x hx))
            have := List.mem_range.mp this
            omega
        obtain ⟨u3, u5, u6, l3⟩ := chains_put (n := 2 * sK ks) (by omega) (.val (.str (sC cs))) (.val (.list (ks.map kcQ))) (.val (.list (((stvK ks).map fun i : Nat => (i : Int)).map .int))) .none ks id t3 .none .none cl
        obtain ⟨C, I⟩ := readK_cover R.ne g
        have n2 : ∀ c ∈ rowK ks ++ rinK ks, c ≠ [] := fun c hc => by
          obtain ⟨k, hk, rfl⟩ := List.mem_map.mp ((kc_perm ks).mem_iff.mp hc)
          exact R.ne k hk
        have D := cg_dst n2 ((kc_st ks).trans p)
        have et : tab (2 * sK ks) ((ks.flatMap clK).foldl clasF id) = tab (2 * sK ks) (mK ks) := tab_eq fun j _ => fold_perm (clK_perm ks) D j
        rw [et] at l3
        show f__law_read [.str (sC cs)] = .ok (match (if okK ks = true then some ks else none : Option (List Kc)) with
          | some ks => .list ((tab (2 * sK ks) (mK ks)).map .int)
          | none => .none)
        rw [if_pos g]
        show f__law_read [.str (sC cs)] = .ok (.list ((tab (2 * sK ks) (mK ks)).map .int))
        generalize (tab (2 * sK ks) (mK ks)).map PyData.int = T2 at *
        generalize (tab (2 * sK ks) id).map PyData.int = T0 at *
        generalize (idxI (stvK ks).length).map PyData.int = IX at *
        generalize ((stvK ks).map fun i : Nat => (i : Int)).map PyData.int = SV at *
        generalize ks.map kcQ = KQ at *
        generalize ((2 * sK ks : Nat) : Int) = n2 at *
        generalize ((stvK ks).length : Int) = n at *
        generalize sC cs = CC at *
        simp [f__law_read, mFn, g__law_read, start', q0, lc, isn, it, l1, ln, n40, so, rg, ne, ml, rd, l3, -forB_ap, -eqD_str, -lenD_l, -mulD_small, -mulD_smallR]
      · have nn : ¬ 40 < (stvK ks).length → ¬ sortI ((stvK ks).map fun i : Nat => (i : Int)) = idxI (stvK ks).length := fun c e => g (by
          unfold okK
          rw [Bool.and_eq_true, decide_eq_true_eq, List.isPerm_iff]
          refine ⟨by omega, ?_⟩
          have z := ((sortI_perm ((stvK ks).map fun i : Nat => (i : Int))).symm.trans (List.Perm.of_eq e)).map Int.toNat
          unfold idxI at z
          rw [List.map_map, List.map_map] at z
          have tn : (Int.toNat ∘ fun i : Nat => (i : Int)) = id := funext fun i => Int.toNat_natCast i
          rw [tn, List.map_id, List.map_id] at z
          exact z)
        show f__law_read [.str (sC cs)] = .ok (match (if okK ks = true then some ks else none : Option (List Kc)) with
          | some ks => .list ((tab (2 * sK ks) (mK ks)).map .int)
          | none => .none)
        rw [if_neg g]
        show f__law_read [.str (sC cs)] = .ok .none
        by_cases c : 40 < (stvK ks).length
        · have c' : (40 : Int) < ((stvK ks).length : Int) := by omega
          generalize ((stvK ks).map fun i : Nat => (i : Int)).map PyData.int = SV at *
          generalize ks.map kcQ = KQ at *
          generalize ((stvK ks).length : Int) = n at *
          generalize sC cs = CC at *
          simp [f__law_read, mFn, g__law_read, start', q0, lc, isn, it, l1, ln, c', -forB_ap, -eqD_str, -lenD_l]
        · have c' : ¬ (40 : Int) < ((stvK ks).length : Int) := by omega
          rw [decide_eq_false (nn c)] at ne
          generalize (sortI ((stvK ks).map fun i : Nat => (i : Int))).map PyData.int = S2 at *
          generalize (idxI (stvK ks).length).map PyData.int = IX at *
          generalize ((stvK ks).map fun i : Nat => (i : Int)).map PyData.int = SV at *
          generalize ks.map kcQ = KQ at *
          generalize ((stvK ks).length : Int) = n at *
          generalize sC cs = CC at *
          simp [f__law_read, mFn, g__law_read, start', q0, lc, isn, it, l1, ln, c', so, rg, ne, -forB_ap, -eqD_str, -lenD_l]
theorem numbers_eq (ms : List Int) : f__law_numbers [.tuple (ms.map .int), .list (ms.map .int)] = .ok (.bool true) := by
  have lp : ∃ s, loopFor (forB (gN 2) b1__law_numbers) (ms.map .int) [.val (.tuple (ms.map .int)), .val (.list (ms.map .int)), .none] = .nx [.val (.tuple (ms.map .int)), .val (.list (ms.map .int)), s] := by
    refine for_inv (Post := fun o => ∃ s, o = .nx [.val (.tuple (ms.map .int)), .val (.list (ms.map .int)), s]) (fun _ ρ => ∃ s, ρ = [.val (.tuple (ms.map .int)), .val (.list (ms.map .int)), s]) ⟨_, rfl⟩ ?_ ?_
    · rintro j d ρ hd ⟨s, rfl⟩
      rw [List.getElem?_map] at hd
      obtain ⟨c, _, rfl⟩ := Option.map_eq_some_iff.mp hd
      have : forB (gN 2) b1__law_numbers (.int c) [.val (.tuple (ms.map .int)), .val (.list (ms.map .int)), s] = .nx [.val (.tuple (ms.map .int)), .val (.list (ms.map .int)), .val (.int c)] := by simp [b1__law_numbers, whole_int]
      rw [this]
      exact ⟨_, rfl⟩
    · rintro ρ ⟨s, rfl⟩
      exact ⟨_, rfl⟩
  obtain ⟨s, lp⟩ := lp
  have eq : eqD (.list (ms.map PyData.int)) (.list (ms.map PyData.int)) = some (.bool true) := by
    rw [eqD_l gr_int (by decide)]
    simp
  simp [f__law_numbers, mFn, g__law_numbers, start', lp, eq, -forB_ap]
theorem flt_mem {ks : List Kc} {k : Kc} (hk : k ∈ ks) : k.2 ∈ (ks.filter fun k => k.1).map Prod.snd ++ (ks.filter fun k => !k.1).map Prod.snd := by
  by_cases c : k.1 = true
  · exact List.mem_append_left _ (List.mem_map_of_mem (List.mem_filter.mpr ⟨hk, c⟩))
  · exact List.mem_append_right _ (List.mem_map_of_mem (List.mem_filter.mpr ⟨hk, by simpa using c⟩))
theorem text_else_eq {s : Nat} {m : Nat → Nat} (Z : Sz (2 * s) m) (hs : s ≤ 40) (h0 : 0 < s) (cell : Int) : ∃ ks : List Kc, ks ≠ [] ∧ Cover s m ((ks.filter fun k => k.1).map Prod.snd) ((ks.filter fun k => !k.1).map Prod.snd) ∧ f__law_text_else [tbL (2 * s) m, .int cell] = .ok (.str (sC (joinL [32] (ks.map kcL)))) := by
  obtain ⟨as, gs, C, cnt, lc⟩ := law_chains_eq Z hs
  have I := Z.inv
  obtain ⟨A0, t6, t7, lA, oA, pA, lp1⟩ := rows_text C I hs cell (.val (tbL (2 * s) m)) .none (.val (.list ((as.map (chN (2 * s) m)).map lD))) (.val (.list ((gs.map (chN (2 * s) m)).map lD))) .none .none
  obtain ⟨A, u6, u8, u9, lB, oB, pB, lp2⟩ := rings_text C I hs cell A0 lA oA pA (.val (tbL (2 * s) m)) .none (.val (.list ((as.map (chN (2 * s) m)).map lD))) (.val (.list ((gs.map (chN (2 * s) m)).map lD))) t6 t7
  have cn := cov_cnt C
  have ne : A ≠ [] := fun z => by
    rw [z] at pB
    have := (List.Perm.trans pB C.st).length_eq
    rw [List.length_range] at this
    have h1 : (stsL (([] : List Kc).map Prod.snd).flatten).length = 0 := rfl
    omega
  have Ap := List.length_pos_iff.mpr ne
  obtain ⟨a, ha, ha2⟩ := nat_mod' (cell / 17) (m := (A.length : Int)) (by omega)
  have d17 : divD (.int cell) (.int 17) = some (.int (cell / 17)) := divD_pos (by decide) (by decide)
  have ml : modD (.int (cell / 17)) (.int (A.length : Int)) = some (.int (a : Int)) := by rw [modD_pos (by omega), ha]
  have ln : lenD [.list (A.map kD)] = some (.int (A.length : Int)) := by rw [lenD_l, List.length_map]
  have sf : slD (.list (A.map kD)) (some (a : Int)) none = some (.list ((A.drop a).map kD)) := by rw [slD_l, cutL_from, List.map_drop]
  have st : slD (.list (A.map kD)) none (some (a : Int)) = some (.list ((A.take a).map kD)) := by rw [slD_l, cutL_to, List.map_take]
  have ad : addD (.list ((A.drop a).map kD)) (.list ((A.take a).map kD)) = some (.list ((A.drop a ++ A.take a).map kD)) := by
    rw [addD_l (by rw [List.length_map, List.length_map, List.length_drop, List.length_take]; omega), List.map_append]
  have pr : (A.drop a ++ A.take a).Perm A := List.perm_append_comm.trans (List.Perm.of_eq (List.take_append_drop a A))
  have oK := oB.perm pr
  have C2 := oK.cover (List.Perm.trans (PS.trans (PS.perm (pr.map Prod.snd)) pB) C.st)
  have kne : A.drop a ++ A.take a ≠ [] := fun z => by
    have := pr.length_eq
    rw [z] at this
    have h1 : ([] : List Kc).length = 0 := rfl
    omega
  have kl := pr.length_eq
  generalize A.drop a ++ A.take a = ks at *
  have jo := joinD_c (y := 32) (ys := ks.map kcL) (k := 162) (fun l hl => by
    obtain ⟨k, hk, rfl⟩ := List.mem_map.mp hl
    have := kcL_len (k := k) (fun x hx => by have := cov_lt C2 (flt_mem hk) x hx; omega)
    have := cov_len C2 (flt_mem hk)
    omega) (by rw [List.length_map]; omega)
  rw [← lit_sp, List.map_map] at jo
  have jo : joinD (.str (" " : Str)) (.list (ks.map kD)) = _ := jo
  refine ⟨ks, kne, C2, ?_⟩
  have lnT : lenD [tbL (2 * s) m] = some (.int ((2 * s : Nat) : Int)) := by
    show lenD [.list _] = _
    rw [lenD_l, List.length_map, tab_len]
  have n0 : ¬ ((2 * s : Nat) : Int) = 0 := by omega
  have rD : (rowD (2 * s) m) = fun a => lD (chN (2 * s) m a) := funext fun a => rowD_l a
  have ea : as.map (rowD (2 * s) m) = (as.map (chN (2 * s) m)).map lD := by rw [rD, List.map_map]; rfl
  have eb : gs.map (rowD (2 * s) m) = (gs.map (chN (2 * s) m)).map lD := by rw [rD, List.map_map]; rfl
  rw [ea, eb] at lc
  have it1 : itemsD (.list ((as.map (chN (2 * s) m)).map lD)) = .ok ((as.map (chN (2 * s) m)).map lD) := rfl
  have it2 : itemsD (.list ((gs.map (chN (2 * s) m)).map lD)) = .ok ((gs.map (chN (2 * s) m)).map lD) := rfl
  have lp1 : loopFor (forB (gT (gC (gN 6) (gC (gN 7) gNil'))) b1__law_text_else) (enumL ((as.map (chN (2 * s) m)).map lD)) [.val (tbL (2 * s) m), .val (.int cell), .own (.lst []), .none, .val (.list ((as.map (chN (2 * s) m)).map lD)), .val (.list ((gs.map (chN (2 * s) m)).map lD)), .none, .none, .none, .none] = _ := lp1
  generalize sC (joinL [32] (ks.map kcL)) = T at *
  generalize ks.map kD = KD at *
  generalize (A.drop a).map kD = D1 at *
  generalize (A.take a).map kD = D2 at *
  generalize A.map kD = D3 at *
  generalize A0.map kD = D4 at *
  generalize (as.map (chN (2 * s) m)).map lD = X1 at *
  generalize (gs.map (chN (2 * s) m)).map lD = X2 at *
  generalize tbL (2 * s) m = TB at *
  generalize ((2 * s : Nat) : Int) = q at *
  generalize (A.length : Int) = al at *
  generalize (a : Int) = a' at *
  generalize cell / 17 = c17 at *
  simp [f__law_text_else, mFn, g__law_text_else, start', lnT, n0, lc, it1, it2, lp1, lp2, d17, ml, ln, sf, st, ad, jo, -forB_ap, -modD_pos, -divD_pos, -lenD_l, -slD_l, -addD_l]
end Lw
set_option Elab.async false
set_option linter.all false
set_option maxRecDepth 100000
set_option maxHeartbeats 4000000
namespace Lw
open PySem L2 Dn TL
theorem spoil_turn (x : Int) (SC : D) (cx : f__law_cell_at [SC, .int 2] = .ok (.int x)) (cs : List Nat) (hl : cs.length ≤ 2000) (t : Nat) (ht : t ≤ 1000) (s1 s2 s4 s5 s6 s7 s8 s9 s10 : S) : ∃ (ds : List Nat) (t9 : Int), ds.length ≤ 2 * cs.length + 3 ∧
    forB (gN 5) b1_law (.int (t : Int)) [.val SC, s1, s2, .val (.str (sC cs)), s4, s5, s6, s7, s8, s9, s10] = .nx [.val SC, s1, s2, .val (.str (sC ds)), s4, .val (.int (t : Int)), s6, s7, s8, .val (.int t9), s10] := by
  have mP : modD (.int x) (.int 1000000007) = some (.int (x % 1000000007)) := modD_pos (by decide)
  have r1 := Int.emod_nonneg x (b := 1000000007) (by decide)
  have r2 := Int.emod_lt_of_pos x (b := 1000000007) (by decide)
  generalize x % 1000000007 = x1 at *
  have ml : mulD (.int (x1 + (t : Int))) (.int 48271) = some (.int ((x1 + (t : Int)) * 48271)) := mulD_smallR (by decide)
  have mM : modD (.int ((x1 + (t : Int)) * 48271)) (.int 2147483647) = some (.int ((x1 + (t : Int)) * 48271 % 2147483647)) := modD_pos (by decide)
  have q1 := Int.emod_nonneg ((x1 + (t : Int)) * 48271) (b := 2147483647) (by decide)
  have q2 := Int.emod_lt_of_pos ((x1 + (t : Int)) * 48271) (b := 2147483647) (by decide)
  generalize (x1 + (t : Int)) * 48271 % 2147483647 = c1 at *
  have mq : mulD (.int c1) (.int c1) = some (.int (c1 * c1)) := mulD_small (by
    have e : (2 : Int) ^ 64 = 18446744073709551616 := by decide
    rw [e]
    constructor <;> omega)
  have mN : modD (.int (c1 * c1)) (.int 2147483647) = some (.int (c1 * c1 % 2147483647)) := modD_pos (by decide)
  generalize c1 * c1 % 2147483647 = c at *
  have m4 : modD (.int c) (.int 4) = some (.int (c % 4)) := modD_pos (by decide)
  have d4 : divD (.int c) (.int 4) = some (.int (c / 4)) := divD_pos (by decide) (by decide)
  have fin : ∀ ds : List Nat, ds.length ≤ 2 * cs.length + 3 → forB (gN 5) b1_law (.int (t : Int)) [.val SC, s1, s2, .val (.str (sC cs)), s4, s5, s6, s7, s8, s9, s10] = .nx [.val SC, s1, s2, .val (.str (sC ds)), s4, .val (.int (t : Int)), s6, s7, s8, .val (.int c), s10] → ∃ (ds : List Nat) (t9 : Int), ds.length ≤ 2 * cs.length + 3 ∧
    forB (gN 5) b1_law (.int (t : Int)) [.val SC, s1, s2, .val (.str (sC cs)), s4, s5, s6, s7, s8, s9, s10] = .nx [.val SC, s1, s2, .val (.str (sC ds)), s4, .val (.int (t : Int)), s6, s7, s8, .val (.int t9), s10] := fun ds h1 h2 => ⟨ds, _, h1, h2⟩
  by_cases c1' : c % 4 = 1
  · obtain ⟨ds, hd, e⟩ := part_spoiled_ok cs hl (c / 4)
    refine fin ds (by omega) ?_
    rw [c1'] at m4
    generalize sC ds = DS at *
    generalize sC cs = CC at *
    generalize (t : Int) = tt at *
    generalize (x1 + tt) * 48271 = y at *
    generalize c1 * c1 = y2 at *
    generalize c / 4 = c4 at *
    simp [b1_law, cx, mP, ml, mM, mq, mN, m4, d4, e, -modD_pos, -divD_pos, -mulD_small, -mulD_smallR]
  · by_cases c2 : c % 4 = 2
    · obtain ⟨ds, hd, e⟩ := number_spoiled_ok cs (by omega) (c / 4)
      refine fin ds (by omega) ?_
      rw [c2] at m4
      generalize sC ds = DS at *
      generalize sC cs = CC at *
      generalize (t : Int) = tt at *
      generalize (x1 + tt) * 48271 = y at *
      generalize c1 * c1 = y2 at *
      generalize c / 4 = c4 at *
      simp [b1_law, cx, mP, ml, mM, mq, mN, m4, d4, e, -modD_pos, -divD_pos, -mulD_small, -mulD_smallR]
    · obtain ⟨ds, hd, e⟩ := sign_spoiled_ok cs (by omega) (c / 4)
      refine fin ds (by omega) ?_
      generalize sC ds = DS at *
      generalize sC cs = CC at *
      generalize (t : Int) = tt at *
      generalize (x1 + tt) * 48271 = y at *
      generalize c1 * c1 = y2 at *
      generalize c / 4 = c4 at *
      generalize c % 4 = cm at *
      simp [b1_law, cx, mP, ml, mM, mq, mN, m4, d4, e, c1', c2, -modD_pos, -divD_pos, -mulD_small, -mulD_smallR]
theorem spoil_loop (x : Int) (SC : D) (cx : f__law_cell_at [SC, .int 2] = .ok (.int x)) (cs : List Nat) (hl : cs.length ≤ 290) (k : Nat) (hk : k ≤ 3) (s1 s2 s4 s6 s7 s8 s10 : S) : ∃ (ds : List Nat) (t5 t9 : S), isErr t5 = false ∧ isErr t9 = false ∧ ds.length ≤ 7000 ∧
    loopFor (forB (gN 5) b1_law) (rngL 0 (k : Int)) [.val SC, s1, s2, .val (.str (sC cs)), s4, .none, s6, s7, s8, .none, s10] = .nx [.val SC, s1, s2, .val (.str (sC ds)), s4, t5, s6, s7, s8, t9, s10] := by
  refine for_inv (Post := fun o => ∃ (ds : List Nat) (t5 t9 : S), isErr t5 = false ∧ isErr t9 = false ∧ ds.length ≤ 7000 ∧ o = .nx [.val SC, s1, s2, .val (.str (sC ds)), s4, t5, s6, s7, s8, t9, s10])
    (fun i ρ => i ≤ k ∧ ∃ (ds : List Nat) (t5 t9 : S), isErr t5 = false ∧ isErr t9 = false ∧ ds.length + 3 ≤ 293 * 2 ^ i ∧ ρ = [.val SC, s1, s2, .val (.str (sC ds)), s4, t5, s6, s7, s8, t9, s10]) ⟨Nat.zero_le _, cs, _, _, rfl, rfl, by omega, rfl⟩ ?_ ?_
  · rintro i d ρ hd ⟨_, ds, t5, t9, f5, f9, hds, rfl⟩
    obtain ⟨hi, rfl⟩ := rng_get hd
    have b1 : 293 * 2 ^ i ≤ 293 * 2 ^ 2 := Nat.mul_le_mul_left _ (Nat.pow_le_pow_right (by decide) (by omega))
    obtain ⟨es, u9, he, tn⟩ := spoil_turn x SC cx ds (by omega) i (by omega) s1 s2 s4 t5 s6 s7 s8 t9 s10
    rw [tn]
    refine ⟨by omega, es, _, _, rfl, rfl, ?_, rfl⟩
    rw [Nat.pow_succ]
    omega
  · rintro ρ ⟨hi, ds, t5, t9, f5, f9, hds, rfl⟩
    rw [rng_nat, List.length_map, List.length_range] at hds
    have b1 : 293 * 2 ^ k ≤ 293 * 2 ^ 3 := Nat.mul_le_mul_left _ (Nat.pow_le_pow_right (by decide) hk)
    exact ⟨ds, _, _, f5, f9, by omega, rfl⟩
/-- the end: both readings are one -/
theorem lk1 : lk tab_ClaspError "NoText" = some true := by decide +kernel
theorem lk2 : lk tab_NoText "NoText" = some true := by decide +kernel
theorem lk3 : lk tab_ValueError "NoText" = some true := by decide +kernel
theorem lk4 : lk tab_BadWork "NoText" = some false := by decide +kernel
/-- the text that stands at first -/
theorem kc_sum {s : Nat} : ∀ ks : List Kc, (∀ k ∈ ks, ∀ x ∈ k.2, x < 80) → (ks.map kcL ≠ [] → (joinL [32] (ks.map kcL)).length + 1 ≤ 4 * (ks.flatMap Prod.snd).length + 3 * ks.length)
  | [], _ => fun h => (h rfl).elim
  | [k], h => fun _ => by
    have := kcL_len (h k (by simp))
    show (kcL k).length + 1 ≤ _
    rw [List.flatMap_cons, List.flatMap_nil, List.append_nil, List.length_singleton]
    omega
  | k :: j :: ks, h => fun _ => by
    have ih := kc_sum (s := s) (j :: ks) (fun z hz => h z (List.mem_cons_of_mem _ hz)) (by simp)
    have := kcL_len (h k (by simp))
    rw [List.map_cons]
    have e : (joinL [32] (kcL k :: (j :: ks).map kcL)).length = (kcL k).length + (1 + (joinL [32] ((j :: ks).map kcL)).length) := by
      rw [List.map_cons]
      show (kcL k ++ ([32] ++ joinL [32] (kcL j :: ks.map kcL))).length = _
      rw [List.length_append, List.length_append]
      rfl
    rw [e, List.flatMap_cons, List.length_append, List.length_cons]
    omega
theorem rows_lc (n : Nat) (hn : n ≤ 100) (ρ0 : List S) (h10 : ρ0.length = 10) : loopLc (gN 10) tYesF (e2 addD (e2 addD (eC (.str ("[" : Str))) (eB strD (aCons (eVarF 10) aNil))) (eC (.str ("]" : Str)))) [10] (ρ0 ++ [.none]) (rngL 0 (n : Int)) [] = .ok (((List.range n).map fun i => (91 :: numL i) ++ [93]).map fun l => .str (sC l)) := by
  have lc := lc_map0 (fun i : Nat => PyData.int (i : Int)) (fun i : Nat => PyData.str (sC ((91 :: numL i) ++ [93]))) (tg := gN 10) (e := e2 addD (e2 addD (eC (.str ("[" : Str))) (eB strD (aCons (eVarF 10) aNil))) (eC (.str ("]" : Str)))) (vs := [10]) (ρ := ρ0 ++ [.none]) (List.range n) (by rw [List.length_range]; omega) fun i hi => by
    have hi := List.mem_range.mp hi
    have st := strD_c (n := i) (by omega)
    have nl := numL_len (n := i) (k := 2) (by decide) (by omega)
    have a1 := addD_c (a := [91]) (b := numL i) (by rw [List.length_singleton]; omega)
    have a2 := addD_c (a := 91 :: numL i) (b := [93]) (by simp only [List.length_cons, List.length_nil]; omega)
    rw [← lit_sq] at a1
    rw [← lit_sq2] at a2
    have a1 : addD (.str ("[" : Str)) (.str (sC (numL i))) = some (.str (sC (91 :: numL i))) := a1
    obtain ⟨r0, r1, r2, r3, r4, r5, r6, r7, r8, r9, rfl⟩ : ∃ r0 r1 r2 r3 r4 r5 r6 r7 r8 r9, ρ0 = [r0, r1, r2, r3, r4, r5, r6, r7, r8, r9] := by
      match ρ0, h10 with
      | [r0, r1, r2, r3, r4, r5, r6, r7, r8, r9], _ => exact ⟨_, _, _, _, _, _, _, _, _, _, rfl⟩
    refine ⟨[r0, r1, r2, r3, r4, r5, r6, r7, r8, r9, .val (.int (i : Int))], rfl, ?_⟩
    generalize sC ((91 :: numL i) ++ [93]) = R at *
    generalize sC (91 :: numL i) = R1 at *
    generalize sC (numL i) = R2 at *
    generalize (i : Int) = ii at *
    generalize ("[" : Str) = LB at *
    generalize ("]" : Str) = RB at *
    simp [st, a1, a2]
  rw [List.map_map]
  rw [rng_nat]
  exact lc
end Lw
set_option Elab.async false
set_option linter.all false
set_option maxRecDepth 100000
set_option maxHeartbeats 4000000
namespace Lw
open PySem L2 Dn TL
noncomputable abbrev tail10 : MS := (sSeq (sAsg (gN 6) (eCall f__law_read (aCons (eVarF 3) aNil)))
 (sSeq (sAsg (gN 7) (eL aNil))
 (sSeq (sAsg (gN 8) (eC .none))
 (sSeq (sTryAs 1 tab_ClaspError (sAsg (gN 8) (eCall f_read_work (aCons (eVarF 3) aNil))) (fun n => (sAsg (gN 7) (eL (aCons (eIsE 1 tab_NoText n) (aCons (eIsE 1 tab_ValueError n) (aCons (eIsE 1 tab_BadWork n) aNil)))))))
 (sSeq (sIf (tE (e2 isD (eVarF 6) (eC .none))) (sRet (e2 eqD (eVarF 7) (eL (aCons (eC (.bool true)) (aCons (eC (.bool true)) (aCons (eC (.bool false)) aNil)))))) sNext)
 (sRet (eBool (eAnd (e2 eqD (eVarF 7) (eL aNil)) (eCall f__law_numbers (aCons (eVarF 8) (aCons (eVarF 6) aNil)))))))))))
theorem tail_ok (cs : List Nat) (hl : cs.length ≤ 7000) (SC s2 s4 s9 : D) (t5 t9 t10 : S) (e5 : isErr t5 = false) (e9 : isErr t9 = false) (e10 : isErr t10 = false) : (tail10 [.val SC, .none, .val s2, .val (.str (sC cs)), .val s4, t5, .none, .none, .none, t9, t10]).m = .ok (.bool true) := by
  have lr := lread_eq cs (by omega)
  have rw0 := read_gen cs (by omega)
  unfold readL at lr
  unfold readM at rw0
  cases h : readP cs with
  | some ks =>
    rw [h] at lr rw0
    have lr : f__law_read [.str (sC cs)] = .ok (.list ((tab (2 * sK ks) (mK ks)).map .int)) := lr
    have rw0 : f_read_work [.str (sC cs)] = .ok (.tuple ((tab (2 * sK ks) (mK ks)).map .int)) := rw0
    have nu := numbers_eq (tab (2 * sK ks) (mK ks))
    have isn : isD (.list ((tab (2 * sK ks) (mK ks)).map .int)) .none = some (.bool false) := rfl
    have q : eqD (.list []) (.list []) = some (.bool true) := rfl
    generalize (tab (2 * sK ks) (mK ks)).map PyData.int = T at *
    generalize sC cs = C at *
    simp [tail10, lr, rw0, nu, isn, q, e5, e9, e10]
  | none =>
    rw [h] at lr rw0
    have lr : f__law_read [.str (sC cs)] = .ok .none := lr
    have rw0 : f_read_work [.str (sC cs)] = .exc "NoText" := rw0
    have isn : isD .none .none = some (.bool true) := rfl
    have k1 := lk1
    have k2 := lk2
    have k3 := lk3
    have k4 := lk4
    have q : eqD (.list [.bool true, .bool true, .bool false]) (.list [.bool true, .bool true, .bool false]) = some (.bool true) := eqD_l gr_bool (by decide) [true, true, false] [true, true, false]
    generalize sC cs = C at *
    simp [tail10, lr, rw0, isn, k1, k2, k3, k4, q, e5, e9, e10]
theorem law_true : ∀ ns, Scr ns → f_law [scrD ns] = .ok (.bool true) := by
  intro ns _
  have c0 := cell_at_eq ns 0
  have c0 : f__law_cell_at [scrD ns, .int 0] = _ := c0
  have c1 := cell_at_eq ns 1
  have c1 : f__law_cell_at [scrD ns, .int 1] = _ := c1
  have c2 := cell_at_eq ns 2
  have c2 : f__law_cell_at [scrD ns, .int 2] = _ := c2
  generalize ns[0]?.getD 0 = x at c0
  generalize ns[1]?.getD 0 = y at c1
  generalize ns[2]?.getD 0 = z at c2
  have sp := stv_pos x
  have sq := staves_eq x
  obtain ⟨s, hst⟩ : ∃ s : Nat, (s : Int) = stv x := ⟨(stv x).toNat, by omega⟩
  rw [← hst] at sq
  have s40 : s ≤ 40 := by omega
  obtain ⟨ms, M, ml, mq⟩ := mates_eq (ns.drop 3) s (by omega)
  obtain ⟨m, I, rfl⟩ := mates_tab M ml
  have Z : Sz (2 * s) m := ⟨by omega, I⟩
  have cc : slD (scrD ns) (some 3) none = some (.list ((ns.drop 3).map .int)) := by
    rw [slD_s, show (3 : Int) = ((3 : Nat) : Int) from rfl, cutL_from, List.map_drop]
  have mq : f__law_mates [.list ((ns.drop 3).map .int), .int (s : Int)] = .ok (tbL (2 * s) m) := mq
  obtain ⟨cs0, hc0, te⟩ : ∃ cs0 : List Nat, cs0.length ≤ 290 ∧ f__law_text_else [tbL (2 * s) m, .int y] = .ok (.str (sC cs0)) := by
    by_cases s0 : s = 0
    · subst s0
      refine ⟨[46], by decide, ?_⟩
      have lnT : lenD [tbL (2 * 0) m] = some (.int 0) := rfl
      have e : ("." : Str) = sC [46] := by decide +kernel
      rw [← e]
      generalize tbL (2 * 0) m = TB at *
      simp [f__law_text_else, mFn, g__law_text_else, start', lnT]
    · obtain ⟨ks, kne, C2, te⟩ := text_else_eq Z s40 (by omega) y
      refine ⟨_, ?_, te⟩
      have x80 : ∀ k ∈ ks, ∀ x ∈ k.2, x < 80 := fun k hk x hx => by
        have := C2.lt (List.mem_flatten.mpr ⟨k.2, flt_mem hk, hx⟩)
        omega
      have b := kc_sum (s := s) ks x80 (fun z => kne (List.map_eq_nil_iff.mp z))
      have pm := kc_perm ks
      have e1 : (ks.flatMap Prod.snd).length = s := by
        have l1 := C2.st.length_eq
        unfold stsL at l1
        rw [List.length_map, List.length_range] at l1
        rw [← l1, List.flatMap_def]
        exact (pm.flatten.length_eq).symm
      have e2 := cov_cnt C2
      have e3 : (rowK ks).length + (rinK ks).length = ks.length := by
        have := pm.length_eq
        rw [List.length_append, List.length_map] at this
        exact this
      have e2 : (rowK ks).length + (rinK ks).length ≤ s := e2
      omega
  have d663 : divD (.int y) (.int 663) = some (.int (y / 663)) := divD_pos (by decide) (by decide)
  have d221 : divD (.int y) (.int 221) = some (.int (y / 221)) := divD_pos (by decide) (by decide)
  have d53 : divD (.int y) (.int 5304) = some (.int (y / 5304)) := divD_pos (by decide) (by decide)
  have m8 : modD (.int (y / 663)) (.int 8) = some (.int (y / 663 % 8)) := modD_pos (by decide)
  obtain ⟨a3, h3, h3'⟩ := nat_mod' (y / 221) (m := 3) (by decide)
  obtain ⟨a2, h2, h2'⟩ := nat_mod' (y / 221) (m := 2) (by decide)
  obtain ⟨a4, h4, h4'⟩ := nat_mod' (y / 5304) (m := 4) (by decide)
  have m3 : modD (.int (y / 221)) (.int 3) = some (.int (a3 : Int)) := by rw [modD_pos (by decide), h3]
  have m2 : modD (.int (y / 221)) (.int 2) = some (.int (a2 : Int)) := by rw [modD_pos (by decide), h2]
  have m4 : modD (.int (y / 5304)) (.int 4) = some (.int (a4 : Int)) := by rw [modD_pos (by decide), h4]
  obtain ⟨TL, gl, tk⟩ : ∃ TL : MS, g_law = (sSeq (sAsg (gN 2) (eCall f__law_mates (aCons (eSl slD (eVarF 0) (oSome (eC (.int 3))) oNone) (aCons (eCall f__law_staves (aCons (eCall f__law_cell_at (aCons (eVarF 0) (aCons (eC (.int 0)) aNil))) aNil)) aNil))))
     (sSeq (sAsg (gN 3) (eCall f__law_text_else (aCons (eVarF 2) (aCons (eCall f__law_cell_at (aCons (eVarF 0) (aCons (eC (.int 1)) aNil))) aNil))))
     (sSeq (sAsg (gN 4) (e2 addD (eC (.int 1)) (e2 modD (e2 divD (eCall f__law_cell_at (aCons (eVarF 0) (aCons (eC (.int 1)) aNil))) (eC (.int 221))) (eC (.int 3)))))
     (sSeq (sIf (tE (e2 eqD (e2 modD (e2 divD (eCall f__law_cell_at (aCons (eVarF 0) (aCons (eC (.int 1)) aNil))) (eC (.int 663))) (eC (.int 8))) (eC (.int 1)))) (sSeq (sAsg (gN 3) (eM1 joinD (eC (.str (" " : Str))) (eL (eLc (iR1 (aCons (e2 addD (eC (.int 39)) (e2 modD (e2 divD (eCall f__law_cell_at (aCons (eVarF 0) (aCons (eC (.int 1)) aNil))) (eC (.int 5304))) (eC (.int 4)))) aNil)) (gN 10) tYesF (e2 addD (e2 addD (eC (.str ("[" : Str))) (eB strD (aCons (eVarF 10) aNil))) (eC (.str ("]" : Str)))) [10]))))
     (sAsg (gN 4) (e2 modD (e2 divD (eCall f__law_cell_at (aCons (eVarF 0) (aCons (eC (.int 1)) aNil))) (eC (.int 221))) (eC (.int 2))))) sNext)
     (sSeq (sFor (iR1 (aCons (eVarF 4) aNil)) (gN 5) b1_law) TL))))) ∧ ∀ (cs : List Nat) (hl : cs.length ≤ 7000) (SC s2 s4 : D) (t5 t9 t10 : S) (e5 : isErr t5 = false) (e9 : isErr t9 = false) (e10 : isErr t10 = false), (TL [.val SC, .none, .val s2, .val (.str (sC cs)), .val s4, t5, .none, .none, .none, t9, t10]).m = .ok (.bool true) := ⟨tail10, rfl, fun cs hl SC s2 s4 t5 t9 t10 e5 e9 e10 => tail_ok cs hl SC s2 s4 .none t5 t9 t10 e5 e9 e10⟩
  by_cases q : y / 663 % 8 = 1
  · -- rows of their own
    have lc := rows_lc (39 + a4) (by omega) [.val (scrD ns), .none, .val (tbL (2 * s) m), .val (.str (sC cs0)), .val (.int (1 + (a3 : Int))), .none, .none, .none, .none, .none] rfl
    have lc : loopLc (gN 10) tYesF (e2 addD (e2 addD (eC (.str ("[" : Str))) (eB strD (aCons (eVarF 10) aNil))) (eC (.str ("]" : Str)))) [10] [.val (scrD ns), .none, .val (tbL (2 * s) m), .val (.str (sC cs0)), .val (.int (1 + (a3 : Int))), .none, .none, .none, .none, .none, .none] (rngL 0 ((39 + a4 : Nat) : Int)) [] = _ := lc
    have e39 : (39 : Int) + (a4 : Int) = ((39 + a4 : Nat) : Int) := by omega
    have r39 : rngM1 [.int (39 + (a4 : Int))] = .ok (rngL 0 ((39 + a4 : Nat) : Int)) := by rw [e39]; exact rngM1_ok (in62 (by omega))
    have jo := joinD_c (y := 32) (ys := (List.range (39 + a4)).map fun i => (91 :: numL i) ++ [93]) (k := 4) (fun l hl => by
      obtain ⟨i, hi, rfl⟩ := List.mem_map.mp hl
      have := List.mem_range.mp hi
      have := numL_len (n := i) (k := 2) (by decide) (by omega)
      simp only [List.length_append, List.length_cons, List.length_nil]
      omega) (by rw [List.length_map, List.length_range]; omega)
    rw [← lit_sp] at jo
    have jl := joinL_len 4 ((List.range (39 + a4)).map fun i => (91 :: numL i) ++ [93]) (fun l hl => by
      obtain ⟨i, hi, rfl⟩ := List.mem_map.mp hl
      have := List.mem_range.mp hi
      have := numL_len (n := i) (k := 2) (by decide) (by omega)
      simp only [List.length_append, List.length_cons, List.length_nil]
      omega)
    rw [List.length_map, List.length_range] at jl
    obtain ⟨ds, t5, t9, f5, f9, hd, lp⟩ := spoil_loop z (scrD ns) c2 (joinL [32] ((List.range (39 + a4)).map fun i => (91 :: numL i) ++ [93])) (by omega) a2 (by omega) .none (.val (tbL (2 * s) m)) (.val (.int (a2 : Int))) .none .none .none .none
    have ra : rngM1 [.int (a2 : Int)] = .ok (rngL 0 (a2 : Int)) := rngM1_ok (in62 (by omega))
    have fin := tk ds hd (scrD ns) (tbL (2 * s) m) (.int (a2 : Int)) t5 t9 .none f5 f9 rfl
    rw [q] at m8
    generalize rngL 0 ((39 + a4 : Nat) : Int) = RG at *
    generalize rngL 0 (a2 : Int) = RA at *
    generalize sC (joinL [32] ((List.range (39 + a4)).map fun i => (91 :: numL i) ++ [93])) = T1 at *
    generalize ((List.range (39 + a4)).map fun i => (91 :: numL i) ++ [93]).map (fun l => PyData.str (sC l)) = TR at *
    generalize sC ds = T2 at *
    generalize sC cs0 = T0 at *
    generalize (ns.drop 3).map PyData.int = FL at *
    generalize tbL (2 * s) m = TB at *
    generalize scrD ns = SC at *
    generalize (s : Int) = s' at *
    generalize (a2 : Int) = aa2 at *
    generalize (a3 : Int) = aa3 at *
    generalize (a4 : Int) = aa4 at *
    simp [f_law, mFn, gl, start', c0, c1, sq, cc, mq, te, d663, d221, d53, m8, m3, m2, m4, r39, lc, jo, ra, lp, fin, -forB_ap, -modD_pos, -divD_pos]
  · obtain ⟨ds, t5, t9, f5, f9, hd, lp⟩ := spoil_loop z (scrD ns) c2 cs0 hc0 (1 + a3) (by omega) .none (.val (tbL (2 * s) m)) (.val (.int (1 + (a3 : Int)))) .none .none .none .none
    have ra : rngM1 [.int (1 + (a3 : Int))] = .ok (rngL 0 ((1 + a3 : Nat) : Int)) := by
      rw [show (1 : Int) + (a3 : Int) = ((1 + a3 : Nat) : Int) by omega]
      exact rngM1_ok (in62 (by omega))
    have fin := tk ds hd (scrD ns) (tbL (2 * s) m) (.int (1 + (a3 : Int))) t5 t9 .none f5 f9 rfl
    generalize rngL 0 ((1 + a3 : Nat) : Int) = RA at *
    generalize sC ds = T2 at *
    generalize sC cs0 = T0 at *
    generalize (ns.drop 3).map PyData.int = FL at *
    generalize tbL (2 * s) m = TB at *
    generalize scrD ns = SC at *
    generalize (s : Int) = s' at *
    generalize (a2 : Int) = aa2 at *
    generalize (a3 : Int) = aa3 at *
    generalize (a4 : Int) = aa4 at *
    generalize y / 663 % 8 = y8 at *
    simp [f_law, mFn, gl, start', c0, c1, sq, cc, mq, te, d663, d221, m8, q, m3, ra, lp, fin, -forB_ap, -modD_pos, -divD_pos]
end Lw
open PySem PySem.W PyProof.Rows
set_option maxRecDepth 100000 in
set_option maxHeartbeats 0 in
theorem PySem.Challenge.cw_claspwork_k10_whole_texts_of_works_holds : PySem.Challenge.rw_claspwork_k10_whole_texts_of_works.Holds := by
  w_on; o_law; k_head; (case hw => w_witness2)
  k_fill
  refine Dn.walk_law (l := PySem.Challenge.rw_claspwork_k10_whole_texts_of_works) (k := 5) rfl rfl ⟨rfl, by decide, by decide⟩ (fun w h Y => PySem.W.kIn_of Y) ?F
  case F =>
    intro w mg fa h KX G hmg
    have b_ValueError : mg "ValueError" = none := PySem.W.mg_none_of KX G (by k_is)
    have b_bool : mg "bool" = none := PySem.W.mg_none_of KX G (by k_is)
    have b_enumerate : mg "enumerate" = none := PySem.W.mg_none_of KX G (by k_is)
    have b_int : mg "int" = none := PySem.W.mg_none_of KX G (by k_is)
    have b_isinstance : mg "isinstance" = none := PySem.W.mg_none_of KX G (by k_is)
    have b_len : mg "len" = none := PySem.W.mg_none_of KX G (by k_is)
    have b_list : mg "list" = none := PySem.W.mg_none_of KX G (by k_is)
    have b_range : mg "range" = none := PySem.W.mg_none_of KX G (by k_is)
    have b_reversed : mg "reversed" = none := PySem.W.mg_none_of KX G (by k_is)
    have b_sorted : mg "sorted" = none := PySem.W.mg_none_of KX G (by k_is)
    have b_str : mg "str" = none := PySem.W.mg_none_of KX G (by k_is)
    have b_tuple : mg "tuple" = none := PySem.W.mg_none_of KX G (by k_is)
    have e_BadWork : ∃ C, Dn.ExcAt (Dn.kOf KX) mg "BadWork" C [.type "ValueError", .type "Exception", .type "BaseException", .type "object"] := by
      dsimp only [Dn.kOf]
      refine' Dn.exc_mk KX G ?a ?e ?k ?b ?t
      (case a => k_is); (case e => k_exc); (case k => k_is); (case b => k_is); (case t => k_is)
    have e_NoText : ∃ C, Dn.ExcAt (Dn.kOf KX) mg "NoText" C [.type "ValueError", .type "Exception", .type "BaseException", .type "object"] := by
      dsimp only [Dn.kOf]
      refine' Dn.exc_mk KX G ?a ?e ?k ?b ?t
      (case a => k_is); (case e => k_exc); (case k => k_is); (case b => k_is); (case t => k_is)
    have z_FIGURES : ∃ v, mg "FIGURES" = some v ∧ ∃ t, v = .str "0123456789" t := by
      refine' ⟨_, PySem.W.mg_of KX G ?a, ?zb_FIGURES⟩
      (case a => k_is)
      exact ⟨_, rfl⟩
    have c_FIGURES : ∃ t, mg "FIGURES" = some (.str "0123456789" t) := by
      obtain ⟨v, hv, t, rfl⟩ := z_FIGURES
      exact ⟨t, hv⟩
    have z_MOST_STAVES : ∃ v, mg "MOST_STAVES" = some v ∧ ∃ t, v = .int 40 t := by
      refine' ⟨_, PySem.W.mg_of KX G ?a, ?zb_MOST_STAVES⟩
      (case a => k_is)
      exact ⟨_, rfl⟩
    have c_MOST_STAVES : ∃ t, mg "MOST_STAVES" = some (.int 40 t) := by
      obtain ⟨v, hv, t, rfl⟩ := z_MOST_STAVES
      exact ⟨t, hv⟩
    have d__law_mates : Dn.DefAt (Dn.kOf KX) mg "_law_mates" Lw.s__law_mates := by
      dsimp only [Dn.kOf]
      refine' Dn.def_mk KX G ?a ?l ?c ?k
      (case a => k_is); (case l => k_is); (case c => k_is); (case k => k_is)
    have d__law_far : Dn.DefAt (Dn.kOf KX) mg "_law_far" Lw.s__law_far := by
      dsimp only [Dn.kOf]
      refine' Dn.def_mk KX G ?a ?l ?c ?k
      (case a => k_is); (case l => k_is); (case c => k_is); (case k => k_is)
    have d__law_chain : Dn.DefAt (Dn.kOf KX) mg "_law_chain" Lw.s__law_chain := by
      dsimp only [Dn.kOf]
      refine' Dn.def_mk KX G ?a ?l ?c ?k
      (case a => k_is); (case l => k_is); (case c => k_is); (case k => k_is)
    have d__law_chains : Dn.DefAt (Dn.kOf KX) mg "_law_chains" Lw.s__law_chains := by
      dsimp only [Dn.kOf]
      refine' Dn.def_mk KX G ?a ?l ?c ?k
      (case a => k_is); (case l => k_is); (case c => k_is); (case k => k_is)
    have d__law_back : Dn.DefAt (Dn.kOf KX) mg "_law_back" Lw.s__law_back := by
      dsimp only [Dn.kOf]
      refine' Dn.def_mk KX G ?a ?l ?c ?k
      (case a => k_is); (case l => k_is); (case c => k_is); (case k => k_is)
    have d__law_written : Dn.DefAt (Dn.kOf KX) mg "_law_written" Lw.s__law_written := by
      dsimp only [Dn.kOf]
      refine' Dn.def_mk KX G ?a ?l ?c ?k
      (case a => k_is); (case l => k_is); (case c => k_is); (case k => k_is)
    have d__law_text_else : Dn.DefAt (Dn.kOf KX) mg "_law_text_else" Lw.s__law_text_else := by
      dsimp only [Dn.kOf]
      refine' Dn.def_mk KX G ?a ?l ?c ?k
      (case a => k_is); (case l => k_is); (case c => k_is); (case k => k_is)
    have d__law_stave : Dn.DefAt (Dn.kOf KX) mg "_law_stave" Lw.s__law_stave := by
      dsimp only [Dn.kOf]
      refine' Dn.def_mk KX G ?a ?l ?c ?k
      (case a => k_is); (case l => k_is); (case c => k_is); (case k => k_is)
    have d__law_read_chains : Dn.DefAt (Dn.kOf KX) mg "_law_read_chains" Lw.s__law_read_chains := by
      dsimp only [Dn.kOf]
      refine' Dn.def_mk KX G ?a ?l ?c ?k
      (case a => k_is); (case l => k_is); (case c => k_is); (case k => k_is)
    have d__law_read : Dn.DefAt (Dn.kOf KX) mg "_law_read" Lw.s__law_read := by
      dsimp only [Dn.kOf]
      refine' Dn.def_mk KX G ?a ?l ?c ?k
      (case a => k_is); (case l => k_is); (case c => k_is); (case k => k_is)
    have d__law_staves : Dn.DefAt (Dn.kOf KX) mg "_law_staves" Lw.s__law_staves := by
      dsimp only [Dn.kOf]
      refine' Dn.def_mk KX G ?a ?l ?c ?k
      (case a => k_is); (case l => k_is); (case c => k_is); (case k => k_is)
    have d__law_cell_at : Dn.DefAt (Dn.kOf KX) mg "_law_cell_at" Lw.s__law_cell_at := by
      dsimp only [Dn.kOf]
      refine' Dn.def_mk KX G ?a ?l ?c ?k
      (case a => k_is); (case l => k_is); (case c => k_is); (case k => k_is)
    have d_work_by : Dn.DefAt (Dn.kOf KX) mg "work_by" Lw.s_work_by := by
      dsimp only [Dn.kOf]
      refine' Dn.def_mk KX G ?a ?l ?c ?k
      (case a => k_is); (case l => k_is); (case c => k_is); (case k => k_is)
    have d_far_end : Dn.DefAt (Dn.kOf KX) mg "far_end" Lw.s_far_end := by
      dsimp only [Dn.kOf]
      refine' Dn.def_mk KX G ?a ?l ?c ?k
      (case a => k_is); (case l => k_is); (case c => k_is); (case k => k_is)
    have d_work_from : Dn.DefAt (Dn.kOf KX) mg "work_from" Lw.s_work_from := by
      dsimp only [Dn.kOf]
      refine' Dn.def_mk KX G ?a ?l ?c ?k
      (case a => k_is); (case l => k_is); (case c => k_is); (case k => k_is)
    have d_read_stave : Dn.DefAt (Dn.kOf KX) mg "read_stave" Lw.s_read_stave := by
      dsimp only [Dn.kOf]
      refine' Dn.def_mk KX G ?a ?l ?c ?k
      (case a => k_is); (case l => k_is); (case c => k_is); (case k => k_is)
    have d_read_work : Dn.DefAt (Dn.kOf KX) mg "read_work" Lw.s_read_work := by
      dsimp only [Dn.kOf]
      refine' Dn.def_mk KX G ?a ?l ?c ?k
      (case a => k_is); (case l => k_is); (case c => k_is); (case k => k_is)
    have d__law_whole : Dn.DefAt (Dn.kOf KX) mg "_law_whole" Lw.s__law_whole := by
      dsimp only [Dn.kOf]
      refine' Dn.def_mk KX G ?a ?l ?c ?k
      (case a => k_is); (case l => k_is); (case c => k_is); (case k => k_is)
    have d__law_numbers : Dn.DefAt (Dn.kOf KX) mg "_law_numbers" Lw.s__law_numbers := by
      dsimp only [Dn.kOf]
      refine' Dn.def_mk KX G ?a ?l ?c ?k
      (case a => k_is); (case l => k_is); (case c => k_is); (case k => k_is)
    have d__law_part_spoiled : Dn.DefAt (Dn.kOf KX) mg "_law_part_spoiled" Lw.s__law_part_spoiled := by
      dsimp only [Dn.kOf]
      refine' Dn.def_mk KX G ?a ?l ?c ?k
      (case a => k_is); (case l => k_is); (case c => k_is); (case k => k_is)
    have d__law_number_spoiled : Dn.DefAt (Dn.kOf KX) mg "_law_number_spoiled" Lw.s__law_number_spoiled := by
      dsimp only [Dn.kOf]
      refine' Dn.def_mk KX G ?a ?l ?c ?k
      (case a => k_is); (case l => k_is); (case c => k_is); (case k => k_is)
    have d__law_sign_by : Dn.DefAt (Dn.kOf KX) mg "_law_sign_by" Lw.s__law_sign_by := by
      dsimp only [Dn.kOf]
      refine' Dn.def_mk KX G ?a ?l ?c ?k
      (case a => k_is); (case l => k_is); (case c => k_is); (case k => k_is)
    have d__law_sign_spoiled : Dn.DefAt (Dn.kOf KX) mg "_law_sign_spoiled" Lw.s__law_sign_spoiled := by
      dsimp only [Dn.kOf]
      refine' Dn.def_mk KX G ?a ?l ?c ?k
      (case a => k_is); (case l => k_is); (case c => k_is); (case k => k_is)
    have hl : ∃ fd : FuncData, Dn.BindS fd ∧ L2.Fun (Dn.kOf KX) "law" "law" Lw.s_law fa fd := by
      dsimp only [Dn.kOf]
      refine' Dn.law_mk KX G hmg ?a ?l ?c ?k ?b
      (case a => k_is); (case l => k_is); (case c => k_is); (case k => k_is); (case b => exact fun s u => .of_eq rfl)
    obtain ⟨fd, hb, hF⟩ := hl
    have k_BadWork : Dn.ClsAt (Dn.kOf KX) mg "BadWork" := by
      dsimp only [Dn.kOf]
      refine' Dn.cls_mk KX G ?a ?h1 ?h2 ?h3 ?h4 ?h5 ?h6 ?h7 ?h8 ?h9 ?h10
      (case a => k_is); (case h1 => k_is); (case h2 => k_is); (case h3 => k_is); (case h4 => k_is); (case h5 => k_is); (case h6 => k_is); (case h7 => k_is); (case h8 => k_is); (case h9 => k_is); (case h10 => first | rfl | k_is)
    have k_ClaspError : Dn.ClsAt (Dn.kOf KX) mg "ClaspError" := by
      dsimp only [Dn.kOf]
      refine' Dn.cls_mk KX G ?a ?h1 ?h2 ?h3 ?h4 ?h5 ?h6 ?h7 ?h8 ?h9 ?h10
      (case a => k_is); (case h1 => k_is); (case h2 => k_is); (case h3 => k_is); (case h4 => k_is); (case h5 => k_is); (case h6 => k_is); (case h7 => k_is); (case h8 => k_is); (case h9 => k_is); (case h10 => first | rfl | k_is)
    have k_NoText : Dn.ClsAt (Dn.kOf KX) mg "NoText" := by
      dsimp only [Dn.kOf]
      refine' Dn.cls_mk KX G ?a ?h1 ?h2 ?h3 ?h4 ?h5 ?h6 ?h7 ?h8 ?h9 ?h10
      (case a => k_is); (case h1 => k_is); (case h2 => k_is); (case h3 => k_is); (case h4 => k_is); (case h5 => k_is); (case h6 => k_is); (case h7 => k_is); (case h8 => k_is); (case h9 => k_is); (case h10 => first | rfl | k_is)
    have p_BadWork_BadWork : Dn.Below (Dn.kOf KX) mg "BadWork" "BadWork" true := by
      dsimp only [Dn.kOf]
      refine' Dn.sub_mk KX G ?a ?c ?s
      (case a => k_is); (case c => k_is); (case s => first | k_is | rfl)
    have p_NoText_BadWork : Dn.Below (Dn.kOf KX) mg "NoText" "BadWork" false := by
      dsimp only [Dn.kOf]
      refine' Dn.sub_mk KX G ?a ?c ?s
      (case a => k_is); (case c => k_is); (case s => first | k_is | rfl)
    have p_BadWork_ClaspError : Dn.Below (Dn.kOf KX) mg "BadWork" "ClaspError" true := by
      dsimp only [Dn.kOf]
      refine' Dn.sub_mk KX G ?a ?c ?s
      (case a => k_is); (case c => k_is); (case s => first | k_is | rfl)
    have p_NoText_ClaspError : Dn.Below (Dn.kOf KX) mg "NoText" "ClaspError" true := by
      dsimp only [Dn.kOf]
      refine' Dn.sub_mk KX G ?a ?c ?s
      (case a => k_is); (case c => k_is); (case s => first | k_is | rfl)
    have p_BadWork_NoText : Dn.Below (Dn.kOf KX) mg "BadWork" "NoText" false := by
      dsimp only [Dn.kOf]
      refine' Dn.sub_mk KX G ?a ?c ?s
      (case a => k_is); (case c => k_is); (case s => first | k_is | rfl)
    have p_NoText_NoText : Dn.Below (Dn.kOf KX) mg "NoText" "NoText" true := by
      dsimp only [Dn.kOf]
      refine' Dn.sub_mk KX G ?a ?c ?s
      (case a => k_is); (case c => k_is); (case s => first | k_is | rfl)
    have p_BadWork_ValueError : Dn.BelowT (Dn.kOf KX) mg "BadWork" "ValueError" true := by
      dsimp only [Dn.kOf]
      refine' Dn.subT_mk KX G ?a ?s
      (case a => k_is); (case s => first | k_is | rfl)
    have p_NoText_ValueError : Dn.BelowT (Dn.kOf KX) mg "NoText" "ValueError" true := by
      dsimp only [Dn.kOf]
      refine' Dn.subT_mk KX G ?a ?s
      (case a => k_is); (case s => first | k_is | rfl)
    have T : Lw.Txt (Dn.kOf KX) mg := ⟨b_ValueError, b_bool, b_enumerate, b_int, b_isinstance, b_len, b_list, b_range, b_reversed, b_sorted, b_str, b_tuple, e_BadWork, e_NoText, c_FIGURES, c_MOST_STAVES, k_BadWork, k_ClaspError, k_NoText, (Dn.tab_cons p_BadWork_BadWork (Dn.tab_cons p_NoText_BadWork Dn.tab_nil)), (Dn.tab_cons p_BadWork_ClaspError (Dn.tab_cons p_NoText_ClaspError Dn.tab_nil)), (Dn.tab_cons p_BadWork_NoText (Dn.tab_cons p_NoText_NoText Dn.tab_nil)), (Dn.tabT_cons p_BadWork_ValueError (Dn.tabT_cons p_NoText_ValueError Dn.tabT_nil)), (Dn.cls_cons k_BadWork (Dn.cls_cons k_NoText Dn.cls_nil)), (Dn.cls_cons k_BadWork (Dn.cls_cons k_NoText Dn.cls_nil))⟩
    exact ⟨fd, hb, fun base _ _ => Lw.all_ok T d__law_mates d__law_far d__law_chain d__law_chains d__law_back d__law_written d__law_text_else d__law_stave d__law_read_chains d__law_read d__law_staves d__law_cell_at d_work_by d_far_end d_work_from d_read_stave d_read_work d__law_whole d__law_numbers d__law_part_spoiled d__law_number_spoiled d__law_sign_by d__law_sign_spoiled hF Lw.law_true⟩
