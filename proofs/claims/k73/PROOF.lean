import PyProof.Rows.All
import HandS.ForMost
import HandS.ForExc
import HandS.TupAny
import HandS.TupMul
import HandS.Wide
import HandS.WideMore
import HandS.IsInst
import HandS.Deep
import HandS.Conv
import HandS.Flow
import HandS.Lambda
import HandS.Style
import HandS.TupLe
import HandS.Zip
import HandS.Walk
import HandS.NoneIn
import HandS.RaiseMore
import HandS.WordsDict
import PyProof.ReprRoads
import HandS.SortInts
import KE.KRevSl
import KE.GoesEnum
import HandS.SetFor
import HandS.Strs
import HandS.Defaults
import OpenK.KMore
import HandS.ListItems
import HandS.ExcInit
import HandS.ExcSuper
import PyProof.ExcAttrAll.Exception
import HandS.ExcIs
import HandS.ExcField
import KE.KExcIs
import HandS.TryMany
import HandS.Ends
import HandS.Words
import HandS.EndTab
import KE.KNestM
import PySem.Challenge.RW_fewfolds_k73_refusals_of_counts
set_option Elab.async false
set_option linter.all false
/-! Dl1: plain values, a store of cells, results. -/
namespace Dl
open PySem L2

/-- a value: frozen data, a cell of the store, or a tuple that holds cells -/
inductive D where
  | p (d : PyData)
  | loc (l : Nat)
  | tup (xs : List D)
  | fn (x : Str)

abbrev D.i (n : Int) : D := .p (.int n)
abbrev D.b (c : Bool) : D := .p (.bool c)
abbrev D.s (x : Str) : D := .p (.str x)
abbrev D.n : D := .p .none

/-- what stands in a cell -/
inductive Cell where
  | lst (xs : List D)
  | dK (kvs : List (Key × D))
  | lk (kvs : List (Key × D))
  | ins (C : Str) (fs : List (Str × D))
  | dead

/-- it may be changed: neither dead nor locked -/
def Cell.lv : Cell → Bool
  | .dead => false
  | .lk _ => false
  | _ => true
abbrev Sto := List Cell
abbrev Slots := List (Option D)

inductive Res (α : Type) where
  | ok (a : α) (S : Sto)
  | ex (c : Str) (v : D) (S : Sto)
  | st

def Res.bind {α β : Type} : Res α → (α → Sto → Res β) → Res β
  | .ok a S, f => f a S
  | .ex c v S, _ => .ex c v S
  | .st, _ => .st

/-- where a block ends -/
inductive Out where
  | nx (ρ : Slots) (S : Sto)
  | rt (d : D) (S : Sto)
  | bk (ρ : Slots) (S : Sto)
  | ct (ρ : Slots) (S : Sto)
  | ex (c : Str) (v : D) (S : Sto)
  | st

def Res.out {α : Type} : Res α → (α → Sto → Out) → Out
  | .ok a S, f => f a S
  | .ex c v S, _ => .ex c v S
  | .st, _ => .st

@[simp] theorem bind_ok {α β : Type} (a : α) (S : Sto) (f : α → Sto → Res β) : (Res.ok a S).bind f = f a S := rfl
@[simp] theorem bind_ex {α β : Type} (c : Str) (v : D) (S : Sto) (f : α → Sto → Res β) : (Res.ex c v S).bind f = .ex c v S := rfl
@[simp] theorem bind_st {α β : Type} (f : α → Sto → Res β) : (Res.st : Res α).bind f = .st := rfl
@[simp] theorem out_ok {α : Type} (a : α) (S : Sto) (f : α → Sto → Out) : (Res.ok a S).out f = f a S := rfl
@[simp] theorem out_ex {α : Type} (c : Str) (v : D) (S : Sto) (f : α → Sto → Out) : (Res.ex c v S : Res α).out f = .ex c v S := rfl
@[simp] theorem out_st {α : Type} (f : α → Sto → Out) : (Res.st : Res α).out f = .st := rfl

/-! ### values -/
def D.pure? : D → Option PyData
  | .p d => some d
  | _ => none
def allP : List D → Option (List PyData)
  | [] => some []
  | .p d :: r => (allP r).map (d :: ·)
  | _ :: _ => none
@[simp] theorem allP_map (l : List PyData) : allP (l.map D.p) = some l := by
  induction l with
  | nil => rfl
  | cons a l ih => simp [allP, ih]
theorem allP_eq : ∀ {xs : List D} {ds : List PyData}, allP xs = some ds → xs = ds.map D.p
  | [], ds, h => by simp [allP] at h; subst h; rfl
  | .p d :: r, ds, h => by
    simp only [allP, Option.map_eq_some_iff] at h
    obtain ⟨r', h1, h2⟩ := h
    subst h2
    simp [allP_eq h1]
  | .loc _ :: _, _, h => by simp [allP] at h
  | .tup _ :: _, _, h => by simp [allP] at h
  | .fn _ :: _, _, h => by simp [allP] at h

/-- the tuple of some values -/
def mkT (xs : List D) : D := match allP xs with
  | some ds => .p (.tuple ds)
  | none => .tup xs
@[simp] theorem mkT_map (l : List PyData) : mkT (l.map D.p) = .p (.tuple l) := by simp [mkT]
@[simp] theorem mkT_nil : mkT [] = .p (.tuple []) := rfl

/-- a new list: frozen, where that is asked and all is frozen; else a cell -/
def mkL (m : Bool) (xs : List D) (S : Sto) : Res D :=
  match m, allP xs with
  | false, some ds => .ok (.p (.list ds)) S
  | _, _ => .ok (.loc S.length) (S ++ [.lst xs])
@[simp] theorem mkL_map (l : List PyData) (S : Sto) : mkL false (l.map D.p) S = .ok (.p (.list l)) S := by simp [mkL]
@[simp] theorem mkL_true (xs : List D) (S : Sto) : mkL true xs S = .ok (.loc S.length) (S ++ [.lst xs]) := by simp [mkL]

/-- the items of a list, and whether it is one; of a tuple -/
def lstOf (d : D) (S : Sto) : Option (List D) := match d with
  | .p (.list ds) => some (ds.map D.p)
  | .loc l => match S[l]? with
    | some (.lst xs) => some xs
    | _ => none
  | _ => none
def tupOf (d : D) : Option (List D) := match d with
  | .p (.tuple ds) => some (ds.map D.p)
  | .tup xs => some xs
  | _ => none
def seqOf (d : D) (S : Sto) : Option (List D) := (tupOf d).orElse fun _ => lstOf d S
@[simp] theorem seqOf_tuple (ds : List PyData) (S : Sto) : seqOf (.p (.tuple ds)) S = some (ds.map D.p) := rfl
@[simp] theorem seqOf_list (ds : List PyData) (S : Sto) : seqOf (.p (.list ds)) S = some (ds.map D.p) := rfl
@[simp] theorem seqOf_tup (xs : List D) (S : Sto) : seqOf (.tup xs) S = some xs := rfl
@[simp] theorem tupOf_tuple (ds : List PyData) : tupOf (.p (.tuple ds)) = some (ds.map D.p) := rfl
@[simp] theorem tupOf_tup (xs : List D) : tupOf (.tup xs) = some xs := rfl
@[simp] theorem tupOf_list (ds : List PyData) : tupOf (.p (.list ds)) = none := rfl
@[simp] theorem tupOf_loc (l : Nat) : tupOf (.loc l) = none := rfl
@[simp] theorem lstOf_list (ds : List PyData) (S : Sto) : lstOf (.p (.list ds)) S = some (ds.map D.p) := rfl

/-- frozen data of a value: a cell that holds a list of frozen data counts as one -/
def asP (d : D) (S : Sto) : Option PyData := match d with
  | .p d => some d
  | .loc l => match S[l]? with
    | some (.lst xs) => (allP xs).map PyData.list
    | _ => none
  | .tup _ => none
  | .fn _ => none
@[simp] theorem asP_p (d : PyData) (S : Sto) : asP (.p d) S = some d := rfl

/-- truth -/
def truP : PyData → Bool
  | .none => false
  | .bool c => c
  | .int i => i != 0
  | .str x => x.length != 0
  | .list xs => !xs.isEmpty
  | .tuple xs => !xs.isEmpty
  | .dict kvs => !kvs.isEmpty
def tru (d : D) (S : Sto) : Option Bool := match d with
  | .p (.dict _) => none
  | .p (.str x) => if x.length ≤ sizeLine then some (x.length != 0) else none
  | .p d => some (truP d)
  | .tup xs => some (!xs.isEmpty)
  | .loc l => match S[l]? with
    | some (.lst xs) => some (!xs.isEmpty)
    | some (.dK kvs) => some (!kvs.isEmpty)
    | _ => none
  | .fn _ => none
@[simp] theorem tru_b (c : Bool) (S : Sto) : tru (.p (.bool c)) S = some c := rfl
@[simp] theorem tru_i (i : Int) (S : Sto) : tru (.p (.int i)) S = some (i != 0) := rfl

/-! ### closed values: nothing of the cells behind the n-th one -/
mutual
def D.closed (n : Nat) : D → Bool
  | .p _ => true
  | .loc l => decide (l < n)
  | .tup xs => closedAll n xs
  | .fn _ => true
def closedAll (n : Nat) : List D → Bool
  | [] => true
  | x :: xs => x.closed n && closedAll n xs
end
def Cell.closed (n : Nat) : Cell → Bool
  | .lst xs => closedAll n xs
  | .dK kvs => kvs.all fun kv => kv.2.closed n
  | .lk kvs => kvs.all fun kv => kv.2.closed n
  | .ins _ fs => fs.all fun kv => kv.2.closed n
  | .dead => true
/-- of the first cells each is as it was, or closed -/
def TrimOk (S S' : Sto) : Prop := S.length ≤ S'.length ∧ ∀ (i : Nat) (c : Cell), i < S.length → S'[i]? = some c → S[i]? = some c ∨ c.closed S.length = true
open Classical in
/-- what a def hands back: its own cells go where none of them is seen -/
noncomputable def fin (S : Sto) : Out → Res D
  | .nx _ S' => if TrimOk S S' then .ok .n (S'.take S.length) else .ok .n S'
  | .rt d S' => if TrimOk S S' ∧ d.closed S.length = true then .ok d (S'.take S.length) else .ok d S'
  | .ex c v S' => if TrimOk S S' ∧ v.closed S.length = true then .ex c v (S'.take S.length) else .ex c v S'
  | _ => .st
theorem TrimOk.app (S L : Sto) : TrimOk S (S ++ L) := ⟨by simp, fun i c hi h => .inl (by rwa [List.getElem?_append_left hi] at h)⟩
theorem TrimOk.refl (S : Sto) : TrimOk S S := ⟨Nat.le_refl _, fun i c hi h => .inl h⟩
theorem fin_rt (S L : Sto) (d : PyData) : fin S (.rt (.p d) (S ++ L)) = .ok (.p d) S := by
  simp only [fin]
  rw [if_pos ⟨TrimOk.app S L, by simp [D.closed]⟩]
  simp
theorem fin_rt0 (S : Sto) (d : PyData) : fin S (.rt (.p d) S) = .ok (.p d) S := by
  have := fin_rt S [] d
  simpa using this
theorem fin_nx0 (S : Sto) (ρ : Slots) : fin S (.nx ρ S) = .ok .n S := by
  simp only [fin]
  rw [if_pos (TrimOk.refl S)]
  simp
theorem fin_ex0 (S : Sto) (c : Str) (d : PyData) : fin S (.ex c (.p d) S) = .ex c (.p d) S := by
  simp only [fin]
  rw [if_pos ⟨TrimOk.refl S, by simp [D.closed]⟩]
  simp

end Dl

set_option linter.all false
set_option maxHeartbeats 1000000
/-! Dl2: how values and cells stand in the abstract heap; steps. -/
namespace Dl
open PySem L2

/-- exception classes' fields; the tables of code objects of the defs that make lambdas -/
structure FdT where
  f : Str → Str
  T : List (Addr × Str)
instance : CoeFun FdT (fun _ => Str → Str) := ⟨FdT.f⟩
/-- the classes of the text by their names, the module's names -/
structure Nm where
  K : PySem.W.Frag
  mg : Str → Option Value
  fd : FdT

/-- a list among the written part's own objects -/
def KL (K : PySem.W.Frag) (a : Addr) (vs : List V) : Prop := ∃ (its : List Value) (n : Nat), K.lookup a = some { cls := .type "list", data := .seq its.toArray n } ∧ vs.length ≤ sizeLine ∧ Vals vs its
/-- a list that stays as it is -/
def FzL (K : PySem.W.Frag) (H : Hp) (a : Addr) (vs : List V) : Prop := (∃ o, H a = some (.frz o (.lst vs))) ∨ KL K a vs
theorem KL.sq {K : PySem.W.Frag} {H : Hp} {a : Addr} {vs : List V} (h : KL K a vs) : SqL K H a vs := by
  obtain ⟨its, n, hk, hz, r⟩ := h
  exact .inr ⟨_, its.toArray, n, hk, rfl, rfl, rfl, by rw [List.size_toArray, ← r.length]; exact hz, by simpa using r⟩
theorem FzL.sq {K : PySem.W.Frag} {H : Hp} {a : Addr} {vs : List V} (h : FzL K H a vs) : SqL K H a vs := by
  rcases h with ⟨o, h⟩ | h
  · exact .inl (.inr ⟨o, h⟩)
  · exact h.sq
/-- the entries of a frozen dict -/
def DctAt (h : Heap) (a : Addr) (ks vs : List V) : Prop := ∃ (o : Obj) (es : Array DictEntry) (n : Nat), h.get? a = some o ∧ o.cls = .type "dict" ∧ o.data = .dict es n ∧
  Vals ks (es.toList.map (·.key)) ∧ Vals vs (es.toList.map (·.val))

mutual
inductive Pd (N : Nm) (H : Hp) : V → PyData → Prop where
  | non : Pd N H .non .none
  | bl (b : Bool) : Pd N H (.bl b) (.bool b)
  | int (i : Int) : Pd N H (.int i) (.int i)
  | str (x : Str) : Pd N H (.str x) (.str x)
  | tup {a : Addr} {vs : List V} {ds : List PyData} : SqT N.K H a vs → PdAll N H vs ds → Pd N H (.ref a) (.tuple ds)
  | lst {a : Addr} {vs : List V} {ds : List PyData} : FzL N.K H a vs → a ≠ sysModules → PdAll N H vs ds → Pd N H (.ref a) (.list ds)
  | dct {a : Addr} {φ : Heap → Prop} {ks vs : List V} {dk dv : List PyData} : H a = some (.ext φ) → (∀ h, φ h → DctAt h a ks vs) → a ≠ sysModules → PdAll N H ks dk → PdAll N H vs dv → dk.length = dv.length →
      Pd N H (.ref a) (.dict (dk.zip dv))
inductive PdAll (N : Nm) (H : Hp) : List V → List PyData → Prop where
  | nil : PdAll N H [] []
  | cons {v : V} {vs : List V} {d : PyData} {ds : List PyData} : Pd N H v d → PdAll N H vs ds → PdAll N H (v :: vs) (d :: ds)
end

mutual
inductive Rp (N : Nm) (H : Hp) (α : List Addr) : V → D → Prop where
  | p {v : V} {d : PyData} : Pd N H v d → Rp N H α v (.p d)
  | loc {a : Addr} {l : Nat} : α[l]? = some a → Rp N H α (.ref a) (.loc l)
  | tup {a : Addr} {vs : List V} {xs : List D} : SqT N.K H a vs → RpAll N H α vs xs → Rp N H α (.ref a) (.tup xs)
  | fn {f : Addr} {x : Str} : N.mg x = some (.ref f) → Rp N H α (.ref f) (.fn x)
inductive RpAll (N : Nm) (H : Hp) (α : List Addr) : List V → List D → Prop where
  | nil : RpAll N H α [] []
  | cons {v : V} {vs : List V} {d : D} {ds : List D} : Rp N H α v d → RpAll N H α vs ds → RpAll N H α (v :: vs) (d :: ds)
end

def CellOk (N : Nm) (H : Hp) (α : List Addr) (a : Addr) : Cell → Prop
  | .lst xs => ∃ vs, H a = some (.lst vs) ∧ RpAll N H α vs xs
  | .dK kvs => ∃ (ks : List Key) (vs : List V) (xs : List D), H a = some (.dK (ks.zip vs)) ∧ kvs = ks.zip xs ∧ ks.length = vs.length ∧ RpAll N H α vs xs
  | .lk kvs => ∃ (o : Obj) (ks : List Key) (vs : List V) (xs : List D), H a = some (.frz o (.dK (ks.zip vs))) ∧ kvs = ks.zip xs ∧ ks.length = vs.length ∧ RpAll N H α vs xs
  | .ins C fs => ∃ (Ca dx : Addr) (ks : List Str) (vs : List V) (xs : List D), N.mg C = some (.ref Ca) ∧ H a = some (.ins Ca dx (ks.zip vs)) ∧ fs = ks.zip xs ∧ ks.length = vs.length ∧ RpAll N H α vs xs ∧ Cls N.K Ca ∧ ∀ f ∈ ks, NoAttr N.K Ca f
  | .dead => H a ≠ none

structure StoOk (N : Nm) (H : Hp) (α : List Addr) (S : Sto) : Prop where
  len : α.length = S.length
  nd : α.Nodup
  cell : ∀ (l : Nat) (a : Addr) (c : Cell), α[l]? = some a → S[l]? = some c → CellOk N H α a c
  tb : LamX.Tabs N.fd.T H

/-- a live cell stands at a -/
def Live (α : List Addr) (S : Sto) (a : Addr) : Prop := ∃ (l : Nat) (c : Cell), α[l]? = some a ∧ S[l]? = some c ∧ c.lv = true

/-- a table of code objects -/
def isTb : HO → Prop
  | .tbl _ => True
  | _ => False
structure Stp (α : List Addr) (S : Sto) (H : Hp) (α' : List Addr) (S' : Sto) (H' : Hp) : Prop where
  pre : ∃ β, α' = α ++ β ∧ ∀ a ∈ β, H a = none
  still : ∀ (l : Nat) (c : Cell), S[l]? = some c → c.lv = false → S'[l]? = some c
  keep : ∀ a u, H a = some u → ¬ isTb u → ¬ Live α S a → H' a = some u
  there : ∀ a, H a ≠ none → H' a ≠ none

/-- objects that never are live cells -/
def Fix : HO → Prop
  | .tup _ => True
  | .frz _ (.lst _) => True
  | .frz _ (.tup _) => True
  | .ext _ => True
  | _ => False
theorem Fix.noTb {u : HO} (h : Fix u) : ¬ isTb u := by
  cases u <;> first | exact fun z => z | exact h.elim

section
variable {N : Nm} {H H' H1 H2 : Hp} {α α' α1 α2 : List Addr} {S S' S1 S2 : Sto}

theorem StoOk.notLive (ok : StoOk N H α S) {a : Addr} {u : HO} (e : H a = some u) (hf : Fix u) : ¬ Live α S a := by
  rintro ⟨l, c, h1, h2, h3⟩
  have q := ok.cell l a c h1 h2
  cases c with
  | lst xs => obtain ⟨vs, q, _⟩ := q; rw [e] at q; cases q; exact hf
  | dK kvs => obtain ⟨ks, vs, xs, q, _⟩ := q; rw [e] at q; cases q; exact hf
  | lk kvs => cases h3
  | ins C fs => obtain ⟨Ca, dx, ks, vs, xs, _, q, _⟩ := q; rw [e] at q; cases q; exact hf
  | dead => cases h3
theorem StoOk.notLive' (ok : StoOk N H α S) {a : Addr} {o : Obj} {z : HO} (e : H a = some (.frz o z)) : ¬ Live α S a := by
  rintro ⟨l, c, h1, h2, h3⟩
  have q := ok.cell l a c h1 h2
  cases c with
  | lst xs => obtain ⟨vs, q, _⟩ := q; rw [e] at q; cases q
  | dK kvs => obtain ⟨ks, vs, xs, q, _⟩ := q; rw [e] at q; cases q
  | lk kvs => cases h3
  | ins C fs => obtain ⟨Ca, dx, ks, vs, xs, _, q, _⟩ := q; rw [e] at q; cases q
  | dead => cases h3
theorem StoOk.notLiveT (ok : StoOk N H α S) {a : Addr} {u : HO} (e : H a = some u) (hf : isTb u) : ¬ Live α S a := by
  rintro ⟨l, c, h1, h2, h3⟩
  have q := ok.cell l a c h1 h2
  cases c with
  | lst xs => obtain ⟨vs, q, _⟩ := q; rw [e] at q; cases q; exact hf
  | dK kvs => obtain ⟨ks, vs, xs, q, _⟩ := q; rw [e] at q; cases q; exact hf
  | lk kvs => cases h3
  | ins C fs => obtain ⟨Ca, dx, ks, vs, xs, _, q, _⟩ := q; rw [e] at q; cases q; exact hf
  | dead => cases h3
/-- where all but live cells stays, the tables stay -/
theorem tabs_of (ok : StoOk N H α S) (k : ∀ a u, H a = some u → ¬ Live α S a → H' a = some u) (P : Addr) (q : Str) (t : LamX.TabS H P q) : LamX.TabS H' P q := by
  obtain ⟨ps, h1, h2, h3⟩ := t
  refine ⟨ps, k P _ h1 (ok.notLiveT h1 trivial), h2, fun pos cv hc => ?_⟩
  obtain ⟨c, e1, e2⟩ := h3 pos cv hc
  exact ⟨c, e1, k c _ e2 (ok.notLive e2 trivial)⟩
/-- a step that leaves the tables alone -/
theorem Stp.full (ok : StoOk N H α S) (pre : ∃ β, α' = α ++ β ∧ ∀ a ∈ β, H a = none) (still : ∀ (l : Nat) (c : Cell), S[l]? = some c → c.lv = false → S'[l]? = some c) (k : ∀ a u, H a = some u → ¬ Live α S a → H' a = some u) (there : ∀ a, H a ≠ none → H' a ≠ none) : Stp α S H α' S' H' :=
  ⟨pre, still, fun a u e _ nl => k a u e nl, there⟩
theorem tb_of (ok : StoOk N H α S) (k : ∀ a u, H a = some u → ¬ Live α S a → H' a = some u) : LamX.Tabs N.fd.T H' := fun p hp => tabs_of ok k p.1 p.2 (ok.tb p hp)
theorem StoOk.tracked (ok : StoOk N H α S) {l : Nat} {a : Addr} (h : α[l]? = some a) : H a ≠ none := by
  have hl : l < S.length := by
    rw [← ok.len]
    exact (List.getElem?_eq_some_iff.mp h).1
  have q := ok.cell l a S[l] h (List.getElem?_eq_getElem hl)
  generalize S[l] = c at q
  cases c with
  | lst xs => obtain ⟨vs, q, _⟩ := q; rw [q]; exact fun z => nomatch z
  | dK kvs => obtain ⟨ks, vs, xs, q, _⟩ := q; rw [q]; exact fun z => nomatch z
  | lk kvs => obtain ⟨o, ks, vs, xs, q, _⟩ := q; rw [q]; exact fun z => nomatch z
  | ins C fs => obtain ⟨Ca, dx, ks, vs, xs, _, q, _⟩ := q; rw [q]; exact fun z => nomatch z
  | dead => exact q
theorem StoOk.fresh (ok : StoOk N H α S) {a : Addr} (h : H a = none) : a ∉ α := fun hm => by
  obtain ⟨l, hl⟩ := List.getElem?_of_mem hm
  exact ok.tracked hl h
theorem Live.mem {a : Addr} (h : Live α S a) : a ∈ α := by
  obtain ⟨l, c, h1, _⟩ := h
  exact List.mem_of_getElem? h1

theorem Stp.refl : Stp α S H α S H := ⟨⟨[], by simp, by simp⟩, fun _ _ h _ => h, fun _ _ h _ _ => h, fun _ h => h⟩
theorem Stp.trans (ok : StoOk N H α S) (a : Stp α S H α1 S1 H1) (b : Stp α1 S1 H1 α2 S2 H2) : Stp α S H α2 S2 H2 := by
  obtain ⟨β, e1, f1⟩ := a.pre
  obtain ⟨γ, e2, f2⟩ := b.pre
  refine ⟨⟨β ++ γ, by rw [e2, e1, List.append_assoc], fun x hx => ?_⟩, fun l c h k => b.still l c (a.still l c h k) k, fun x u e nt nl => ?_, fun x h => b.there x (a.there x h)⟩
  · rcases List.mem_append.mp hx with h | h
    · exact f1 x h
    · have := f2 x h
      cases q : H x with
      | none => rfl
      | some u => exact absurd this (a.there x (by rw [q]; exact fun z => nomatch z))
  · refine b.keep x u (a.keep x u e nt nl) nt ?_
    rintro ⟨l, c, h1, h2, h3⟩
    by_cases hl : l < α.length
    · rw [e1, List.getElem?_append_left hl] at h1
      have hs : l < S.length := by rw [← ok.len]; exact hl
      have q : S[l]? = some S[l] := List.getElem?_eq_getElem hs
      cases hd : S[l].lv with
      | false =>
        have := a.still l _ q hd
        rw [h2] at this
        cases this
        rw [hd] at h3
        cases h3
      | true => exact nl ⟨l, S[l], h1, q, hd⟩
    · rw [e1, List.getElem?_append_right (by omega)] at h1
      have := f1 x (List.mem_of_getElem? h1)
      rw [this] at e
      cases e
theorem Stp.fix (ok : StoOk N H α S) (a : Stp α S H α' S' H') {x : Addr} {u : HO} (e : H x = some u) (hf : Fix u) : H' x = some u := a.keep x u e hf.noTb (ok.notLive e hf)
theorem Stp.loc (a : Stp α S H α' S' H') {l : Nat} {x : Addr} (e : α[l]? = some x) : α'[l]? = some x := by
  obtain ⟨β, e1, _⟩ := a.pre
  rw [e1, List.getElem?_append_left (List.getElem?_eq_some_iff.mp e).1]
  exact e
theorem Stp.sqT (ok : StoOk N H α S) (a : Stp α S H α' S' H') {x : Addr} {vs : List V} (h : SqT N.K H x vs) : SqT N.K H' x vs := by
  rcases h with (h | ⟨o, h⟩) | h
  · exact .inl (.inl (a.fix ok h trivial))
  · exact .inl (.inr ⟨o, a.fix ok h trivial⟩)
  · exact .inr h
/-- what values lean on stays: the places of cells, the objects that never change -/
structure Up (α : List Addr) (H : Hp) (α' : List Addr) (H' : Hp) : Prop where
  loc : ∀ (l : Nat) (x : Addr), α[l]? = some x → α'[l]? = some x
  fix : ∀ (x : Addr) (u : HO), H x = some u → Fix u → H' x = some u
/-- .. and what is locked stays -/
structure UpL (α : List Addr) (H : Hp) (α' : List Addr) (H' : Hp) : Prop extends Up α H α' H' where
  lk : ∀ (x : Addr) (o : Obj) (z : HO), H x = some (.frz o z) → H' x = some (.frz o z)
theorem Stp.upL (ok : StoOk N H α S) (a : Stp α S H α' S' H') : UpL α H α' H' := ⟨⟨fun _ _ e => a.loc e, fun _ _ e f => a.fix ok e f⟩, fun x o z e => a.keep x _ e (fun z => z) (ok.notLive' e)⟩
theorem Stp.up (ok : StoOk N H α S) (a : Stp α S H α' S' H') : Up α H α' H' := ⟨fun _ _ e => a.loc e, fun _ _ e f => a.fix ok e f⟩
theorem Up.sqT (a : Up α H α' H') {x : Addr} {vs : List V} (h : SqT N.K H x vs) : SqT N.K H' x vs := by
  rcases h with (h | ⟨o, h⟩) | h
  · exact .inl (.inl (a.fix _ _ h trivial))
  · exact .inl (.inr ⟨o, a.fix _ _ h trivial⟩)
  · exact .inr h
theorem Up.fzL (a : Up α H α' H') {K : PySem.W.Frag} {x : Addr} {vs : List V} (h : FzL K H x vs) : FzL K H' x vs := by
  rcases h with ⟨o, h⟩ | h
  · exact .inl ⟨o, a.fix _ _ h trivial⟩
  · exact .inr h
mutual
theorem Up.pd (a : Up α H α' H') : ∀ {d : PyData} {v : V}, Pd N H v d → Pd N H' v d
  | .none, _, h => by cases h; exact .non
  | .bool b, _, h => by cases h; exact .bl b
  | .int i, _, h => by cases h; exact .int i
  | .str x, _, h => by cases h; exact .str x
  | .tuple ds, _, h => by
    cases h with
    | tup h1 h2 => exact .tup (a.sqT h1) (a.pdAll h2)
  | .list ds, _, h => by
    cases h with
    | lst h1 h2 h3 => exact .lst (a.fzL h1) h2 (a.pdAll h3)
  | .dict kvs, v, h => by
    generalize hk : PyData.dict kvs = d at h
    cases h with
    | @dct b φ ks vs dk dv h1 h2 h3 h4 h5 h6 =>
      exact .dct (a.fix _ _ h1 trivial) h2 h3 (a.pdAll' kvs dk true (by injection hk with e; rw [e]; exact (List.map_fst_zip (by omega)).symm) h4) (a.pdAll' kvs dv false (by injection hk with e; rw [e]; exact (List.map_snd_zip (by omega)).symm) h5) h6
    | _ => cases hk
theorem Up.pdAll (a : Up α H α' H') : ∀ {ds : List PyData} {vs : List V}, PdAll N H vs ds → PdAll N H' vs ds
  | [], _, h => by cases h; exact .nil
  | d :: ds, _, h => by
    cases h with
    | cons h1 h2 => exact .cons (a.pd h1) (a.pdAll h2)
theorem Up.pdAll' (a : Up α H α' H') : ∀ (kvs : List (PyData × PyData)) (ds : List PyData) (k : Bool), ds = kvs.map (fun q => if k then q.1 else q.2) → ∀ {vs : List V}, PdAll N H vs ds → PdAll N H' vs ds
  | [], ds, k, e, _, h => by
    subst e
    cases h
    exact .nil
  | (x, y) :: r, ds, true, e, _, h => by
    subst e
    cases h with
    | cons h1 h2 => exact .cons (a.pd (d := x) h1) (a.pdAll' r _ true rfl h2)
  | (x, y) :: r, ds, false, e, _, h => by
    subst e
    cases h with
    | cons h1 h2 => exact .cons (a.pd (d := y) h1) (a.pdAll' r _ false rfl h2)
end
mutual
theorem Up.rp (a : Up α H α' H') : ∀ {d : D} {v : V}, Rp N H α v d → Rp N H' α' v d
  | .p d, _, h => by
    cases h with
    | p h => exact .p (a.pd h)
  | .loc l, _, h => by
    cases h with
    | loc h => exact .loc (a.loc _ _ h)
  | .tup xs, _, h => by
    cases h with
    | tup h1 h2 => exact .tup (a.sqT h1) (a.rpAll h2)
  | .fn x, _, h => by
    cases h with
    | fn h => exact .fn h
theorem Up.rpAll (a : Up α H α' H') : ∀ {ds : List D} {vs : List V}, RpAll N H α vs ds → RpAll N H' α' vs ds
  | [], _, h => by cases h; exact .nil
  | d :: ds, _, h => by
    cases h with
    | cons h1 h2 => exact .cons (a.rp h1) (a.rpAll h2)
end
theorem Stp.rp (ok : StoOk N H α S) (a : Stp α S H α' S' H') {d : D} {v : V} (h : Rp N H α v d) : Rp N H' α' v d := (a.up ok).rp h
theorem Stp.rpAll (ok : StoOk N H α S) (a : Stp α S H α' S' H') {ds : List D} {vs : List V} (h : RpAll N H α vs ds) : RpAll N H' α' vs ds := (a.up ok).rpAll h

/-! ### lists of values -/
theorem RpAll.length : ∀ {vs : List V} {ds : List D}, RpAll N H α vs ds → vs.length = ds.length
  | _, _, .nil => rfl
  | _, _, .cons _ t => congrArg Nat.succ t.length
theorem RpAll.get : ∀ {vs : List V} {ds : List D} {i : Nat} {d : D}, RpAll N H α vs ds → ds[i]? = some d → ∃ v, vs[i]? = some v ∧ Rp N H α v d
  | _, _, _, _, .nil, e => by simp at e
  | _, _, 0, _, .cons r _, e => by simp at e; subst e; exact ⟨_, rfl, r⟩
  | _, _, i + 1, d, .cons _ t, e => by
    obtain ⟨v, h1, h2⟩ := RpAll.get (i := i) (d := d) t (by simpa using e)
    exact ⟨v, by simpa using h1, h2⟩
theorem RpAll.get' : ∀ {vs : List V} {ds : List D} {i : Nat} {v : V}, RpAll N H α vs ds → vs[i]? = some v → ∃ d, ds[i]? = some d ∧ Rp N H α v d
  | _, _, _, _, .nil, e => by simp at e
  | _, _, 0, _, .cons r _, e => by simp at e; subst e; exact ⟨_, rfl, r⟩
  | _, _, i + 1, d, .cons _ t, e => by
    obtain ⟨v, h1, h2⟩ := RpAll.get' (i := i) (v := d) t (by simpa using e)
    exact ⟨v, by simpa using h1, h2⟩
theorem RpAll.append : ∀ {vs ws : List V} {ds es : List D}, RpAll N H α vs ds → RpAll N H α ws es → RpAll N H α (vs ++ ws) (ds ++ es)
  | _, _, _, _, .nil, s => s
  | _, _, _, _, .cons r t, s => .cons r (t.append s)
theorem RpAll.take : ∀ {vs : List V} {ds : List D} (n : Nat), RpAll N H α vs ds → RpAll N H α (vs.take n) (ds.take n)
  | _, _, 0, _ => .nil
  | _, _, _ + 1, .nil => .nil
  | _, _, n + 1, .cons r t => .cons r (t.take n)
theorem RpAll.drop : ∀ {vs : List V} {ds : List D} (n : Nat), RpAll N H α vs ds → RpAll N H α (vs.drop n) (ds.drop n)
  | _, _, 0, r => r
  | _, _, _ + 1, .nil => .nil
  | _, _, n + 1, .cons _ t => t.drop n
theorem RpAll.set {v : V} {d : D} (r : Rp N H α v d) : ∀ {vs : List V} {ds : List D} (i : Nat), RpAll N H α vs ds → RpAll N H α (vs.set i v) (ds.set i d)
  | _, _, _, .nil => .nil
  | _, _, 0, .cons _ t => .cons r t
  | _, _, i + 1, .cons q t => .cons q (t.set r i)
theorem RpAll.reverse : ∀ {vs : List V} {ds : List D}, RpAll N H α vs ds → RpAll N H α vs.reverse ds.reverse
  | _, _, .nil => .nil
  | _, _, .cons r t => by
    rw [List.reverse_cons, List.reverse_cons]
    exact t.reverse.append (.cons r .nil)
theorem RpAll.ofP : ∀ {vs : List V} {ds : List PyData}, PdAll N H vs ds → RpAll N H α vs (ds.map D.p)
  | _, [], h => by cases h; exact .nil
  | _, d :: ds, h => by
    cases h with
    | cons h1 h2 => exact .cons (.p h1) (RpAll.ofP h2)
theorem RpAll.toP : ∀ {vs : List V} {ds : List PyData}, RpAll N H α vs (ds.map D.p) → PdAll N H vs ds
  | _, [], h => by cases h; exact .nil
  | _, d :: ds, h => by
    cases h with
    | cons h1 h2 =>
      cases h1 with
      | p h1 => exact .cons h1 (RpAll.toP h2)
theorem rp_mkT {a : Addr} {vs : List V} {xs : List D} (h : SqT N.K H a vs) (r : RpAll N H α vs xs) : Rp N H α (.ref a) (mkT xs) := by
  unfold mkT
  cases e : allP xs with
  | none => exact .tup h r
  | some ds =>
    have := allP_eq e
    subst this
    exact .p (.tup h r.toP)
theorem Rp.int_inv {v : V} {i : Int} (h : Rp N H α v (.p (.int i))) : v = .int i := by
  cases h with | p h => cases h; rfl
theorem Rp.str_inv {v : V} {x : Str} (h : Rp N H α v (.p (.str x))) : v = .str x := by
  cases h with | p h => cases h; rfl
theorem Rp.bool_inv {v : V} {b : Bool} (h : Rp N H α v (.p (.bool b))) : v = .bl b := by
  cases h with | p h => cases h; rfl
theorem Rp.none_inv {v : V} (h : Rp N H α v (.p .none)) : v = .non := by
  cases h with | p h => cases h; rfl
theorem Rp.tup_inv {v : V} {d : D} {xs : List D} (h : Rp N H α v d) (e : tupOf d = some xs) : ∃ a vs, v = .ref a ∧ SqT N.K H a vs ∧ RpAll N H α vs xs := by
  cases h with
  | @p v d h =>
    cases d <;> simp [tupOf] at e
    subst e
    cases h with
    | tup h1 h2 => exact ⟨_, _, rfl, h1, RpAll.ofP h2⟩
  | loc h => simp [tupOf] at e
  | tup h1 h2 => simp at e; subst e; exact ⟨_, _, rfl, h1, h2⟩
  | fn h => simp [tupOf] at e
/-- a list as it stands: a cell, or frozen -/
theorem Rp.lst_inv (ok : StoOk N H α S) {v : V} {d : D} {xs : List D} (h : Rp N H α v d) (e : lstOf d S = some xs) : ∃ a vs, v = .ref a ∧ SqL N.K H a vs ∧ RpAll N H α vs xs := by
  cases h with
  | @p v d h =>
    cases d <;> simp [lstOf] at e
    subst e
    cases h with
    | lst h1 h2 h3 => exact ⟨_, _, rfl, h1.sq, RpAll.ofP h3⟩
  | @loc a l h =>
    unfold lstOf at e
    cases q : S[l]? with
    | none => simp [q] at e
    | some c =>
      cases c <;> simp [q] at e
      subst e
      obtain ⟨vs, h1, h2⟩ := ok.cell l a _ h q
      exact ⟨_, _, rfl, .inl (.inl h1), h2⟩
  | tup h1 h2 => simp [lstOf] at e
  | fn h => simp [lstOf] at e
theorem Rp.seq_inv (ok : StoOk N H α S) {v : V} {d : D} {xs : List D} (h : Rp N H α v d) (e : seqOf d S = some xs) : ∃ a vs, v = .ref a ∧ (SqL N.K H a vs ∨ SqT N.K H a vs) ∧ RpAll N H α vs xs := by
  unfold seqOf at e
  cases q : tupOf d with
  | some ys =>
    rw [q] at e
    simp at e
    subst e
    obtain ⟨a, vs, h1, h2, h3⟩ := h.tup_inv q
    exact ⟨a, vs, h1, .inr h2, h3⟩
  | none =>
    rw [q] at e
    simp at e
    obtain ⟨a, vs, h1, h2, h3⟩ := h.lst_inv ok e
    exact ⟨a, vs, h1, .inl h2, h3⟩

/-! ### steps that the rules make -/
/-- nothing changed but a new tracked object that is no cell -/
theorem step_new (ok : StoOk N H α S) {p : Addr} {o : HO} (hp : H p = none) : Stp α S H α S (upd H p o) := by
  refine Stp.full ok ⟨[], by simp, by simp⟩ (fun _ _ h _ => h) (fun a u e _ => ?_) (fun a h => ?_)
  · rw [upd_ne (ne_of_none e hp)]
    exact e
  · by_cases q : a = p
    · subst q
      exact absurd hp h
    · rw [upd_ne q]
      exact h
theorem CellOk.up (st : Up α H α' H') {a : Addr} {c : Cell} (h : CellOk N H α a c) (e : H' a = H a) : CellOk N H' α' a c := by
  cases c with
  | lst xs => obtain ⟨vs, q, r⟩ := h; exact ⟨vs, e.trans q, st.rpAll r⟩
  | dK kvs => obtain ⟨ks, vs, xs, q, e1, e2, r⟩ := h; exact ⟨ks, vs, xs, e.trans q, e1, e2, st.rpAll r⟩
  | lk kvs => obtain ⟨o, ks, vs, xs, q, e1, e2, r⟩ := h; exact ⟨o, ks, vs, xs, e.trans q, e1, e2, st.rpAll r⟩
  | ins C fs => obtain ⟨Ca, dx, ks, vs, xs, q0, q, e1, e2, r⟩ := h; exact ⟨Ca, dx, ks, vs, xs, q0, e.trans q, e1, e2, st.rpAll r.1, r.2⟩
  | dead => show H' a ≠ none; rw [e]; exact h
theorem CellOk.step (ok : StoOk N H α S) (st : Stp α S H α' S' H') {a : Addr} {c : Cell} (h : CellOk N H α a c) (e : H' a = H a) : CellOk N H' α' a c := by
  exact h.up (st.up ok) e
theorem sto_new (ok : StoOk N H α S) {p : Addr} {o : HO} (hp : H p = none) : StoOk N (upd H p o) α S := by
  refine ⟨ok.len, ok.nd, fun l a c h1 h2 => ?_, tb_of ok fun a u e _ => by rw [upd_ne (ne_of_none e hp)]; exact e⟩
  refine (ok.cell l a c h1 h2).step ok (step_new ok hp) (upd_ne ?_)
  intro q
  subst q
  exact ok.tracked h1 hp
/-- a new cell -/
theorem step_alloc (ok : StoOk N H α S) {p : Addr} {o : HO} {c : Cell} (hp : H p = none) : Stp α S H (α ++ [p]) (S ++ [c]) (upd H p o) := by
  have st := step_new ok (o := o) hp
  refine ⟨⟨[p], rfl, by simpa using hp⟩, fun l _ h _ => ?_, st.keep, st.there⟩
  rw [List.getElem?_append_left (List.getElem?_eq_some_iff.mp h).1]
  exact h
theorem sto_alloc (ok : StoOk N H α S) {p : Addr} {o : HO} {c : Cell} (hp : H p = none) (hc : CellOk N (upd H p o) (α ++ [p]) p c) : StoOk N (upd H p o) (α ++ [p]) (S ++ [c]) := by
  refine ⟨by simp [ok.len], ?_, fun l a c' h1 h2 => ?_, tb_of ok fun a u e _ => by rw [upd_ne (ne_of_none e hp)]; exact e⟩
  · rw [List.nodup_append]
    refine ⟨ok.nd, by simp, fun a ha b hb => ?_⟩
    simp at hb
    subst hb
    intro e
    subst e
    exact ok.fresh hp ha
  · by_cases hl : l < α.length
    · rw [List.getElem?_append_left hl] at h1
      rw [List.getElem?_append_left (by rw [← ok.len]; exact hl)] at h2
      refine (ok.cell l a c' h1 h2).step ok (step_alloc (c := c) ok hp) (upd_ne ?_)
      intro q
      subst q
      exact ok.tracked h1 hp
    · have hl' : l = α.length := by
        have := (List.getElem?_eq_some_iff.mp h1).1
        simp at this
        omega
      subst hl'
      simp at h1
      rw [ok.len] at h2
      simp at h2
      subst h1
      subst h2
      exact hc
/-- a live cell is changed -/
theorem step_set (ok : StoOk N H α S) {l : Nat} {a : Addr} {o : HO} {c c' : Cell} (hl : α[l]? = some a) (hs : S[l]? = some c) (hd : c.lv = true) : Stp α S H α (S.set l c') (upd H a o) := by
  have live : Live α S a := ⟨l, c, hl, hs, hd⟩
  refine Stp.full ok ⟨[], by simp, by simp⟩ (fun k cc h hk => ?_) (fun b u e nl => ?_) (fun b h => ?_)
  · by_cases q : l = k
    · subst q
      rw [hs] at h
      cases h
      rw [hd] at hk
      cases hk
    · rw [List.getElem?_set_ne q]
      exact h
  · have : b ≠ a := fun q => nl (q ▸ live)
    rw [upd_ne this]
    exact e
  · by_cases q : b = a
    · subst q
      rw [upd_same]
      exact fun z => nomatch z
    · rw [upd_ne q]
      exact h
theorem nodup_at (nd : α.Nodup) {k l : Nat} {a : Addr} (h1 : α[k]? = some a) (h2 : α[l]? = some a) : k = l := by
  obtain ⟨q1, e1⟩ := List.getElem?_eq_some_iff.mp h1
  obtain ⟨q2, e2⟩ := List.getElem?_eq_some_iff.mp h2
  exact (List.getElem_inj nd).mp (e1.trans e2.symm)
theorem sto_set (ok : StoOk N H α S) {l : Nat} {a : Addr} {o : HO} {c c' : Cell} (hl : α[l]? = some a) (hs : S[l]? = some c) (hd : c.lv = true) (hc : CellOk N (upd H a o) α a c') : StoOk N (upd H a o) α (S.set l c') := by
  refine ⟨by simp [ok.len], ok.nd, fun k b c'' h1 h2 => ?_, tb_of ok fun b u e nl => (upd_ne (fun q : b = a => nl (by rw [q]; exact ⟨l, c, hl, hs, hd⟩))).trans e⟩
  by_cases q : l = k
  · subst q
    rw [hl] at h1
    cases h1
    rw [List.getElem?_set_self (List.getElem?_eq_some_iff.mp hs).1] at h2
    cases h2
    exact hc
  · rw [List.getElem?_set_ne q] at h2
    refine (ok.cell k b c'' h1 h2).step ok (step_set ok hl hs hd (c' := c')) (upd_ne ?_)
    intro e
    subst e
    exact q (nodup_at ok.nd hl h1)
/-! the first n cells -/
mutual
theorem Rp.cut {n : Nat} : ∀ {d : D} {v : V}, Rp N H α v d → d.closed n = true → Rp N H (α.take n) v d
  | .p d, _, h, _ => by
    cases h with
    | p h => exact .p h
  | .loc l, _, h, c => by
    cases h with
    | loc h =>
      refine .loc ?_
      have : l < n := by simpa [D.closed] using c
      rw [List.getElem?_take_of_lt this]
      exact h
  | .tup xs, _, h, c => by
    cases h with
    | tup h1 h2 => exact .tup h1 (h2.cut (by simpa [D.closed] using c))
  | .fn x, _, h, _ => by
    cases h with
    | fn h => exact .fn h
theorem RpAll.cut {n : Nat} : ∀ {ds : List D} {vs : List V}, RpAll N H α vs ds → closedAll n ds = true → RpAll N H (α.take n) vs ds
  | [], _, h, _ => by cases h; exact .nil
  | d :: ds, _, h, c => by
    have c' : d.closed n = true ∧ closedAll n ds = true := by simpa [closedAll] using c
    cases h with
    | cons h1 h2 => exact .cons (h1.cut c'.1) (h2.cut c'.2)
end
theorem closedAll_all : ∀ {n : Nat} {xs : List D}, closedAll n xs = xs.all (·.closed n)
  | _, [] => rfl
  | n, x :: xs => by simp [closedAll, closedAll_all (xs := xs)]
theorem closed_zip {κ : Type} {n : Nat} : ∀ {ks : List κ} {xs : List D}, ks.length = xs.length → (ks.zip xs).all (fun kv => kv.2.closed n) = closedAll n xs
  | [], [], _ => rfl
  | k :: ks, x :: xs, h => by simp [closedAll, closed_zip (ks := ks) (xs := xs) (by simpa using h)]
  | [], _ :: _, h => by simp at h
  | _ :: _, [], h => by simp at h
theorem CellOk.cut {n : Nat} {a : Addr} {c : Cell} (h : CellOk N H α a c) (hc : c.closed n = true) : CellOk N H (α.take n) a c := by
  cases c with
  | lst xs => obtain ⟨vs, q, r⟩ := h; exact ⟨vs, q, r.cut hc⟩
  | dK kvs =>
    obtain ⟨ks, vs, xs, q, e1, e2, r⟩ := h
    subst e1
    exact ⟨ks, vs, xs, q, rfl, e2, r.cut (by rw [← closed_zip (ks := ks) (by rw [e2, r.length])]; exact hc)⟩
  | lk kvs =>
    obtain ⟨o, ks, vs, xs, q, e1, e2, r⟩ := h
    subst e1
    exact ⟨o, ks, vs, xs, q, rfl, e2, r.cut (by rw [← closed_zip (ks := ks) (by rw [e2, r.length])]; exact hc)⟩
  | ins C fs =>
    obtain ⟨Ca, dx, ks, vs, xs, q0, q, e1, e2, r⟩ := h
    subst e1
    exact ⟨Ca, dx, ks, vs, xs, q0, q, rfl, e2, r.1.cut (by rw [← closed_zip (ks := ks) (by rw [e2, r.1.length])]; exact hc), r.2⟩
  | dead => exact h
end
end Dl

set_option linter.all false
set_option maxHeartbeats 1000000
/-! Dl3: the readings of expressions, arguments, tests, statements by plain values; how they join. -/
namespace Dl
open PySem L2

/-- the slots of a frame -/
structure Rho (N : Nm) (H : Hp) (α : List Addr) (σ : St) (ρ : Slots) : Prop where
  len : σ.length = ρ.length
  at_ : ∀ (i : Nat) (d : D), ρ[i]? = some (some d) → ∃ v, σ[i]? = some (some v) ∧ Rp N H α v d
/-- an exception of the class named c with the value e -/
def XOk (N : Nm) (H : Hp) (α : List Addr) (cls : Value) (dx : Option Addr) (c : Str) (e : D) : Prop :=
  ∃ (Ca d : Addr) (w : V), cls = .ref Ca ∧ dx = some d ∧ N.mg c = some (.ref Ca) ∧ H d = some (.xd [(N.fd c, w)]) ∧ Rp N H α w e

section
variable (N : Nm) (E : XK)
def dRes (α : List Addr) (S : Sto) (H : Hp) (r : Res D) (Q : VK) : Prop := match r with
  | .ok d S' => ∀ v H' α', Stp α S H α' S' H' → StoOk N H' α' S' → Rp N H' α' v d → Q v H'
  | .ex c e S' => ∀ cls dx H' α', Stp α S H α' S' H' → StoOk N H' α' S' → XOk N H' α' cls dx c e → E cls dx H'
  | .st => False
def dResA (α : List Addr) (S : Sto) (H : Hp) (r : Res (List D)) (Q : List V → Hp → Prop) : Prop := match r with
  | .ok d S' => ∀ v H' α', Stp α S H α' S' H' → StoOk N H' α' S' → RpAll N H' α' v d → Q v H'
  | .ex c e S' => ∀ cls dx H' α', Stp α S H α' S' H' → StoOk N H' α' S' → XOk N H' α' cls dx c e → E cls dx H'
  | .st => False
def dResT (α : List Addr) (S : Sto) (H : Hp) (r : Res Bool) (Q : Bool → Hp → Prop) : Prop := match r with
  | .ok d S' => ∀ H' α', Stp α S H α' S' H' → StoOk N H' α' S' → Q d H'
  | .ex c e S' => ∀ cls dx H' α', Stp α S H α' S' H' → StoOk N H' α' S' → XOk N H' α' cls dx c e → E cls dx H'
  | .st => False
def dOut (α : List Addr) (S : Sto) (H : Hp) (r : Out) (Dn : Ends) : Prop := match r with
  | .nx ρ S' => ∀ σ H' α', Stp α S H α' S' H' → StoOk N H' α' S' → Rho N H' α' σ ρ → Dn.nx σ H'
  | .bk ρ S' => ∀ σ H' α', Stp α S H α' S' H' → StoOk N H' α' S' → Rho N H' α' σ ρ → Dn.bk σ H'
  | .ct ρ S' => ∀ σ H' α', Stp α S H α' S' H' → StoOk N H' α' S' → Rho N H' α' σ ρ → Dn.ct σ H'
  | .rt d S' => ∀ v H' α', Stp α S H α' S' H' → StoOk N H' α' S' → Rp N H' α' v d → Dn.rt v H'
  | .ex c e S' => ∀ cls dx H' α', Stp α S H α' S' H' → StoOk N H' α' S' → XOk N H' α' cls dx c e → E cls dx H'
  | .st => False
def dE (F : Slots → Sto → Res D) : TE := fun σ H Q => ∃ ρ S α, Rho N H α σ ρ ∧ StoOk N H α S ∧ dRes N E α S H (F ρ S) Q
def dA (F : Slots → Sto → Res (List D)) : TA := fun σ H Q => ∃ ρ S α, Rho N H α σ ρ ∧ StoOk N H α S ∧ dResA N E α S H (F ρ S) Q
def dT (F : Slots → Sto → Res Bool) : TT := fun σ H Q => ∃ ρ S α, Rho N H α σ ρ ∧ StoOk N H α S ∧ dResT N E α S H (F ρ S) Q
def dS (F : Slots → Sto → Out) : TS := fun Dn σ H => ∃ ρ S α, Rho N H α σ ρ ∧ StoOk N H α S ∧ dOut N E α S H (F ρ S) Dn
end

section
variable {N : Nm} {E : XK} {H H1 : Hp} {α α1 : List Addr} {S S1 : Sto} {σ : St} {ρ : Slots}
theorem Rho.step (ok : StoOk N H α S) (a : Stp α S H α1 S1 H1) (r : Rho N H α σ ρ) : Rho N H1 α1 σ ρ :=
  ⟨r.len, fun i d h => let ⟨v, h1, h2⟩ := r.at_ i d h; ⟨v, h1, a.rp ok h2⟩⟩
theorem Rho.set (r : Rho N H α σ ρ) {v : V} {d : D} (i : Nat) (h : Rp N H α v d) : Rho N H α (σ.set i (some v)) (ρ.set i (some d)) := by
  refine ⟨by simp [r.len], fun j e hj => ?_⟩
  by_cases q : i = j
  · subst q
    by_cases hi : i < ρ.length
    · rw [List.getElem?_set_self hi] at hj
      cases hj
      exact ⟨v, by rw [List.getElem?_set_self (by rw [r.len]; exact hi)], h⟩
    · rw [List.getElem?_eq_none (by simpa using hi)] at hj
      cases hj
  · rw [List.getElem?_set_ne q] at hj ⊢
    exact r.at_ j e hj
theorem dRes.shift (ok : StoOk N H α S) (a : Stp α S H α1 S1 H1) {r : Res D} {Q : VK} (h : dRes N E α S H r Q) : dRes N E α1 S1 H1 r Q := by
  cases r with
  | ok d S' => exact fun v H' α' st o r => h v H' α' (a.trans ok st) o r
  | ex c e S' => exact fun cls dx H' α' st o r => h cls dx H' α' (a.trans ok st) o r
  | st => exact h
theorem dResA.shift (ok : StoOk N H α S) (a : Stp α S H α1 S1 H1) {r : Res (List D)} {Q : List V → Hp → Prop} (h : dResA N E α S H r Q) : dResA N E α1 S1 H1 r Q := by
  cases r with
  | ok d S' => exact fun v H' α' st o r => h v H' α' (a.trans ok st) o r
  | ex c e S' => exact fun cls dx H' α' st o r => h cls dx H' α' (a.trans ok st) o r
  | st => exact h
theorem dResT.shift (ok : StoOk N H α S) (a : Stp α S H α1 S1 H1) {r : Res Bool} {Q : Bool → Hp → Prop} (h : dResT N E α S H r Q) : dResT N E α1 S1 H1 r Q := by
  cases r with
  | ok d S' => exact fun H' α' st o => h H' α' (a.trans ok st) o
  | ex c e S' => exact fun cls dx H' α' st o r => h cls dx H' α' (a.trans ok st) o r
  | st => exact h
theorem dOut.shift (ok : StoOk N H α S) (a : Stp α S H α1 S1 H1) {r : Out} {Q : Ends} (h : dOut N E α S H r Q) : dOut N E α1 S1 H1 r Q := by
  cases r with
  | nx d S' => exact fun v H' α' st o r => h v H' α' (a.trans ok st) o r
  | rt d S' => exact fun v H' α' st o r => h v H' α' (a.trans ok st) o r
  | bk d S' => exact fun v H' α' st o r => h v H' α' (a.trans ok st) o r
  | ct d S' => exact fun v H' α' st o r => h v H' α' (a.trans ok st) o r
  | ex c e S' => exact fun cls dx H' α' st o r => h cls dx H' α' (a.trans ok st) o r
  | st => exact h

/-! ### two values by an operator -/
def dOp (N : Nm) (E : XK) (g : D → D → Sto → Res D) : R2 := fun x y H Q => ∃ S α a b, StoOk N H α S ∧ Rp N H α x a ∧ Rp N H α y b ∧ dRes N E α S H (g a b S) Q
def dU (N : Nm) (E : XK) (g : D → Sto → Res D) : V → Hp → VK → Prop := fun x H Q => ∃ S α a, StoOk N H α S ∧ Rp N H α x a ∧ dRes N E α S H (g a S) Q
def dN (N : Nm) (E : XK) (g : List D → Sto → Res D) : List V → Hp → VK → Prop := fun xs H Q => ∃ S α ds, StoOk N H α S ∧ RpAll N H α xs ds ∧ dRes N E α S H (g ds S) Q
theorem dE_op {Fa Fb : Slots → Sto → Res D} {g : D → D → Sto → Res D} {Q : VK} (h : dE N E (fun ρ S => (Fa ρ S).bind fun a S1 => (Fb ρ S1).bind fun b S2 => g a b S2) σ H Q) :
    tOp (dOp N E g) (dE N E Fa) (dE N E Fb) σ H Q := by
  show dE N E Fa σ H fun x H1 => dE N E Fb σ H1 fun y H2 => dOp N E g x y H2 Q
  obtain ⟨ρ, S, α, r, ok, h⟩ := h
  try dsimp only at h
  refine ⟨ρ, S, α, r, ok, ?_⟩
  cases e : Fa ρ S with
  | ok a S1 =>
    rw [e] at h
    intro x H1 α1 st ok1 rx
    refine ⟨ρ, S1, α1, r.step ok st, ok1, ?_⟩
    have h := dRes.shift ok st h
    simp only [bind_ok] at h
    cases e2 : Fb ρ S1 with
    | ok b S2 =>
      rw [e2] at h
      intro y H2 α2 st2 ok2 ry
      exact ⟨S2, α2, a, b, ok2, st2.rp ok1 rx, ry, dRes.shift ok1 st2 h⟩
    | ex c e' S' => rw [e2] at h; exact h
    | st => rw [e2] at h; exact h
  | ex c e' S' => rw [e] at h; exact h
  | st => rw [e] at h; exact h
theorem dE_un {Fa : Slots → Sto → Res D} {g : D → Sto → Res D} {Q : VK} (h : dE N E (fun ρ S => (Fa ρ S).bind g) σ H Q) : tUn (dU N E g) (dE N E Fa) σ H Q := by
  show dE N E Fa σ H fun x H1 => dU N E g x H1 Q
  obtain ⟨ρ, S, α, r, ok, h⟩ := h
  try dsimp only at h
  refine ⟨ρ, S, α, r, ok, ?_⟩
  cases e : Fa ρ S with
  | ok a S1 =>
    rw [e] at h
    intro x H1 α1 st ok1 rx
    exact ⟨S1, α1, a, ok1, rx, dRes.shift ok st h⟩
  | ex c e' S' => rw [e] at h; exact h
  | st => rw [e] at h; exact h
theorem dE_args {Fs : Slots → Sto → Res (List D)} {g : List D → Sto → Res D} {Q : VK} (h : dE N E (fun ρ S => (Fs ρ S).bind g) σ H Q) : dA N E Fs σ H fun xs H1 => dN N E g xs H1 Q := by
  obtain ⟨ρ, S, α, r, ok, h⟩ := h
  try dsimp only at h
  refine ⟨ρ, S, α, r, ok, ?_⟩
  cases e : Fs ρ S with
  | ok a S1 =>
    rw [e] at h
    intro x H1 α1 st ok1 rx
    exact ⟨S1, α1, a, ok1, rx, dRes.shift ok st h⟩
  | ex c e' S' => rw [e] at h; exact h
  | st => rw [e] at h; exact h
theorem dA_nil {Q : List V → Hp → Prop} (h : dA N E (fun _ S => .ok [] S) σ H Q) : tNil σ H Q := by
  obtain ⟨ρ, S, α, r, ok, h⟩ := h
  try dsimp only at h
  exact h [] H α .refl ok .nil
theorem dA_cons {Fa : Slots → Sto → Res D} {Fs : Slots → Sto → Res (List D)} {Q : List V → Hp → Prop} (h : dA N E (fun ρ S => (Fa ρ S).bind fun a S1 => (Fs ρ S1).bind fun as S2 => .ok (a :: as) S2) σ H Q) :
    tCons (dE N E Fa) (dA N E Fs) σ H Q := by
  show dE N E Fa σ H fun x H1 => dA N E Fs σ H1 fun xs H2 => Q (x :: xs) H2
  obtain ⟨ρ, S, α, r, ok, h⟩ := h
  try dsimp only at h
  refine ⟨ρ, S, α, r, ok, ?_⟩
  cases e : Fa ρ S with
  | ok a S1 =>
    rw [e] at h
    intro x H1 α1 st ok1 rx
    refine ⟨ρ, S1, α1, r.step ok st, ok1, ?_⟩
    have h := dResA.shift ok st h
    simp only [bind_ok] at h
    cases e2 : Fs ρ S1 with
    | ok b S2 =>
      rw [e2] at h
      intro y H2 α2 st2 ok2 ry
      exact h (x :: y) H2 α2 st2 ok2 (.cons (st2.rp ok1 rx) ry)
    | ex c e' S' => rw [e2] at h; exact h
    | st => rw [e2] at h; exact h
  | ex c e' S' => rw [e] at h; exact h
  | st => rw [e] at h; exact h

/-! ### weaker readings -/
theorem PE.imp {X : Cx} {e : Expr} {t t' : TE} (h : PE X e t) (i : ∀ σ H Q, t' σ H Q → t σ H Q) : PE X e t' := ⟨fun pins s σ H Q I q => h.run pins s σ H Q I (i σ H Q q)⟩
theorem PT.imp {X : Cx} {e : Expr} {t t' : TT} (h : PT X e t) (i : ∀ σ H Q, t' σ H Q → t σ H Q) : PT X e t' := ⟨fun pins s σ H Q I q => h.run pins s σ H Q I (i σ H Q q)⟩
theorem PW.imp {X : Cx} {e : Expr} {t t' : TT} (h : PW X e t) (i : ∀ σ H Q, t' σ H Q → t σ H Q) : PW X e t' := ⟨fun wh pins s σ H Q I q => h.run wh pins s σ H Q I (i σ H Q q)⟩
theorem PA.imp {X : Cx} {e : List Expr} {t t' : TA} (h : PA X e t) (i : ∀ σ H Q, t' σ H Q → t σ H Q) : PA X e t' := ⟨fun pos pins s σ H Q I q => h.run pos pins s σ H Q I (i σ H Q q)⟩
theorem PS.imp {X : Cx} {e : Stmt} {t t' : TS} (h : PS X e t) (i : ∀ D σ H, t' D σ H → t D σ H) : PS X e t' := ⟨fun pins s σ H D I q => h.run pins s σ H D I (i D σ H q)⟩
theorem PSs.imp {X : Cx} {e : List Stmt} {t t' : TS} (h : PSs X e t) (i : ∀ D σ H, t' D σ H → t D σ H) : PSs X e t' := ⟨fun pins s σ H D I q => h.run pins s σ H D I (i D σ H q)⟩
end
end Dl

set_option linter.all false
set_option maxHeartbeats 1000000
/-! Dl4: a new list may be frozen. -/
namespace Dl
open PySem L2

section
variable {X : Cx} {pins : List (Addr × Obj)} {σ : St} {H : Hp} {s : Shared} {a : Addr} {u u' : HO}
/-- an object that nothing leans on is told otherwise -/
theorem hok_relab (ok : HOk X.prog X.w H s.heap) (e : H a = some u) (h1 : ∀ x, u ≠ .own x) (h2 : ∀ xs, u ≠ .tup xs) (new : ObjOk X.prog X.w (upd H a u') s.heap a u') : HOk X.prog X.w (upd H a u') s.heap := fun b w q => by
  by_cases hb : b = a
  · subst hb
    rw [upd_same] at q
    cases q
    exact new
  · rw [upd_ne hb] at q
    refine (ok b w q).stay (fun c v _ z => z) (fun c z => ?_) fun c xs z => ?_
    · rw [upd_ne]
      · exact z
      · rintro rfl
        rw [e] at z
        exact h1 _ (Option.some.inj z)
    · rw [upd_ne]
      · exact z
      · rintro rfl
        rw [e] at z
        exact h2 _ (Option.some.inj z)
theorem inv_relab (I : Inv X pins σ H s) (e : H a = some u) (h1 : ∀ x, u ≠ .own x) (h2 : ∀ xs, u ≠ .tup xs) (h3 : ∀ o w, u ≠ .frz o w) (h4 : ∀ ps, u ≠ .tbl ps) (new : ObjOk X.prog X.w (upd H a u') s.heap a u') : Inv X pins σ (upd H a u') s := by
  have ne : ∀ b, H b = none → b ≠ a := fun b z q => by
    subst q
    rw [e] at z
    cases z
  refine ⟨I.ok, I.os, I.bare, ⟨I.base.keep, I.base.slot, fun b o q n hx => ?_, I.base.there, fun b xs q => ?_, fun b o w q => ?_, fun b ps q => ?_⟩, I.loc, I.cell, ?_, fun x c q => ?_, fun p hp => ?_, hok_relab I.hok e h1 h2 new, I.len⟩
  · have z := I.base.free b o q n hx
    rw [upd_ne (ne b z)]
    exact z
  · have z := I.base.tups b xs q
    rw [upd_ne (by rintro rfl; rw [e] at z; exact h2 _ (Option.some.inj z))]
    exact z
  · have z := I.base.frzs b o w q
    rw [upd_ne (by rintro rfl; rw [e] at z; exact h3 _ _ (Option.some.inj z))]
    exact z
  · obtain ⟨m, z⟩ := I.base.tbls b ps q
    refine ⟨m, ?_⟩
    rw [upd_ne (by rintro rfl; rw [e] at z; exact h4 _ (Option.some.inj z))]
    exact z
  · rw [upd_ne (ne _ I.free)]
    exact I.free
  · have z := I.freeC x c q
    rw [upd_ne (ne c z)]
    exact z
  · obtain ⟨z1, z2, z3⟩ := I.pin p hp
    refine ⟨z1, ?_, z3⟩
    rw [upd_ne (ne _ z2)]
    exact z2
/-- the module's dict of modules stands in the base -/
def SysIn (X : Cx) : Prop := ∃ o, X.base.get? sysModules = some o
theorem not_sys (hs : SysIn X) (I : Inv X pins σ H s) (e : H a = some u) : a ≠ sysModules := by
  rintro rfl
  obtain ⟨o, q⟩ := hs
  rw [(I.bs _ o q).2] at e
  cases e
/-- a tracked list is frozen -/
theorem inv_freeze {vs : List V} (I : Inv X pins σ H s) (e : H a = some (.lst vs)) : ∃ o, Inv X pins σ (upd H a (.frz o (.lst vs))) s := by
  have hx := I.hok a _ e
  obtain ⟨z, its, n, r, q⟩ := id hx
  exact ⟨_, inv_relab I e (fun _ z => nomatch z) (fun _ z => nomatch z) (fun _ _ z => nomatch z) (fun _ z => nomatch z) ⟨q, z, its, n, r, q⟩⟩
end

/-- as it is, or frozen -/
def FzOr (Q : VK) : VK := fun v H => Q v H ∨ ∃ a vs, v = .ref a ∧ H a = some (.lst vs) ∧ ∀ o, a ≠ sysModules → Q v (upd H a (.frz o (.lst vs)))
theorem ep_fz {X : Cx} {pins : List (Addr × Obj)} {σ : St} {Q : VK} {u : Value} {s' : Shared} (hs : SysIn X) (h : EP X pins σ (FzOr Q) u s') : EP X pins σ Q u s' := by
  obtain ⟨v, H', I, r, q | ⟨a, vs, e, ha, q⟩⟩ := h
  · exact ⟨v, H', I, r, q⟩
  · obtain ⟨o, J⟩ := inv_freeze I ha
    exact ⟨v, _, J, r, q o (not_sys hs I ha)⟩
section
variable {X : Cx}
theorem pe_fz (hs : SysIn X) {e : Expr} {t : TE} (h : PE X e t) : PE X e fun σ H Q => t σ H (FzOr Q) :=
  ⟨fun pins s σ H Q I q => thn (h.run pins s σ H _ I q) fun u s' z => ep_fz hs z⟩
end

section
variable {N : Nm} {E : XK} {H : Hp} {α : List Addr} {S : Sto}
/-- a new list at p -/
theorem newL {m : Bool} {xs : List D} {vs : List V} {Q : VK} (ok : StoOk N H α S) (r : RpAll N H α vs xs) (h : dRes N E α S H (mkL m xs S) Q) : ∀ p, H p = none → FzOr Q (.ref p) (upd H p (.lst vs)) := fun p hp => by
  have cell : dRes N E α S H (.ok (.loc S.length) (S ++ [.lst xs])) Q → Q (.ref p) (upd H p (.lst vs)) := fun h => by
    have st := step_alloc (c := .lst xs) (o := .lst vs) ok hp
    refine h _ _ (α ++ [p]) st (sto_alloc ok hp ⟨vs, upd_same, st.rpAll ok r⟩) (.loc ?_)
    rw [← ok.len]
    simp
  cases m with
  | true =>
    rw [mkL_true] at h
    exact .inl (cell h)
  | false =>
    unfold mkL at h
    cases e : allP xs with
    | none =>
      rw [e] at h
      exact .inl (cell h)
    | some ds =>
      rw [e] at h
      refine .inr ⟨p, vs, rfl, upd_same, fun o ho => ?_⟩
      rw [upd_upd]
      have st : Stp α S H α S (upd H p (.frz o (.lst vs))) := step_new ok hp
      have := allP_eq e
      subst this
      exact h _ _ α st (sto_new ok hp) (.p (.lst (.inl ⟨_, upd_same⟩) ho (st.rpAll ok r).toP))
/-- a new tuple at p -/
theorem newT {xs : List D} {vs : List V} {Q : VK} (ok : StoOk N H α S) (r : RpAll N H α vs xs) (h : dRes N E α S H (.ok (mkT xs) S) Q) : ∀ p, H p = none → Q (.ref p) (upd H p (.tup vs)) := fun p hp => by
  have st : Stp α S H α S (upd H p (.tup vs)) := step_new ok hp
  exact h _ _ α st (sto_new ok hp) (rp_mkT (.inl (.inl upd_same)) (st.rpAll ok r))
end
end Dl

set_option linter.all false
set_option maxRecDepth 100000
set_option maxHeartbeats 4000000
/-! Dl5: operators by plain values. -/
namespace Dl
open PySem PySem.Spec PyProof.Rows L2

abbrev nm (X : Cx) (fd : FdT) : Nm := ⟨X.K, X.mg, fd⟩

/-! ### what the operators give -/
def opAdd (m : Bool) (x y : D) (S : Sto) : Res D := match x, y with
  | .p (.int i), .p (.int j) => .ok (.i (i + j)) S
  | .p (.str a), .p (.str b) => if a.length + b.length ≤ sizeLine then .ok (.s (a ++ b)) S else .st
  | x, y => match tupOf x, tupOf y, lstOf x S, lstOf y S with
    | some xs, some ys, _, _ => if xs.length + ys.length ≤ sizeLine then .ok (mkT (xs ++ ys)) S else .st
    | _, _, some xs, some ys => if xs.length + ys.length ≤ sizeLine then mkL m (xs ++ ys) S else .st
    | _, _, _, _ => .st
def opSub (x y : D) (S : Sto) : Res D := match x, y with
  | .p (.int i), .p (.int j) => .ok (.i (i - j)) S
  | _, _ => .st
def opMul (m : Bool) (x y : D) (S : Sto) : Res D := match x, y with
  | .p (.int i), .p (.int j) => if i.natAbs.log2 + j.natAbs.log2 < 1000000 then .ok (.i (i * j)) S else .st
  | x, .p (.int k) => match tupOf x, lstOf x S with
    | some xs, _ => if xs.length ≤ 1000 ∧ k ≤ 1000 ∧ -1000 ≤ k then .ok (mkT (List.replicate k.toNat xs).flatten) S else .st
    | _, some xs => if xs.length ≤ 1000 ∧ k ≤ 1000 ∧ -1000 ≤ k then mkL m (List.replicate k.toNat xs).flatten S else .st
    | _, _ => .st
  | _, _ => .st
def opDiv (x y : D) (S : Sto) : Res D := match x, y with
  | .p (.int i), .p (.int j) => if 0 < j ∧ j.natAbs.log2 < 9000 then .ok (.i (i / j)) S else .st
  | _, _ => .st
def opMod (x y : D) (S : Sto) : Res D := match x, y with
  | .p (.int i), .p (.int j) => if 0 < j then .ok (.i (i % j)) S else .st
  | _, _ => .st
def opPow (x y : D) (S : Sto) : Res D := match x, y with
  | .p (.int i), .p (.int j) => if 0 ≤ j ∧ j ≤ 1000000 ∧ i.natAbs < 2 ^ 64 then .ok (.i (i ^ j.toNat)) S else .st
  | _, _ => .st
def opAnd (x y : D) (S : Sto) : Res D := match x, y with
  | .p (.int i), .p (.int j) => .ok (.i (Builtin.bitAnd i j)) S
  | _, _ => .st
def opShr (x y : D) (S : Sto) : Res D := match x, y with
  | .p (.int i), .p (.int j) => if 0 ≤ j then .ok (.i (i / 2 ^ j.toNat)) S else .st
  | _, _ => .st
def opBin (op : Operator) (m : Bool) (x y : D) (S : Sto) : Res D := match op with
  | .Add => opAdd m x y S
  | .Sub => opSub x y S
  | .Mult => opMul m x y S
  | .FloorDiv => opDiv x y S
  | .Mod => opMod x y S
  | .Pow => opPow x y S
  | .BitAnd => opAnd x y S
  | .RShift => opShr x y S
  | _ => .st

section
variable {X : Cx} {fd : FdT} {E : XK}
/-! ### lists that are read: tracked or frozen -/
def RdL (K : PySem.W.Frag) (H : Hp) (l : Addr) (xs : List V) : Prop := Rd H l (.lst xs) ∨ KL K l xs
theorem rd_list {pins : List (Addr × Obj)} {σ : L2.St} {H : Hp} {s : Shared} {l : Addr} {xs : List V} (I : Inv X pins σ H s) (r : RdL X.K H l xs) :
    xs.length ≤ sizeLine ∧ ∃ (its : List Value) (n : Nat), Vals xs its ∧ s.heap.get? l = some { cls := .type "list", data := .seq its.toArray n } := by
  rcases r with r | ⟨its, n, hk, hz, r⟩
  · exact r.ok I.hok
  · exact ⟨hz, its, n, r, I.kIn _ _ hk⟩
theorem Rp.lst_rd {N : Nm} {H : Hp} {α : List Addr} {S : Sto} (ok : StoOk N H α S) {v : V} {d : D} {xs : List D} (h : Rp N H α v d) (e : lstOf d S = some xs) : ∃ a vs, v = .ref a ∧ RdL N.K H a vs ∧ RpAll N H α vs xs := by
  cases h with
  | @p v d h =>
    cases d <;> simp [lstOf] at e
    subst e
    cases h with
    | lst h1 h2 h3 =>
      refine ⟨_, _, rfl, ?_, RpAll.ofP h3⟩
      rcases h1 with h1 | h1
      · exact .inl (.inr h1)
      · exact .inr h1
  | @loc a l h =>
    unfold lstOf at e
    cases q : S[l]? with
    | none => simp [q] at e
    | some c =>
      cases c <;> simp [q] at e
      subst e
      obtain ⟨vs, h1, h2⟩ := ok.cell l a _ h q
      exact ⟨_, _, rfl, .inl (.inl h1), h2⟩
  | tup h1 h2 => simp [lstOf] at e
  | fn h => simp [lstOf] at e
def rCatR (K : PySem.W.Frag) : R2 := fun x y H Q => ∃ (l b : Addr) (xs ys : List V), x = .ref l ∧ y = .ref b ∧ RdL K H l xs ∧ RdL K H b ys ∧ xs.length + ys.length ≤ sizeLine ∧ ∀ p, H p = none → Q (.ref p) (upd H p (.lst (xs ++ ys)))
theorem op_catR : OpR X (binaryOp .Add) (rCatR X.K) := by
  intro pins s σ H x y v u Q I rx ry ⟨l, b, xs, ys, ex, ey, hl, hb, hsz, q⟩
  subst ex ey
  cases rx
  cases ry
  obtain ⟨z1, i1, n1, r1, g1⟩ := rd_list I hl
  obtain ⟨z2, i2, n2, r2, g2⟩ := rd_list I hb
  have a1 := r1.length
  have a2 := r2.length
  refine PySem.P.add_list g1 g2 ?_ (by simp; omega)
  have e : i1.toArray ++ i2.toArray = (i1 ++ i2).toArray := by simp
  rw [e]
  have new := I.lnew (t' := s.toks) (r1.append r2) (by simp; omega)
  exact ⟨.ref _, _, new, rfl, q _ I.fresh⟩
def rRepR (K : PySem.W.Frag) : R2 := fun x y H Q => ∃ (l : Addr) (k : Int) (xs : List V), x = .ref l ∧ y = .int k ∧ RdL K H l xs ∧ xs.length ≤ 1000 ∧ k ≤ 1000 ∧ -1000 ≤ k ∧ ∀ p, H p = none → Q (.ref p) (upd H p (.lst (List.replicate k.toNat xs).flatten))
theorem op_repR : OpR X (binaryOp .Mult) (rRepR X.K) := by
  intro pins s σ H x y v u Q I rx ry ⟨l, k, xs, ex, ey, hl, h1, h2, h3, q⟩
  subst ex ey
  cases rx
  obtain ⟨t, rfl⟩ := ry
  obtain ⟨z, its, n, r, g⟩ := rd_list I hl
  have el := r.length
  have prod : its.length * k.toNat ≤ 1000 * 1000 := Nat.mul_le_mul (by omega) (by omega)
  have big : 1000 * 1000 ≤ sizeLine := by decide
  have cap : ¬ its.toArray.size * k.toNat > (2 ^ 63 - 1) / 8 := by simp only [List.size_toArray]; omega
  have fit : ¬ (!Builtin.List.listFitsIndex k) = true := by rw [fitsIndex_both (by omega) (by omega)]; decide
  have long : ¬ Builtin.List.listTooLong (its.toArray.size * k.toNat) = true := by
    rw [notLongL (by simp only [List.size_toArray]; omega)]
    decide
  have new : List.foldl (fun x1 x2 => x1 ++ x2) #[] (List.replicate (if its.toArray.isEmpty = true then 0 else k.toNat) its.toArray) = (List.replicate k.toNat its).flatten.toArray := by
    rw [size_rep]
    cases its with
    | nil => simp
    | cons a b => simp
  refine wpAny_binaryOp_repeat_ref (T := "list") (U := "int") (by decide) ⟨_, g, rfl⟩ (fun z => typeIs_int z k t) noFill_list_mul F.fills_int_mul F.slot_int_rmul repeat_list F.slot_int_index.lookup ?_
  refine call_meets F.slot_int_rmul (typeIs_int s k t) F.entry_int_rmul (F.args_int_rmul_2 _ _) (int___rmul___int_list k t l its.toArray n) ⟨g, rfl, ⟨_, g, rfl⟩, ?_⟩
  refine call_meets F.slot_list_mul ⟨_, g, rfl⟩ F.entry_list_mul (F.args_list_mul_2 _ _) (AutoListH.list___mul___list_int_3 l its.toArray n k t fit cap long) ⟨g, ?_⟩
  rw [new]
  exact ⟨.ref _, _, I.lnew (t' := s.toks) (r.rep k.toNat) (by rw [PyProof.Rows.lm_len_rep_flat, Nat.mul_comm, el]; omega), rfl, q _ I.fresh⟩
end
/-! ### a tuple so many times -/
theorem tup_mul_same (l : Addr) (its : Array Value) (n : Nat) (dd : Option Addr) (sl : Array (Option Value)) (x : Int) (u : Tok) (h0 : (decide (x < -(2 ^ 63)) || decide (x ≥ 2 ^ 63)) = false) (h1 : (its.isEmpty || x == 1) = true) :
    Meets (Builtin.«tuple.__mul__» ⟨[.ref l, .int x u], []⟩) (fun _ R s => s.heap.get? l = some { cls := .type "tuple", dict := dd, data := .seq its n, slots := sl } ∧ R (.ok (.ret (Value.ref l))) s) :=
  .of_wp fun prog w A R s h => by
    obtain ⟨hp, g, d, tk, os⟩ := s
    obtain ⟨hl, h⟩ := h
    have f1 := AutoSeq1.idx_int
    wp_walk using wpAny_loadPart' hl
    refine wpAny_ite_false (decide_eq_false (by rw [h0]; decide)) ?_
    wp_walk using wpAny_loadPart' hl
    exact ⟨_, rfl, h⟩
theorem tup_mul_none (l : Addr) (its : Array Value) (n : Nat) (dd : Option Addr) (sl : Array (Option Value)) (x : Int) (u : Tok) (h0 : (decide (x < -(2 ^ 63)) || decide (x ≥ 2 ^ 63)) = false) (h1 : (its.isEmpty || x == 1) = false) (h2 : x ≤ 0) :
    Meets (Builtin.«tuple.__mul__» ⟨[.ref l, .int x u], []⟩) (fun _ R s => s.heap.get? l = some { cls := .type "tuple", dict := dd, data := .seq its n, slots := sl } ∧
      R (.ok (.ret (Value.ref s.heap.objs.size))) { s with heap := s.heap.push { cls := .type "tuple", data := .seq #[] } }) :=
  .of_wp fun prog w A R s h => by
    obtain ⟨hp, g, d, tk, os⟩ := s
    obtain ⟨hl, h⟩ := h
    have f1 := AutoSeq1.idx_int
    have c2 : (decide (x ≤ 0) || its.isEmpty) = true := by rw [decide_eq_true h2]; rfl
    wp_walk using wpAny_loadPart' hl
    refine wpAny_ite_false (decide_eq_false (by rw [h0]; decide)) ?_
    wp_walk using wpAny_loadPart' hl
    first
      | exact ⟨_, rfl, h⟩
      | (refine wpAny_ite_false (decide_eq_false (by rw [h1]; decide)) ?_
         wp_walk using wpAny_loadPart' hl
         first
           | exact ⟨_, rfl, h⟩
           | (refine wpAny_ite_true (decide_eq_true (by rw [c2])) ?_
              wp_walk using wpAny_loadPart' hl
              exact ⟨_, rfl, h⟩))
/-- t * k -/
def rRepA (K : PySem.W.Frag) : R2 := fun x y H Q => ∃ (l : Addr) (k : Int) (xs : List V), x = .ref l ∧ y = .int k ∧ SqT K H l xs ∧ xs.length ≤ 1000 ∧ k ≤ 1000 ∧ -1000 ≤ k ∧
  ((List.replicate k.toNat xs).flatten = xs → Q (.ref l) H) ∧ ∀ p, H p = none → Q (.ref p) (upd H p (.tup (List.replicate k.toNat xs).flatten))
section
variable {X : Cx} {fd : FdT} {E : XK}
theorem op_repA : OpR X (binaryOp .Mult) (rRepA X.K) := by
  intro pins s σ H x y v u Q I rx ry ⟨l, k, xs, ex, ey, hl, h1, h2, h3, q1, q2⟩
  by_cases big : xs ≠ [] ∧ 2 ≤ k
  · exact op_repT pins s σ H x y v u Q I rx ry ⟨l, k, xs, ex, ey, hl, big.1, big.2, h2, h1, q2⟩
  · subst ex ey
    cases rx
    obtain ⟨t, rfl⟩ := ry
    obtain ⟨its, r, ⟨⟨cls, dd, data, sl⟩, ho, hc, n, hd⟩, _⟩ := I.tuple hl
    simp only at hc hd
    subst hc hd
    have el := r.length
    have fit : (decide (k < -(2 ^ 63)) || decide (k ≥ 2 ^ 63)) = false := by
      rw [decide_eq_false (by omega), decide_eq_false (by omega)]
      rfl
    refine wpAny_binaryOp_repeat_ref (T := "tuple") (U := "int") (by decide) ⟨_, ho, rfl⟩ (fun z => typeIs_int z k t) noFill_tuple_mul F.fills_int_mul F.slot_int_rmul repeat_tuple F.slot_int_index.lookup ?_
    refine call_meets F.slot_int_rmul (typeIs_int s k t) F.entry_int_rmul (F.args_int_rmul_2 _ _) (int_rmul_tuple k t l its.toArray n dd sl) ⟨ho, rfl, ⟨_, ho, rfl⟩, ?_⟩
    by_cases same : (its.toArray.isEmpty || k == 1) = true
    · refine call_meets F.slot_tuple_mul ⟨_, ho, rfl⟩ F.entry_tuple_mul (F.args_tuple_mul_2 _ _) (tup_mul_same l its.toArray n dd sl k t fit same) ⟨ho, ?_⟩
      refine ⟨.ref l, H, I, rfl, q1 ?_⟩
      simp only [Bool.or_eq_true, beq_iff_eq] at same
      rcases same with e | e
      · have : xs = [] := by
          cases its with
          | nil => cases r; rfl
          | cons a b => simp at e
        subst this
        simp
      · subst e
        show (List.replicate 1 xs).flatten = xs
        simp
    · have same' : (its.toArray.isEmpty || k == 1) = false := by simpa using same
      have ne : xs ≠ [] := by
        rintro rfl
        cases r
        simp at same'
      have k0 : k ≤ 0 := by
        have k1 : k ≠ 1 := by
          rintro rfl
          simp at same'
        have k2 : ¬ 2 ≤ k := fun z => big ⟨ne, z⟩
        omega
      refine call_meets F.slot_tuple_mul ⟨_, ho, rfl⟩ F.entry_tuple_mul (F.args_tuple_mul_2 _ _) (tup_mul_none l its.toArray n dd sl k t fit same' k0) ⟨ho, ?_⟩
      have e0 : (List.replicate k.toNat xs).flatten = [] := by
        rw [show k.toNat = 0 by omega]
        rfl
      have q := q2 s.heap.objs.size I.fresh
      rw [e0] at q
      exact ⟨.ref _, _, I.laid (t' := s.toks) (o := .tup []) (fun _ _ z => Heap.get?_push_of_some _ z) (Nat.le_refl _) ⟨Nat.zero_le _, [], .nil, IsTup.new _ _⟩, rfl, q⟩

/-! ### the operators -/
theorem RpAll.rep {N : Nm} {H : Hp} {α : List Addr} {vs : List V} {ds : List D} (r : RpAll N H α vs ds) : ∀ n : Nat, RpAll N H α (List.replicate n vs).flatten (List.replicate n ds).flatten
  | 0 => .nil
  | n + 1 => by
    rw [List.replicate_succ, List.replicate_succ, List.flatten_cons, List.flatten_cons]
    exact r.append (r.rep n)
/-- the same value again -/
theorem again {N : Nm} {α : List Addr} {S : Sto} {H : Hp} {Q : VK} {v : V} {d : D} (ok : StoOk N H α S) (r : Rp N H α v d) (h : dRes N E α S H (.ok d S) Q) : Q v H := h v H α .refl ok r

theorem opr_add (hs : SysIn X) (m : Bool) : OpR X (binaryOp .Add) (dOp (nm X fd) E (opAdd m)) := by
  intro pins s σ H x y v u Q I rx ry ⟨S, α, a, b, ok, ra, rb, h⟩
  have seqs : dRes (nm X fd) E α S H (match tupOf a, tupOf b, lstOf a S, lstOf b S with
      | some xs, some ys, _, _ => if xs.length + ys.length ≤ sizeLine then .ok (mkT (xs ++ ys)) S else .st
      | _, _, some xs, some ys => if xs.length + ys.length ≤ sizeLine then mkL m (xs ++ ys) S else .st
      | _, _, _, _ => .st) Q → wpAny (model X.prog X.w) X.A (binaryOp .Add v u) (EP X pins σ Q) X.xe s := fun h => by
    split at h
    · rename_i xs ys e1 e2
      split at h
      · rename_i hz
        obtain ⟨p, vs, e3, t1, r1⟩ := ra.tup_inv e1
        obtain ⟨q, ws, e4, t2, r2⟩ := rb.tup_inv e2
        have l1 := r1.length
        have l2 := r2.length
        refine op_catA pins s σ H x y v u Q I rx ry ⟨p, q, vs, ws, e3, e4, t1, t2, by omega, fun z => ?_, fun _ z => ?_, fun _ _ => newT ok (r1.append r2) h⟩
        · subst z
          cases r1
          exact again (v := .ref q) ok (rp_mkT t2 r2) h
        · subst z
          cases r2
          rw [List.append_nil] at h
          exact again ok (v := .ref p) (rp_mkT t1 r1) h
      · exact h.elim
    · rename_i xs ys e1 e2 _
      split at h
      · rename_i hz
        obtain ⟨p, vs, e3, t1, r1⟩ := ra.lst_rd ok e1
        obtain ⟨q, ws, e4, t2, r2⟩ := rb.lst_rd ok e2
        have l1 := r1.length
        have l2 := r2.length
        exact thn (op_catR pins s σ H x y v u (FzOr Q) I rx ry ⟨p, q, vs, ws, e3, e4, t1, t2, by omega, newL ok (r1.append r2) h⟩) fun _ _ z => ep_fz hs z
      · exact h.elim
    · exact h.elim
  unfold opAdd at h
  split at h
  · exact op_add pins s σ H x y v u Q I rx ry ⟨_, _, ra.int_inv, rb.int_inv, again ok (.p (.int _)) h⟩
  · split at h
    · rename_i hz
      exact op_add_str pins s σ H x y v u Q I rx ry ⟨_, _, ra.str_inv, rb.str_inv, hz, again ok (.p (.str _)) h⟩
    · exact h.elim
  · exact seqs h
theorem opr_sub : OpR X (binaryOp .Sub) (dOp (nm X fd) E opSub) := by
  intro pins s σ H x y v u Q I rx ry ⟨S, α, a, b, ok, ra, rb, h⟩
  unfold opSub at h
  split at h
  · exact op_sub pins s σ H x y v u Q I rx ry ⟨_, _, ra.int_inv, rb.int_inv, again ok (.p (.int _)) h⟩
  · exact h.elim
theorem opr_mul (hs : SysIn X) (m : Bool) : OpR X (binaryOp .Mult) (dOp (nm X fd) E (opMul m)) := by
  intro pins s σ H x y v u Q I rx ry ⟨S, α, a, b, ok, ra, rb, h⟩
  unfold opMul at h
  split at h
  · split at h
    · rename_i hz
      exact op_mulW pins s σ H x y v u Q I rx ry ⟨_, _, ra.int_inv, rb.int_inv, hz, again ok (.p (.int _)) h⟩
    · exact h.elim
  · rename_i a k _
    split at h
    · rename_i xs e1
      split at h
      · rename_i hz
        obtain ⟨p, vs, e3, t1, r1⟩ := ra.tup_inv e1
        have l1 := r1.length
        refine op_repA pins s σ H x y v u Q I rx ry ⟨p, k, vs, e3, rb.int_inv, t1, by omega, hz.2.1, hz.2.2, fun z => ?_, newT ok (r1.rep _) h⟩
        exact again ok (v := .ref p) (rp_mkT (by rw [z]; exact t1) (r1.rep k.toNat)) h
      · exact h.elim
    · rename_i xs e1 _
      split at h
      · rename_i hz
        obtain ⟨p, vs, e3, t1, r1⟩ := ra.lst_rd ok e1
        have l1 := r1.length
        exact thn (op_repR pins s σ H x y v u (FzOr Q) I rx ry ⟨p, k, vs, e3, rb.int_inv, t1, by omega, hz.2.1, hz.2.2, newL ok (r1.rep _) h⟩) fun _ _ z => ep_fz hs z
      · exact h.elim
    · exact h.elim
  · exact h.elim
theorem opr_div : OpR X (binaryOp .FloorDiv) (dOp (nm X fd) E opDiv) := by
  intro pins s σ H x y v u Q I rx ry ⟨S, α, a, b, ok, ra, rb, h⟩
  unfold opDiv at h
  split at h
  · split at h
    · rename_i hz
      exact op_fdivW pins s σ H x y v u Q I rx ry ⟨_, _, ra.int_inv, rb.int_inv, hz, again ok (.p (.int _)) h⟩
    · exact h.elim
  · exact h.elim
theorem opr_mod : OpR X (binaryOp .Mod) (dOp (nm X fd) E opMod) := by
  intro pins s σ H x y v u Q I rx ry ⟨S, α, a, b, ok, ra, rb, h⟩
  unfold opMod at h
  split at h
  · split at h
    · rename_i hz
      exact op_mod pins s σ H x y v u Q I rx ry ⟨_, _, ra.int_inv, rb.int_inv, hz, again ok (.p (.int _)) h⟩
    · exact h.elim
  · exact h.elim
theorem opr_pow : OpR X (binaryOp .Pow) (dOp (nm X fd) E opPow) := by
  intro pins s σ H x y v u Q I rx ry ⟨S, α, a, b, ok, ra, rb, h⟩
  unfold opPow at h
  split at h
  · split at h
    · rename_i hz
      exact op_pow pins s σ H x y v u Q I rx ry ⟨_, _, ra.int_inv, rb.int_inv, hz, again ok (.p (.int _)) h⟩
    · exact h.elim
  · exact h.elim
theorem opr_and : OpR X (binaryOp .BitAnd) (dOp (nm X fd) E opAnd) := by
  intro pins s σ H x y v u Q I rx ry ⟨S, α, a, b, ok, ra, rb, h⟩
  unfold opAnd at h
  split at h
  · exact L2.op_and pins s σ H x y v u Q I rx ry ⟨_, _, ra.int_inv, rb.int_inv, again ok (.p (.int _)) h⟩
  · exact h.elim
theorem opr_shr : OpR X (binaryOp .RShift) (dOp (nm X fd) E opShr) := by
  intro pins s σ H x y v u Q I rx ry ⟨S, α, a, b, ok, ra, rb, h⟩
  unfold opShr at h
  split at h
  · split at h
    · rename_i hz
      exact op_shr pins s σ H x y v u Q I rx ry ⟨_, _, ra.int_inv, rb.int_inv, hz, again ok (.p (.int _)) h⟩
    · exact h.elim
  · exact h.elim
theorem opr_bin (hs : SysIn X) (op : Operator) (m : Bool) : OpR X (binaryOp op) (dOp (nm X fd) E (opBin op m)) := by
  cases op with
  | Add => exact opr_add hs m
  | Sub => exact opr_sub
  | Mult => exact opr_mul hs m
  | FloorDiv => exact opr_div
  | Mod => exact opr_mod
  | Pow => exact opr_pow
  | BitAnd => exact opr_and
  | RShift => exact opr_shr
  | _ => intro pins s σ H x y v u Q I rx ry ⟨S, α, a, b, ok, ra, rb, h⟩; exact h.elim
end
end Dl

set_option linter.all false
set_option maxRecDepth 100000
set_option maxHeartbeats 4000000
/-! Dl6: comparisons, items, slices, attributes by plain values. -/
namespace Dl
open PySem PySem.Spec PyProof.Rows L2

def flatP : PyData → Bool
  | .none => true
  | .bool _ => true
  | .int _ => true
  | .str _ => true
  | _ => false
def valD {κ : Type} [DecidableEq κ] (kvs : List (κ × D)) (k : κ) : Option D := (kvs.find? fun q => decide (q.1 = k)).map (·.2)
def keyOf : D → Option Key
  | .p (.int i) => some (.inl i)
  | .p (.str x) => some (.inr x)
  | _ => none
/-- a dict that is read -/
def dctOf (d : D) (S : Sto) : Option (List (Key × D)) := match d with
  | .loc l => match S[l]? with
    | some (.dK kvs) => some kvs
    | some (.lk kvs) => some kvs
    | _ => none
  | _ => none
def opOrd (f : Int → Int → Bool) (x y : D) (S : Sto) : Res D := match x, y with
  | .p (.int i), .p (.int j) => .ok (.b (f i j)) S
  | _, _ => .st
/-- == and != -/
def opEq (neg : Bool) (x y : D) (S : Sto) : Res D := match x, y with
  | .p (.str a), .p (.str b) => .ok (.b (neg ^^ decide (a = b))) S
  | x, y => match asP x S, asP y S with
    | some a, some b => if SeqAt.shaped a = true ∧ SeqAt.shaped b = true then .ok (.b (neg ^^ PyData.eqv a b)) S else .st
    | _, _ => .st
/-- x == y; with () or [] whatever the tuple or list holds -/
def opEqT (x y : D) (S : Sto) : Res D := match y, tupOf x, lstOf x S with
  | .p (.tuple []), some xs, _ => .ok (.b xs.isEmpty) S
  | .p (.list []), _, some xs => .ok (.b xs.isEmpty) S
  | _, _, _ => opEq false x y S
def isNoneP : D → Bool
  | .p .none => true
  | _ => false
def opIs (neg : Bool) (x y : D) (S : Sto) : Res D := match y with
  | .p .none => .ok (.b (neg ^^ isNoneP x)) S
  | .p (.bool b) => match x with
    | .p (.bool a) => .ok (.b (neg ^^ decide (a = b))) S
    | _ => .st
  | _ => .st
def opIn (neg : Bool) (x y : D) (S : Sto) : Res D := match dctOf y S, keyOf x with
  | some kvs, some k => .ok (.b (neg ^^ (valD kvs k).isSome)) S
  | _, _ => match x, y with
    | .p (.str c), .p (.str z) => match c.cps.toList with
      | [n] => .ok (.b (neg ^^ decide (n ∈ z.cps.toList))) S
      | _ => .st
    | x, .p (.tuple ds) => match x with
      | .p d => if flatP d = true ∧ ds.all flatP = true then .ok (.b (neg ^^ ds.any fun z => PyData.eqv z d)) S else .st
      | _ => .st
    | x, y => match x, asP y S with
      | .p d, some (.list ds) => if SeqAt.shaped d = true ∧ SeqAt.shaped (.list ds) = true then .ok (.b (neg ^^ ds.any fun z => PyData.eqv z d)) S else .st
      | _, _ => .st
def opCmp (op : CmpOp) (x y : D) (S : Sto) : Res D := match op with
  | .Lt => opOrd (fun i j => decide (i < j)) x y S
  | .LtE => opOrd (fun i j => decide (i ≤ j)) x y S
  | .Gt => opOrd (fun i j => decide (j < i)) x y S
  | .GtE => opOrd (fun i j => decide (j ≤ i)) x y S
  | .Eq => opEqT x y S
  | .NotEq => opEq true x y S
  | .Is => opIs false x y S
  | .IsNot => opIs true x y S
  | .In => opIn false x y S
  | .NotIn => opIn true x y S
def cutD {α : Type} (xs : List α) (lo hi : Option Int) : List α := (xs.drop (HT.sIx xs.length 0 lo)).take (HT.sIx xs.length xs.length hi - HT.sIx xs.length 0 lo)
def opIdx (x i : D) (S : Sto) : Res D := match dctOf x S, keyOf i with
  | some kvs, some k => match valD kvs k with
    | some d => .ok d S
    | none => .st
  | _, _ => match seqOf x S, i with
    | some xs, .p (.int j) => match atI xs j with
      | some d => .ok d S
      | none => .st
    | _, _ => match x, i with
      | .p (.str z), .p (.int j) => if z.length ≤ sizeLine then match atI z.cps.toList j with
          | some c => .ok (.s ⟨#[c]⟩) S
          | none => .st
        else .st
      | _, _ => .st
def opSli (m : Bool) (x : D) (lo hi : Option Int) (S : Sto) : Res D := match tupOf x, lstOf x S, x with
  | some xs, _, _ => .ok (mkT (cutD xs lo hi)) S
  | _, some xs, _ => mkL m (cutD xs lo hi) S
  | _, _, .p (.str z) => if z.length ≤ sizeLine then .ok (.s (cutS z lo hi)) S else .st
  | _, _, _ => .st
def opFld (f : Str) (x : D) (S : Sto) : Res D := match x with
  | .loc l => match S[l]? with
    | some (.ins _ fs) => match List.lookup f fs with
      | some d => .ok d S
      | none => .st
    | _ => .st
  | _ => .st

section
variable {X : Cx} {fd : FdT} {E : XK}
/-! ### frozen data as the library reads it -/
mutual
theorem Pd.dp {N : Nm} {H : Hp} : ∀ {a : PyData} {v : V}, Pd N H v a → a.canLay0 = true → Dp N.K H v a
  | .none, _, h, _ => by cases h; exact .non
  | .bool b, _, h, _ => by cases h; exact .bl b
  | .int i, _, h, _ => by cases h; exact .int i
  | .str x, _, h, _ => by cases h; exact .str x
  | .tuple ds, _, h, c => by
    cases h with
    | tup h1 h2 => exact .tup h1 (PdAll.dp h2 (by simpa [PyData.canLay0] using c))
  | .list ds, _, h, c => by
    cases h with
    | lst h1 h2 h3 => exact .lst h1.sq (PdAll.dp h3 (by simpa [PyData.canLay0] using c))
  | .dict kvs, _, _, c => by simp [PyData.canLay0] at c
theorem PdAll.dp {N : Nm} {H : Hp} : ∀ {ds : List PyData} {vs : List V}, PdAll N H vs ds → PyData.canLayAll0 ds = true → DpAll N.K H vs ds
  | [], _, h, _ => by cases h; exact .nil
  | d :: ds, _, h, c => by
    have c' : d.canLay0 = true ∧ PyData.canLayAll0 ds = true := by simpa [PyData.canLayAll0] using c
    cases h with
    | cons h1 h2 => exact .cons (Pd.dp h1 c'.1) (PdAll.dp h2 c'.2)
end
theorem asP_dp {N : Nm} {H : Hp} {α : List Addr} {S : Sto} (ok : StoOk N H α S) {v : V} {x : D} {a : PyData} (r : Rp N H α v x) (e : asP x S = some a) (c : a.canLay0 = true) : Dp N.K H v a := by
  cases r with
  | p h =>
    simp at e
    subst e
    exact h.dp c
  | @loc b l h =>
    unfold asP at e
    cases q : S[l]? with
    | none => simp [q] at e
    | some cl =>
      cases cl <;> simp [q] at e
      rename_i xs
      obtain ⟨ds, e1, e2⟩ := e
      subst e2
      have := allP_eq e1
      subst this
      obtain ⟨vs, h1, h2⟩ := ok.cell l b _ h q
      exact .lst (.inl (.inl h1)) (PdAll.dp h2.toP (by simpa [PyData.canLay0] using c))
  | tup h1 h2 => simp [asP] at e
  | fn h => simp [asP] at e
theorem Pd.flat {N : Nm} {H : Hp} {v : V} {a : PyData} (h : Pd N H v a) (f : flatP a = true) : flatV v = true := by
  cases a <;> first | (simp [flatP] at f; done) | (cases h; rfl)
theorem Pd.eqv {N : Nm} {H : Hp} {v w : V} {a b : PyData} (h : Pd N H v a) (g : Pd N H w b) (f : flatP a = true) (f' : flatP b = true) : eqV v w = PyData.eqv a b := by
  cases a <;> first | (simp [flatP] at f; done) | skip
  all_goals cases h
  all_goals cases b <;> first | (simp [flatP] at f'; done) | skip
  all_goals cases g
  all_goals simp [eqV, PyData.eqv]
theorem PdAll.flat {N : Nm} {H : Hp} : ∀ {vs : List V} {ds : List PyData}, PdAll N H vs ds → ds.all flatP = true → vs.all flatV = true
  | _, [], h, _ => by cases h; rfl
  | _, d :: ds, h, f => by
    cases h with
    | cons h1 h2 =>
      simp only [List.all_cons, Bool.and_eq_true] at f ⊢
      exact ⟨h1.flat f.1, PdAll.flat h2 f.2⟩
theorem PdAll.inV {N : Nm} {H : Hp} {w : V} {b : PyData} (g : Pd N H w b) (f' : flatP b = true) : ∀ {vs : List V} {ds : List PyData}, PdAll N H vs ds → ds.all flatP = true → inV w vs = ds.any fun z => PyData.eqv z b
  | _, [], h, _ => by cases h; rfl
  | _, d :: ds, h, f => by
    cases h with
    | @cons v vs _ _ h1 h2 =>
      simp only [List.all_cons, Bool.and_eq_true] at f
      have := PdAll.inV g f' h2 f.2
      unfold L2.inV at this ⊢
      rw [List.any_cons, List.any_cons, this, h1.eqv g f.1 f']

theorem opr_ord {op : CmpOp} {f : Int → Int → Bool} (h0 : OpR X (compareOp op) (rI0 fun i j => .bl (f i j))) : OpR X (compareOp op) (dOp (nm X fd) E (opOrd f)) := by
  intro pins s σ H x y v u Q I rx ry ⟨S, α, a, b, ok, ra, rb, h⟩
  unfold opOrd at h
  split at h
  · exact h0 pins s σ H x y v u Q I rx ry ⟨_, _, ra.int_inv, rb.int_inv, again ok (.p (.bl _)) h⟩
  · exact h.elim
theorem opr_eq (hu : X.A.units + 64 < cLine) : OpR X (compareOp .Eq) (dOp (nm X fd) E (opEq false)) := by
  intro pins s σ H x y v u Q I rx ry ⟨S, α, a, b, ok, ra, rb, h⟩
  unfold opEq at h
  split at h
  · refine op_eq pins s σ H x y v u Q I rx ry ?_
    rw [ra.str_inv, rb.str_inv]
    refine ⟨rfl, ?_⟩
    have := again ok (.p (.bl _)) h
    simpa using this
  · split at h
    · rename_i a' b' e1 e2
      split at h
      · rename_i hz
        refine op_eqD hu pins s σ H x y v u Q I rx ry ⟨a', b', asP_dp ok ra e1 (SeqAt.canLay_of_shaped hz.1), asP_dp ok rb e2 (SeqAt.canLay_of_shaped hz.2), hz.1, hz.2, ?_⟩
        have := again ok (.p (.bl _)) h
        simpa using this
      · exact h.elim
    · exact h.elim
theorem opr_eqT (hu : X.A.units + 64 < cLine) : OpR X (compareOp .Eq) (dOp (nm X fd) E opEqT) := by
  intro pins s σ H x y v u Q I rx ry ⟨S, α, a, b, ok, ra, rb, h⟩
  have h0 := h
  unfold opEqT at h
  split at h
  · rename_i xs e
    obtain ⟨l, vs, rfl, h1, r1⟩ := ra.tup_inv e
    obtain ⟨l2, ws, rfl, h2, r2⟩ := rb.tup_inv (xs := []) rfl
    cases r2
    cases rx
    cases ry
    obtain ⟨its, q1, p1, _⟩ := I.tuple h1
    obtain ⟨its2, q2, p2, _⟩ := I.tuple h2
    cases q2
    refine PySem.SeqAt.eq_tupleAt (e := fun _ => true) p1 p2 (by omega) (fun j _ z => absurd z (by simp)) ?_
    have e3 : ((List.range (min its.toArray.size ([] : List Value).toArray.size)).all (fun _ => true) && its.toArray.size == ([] : List Value).toArray.size) = xs.isEmpty := by
      have l1 : its.length = xs.length := by rw [← q1.length, r1.length]
      cases xs with
      | nil => simp at l1; subst l1; rfl
      | cons z xs => cases its with
        | nil => cases l1
        | cons _ _ => simp
    have := again ok (.p (.bl _)) h
    rw [← e3] at this
    exact ⟨.bl _, H, I, rfl, this⟩
  · rename_i _ xs e
    obtain ⟨l, vs, rfl, h1, r1⟩ := ra.lst_rd ok e
    obtain ⟨l2, ws, rfl, h2, r2⟩ := rb.lst_rd ok (xs := []) rfl
    cases r2
    cases rx
    cases ry
    obtain ⟨_, its, n1, q1, g1⟩ := rd_list I h1
    obtain ⟨_, its2, n2, q2, g2⟩ := rd_list I h2
    cases q2
    have l1 : its.length = xs.length := by rw [← q1.length, r1.length]
    have := again ok (.p (.bl _)) h
    cases xs with
    | nil =>
      cases its with
      | nil => exact PySem.SeqAt.eq_listAt (e := fun _ => true) ⟨_, g1, rfl, _, rfl⟩ ⟨_, g2, rfl, _, rfl⟩ rfl (by omega) (fun j z _ => absurd z (by simp)) ⟨.bl _, H, I, rfl, this⟩
      | cons _ _ => cases l1
    | cons z zs =>
      cases its with
      | nil => cases l1
      | cons _ _ => exact PySem.SeqAt.eq_list_lengthsAt ⟨_, g1, rfl, _, rfl⟩ ⟨_, g2, rfl, _, rfl⟩ (by simp) (by omega) ⟨.bl _, H, I, rfl, this⟩
  · exact opr_eq hu pins s σ H x y v u Q I rx ry ⟨S, α, _, _, ok, ra, rb, h⟩
theorem opr_ne (hu : X.A.units + 64 < cLine) : OpR X (compareOp .NotEq) (dOp (nm X fd) E (opEq true)) := by
  intro pins s σ H x y v u Q I rx ry ⟨S, α, a, b, ok, ra, rb, h⟩
  unfold opEq at h
  split at h
  · refine op_ne pins s σ H x y v u Q I rx ry ?_
    rw [ra.str_inv, rb.str_inv]
    refine ⟨rfl, ?_⟩
    have := again ok (.p (.bl _)) h
    simpa using this
  · split at h
    · rename_i a' b' e1 e2
      split at h
      · rename_i hz
        refine op_neD hu pins s σ H x y v u Q I rx ry ⟨a', b', asP_dp ok ra e1 (SeqAt.canLay_of_shaped hz.1), asP_dp ok rb e2 (SeqAt.canLay_of_shaped hz.2), hz.1, hz.2, ?_⟩
        have := again ok (.p (.bl _)) h
        simpa using this
      · exact h.elim
    · exact h.elim
theorem Rp.isNone {N : Nm} {H : Hp} {α : List Addr} {v : V} {x : D} (r : Rp N H α v x) : decide (v = .non) = isNoneP x := by
  cases r with
  | p h => cases h <;> simp [isNoneP]
  | loc h => simp [isNoneP]
  | tup h1 h2 => simp [isNoneP]
  | fn h => simp [isNoneP]
theorem opr_is : OpR X (compareOp .Is) (dOp (nm X fd) E (opIs false)) := by
  intro pins s σ H x y v u Q I rx ry ⟨S, α, a, b, ok, ra, rb, h⟩
  unfold opIs at h
  split at h
  · refine op_isN pins s σ H x y v u Q I rx ry ⟨rb.none_inv, ?_⟩
    rw [ra.isNone]
    have := again ok (.p (.bl _)) h
    simpa using this
  · split at h
    · refine op_is_bl pins s σ H x y v u Q I rx ry ⟨_, _, ra.bool_inv, rb.bool_inv, ?_⟩
      have := again ok (.p (.bl _)) h
      simpa using this
    · exact h.elim
  · exact h.elim
theorem opr_isnot : OpR X (compareOp .IsNot) (dOp (nm X fd) E (opIs true)) := by
  intro pins s σ H x y v u Q I rx ry ⟨S, α, a, b, ok, ra, rb, h⟩
  unfold opIs at h
  split at h
  · refine op_notN pins s σ H x y v u Q I rx ry ⟨rb.none_inv, ?_⟩
    rw [ra.isNone]
    have := again ok (.p (.bl _)) h
    simpa using this
  · split at h
    · refine op_isnot_bl pins s σ H x y v u Q I rx ry ⟨_, _, ra.bool_inv, rb.bool_inv, ?_⟩
      have := again ok (.p (.bl _)) h
      simpa using this
    · exact h.elim
  · exact h.elim
/-! ### dicts -/
theorem valD_zip {N : Nm} {H : Hp} {α : List Addr} {κ : Type} [DecidableEq κ] {k : κ} : ∀ {ks : List κ} {vs : List V} {xs : List D}, ks.length = vs.length → RpAll N H α vs xs →
    (valV (ks.zip vs) k).isSome = (valD (ks.zip xs) k).isSome ∧ ∀ d, valD (ks.zip xs) k = some d → ∃ v, valV (ks.zip vs) k = some v ∧ Rp N H α v d
  | [], vs, xs, _, _ => by simp [valV, valD]
  | q :: ks, [], _, e, _ => by simp at e
  | q :: ks, v :: vs, _, e, .cons (d := d) (ds := ds) r rs => by
    by_cases z : q = k
    · subst z
      refine ⟨by simp [valV, valD], fun d' h => ⟨v, by simp [valV], ?_⟩⟩
      simp [valD] at h
      subst h
      exact r
    · have := valD_zip (k := k) (ks := ks) (by simpa using e) rs
      simpa [valV, valD, z] using this
theorem Rp.key {N : Nm} {H : Hp} {α : List Addr} {v : V} {x : D} {k : Key} (r : Rp N H α v x) (e : keyOf x = some k) : v = kV k := by
  cases r with
  | p h =>
    cases h <;> simp [keyOf] at e
    all_goals subst e; rfl
  | loc h => simp [keyOf] at e
  | tup h1 h2 => simp [keyOf] at e
  | fn h => simp [keyOf] at e
/-- a dict as it stands -/
theorem Rp.dct {N : Nm} {H : Hp} {α : List Addr} {S : Sto} (ok : StoOk N H α S) {v : V} {x : D} {kvs : List (Key × D)} (r : Rp N H α v x) (e : dctOf x S = some kvs) :
    ∃ (a : Addr) (ks : List Key) (vs : List V) (xs : List D), v = .ref a ∧ Rd H a (.dK (ks.zip vs)) ∧ kvs = ks.zip xs ∧ ks.length = vs.length ∧ RpAll N H α vs xs := by
  cases r with
  | p h => cases h <;> simp [dctOf] at e
  | @loc a l h =>
    unfold dctOf at e
    cases q : S[l]? with
    | none => simp [q] at e
    | some c =>
      cases c <;> simp [q] at e
      · subst e
        obtain ⟨ks, vs, xs, h1, h2, h3, h4⟩ := ok.cell l a _ h q
        exact ⟨a, ks, vs, xs, rfl, .inl h1, h2, h3, h4⟩
      · subst e
        obtain ⟨o, ks, vs, xs, h1, h2, h3, h4⟩ := ok.cell l a _ h q
        exact ⟨a, ks, vs, xs, rfl, .inr ⟨o, h1⟩, h2, h3, h4⟩
  | tup h1 h2 => simp [dctOf] at e
  | fn h => simp [dctOf] at e
theorem opr_in (hu : X.A.units + 65 < cLine) : OpR X (compareOp .In) (dOp (nm X fd) E (opIn false)) := by
  intro pins s σ H x y v u Q I rx ry ⟨S, α, a, b, ok, ra, rb, h⟩
  unfold opIn at h
  split at h
  · rename_i kvs k e1 e2
    obtain ⟨p, ks, vs, xs, e3, h1, h2, h3, h4⟩ := rb.dct ok e1
    have e4 := ra.key e2
    subst e3 e4 h2
    cases ry
    refine d_in (by omega) I (.inl ⟨_, k, h1, rfl, rfl⟩) rx fun s' J => ⟨.bl _, H, J, rfl, ?_⟩
    rw [(valD_zip h3 h4).1]
    simpa using again ok (.p (.bl _)) h
  · split at h
    · split at h
      · rename_i c z _ _ n e
        refine op_in_sign pins s σ H x y v u Q I rx ry ⟨n, z, ?_, rb.str_inv, ?_⟩
        · rw [ra.str_inv]
          congr 1
          obtain ⟨c⟩ := c
          congr 1
          rw [← Array.toArray_toList (xs := c), e]
        · simpa using again ok (.p (.bl _)) h
      · exact h.elim
    · split at h
      · split at h
        · rename_i ds _ d hz
          cases ra with
          | p hd =>
            cases rb with
            | p hb =>
              cases hb with
              | @tup p vs _ h1 h2 =>
                refine op_in_seq pins s σ H x _ v u Q I rx ry ⟨p, vs, rfl, .inr h1, hd.flat hz.1, PdAll.flat h2 hz.2, ?_⟩
                rw [if_neg (by decide), PdAll.inV hd hz.1 h2 hz.2]
                simpa using again ok (.p (.bl _)) h
        · exact h.elim
      · exact h.elim
    · split at h
      · rename_i ds e _ _
        split at h
        · rename_i hz
          refine op_inD hu pins s σ H x y v u Q I rx ry ⟨_, ds, asP_dp ok ra rfl (SeqAt.canLay_of_shaped hz.1), asP_dp ok rb e (SeqAt.canLay_of_shaped hz.2), hz.1, hz.2, ?_⟩
          simpa using again ok (.p (.bl _)) h
        · exact h.elim
      · exact h.elim
theorem opr_notin (hu : X.A.units + 65 < cLine) : OpR X (compareOp .NotIn) (dOp (nm X fd) E (opIn true)) := by
  intro pins s σ H x y v u Q I rx ry ⟨S, α, a, b, ok, ra, rb, h⟩
  unfold opIn at h
  split at h
  · rename_i kvs k e1 e2
    obtain ⟨p, ks, vs, xs, e3, h1, h2, h3, h4⟩ := rb.dct ok e1
    have e4 := ra.key e2
    subst e3 e4 h2
    cases ry
    refine d_notIn (by omega) I (.inl ⟨_, k, h1, rfl, rfl⟩) rx fun s' J => ⟨.bl _, H, J, rfl, ?_⟩
    rw [(valD_zip h3 h4).1]
    simpa using again ok (.p (.bl _)) h
  · split at h
    · split at h
      · rename_i c z _ _ n e
        refine op_notIn_sign pins s σ H x y v u Q I rx ry ⟨n, z, ?_, rb.str_inv, ?_⟩
        · rw [ra.str_inv]
          congr 1
          obtain ⟨c⟩ := c
          congr 1
          rw [← Array.toArray_toList (xs := c), e]
        · simpa using again ok (.p (.bl _)) h
      · exact h.elim
    · split at h
      · split at h
        · rename_i ds _ d hz
          cases ra with
          | p hd =>
            cases rb with
            | p hb =>
              cases hb with
              | @tup p vs _ h1 h2 =>
                refine op_notIn_seq pins s σ H x _ v u Q I rx ry ⟨p, vs, rfl, .inr h1, hd.flat hz.1, PdAll.flat h2 hz.2, ?_⟩
                rw [if_pos rfl, PdAll.inV hd hz.1 h2 hz.2]
                simpa using again ok (.p (.bl _)) h
        · exact h.elim
      · exact h.elim
    · split at h
      · rename_i ds e _ _
        split at h
        · rename_i hz
          refine op_notInD hu pins s σ H x y v u Q I rx ry ⟨_, ds, asP_dp ok ra rfl (SeqAt.canLay_of_shaped hz.1), asP_dp ok rb e (SeqAt.canLay_of_shaped hz.2), hz.1, hz.2, ?_⟩
          simpa using again ok (.p (.bl _)) h
        · exact h.elim
      · exact h.elim
theorem opr_cmp (hu : X.A.units + 65 < cLine) (op : CmpOp) : OpR X (compareOp op) (dOp (nm X fd) E (opCmp op)) := by
  cases op with
  | Lt => exact opr_ord op_lt
  | LtE => exact opr_ord op_le
  | Gt => exact opr_ord op_gt
  | GtE => exact opr_ord op_ge
  | Eq => exact opr_eqT (by omega)
  | NotEq => exact opr_ne (by omega)
  | Is => exact opr_is
  | IsNot => exact opr_isnot
  | In => exact opr_in hu
  | NotIn => exact opr_notin hu
end
end Dl

set_option linter.all false
set_option maxRecDepth 100000
set_option maxHeartbeats 4000000
/-! Dl7: expressions by plain values. -/
namespace Dl
open PySem PySem.Spec PyProof.Rows L2

section
variable {X : Cx} {fd : FdT} {E : XK}
/-! ### items -/
theorem RpAll.atI {N : Nm} {H : Hp} {α : List Addr} {vs : List V} {xs : List D} {i : Int} {d : D} (r : RpAll N H α vs xs) (e : atI xs i = some d) : ∃ v, atI vs i = some v ∧ Rp N H α v d := by
  unfold L2.atI at e ⊢
  rw [r.length]
  cases q : ixN xs.length i with
  | none => rw [q] at e; cases e
  | some j =>
    rw [q] at e
    exact r.get e
theorem ix_dict (hu : X.A.units + 1 < cLine) : IxR X (fun x y H Q => ∃ a v, x = .ref a ∧ DGet H a y (some v) ∧ Q v H) := by
  intro value slice pins s σ H x y v u Q I rx ry ⟨a, w, ex, g, q⟩ hs
  subst ex
  cases rx
  have hT := dict_typeIs I g
  unfold subscriptTail
  refine wpAny_bind ?_
  rw [getitemInPython_of_ne hT.not_modules]
  refine wpAny_bind (wpAny_specialOf hT PySem.F.slot_dict_getitem.lookup ?_)
  have fin : wpAny (model X.prog X.w) X.A (subscripted slice false (.ref a) u) (fun r s3 => wpAny (model X.prog X.w) X.A (letTemporaryGo value (.ref a) r >>= fun _ => pure r) (EP X pins σ Q) X.xe s3) X.xe s := by
    rw [hs]
    refine wpAny_operating (d_getItem hu I g ry fun w' s' J rw' => ?_)
    exact wpAny_bind (wpAny_letTemporaryGo (wpAny_pure ⟨w, H, J, rw', q⟩))
  first
    | exact wpAny_pure (wpAny_bind fin)
    | exact wpAny_bind (wpAny_pure (wpAny_bind fin))
    | exact wpAny_bind fin
theorem ixr_idx (hu : X.A.units + 1 < cLine) : IxR X (dOp (nm X fd) E opIdx) := by
  intro value slice pins s σ H x y v u Q I rx ry ⟨S, α, a, b, ok, ra, rb, h⟩ hs
  unfold opIdx at h
  split at h
  · rename_i kvs k e1 e2
    split at h
    · rename_i d e3
      obtain ⟨p, ks, vs, xs, e4, h1, h2, h3, h4⟩ := ra.dct ok e1
      have e5 := rb.key e2
      subst h2
      obtain ⟨w, e6, rw'⟩ := (valD_zip h3 h4).2 d e3
      exact ix_dict hu value slice pins s σ H x y v u Q I rx ry ⟨p, w, e4, .inl ⟨_, k, h1, e5, e6.symm⟩, again ok rw' h⟩ hs
    · exact h.elim
  · split at h
    · rename_i xs j e1 _
      split at h
      · rename_i d e2
        obtain ⟨p, vs, e3, t, r⟩ := ra.seq_inv ok e1
        obtain ⟨w, e4, rw'⟩ := r.atI e2
        refine ix_seq value slice pins s σ H x y v u Q I rx ry ?_ hs
        rcases t with t | t
        · exact .inl ⟨p, vs, j, w, e3, rb.int_inv, t, e4, again ok rw' h⟩
        · exact .inr (.inl ⟨p, vs, j, w, e3, rb.int_inv, t, e4, again ok rw' h⟩)
      · exact h.elim
    · split at h
      · split at h
        · rename_i hz
          split at h
          · rename_i c e1
            exact ix_seq value slice pins s σ H x y v u Q I rx ry (.inr (.inr ⟨_, _, c, ra.str_inv, rb.int_inv, hz, e1, again ok (.p (.str _)) h⟩)) hs
          · exact h.elim
        · exact h.elim
      · exact h.elim
/-! ### slices -/
theorem RpAll.cut2 {N : Nm} {H : Hp} {α : List Addr} {vs : List V} {xs : List D} (r : RpAll N H α vs xs) (lo hi : Option Int) : RpAll N H α (cutV vs lo hi) (cutD xs lo hi) := by
  unfold cutV cutD
  rw [r.length]
  exact (r.drop _).take _
theorem slr_sli (m : Bool) : SlR X (fun x lo hi H Q => ∃ S α a, StoOk (nm X fd) H α S ∧ Rp (nm X fd) H α x a ∧ ∃ Q', dRes (nm X fd) E α S H (opSli m a lo hi S) Q' ∧ Q = FzOr Q') := by
  intro pins s σ H x v vl vu lo hi sl Q I rx h0 h1 h2 ⟨S, α, a, ok, ra, Q', h, eQ⟩
  subst eQ
  unfold opSli at h
  split at h
  · rename_i xs e1
    obtain ⟨p, vs, e3, t, r⟩ := ra.tup_inv e1
    refine sl_tupA pins s σ H x v vl vu lo hi sl _ I rx h0 h1 h2 ⟨p, vs, e3, t, fun z => .inl ?_, fun _ q hq => .inl (newT ok (r.cut2 lo hi) h q hq)⟩
    have e : cutV vs lo hi = vs := by
      unfold cutV
      rw [z.1, z.2]
      simp
    have := r.cut2 lo hi
    rw [e] at this
    exact again ok (v := .ref p) (rp_mkT t this) h
  · rename_i xs e1 _
    obtain ⟨p, vs, e3, t, r⟩ := ra.lst_inv ok e1
    exact sl_list pins s σ H x v vl vu lo hi sl _ I rx h0 h1 h2 ⟨p, vs, e3, t, newL ok (r.cut2 lo hi) h⟩
  · split at h
    · rename_i hz
      exact sl_str pins s σ H x v vl vu lo hi sl _ I rx h0 h1 h2 ⟨_, ra.str_inv, hz, .inl (again ok (.p (.str _)) h)⟩
    · exact h.elim
  · exact h.elim

/-! ### expressions -/
variable {a b c : Expr} {Fa Fb Fc : Slots → Sto → Res D} {pos : Pos}
abbrev fBin (op : Operator) (m : Bool) (Fa Fb : Slots → Sto → Res D) : Slots → Sto → Res D := fun ρ S => (Fa ρ S).bind fun x S1 => (Fb ρ S1).bind fun y S2 => opBin op m x y S2
abbrev fCmp (op : CmpOp) (Fa Fb : Slots → Sto → Res D) : Slots → Sto → Res D := fun ρ S => (Fa ρ S).bind fun x S1 => (Fb ρ S1).bind fun y S2 => opCmp op x y S2
abbrev fIdx (Fa Fb : Slots → Sto → Res D) : Slots → Sto → Res D := fun ρ S => (Fa ρ S).bind fun x S1 => (Fb ρ S1).bind fun y S2 => opIdx x y S2
def fVar (i : Nat) : Slots → Sto → Res D := fun ρ S => match ρ[i]? with
  | some (some d) => .ok d S
  | _ => .st
def fC (d : PyData) : Slots → Sto → Res D := fun _ S => .ok (.p d) S
theorem dv_var {i : Nat} {x : Str} (hN : X.N[i]? = some x) (hv : Vis X.env.scope x) (hd : (x == ("__debug__" : Str)) = false) (hcd : (x == ("__classdict__" : Str)) = false) : PE X (.Name x pos) (dE (nm X fd) E (fVar i)) := by
  refine PE.imp (pe_var hN hv hd hcd) fun σ H Q ⟨ρ, S, α, r, ok, h⟩ => ?_
  unfold fVar at h
  split at h
  · rename_i d e
    obtain ⟨v, e1, rv⟩ := r.at_ i d e
    exact ⟨v, e1, again ok rv h⟩
  · exact h.elim
theorem dv_c {e : Expr} {v : V} {d : PyData} (h : PE X e (tC v)) (hp : ∀ H, Pd (nm X fd) H v d) : PE X e (dE (nm X fd) E (fC d)) :=
  PE.imp h fun σ H Q ⟨ρ, S, α, r, ok, q⟩ => again ok (.p (hp H)) q
theorem dv_bin (hs : SysIn X) {op : Operator} {m : Bool} (ha : PE X a (dE (nm X fd) E Fa)) (hb : PE X b (dE (nm X fd) E Fb)) : PE X (.BinOp a op b pos) (dE (nm X fd) E (fBin op m Fa Fb)) :=
  PE.imp (pe_op (opr_bin hs op m) ha hb) fun σ H Q h => dE_op h
theorem dv_cmp (hu : X.A.units + 65 < cLine) {op : CmpOp} (ha : PE X a (dE (nm X fd) E Fa)) (hb : PE X b (dE (nm X fd) E Fb)) (hm : behindInMarks op b = false) : PE X (.Compare a [op] [b] pos) (dE (nm X fd) E (fCmp op Fa Fb)) :=
  PE.imp (pe_cmpR (opr_cmp hu op) ha hb hm) fun σ H Q h => dE_op h
theorem dv_idx (hu : X.A.units + 1 < cLine) (ha : PE X a (dE (nm X fd) E Fa)) (hb : PE X b (dE (nm X fd) E Fb)) (hs : PlainIx b) : PE X (.Subscript a b pos) (dE (nm X fd) E (fIdx Fa Fb)) :=
  PE.imp (pe_ix (ixr_idx hu) ha hb hs) fun σ H Q h => dE_op h
abbrev fNeg (Fa : Slots → Sto → Res D) : Slots → Sto → Res D := fun ρ S => (Fa ρ S).bind fun x S1 => match x with
  | .p (.int i) => .ok (.i (-i)) S1
  | _ => .st
theorem dv_neg (ha : PE X a (dE (nm X fd) E Fa)) : PE X (.UnaryOp .USub a pos) (dE (nm X fd) E (fNeg Fa)) := by
  refine PE.imp (pe_un un_neg ha) fun σ H Q h => ?_
  obtain ⟨ρ, S, α, r, ok, h⟩ := dE_un h
  refine ⟨ρ, S, α, r, ok, ?_⟩
  cases e : Fa ρ S with
  | ok x S1 =>
    rw [e] at h
    intro v H' α' st ok' rv
    obtain ⟨S2, α2, d, ok2, rd, h2⟩ := h v H' α' st ok' rv
    dsimp only at h2
    split at h2
    · exact ⟨_, rd.int_inv, again ok2 (.p (.int _)) h2⟩
    · exact h2.elim
  | ex c' e' S' => rw [e] at h; exact h
  | st => rw [e] at h; exact h

/-! ### tests -/
abbrev fTru (Fa : Slots → Sto → Res D) : Slots → Sto → Res Bool := fun ρ S => (Fa ρ S).bind fun x S1 => match tru x S1 with
  | some k => .ok k S1
  | none => .st
theorem Rp.tru {N : Nm} {H : Hp} {α : List Addr} {S : Sto} (ok : StoOk N H α S) {v : V} {x : D} {k : Bool} (r : Rp N H α v x) (e : tru x S = some k) : TruV N.K v H k := by
  cases r with
  | p h =>
    cases h with
    | non => simp [Dl.tru, truP] at e; exact e
    | bl b => simp [Dl.tru, truP] at e; exact e.symm
    | int i => simp [Dl.tru] at e; exact e.symm
    | str y =>
      simp [Dl.tru] at e
      refine ⟨e.1, ?_⟩
      rw [← e.2]
      have : ((y.length : Int) == 0) = (y.length == 0) := by
        by_cases z : y.length = 0
        · rw [z]; rfl
        · rw [beq_eq_false_iff_ne.mpr z, beq_eq_false_iff_ne.mpr (by omega)]
      simp [bne, this]
    | @tup a vs ds h1 h2 =>
      simp [Dl.tru, truP] at e
      refine .inr (.inl ⟨vs, h1, ?_⟩)
      rw [show k = !(!k) by simp, ← e]
      cases h2 <;> rfl
    | @lst a vs ds h1 h2 h3 =>
      simp [Dl.tru, truP] at e
      refine .inl ⟨vs, h1.sq, ?_⟩
      rw [show k = !(!k) by simp, ← e]
      cases h3 <;> rfl
    | dct => simp [Dl.tru] at e
  | @loc a l h =>
    unfold Dl.tru at e
    cases q : S[l]? with
    | none => simp [q] at e
    | some c =>
      cases c <;> simp [q] at e
      · obtain ⟨vs, h1, h2⟩ := ok.cell l a _ h q
        refine .inl ⟨vs, .inl (.inl h1), ?_⟩
        rw [show k = !(!k) by simp, ← e]
        cases h2 <;> rfl
      · obtain ⟨ks, vs, xs, h1, h2, h3, h4⟩ := ok.cell l a _ h q
        refine .inr (.inr ⟨_, h1, ?_⟩)
        rw [show k = !(!k) by simp, ← e, h2]
        have := h4.length
        cases ks <;> cases vs <;> cases xs <;> simp at h3 this ⊢
  | tup h1 h2 =>
    simp [Dl.tru] at e
    refine .inr (.inl ⟨_, h1, ?_⟩)
    rw [show k = !(!k) by simp, ← e]
    cases h2 <;> rfl
  | fn h => simp [Dl.tru] at e
/-- an expression as a test -/
def PlainT (X : Cx) (a : Expr) : Prop := ∀ whole, isTrue a X.env whole = (do let v ← whole; standAt a.pos; holding [v] (truthy v))
theorem dt_val (ha : PE X a (dE (nm X fd) E Fa)) (he : PlainT X a) : PT X a (dT (nm X fd) E (fTru Fa)) := by
  refine PT.imp (pt_truth ha he) fun σ H Q ⟨ρ, S, α, r, ok, h⟩ => ⟨ρ, S, α, r, ok, ?_⟩
  cases e : Fa ρ S with
  | ok x S1 =>
    simp only [fTru, e, bind_ok] at h
    intro v H' α' st ok' rv
    split at h
    · rename_i k e2
      exact ⟨k, rv.tru ok' e2, h H' α' st ok'⟩
    · exact h.elim
  | ex c' e' S' => simp only [fTru, e, bind_ex] at h; exact h
  | st => simp only [fTru, e, bind_st] at h; exact h
/-- an expression that gives nothing but truth values -/
def Bools (F : Slots → Sto → Res D) : Prop := ∀ ρ S d S', F ρ S = .ok d S' → ∃ k, d = .b k
theorem dT_bools {F : Slots → Sto → Res D} (hB : Bools F) {σ : L2.St} {H : Hp} {Q : Bool → Hp → Prop} (h : dT (nm X fd) E (fTru F) σ H Q) : dE (nm X fd) E F σ H fun x H' => ∃ k, x = .bl k ∧ Q k H' := by
  obtain ⟨ρ, S, α, r, ok, h⟩ := h
  refine ⟨ρ, S, α, r, ok, ?_⟩
  cases e : F ρ S with
  | ok x S1 =>
    obtain ⟨k, rfl⟩ := hB _ _ _ _ e
    simp only [fTru, e, bind_ok, tru_b] at h
    intro v H' α' st ok' rv
    exact ⟨k, rv.bool_inv, h H' α' st ok'⟩
  | ex c' e' S' => simp only [fTru, e, bind_ex] at h; exact h
  | st => simp only [fTru, e, bind_st] at h; exact h
theorem opCmp_bool {op : CmpOp} {x y d : D} {S S' : Sto} (h : opCmp op x y S = .ok d S') : ∃ k, d = .b k := by
  cases op <;> simp only [opCmp, opOrd, opEqT, opEq, opIs, opIn] at h <;> (repeat' split at h) <;> first | (cases h; exact ⟨_, rfl⟩) | cases h
theorem bools_cmp {op : CmpOp} : Bools (fCmp op Fa Fb) := fun ρ S d S' h => by
  unfold fCmp at h
  cases e : Fa ρ S with
  | ok x S1 =>
    rw [e] at h
    simp only [bind_ok] at h
    cases e2 : Fb ρ S1 with
    | ok y S2 =>
      rw [e2] at h
      exact opCmp_bool h
    | ex c e' S' => rw [e2] at h; cases h
    | st => rw [e2] at h; cases h
  | ex c e' S' => rw [e] at h; cases h
  | st => rw [e] at h; cases h
theorem dt_cmp (hu : X.A.units + 65 < cLine) {op : CmpOp} (ha : PE X a (dE (nm X fd) E Fa)) (hb : PE X b (dE (nm X fd) E Fb)) (hm : behindInMarks op b = false) : PT X (.Compare a [op] [b] pos) (dT (nm X fd) E (fTru (fCmp op Fa Fb))) :=
  PT.imp (pt_cmpR (opr_cmp hu op) ha hb hm) fun σ H Q h => dE_op (dT_bools bools_cmp h)
/-- a op b op' c -/
abbrev fChain (op op' : CmpOp) (Fa Fb Fc : Slots → Sto → Res D) : Slots → Sto → Res D := fun ρ S => (Fa ρ S).bind fun x S1 => (Fb ρ S1).bind fun y S2 => (opCmp op x y S2).bind fun z S3 => match z with
  | .p (.bool true) => (Fc ρ S3).bind fun w S4 => opCmp op' y w S4
  | .p (.bool false) => .ok (.b false) S3
  | _ => .st
theorem bools_chain {op op' : CmpOp} : Bools (fChain op op' Fa Fb Fc) := fun ρ S d S' h => by
  unfold fChain at h
  cases e : Fa ρ S with
  | ok x S1 =>
    rw [e] at h
    simp only [bind_ok] at h
    cases e2 : Fb ρ S1 with
    | ok y S2 =>
      rw [e2] at h
      simp only [bind_ok] at h
      cases e3 : opCmp op x y S2 with
      | ok z S3 =>
        rw [e3] at h
        simp only [bind_ok] at h
        split at h
        · cases e4 : Fc ρ S3 with
          | ok w S4 => rw [e4] at h; exact opCmp_bool h
          | ex c e' S' => rw [e4] at h; cases h
          | st => rw [e4] at h; cases h
        · cases h; exact ⟨_, rfl⟩
        · cases h
      | ex c e' S' => rw [e3] at h; cases h
      | st => rw [e3] at h; cases h
    | ex c e' S' => rw [e2] at h; cases h
    | st => rw [e2] at h; cases h
  | ex c e' S' => rw [e] at h; cases h
  | st => rw [e] at h; cases h
theorem dE_chain {op op' : CmpOp} {σ : L2.St} {H : Hp} {Q : VK} (h : dE (nm X fd) E (fChain op op' Fa Fb Fc) σ H Q) :
    tChain (dOp (nm X fd) E (opCmp op)) (dOp (nm X fd) E (opCmp op')) (dE (nm X fd) E Fa) (dE (nm X fd) E Fb) (dE (nm X fd) E Fc) σ H Q := by
  obtain ⟨ρ, S, α, r, ok, h⟩ := h
  refine ⟨ρ, S, α, r, ok, ?_⟩
  unfold fChain at h
  cases e : Fa ρ S with
  | ok x S1 =>
    rw [e] at h
    intro v1 H1 α1 st1 ok1 r1
    refine ⟨ρ, S1, α1, r.step ok st1, ok1, ?_⟩
    have h := dRes.shift ok st1 h
    simp only [bind_ok] at h
    cases e2 : Fb ρ S1 with
    | ok y S2 =>
      rw [e2] at h
      intro v2 H2 α2 st2 ok2 r2
      refine ⟨S2, α2, x, y, ok2, st2.rp ok1 r1, r2, ?_⟩
      have h := dRes.shift ok1 st2 h
      simp only [bind_ok] at h
      cases e3 : opCmp op x y S2 with
      | ok z S3 =>
        rw [e3] at h
        intro v3 H3 α3 st3 ok3 r3
        have h := dRes.shift ok2 st3 h
        simp only [bind_ok] at h
        obtain ⟨k, rfl⟩ := opCmp_bool e3
        refine ⟨k, r3.bool_inv, ?_⟩
        cases k with
        | true =>
          refine iteT ?_
          refine ⟨ρ, S3, α3, ((r.step ok st1).step ok1 st2).step ok2 st3, ok3, ?_⟩
          simp only at h
          cases e4 : Fc ρ S3 with
          | ok w S4 =>
            rw [e4] at h
            intro v4 H4 α4 st4 ok4 r4
            exact ⟨S4, α4, y, w, ok4, st4.rp ok3 (st3.rp ok2 r2), r4, dRes.shift ok3 st4 h⟩
          | ex c e' S' => rw [e4] at h; exact h
          | st => rw [e4] at h; exact h
        | false =>
          refine iteF ?_
          exact again ok3 (.p (.bl _)) h
      | ex c e' S' => rw [e3] at h; exact h
      | st => rw [e3] at h; exact h
    | ex c e' S' => rw [e2] at h; exact h
    | st => rw [e2] at h; exact h
  | ex c e' S' => rw [e] at h; exact h
  | st => rw [e] at h; exact h
theorem dv_chain (hu : X.A.units + 65 < cLine) {op op' : CmpOp} (ha : PE X a (dE (nm X fd) E Fa)) (hb : PE X b (dE (nm X fd) E Fb)) (hc : PE X c (dE (nm X fd) E Fc)) (hm : behindInMarks op' c = false) :
    PE X (.Compare a [op, op'] [b, c] pos) (dE (nm X fd) E (fChain op op' Fa Fb Fc)) :=
  PE.imp (pe_chain (opr_cmp hu op) (opr_cmp hu op') ha hb hc (by simp only [lastMarks]; exact hm)) fun σ H Q h => dE_chain h
theorem dt_chain (hu : X.A.units + 65 < cLine) {op op' : CmpOp} (ha : PE X a (dE (nm X fd) E Fa)) (hb : PE X b (dE (nm X fd) E Fb)) (hc : PE X c (dE (nm X fd) E Fc)) (hm : behindInMarks op' c = false) :
    PT X (.Compare a [op, op'] [b, c] pos) (dT (nm X fd) E (fTru (fChain op op' Fa Fb Fc))) :=
  PT.imp (pt_chain (opr_cmp hu op) (opr_cmp hu op') ha hb hc (by simp only [lastMarks]; exact hm)) fun σ H Q h => dE_chain (dT_bools bools_chain h)
/-! ### not, and, or, a choice -/
variable {Ta Tb Tc : Slots → Sto → Res Bool} {rest : List Expr}
abbrev fNot (Fa : Slots → Sto → Res D) : Slots → Sto → Res D := fun ρ S => (Fa ρ S).bind fun x S1 => match x with
  | .p (.bool k) => .ok (.b (!k)) S1
  | _ => .st
abbrev fAnd (Fa Fb : Slots → Sto → Res D) : Slots → Sto → Res D := fun ρ S => (Fa ρ S).bind fun x S1 => match x with
  | .p (.bool true) => Fb ρ S1
  | .p (.bool false) => .ok (.b false) S1
  | _ => .st
abbrev fOr (Fa Fb : Slots → Sto → Res D) : Slots → Sto → Res D := fun ρ S => (Fa ρ S).bind fun x S1 => match x with
  | .p (.bool false) => Fb ρ S1
  | .p (.bool true) => .ok (.b true) S1
  | _ => .st
abbrev gNot (Ta : Slots → Sto → Res Bool) : Slots → Sto → Res Bool := fun ρ S => (Ta ρ S).bind fun k S1 => .ok (!k) S1
abbrev gAnd (Ta Tb : Slots → Sto → Res Bool) : Slots → Sto → Res Bool := fun ρ S => (Ta ρ S).bind fun k S1 => match k with
  | true => Tb ρ S1
  | false => .ok false S1
abbrev gOr (Ta Tb : Slots → Sto → Res Bool) : Slots → Sto → Res Bool := fun ρ S => (Ta ρ S).bind fun k S1 => match k with
  | false => Tb ρ S1
  | true => .ok true S1
abbrev fIf (Tc : Slots → Sto → Res Bool) (Fa Fb : Slots → Sto → Res D) : Slots → Sto → Res D := fun ρ S => (Tc ρ S).bind fun k S1 => match k with
  | true => Fa ρ S1
  | false => Fb ρ S1
theorem dv_not (ha : PE X a (dE (nm X fd) E Fa)) : PE X (.UnaryOp .Not a pos) (dE (nm X fd) E (fNot Fa)) := by
  refine PE.imp (pe_not ha) fun σ H Q ⟨ρ, S, α, r, ok, h⟩ => ⟨ρ, S, α, r, ok, ?_⟩
  unfold fNot at h
  cases e : Fa ρ S with
  | ok x S1 =>
    rw [e] at h
    simp only [bind_ok] at h
    intro v H' α' st ok' rv
    have h := dRes.shift ok st h
    split at h
    · exact ⟨_, rv.bool_inv, again ok' (.p (.bl _)) h⟩
    · exact h.elim
  | ex c e' S' => rw [e] at h; exact h
  | st => rw [e] at h; exact h
theorem dv_and (ha : PE X a (dE (nm X fd) E Fa)) (hb : PE X (.BoolOp .And (b :: rest) pos) (dE (nm X fd) E Fb)) : PE X (.BoolOp .And (a :: b :: rest) pos) (dE (nm X fd) E (fAnd Fa Fb)) := by
  refine PE.imp (pe_and ha hb) fun σ H Q ⟨ρ, S, α, r, ok, h⟩ => ⟨ρ, S, α, r, ok, ?_⟩
  unfold fAnd at h
  cases e : Fa ρ S with
  | ok x S1 =>
    rw [e] at h
    simp only [bind_ok] at h
    intro v H' α' st ok' rv
    have h := dRes.shift ok st h
    split at h
    · exact ⟨_, rv.bool_inv, iteT ⟨ρ, S1, α', r.step ok st, ok', h⟩⟩
    · exact ⟨_, rv.bool_inv, iteF (again ok' (.p (.bl _)) h)⟩
    · exact h.elim
  | ex c e' S' => rw [e] at h; exact h
  | st => rw [e] at h; exact h
theorem dv_or (ha : PE X a (dE (nm X fd) E Fa)) (hb : PE X (.BoolOp .Or (b :: rest) pos) (dE (nm X fd) E Fb)) : PE X (.BoolOp .Or (a :: b :: rest) pos) (dE (nm X fd) E (fOr Fa Fb)) := by
  refine PE.imp (pe_or ha hb) fun σ H Q ⟨ρ, S, α, r, ok, h⟩ => ⟨ρ, S, α, r, ok, ?_⟩
  unfold fOr at h
  cases e : Fa ρ S with
  | ok x S1 =>
    rw [e] at h
    simp only [bind_ok] at h
    intro v H' α' st ok' rv
    have h := dRes.shift ok st h
    split at h
    · exact ⟨_, rv.bool_inv, iteF ⟨ρ, S1, α', r.step ok st, ok', h⟩⟩
    · exact ⟨_, rv.bool_inv, iteT (again ok' (.p (.bl _)) h)⟩
    · exact h.elim
  | ex c e' S' => rw [e] at h; exact h
  | st => rw [e] at h; exact h
theorem againT {N : Nm} {α : List Addr} {S : Sto} {H : Hp} {Q : Bool → Hp → Prop} {k : Bool} (ok : StoOk N H α S) (h : dResT N E α S H (.ok k S) Q) : Q k H := h H α .refl ok
theorem dt_not (ha : PT X a (dT (nm X fd) E Ta)) : PT X (.UnaryOp .Not a pos) (dT (nm X fd) E (gNot Ta)) := by
  refine PT.imp (pt_not ha) fun σ H Q ⟨ρ, S, α, r, ok, h⟩ => ⟨ρ, S, α, r, ok, ?_⟩
  unfold gNot at h
  cases e : Ta ρ S with
  | ok x S1 =>
    rw [e] at h
    intro H' α' st ok'
    exact againT ok' (dResT.shift ok st h)
  | ex c e' S' => rw [e] at h; exact h
  | st => rw [e] at h; exact h
theorem dt_and (ha : PT X a (dT (nm X fd) E Ta)) (hb : PW X (.BoolOp .And (b :: rest) pos) (dT (nm X fd) E Tb)) : PW X (.BoolOp .And (a :: b :: rest) pos) (dT (nm X fd) E (gAnd Ta Tb)) := by
  refine PW.imp (pw_and ha hb) fun σ H Q ⟨ρ, S, α, r, ok, h⟩ => ⟨ρ, S, α, r, ok, ?_⟩
  unfold gAnd at h
  cases e : Ta ρ S with
  | ok k S1 =>
    rw [e] at h
    intro H' α' st ok'
    have h := dResT.shift ok st h
    cases k with
    | true => exact iteT ⟨ρ, S1, α', r.step ok st, ok', h⟩
    | false => exact iteF (againT ok' h)
  | ex c e' S' => rw [e] at h; exact h
  | st => rw [e] at h; exact h
theorem dt_or (ha : PT X a (dT (nm X fd) E Ta)) (hb : PW X (.BoolOp .Or (b :: rest) pos) (dT (nm X fd) E Tb)) : PW X (.BoolOp .Or (a :: b :: rest) pos) (dT (nm X fd) E (gOr Ta Tb)) := by
  refine PW.imp (pw_or ha hb) fun σ H Q ⟨ρ, S, α, r, ok, h⟩ => ⟨ρ, S, α, r, ok, ?_⟩
  unfold gOr at h
  cases e : Ta ρ S with
  | ok k S1 =>
    rw [e] at h
    intro H' α' st ok'
    have h := dResT.shift ok st h
    cases k with
    | true => exact iteT (againT ok' h)
    | false => exact iteF ⟨ρ, S1, α', r.step ok st, ok', h⟩
  | ex c e' S' => rw [e] at h; exact h
  | st => rw [e] at h; exact h
theorem dv_if (hc : PT X c (dT (nm X fd) E Tc)) (ha : PE X a (dE (nm X fd) E Fa)) (hb : PE X b (dE (nm X fd) E Fb)) : PE X (.IfExp c a b pos) (dE (nm X fd) E (fIf Tc Fa Fb)) := by
  refine PE.imp (pe_ifExp hc ha hb) fun σ H Q ⟨ρ, S, α, r, ok, h⟩ => ⟨ρ, S, α, r, ok, ?_⟩
  unfold fIf at h
  cases e : Tc ρ S with
  | ok k S1 =>
    rw [e] at h
    intro H' α' st ok'
    have h := dRes.shift ok st h
    cases k with
    | true => exact iteT ⟨ρ, S1, α', r.step ok st, ok', h⟩
    | false => exact iteF ⟨ρ, S1, α', r.step ok st, ok', h⟩
  | ex c e' S' => rw [e] at h; exact h
  | st => rw [e] at h; exact h

/-! ### argument lists, displays -/
variable {es : List Expr} {Fs : Slots → Sto → Res (List D)}
def nsE : Expr → Bool
  | .Starred _ _ => false
  | _ => true
theorem starEach_ns {e : Expr} {es : List Expr} {env : Env} (h : nsE e = true) : starEach (e :: es) env = (false, eval e env) :: starEach es env := by
  cases e <;> first | rfl | cases h
theorem starEach_all {env : Env} {pos : Pos} : ∀ {es : List Expr}, es.all nsE = true → (backTo pos (starEach es env)).any (·.1) = false
  | [], _ => rfl
  | e :: es, h => by
    simp only [List.all_cons, Bool.and_eq_true] at h
    rw [starEach_ns h.1]
    have := starEach_all (env := env) (pos := pos) h.2
    show (false || (backTo pos (starEach es env)).any (·.1)) = false
    rw [this]
    rfl
abbrev fNil : Slots → Sto → Res (List D) := fun _ S => .ok [] S
abbrev fCons (Fa : Slots → Sto → Res D) (Fs : Slots → Sto → Res (List D)) : Slots → Sto → Res (List D) := fun ρ S => (Fa ρ S).bind fun x S1 => (Fs ρ S1).bind fun xs S2 => .ok (x :: xs) S2
theorem da_nil : PA X [] (dA (nm X fd) E fNil) := PA.imp pa_nil fun σ H Q h => dA_nil h
theorem da_cons (ha : PE X a (dE (nm X fd) E Fa)) (hs : PA X es (dA (nm X fd) E Fs)) (hn : nsE a = true) : PA X (a :: es) (dA (nm X fd) E (fCons Fa Fs)) :=
  PA.imp (pa_cons ha hs (starEach_ns hn)) fun σ H Q h => dA_cons h
abbrev fTup (Fs : Slots → Sto → Res (List D)) : Slots → Sto → Res D := fun ρ S => (Fs ρ S).bind fun xs S1 => if xs.length ≤ sizeLine then .ok (mkT xs) S1 else .st
abbrev fLst (m : Bool) (Fs : Slots → Sto → Res (List D)) : Slots → Sto → Res D := fun ρ S => (Fs ρ S).bind fun xs S1 => if xs.length ≤ sizeLine then mkL m xs S1 else .st
theorem dv_tup {k : Nat} (hs : PA X es (dA (nm X fd) E Fs)) : PE X (.Tuple es k pos) (dE (nm X fd) E (fTup Fs)) := by
  refine PE.imp (pe_tup hs) fun σ H Q ⟨ρ, S, α, r, ok, h⟩ => ⟨ρ, S, α, r, ok, ?_⟩
  unfold fTup at h
  cases e : Fs ρ S with
  | ok xs S1 =>
    rw [e] at h
    intro vs H' α' st ok' rs
    have h := dRes.shift ok st h
    simp only [bind_ok] at h
    split at h
    · rename_i hz
      exact ⟨by rw [rs.length]; exact hz, newT ok' rs h⟩
    · exact h.elim
  | ex c e' S' => rw [e] at h; exact h
  | st => rw [e] at h; exact h
theorem dv_lst (hs : SysIn X) {m : Bool} (ha : PA X es (dA (nm X fd) E Fs)) : PE X (.List es pos) (dE (nm X fd) E (fLst m Fs)) := by
  refine PE.imp (pe_fz hs (pe_lst ha)) fun σ H Q ⟨ρ, S, α, r, ok, h⟩ => ⟨ρ, S, α, r, ok, ?_⟩
  unfold fLst at h
  cases e : Fs ρ S with
  | ok xs S1 =>
    rw [e] at h
    intro vs H' α' st ok' rs
    have h := dRes.shift ok st h
    simp only [bind_ok] at h
    split at h
    · rename_i hz
      exact ⟨by rw [rs.length]; exact hz, newL ok' rs h⟩
    · exact h.elim
  | ex c e' S' => rw [e] at h; exact h
  | st => rw [e] at h; exact h
end
end Dl

set_option linter.all false
set_option maxRecDepth 100000
set_option maxHeartbeats 4000000
/-! Dl8: targets, what is walked, comprehensions. -/
namespace Dl
open PySem PySem.Spec PyProof.Rows L2

/-! ### targets -/
mutual
inductive Tg where
  | nm (i : Nat)
  | tp (ts : Tgs)
inductive Tgs where
  | nil
  | cons (t : Tg) (ts : Tgs)
end
mutual
def setT : Tg → D → Slots → Option Slots
  | .nm i, d, ρ => some (ρ.set i (some d))
  | .tp ts, d, ρ => match tupOf d with
    | some xs => setTs ts xs ρ
    | none => none
def setTs : Tgs → List D → Slots → Option Slots
  | .nil, [], ρ => some ρ
  | .cons t ts, d :: ds, ρ => match setT t d ρ with
    | some ρ' => setTs ts ds ρ'
    | none => none
  | _, _, _ => none
end
mutual
def Tg.slots : Tg → List Nat
  | .nm i => [i]
  | .tp ts => ts.slots
def Tgs.slots : Tgs → List Nat
  | .nil => []
  | .cons t ts => t.slots ++ ts.slots
end
def Tgs.len : Tgs → Nat
  | .nil => 0
  | .cons _ ts => ts.len + 1
mutual
def gT (K : PySem.W.Frag) : Tg → TG
  | .nm i => gName i
  | .tp ts => gTup K ts.len (gTs K ts)
def gTs (K : PySem.W.Frag) : Tgs → TGs
  | .nil => gNil
  | .cons t ts => gCons (gT K t) (gTs K ts)
end
/-- the same but at some slots -/
def SameBut (js : List Nat) (σ σ' : L2.St) : Prop := σ'.length = σ.length ∧ ∀ j, j ∉ js → σ'[j]? = σ[j]?
theorem SameBut.refl {js : List Nat} {σ : L2.St} : SameBut js σ σ := ⟨rfl, fun _ _ => rfl⟩
theorem SameBut.trans {js ks : List Nat} {σ σ1 σ2 : L2.St} (a : SameBut js σ σ1) (b : SameBut ks σ1 σ2) : SameBut (js ++ ks) σ σ2 :=
  ⟨b.1.trans a.1, fun j h => by
    simp only [List.mem_append, not_or] at h
    rw [b.2 j h.2, a.2 j h.1]⟩
section
variable {N : Nm} {H : Hp} {α : List Addr}
theorem setTs_len : ∀ {ts : Tgs} {ds : List D} {ρ ρ' : Slots}, setTs ts ds ρ = some ρ' → ds.length = ts.len
  | .nil, [], _, _, _ => rfl
  | .nil, _ :: _, _, _, h => by simp [setTs] at h
  | .cons t ts, [], _, _, h => by simp [setTs] at h
  | .cons t ts, d :: ds, ρ, ρ', h => by
    unfold setTs at h
    split at h
    · exact congrArg Nat.succ (setTs_len h)
    · cases h
mutual
theorem gT_of : ∀ {t : Tg} {d : D} {ρ ρ' : Slots} {v : V} {σ : L2.St} {Q : L2.St → Hp → Prop}, setT t d ρ = some ρ' → Rho N H α σ ρ → Rp N H α v d → (∀ σ', Rho N H α σ' ρ' → SameBut t.slots σ σ' → Q σ' H) → gT N.K t v σ H Q
  | .nm i, d, ρ, ρ', v, σ, Q, e, r, rv, h => by
    simp [setT] at e
    subst e
    refine h _ (r.set i rv) ⟨by simp, fun j hj => ?_⟩
    simp [Tg.slots] at hj
    rw [List.getElem?_set_ne (fun z => hj z.symm)]
  | .tp ts, d, ρ, ρ', v, σ, Q, e, r, rv, h => by
    unfold setT at e
    split at e
    · rename_i xs e1
      obtain ⟨a, vs, e2, h1, h2⟩ := rv.tup_inv e1
      exact ⟨a, vs, e2, h1, by rw [h2.length]; exact setTs_len e, gTs_of e r h2 h⟩
    · cases e
theorem gTs_of : ∀ {ts : Tgs} {ds : List D} {ρ ρ' : Slots} {vs : List V} {σ : L2.St} {Q : L2.St → Hp → Prop}, setTs ts ds ρ = some ρ' → Rho N H α σ ρ → RpAll N H α vs ds → (∀ σ', Rho N H α σ' ρ' → SameBut ts.slots σ σ' → Q σ' H) → gTs N.K ts vs σ H Q
  | .nil, ds, ρ, ρ', vs, σ, Q, e, r, rv, h => by
    cases ds with
    | nil =>
      simp [setTs] at e
      subst e
      cases rv
      exact ⟨rfl, h σ r .refl⟩
    | cons d ds => simp [setTs] at e
  | .cons t ts, ds, ρ, ρ', vs, σ, Q, e, r, rv, h => by
    cases ds with
    | nil => simp [setTs] at e
    | cons d ds =>
      unfold setTs at e
      split at e
      · rename_i ρ1 e1
        cases rv with
        | cons r1 r2 =>
          refine ⟨_, _, rfl, gT_of e1 r r1 fun σ1 s1 b1 => gTs_of e s1 r2 fun σ2 s2 b2 => h σ2 s2 ?_⟩
          exact b1.trans b2
      · cases e
end
end

/-! ### what is walked -/
structure Src where
  xs : List D
  w : List (Nat × List D)
def Wat (w : List (Nat × List D)) (S : Sto) : Prop := ∀ q ∈ w, S[q.1]? = some (.lst q.2)
@[simp] theorem wat_nil (S : Sto) : Wat [] S ↔ True := by simp [Wat]
/-- J gives the items while the watched cells are as they were -/
def ItOk (N : Nm) (J : It) (src : Src) (α0 : List Addr) (H0 : Hp) : Prop := ∀ α S H, UpL α0 H0 α H → StoOk N H α S → Wat src.w S →
  (∀ (i : Nat) (d : D), src.xs[i]? = some d → J.go i H ∧ ∀ x H', J.yld i H x H' → Stp α S H α S H' ∧ StoOk N H' α S ∧ Rp N H' α x d) ∧ J.stop src.xs.length H
def dResI (N : Nm) (E : XK) (α : List Addr) (S : Sto) (H : Hp) (r : Res Src) (R : It → Hp → Prop) : Prop := match r with
  | .ok src S' => ∀ H' α' J, Stp α S H α' S' H' → StoOk N H' α' S' → ItOk N J src α' H' → R J H'
  | .ex c e S' => ∀ cls dx H' α', Stp α S H α' S' H' → StoOk N H' α' S' → XOk N H' α' cls dx c e → E cls dx H'
  | .st => False
def dI (N : Nm) (E : XK) (F : Slots → Sto → Res Src) : TI := fun σ H R => ∃ ρ S α, Rho N H α σ ρ ∧ StoOk N H α S ∧ dResI N E α S H (F ρ S) R
theorem againI {N : Nm} {E : XK} {α α' : List Addr} {S S' : Sto} {H H' : Hp} {R : It → Hp → Prop} {src : Src} {J : It} (st : Stp α S H α' S' H') (ok : StoOk N H' α' S') (h : dResI N E α S H (.ok src S') R) (i : ItOk N J src α' H') : R J H' := h H' α' J st ok i
theorem Up.refl {α : List Addr} {H : Hp} : Up α H α H := ⟨fun _ _ h => h, fun _ _ h _ => h⟩
theorem Up.trans {α α1 α2 : List Addr} {H H1 H2 : Hp} (a : Up α H α1 H1) (b : Up α1 H1 α2 H2) : Up α H α2 H2 := ⟨fun l x h => b.loc l x (a.loc l x h), fun x u h f => b.fix x u (a.fix x u h f) f⟩
theorem UpL.refl {α : List Addr} {H : Hp} : UpL α H α H := ⟨.refl, fun _ _ _ h => h⟩
theorem UpL.trans {α α1 α2 : List Addr} {H H1 H2 : Hp} (a : UpL α H α1 H1) (b : UpL α1 H1 α2 H2) : UpL α H α2 H2 := ⟨a.toUp.trans b.toUp, fun x o z h => b.lk x o z (a.lk x o z h)⟩
theorem PI.imp {X : Cx} {tg e : Expr} {t t' : TI} (h : PI X tg e t) (i : ∀ σ H Q, t' σ H Q → t σ H Q) : PI X tg e t' := ⟨fun pins s σ H Q I q => h.run pins s σ H Q I (i σ H Q q)⟩
/-- a key as a value -/
def keyD : Key → D
  | .inl i => .i i
  | .inr x => .s x
theorem keyD_rp {N : Nm} {H : Hp} {α : List Addr} : ∀ k : Key, Rp N H α (kV k) (keyD k)
  | .inl i => .p (.int i)
  | .inr x => .p (.str x)
/-- what a list, a tuple, a text gives; a locked dict its keys -/
def srcOf (d : D) (S : Sto) : Option Src := match d with
  | .p (.tuple ds) => some ⟨ds.map D.p, []⟩
  | .p (.list ds) => some ⟨ds.map D.p, []⟩
  | .tup xs => some ⟨xs, []⟩
  | .p (.str z) => some ⟨z.cps.toList.map fun c => .s ⟨#[c]⟩, []⟩
  | .loc l => match S[l]? with
    | some (.lst xs) => some ⟨xs, [(l, xs)]⟩
    | some (.lk kvs) => some ⟨kvs.map fun q => keyD q.1, []⟩
    | _ => none
  | _ => none
def isLk (d : D) (S : Sto) : Bool := match d with
  | .loc l => match S[l]? with
    | some (.lk _) => true
    | _ => false
  | _ => false
@[simp] theorem srcOf_tuple (ds : List PyData) (S : Sto) : srcOf (.p (.tuple ds)) S = some ⟨ds.map D.p, []⟩ := rfl
@[simp] theorem srcOf_list (ds : List PyData) (S : Sto) : srcOf (.p (.list ds)) S = some ⟨ds.map D.p, []⟩ := rfl
abbrev fSeq (Fa : Slots → Sto → Res D) : Slots → Sto → Res Src := fun ρ S => (Fa ρ S).bind fun d S1 => match srcOf d S1 with
  | some src => .ok src S1
  | none => .st
theorem itOk_tup {N : Nm} {H0 : Hp} {α0 : List Addr} {a : Addr} {vs : List V} {xs : List D} (h : SqT N.K H0 a vs) (r : RpAll N H0 α0 vs xs) : ItOk N (Itt N.K a) ⟨xs, []⟩ α0 H0 := fun α S H u ok _ => by
  have h1 := u.sqT h
  have r1 := u.rpAll r
  refine ⟨fun i d e => ?_, ⟨vs, h1, by rw [r1.length]; exact Nat.le_refl _⟩⟩
  obtain ⟨v, e1, rv⟩ := r1.get e
  refine ⟨⟨vs, v, h1, e1⟩, fun x H' y => ?_⟩
  obtain ⟨e2, y⟩ := y
  subst e2
  have := y vs h1
  rw [e1] at this
  cases this
  exact ⟨.refl, ok, rv⟩
theorem itOk_frz {N : Nm} {H0 : Hp} {α0 : List Addr} {a : Addr} {vs : List V} {xs : List D} (h : FzL N.K H0 a vs) (r : RpAll N H0 α0 vs xs) : ItOk N (Itl N.K a) ⟨xs, []⟩ α0 H0 := fun α S H u ok _ => by
  have h1 : SqL N.K H a vs := (u.fzL h).sq
  have r1 := u.rpAll r
  refine ⟨fun i d e => ?_, ⟨vs, h1, by rw [r1.length]; exact Nat.le_refl _⟩⟩
  obtain ⟨v, e1, rv⟩ := r1.get e
  refine ⟨⟨vs, v, h1, e1⟩, fun x H' y => ?_⟩
  obtain ⟨e2, y⟩ := y
  subst e2
  have := y vs h1
  rw [e1] at this
  cases this
  exact ⟨.refl, ok, rv⟩
theorem itOk_cell {N : Nm} {H0 : Hp} {α0 : List Addr} {a : Addr} {l : Nat} {xs : List D} (h : α0[l]? = some a) : ItOk N (Itl N.K a) ⟨xs, [(l, xs)]⟩ α0 H0 := fun α S H u ok w => by
  have q : S[l]? = some (.lst xs) := w (l, xs) (by simp)
  obtain ⟨vs, h1, r1⟩ := ok.cell l a _ (u.loc l a h) q
  have h2 : SqL N.K H a vs := .inl (.inl h1)
  refine ⟨fun i d e => ?_, ⟨vs, h2, by rw [r1.length]; exact Nat.le_refl _⟩⟩
  obtain ⟨v, e1, rv⟩ := r1.get e
  refine ⟨⟨vs, v, h2, e1⟩, fun x H' y => ?_⟩
  obtain ⟨e2, y⟩ := y
  subst e2
  have := y vs h2
  rw [e1] at this
  cases this
  exact ⟨.refl, ok, rv⟩
theorem itOk_str {N : Nm} {H0 : Hp} {α0 : List Addr} {z : Str} : ItOk N (Its z) ⟨z.cps.toList.map fun c => .s ⟨#[c]⟩, []⟩ α0 H0 := fun α S H u ok _ => by
  refine ⟨fun i d e => ?_, by show z.cps.size ≤ _; simp⟩
  rw [List.getElem?_map, Option.map_eq_some_iff] at e
  obtain ⟨c, e1, e2⟩ := e
  subst e2
  refine ⟨by have := (List.getElem?_eq_some_iff.mp e1).1; show i < z.cps.size; simpa using this, fun x H' y => ?_⟩
  obtain ⟨e2, c', e3, e4⟩ := y
  subst e2 e4
  have : c' = c := by
    have e5 : z.cps[i]? = some c := by rw [← Array.getElem?_toList]; exact e1
    rw [e3] at e5
    exact Option.some.inj e5
  subst this
  exact ⟨.refl, ok, .p (.str _)⟩
theorem itOk_rng {N : Nm} {H0 : Hp} {α0 : List Addr} {lo : Int} {n : Nat} : ItOk N (Itr lo n) ⟨(List.range n).map fun k => .i (lo + (k : Nat)), []⟩ α0 H0 := fun α S H u ok _ => by
  refine ⟨fun i d e => ?_, by show n ≤ _; simp⟩
  rw [List.getElem?_map, Option.map_eq_some_iff] at e
  obtain ⟨c, e1, e2⟩ := e
  subst e2
  have hi : i < n := by have := (List.getElem?_eq_some_iff.mp e1).1; simpa using this
  refine ⟨hi, fun x H' y => ?_⟩
  obtain ⟨e2, e3⟩ := y
  subst e2 e3
  rw [List.getElem?_range hi] at e1
  cases e1
  exact ⟨.refl, ok, .p (.int _)⟩
theorem itOk_rngC {N : Nm} {H0 : Hp} {α0 : List Addr} {lo c : Int} {n : Nat} : ItOk N (Itc lo c n) ⟨(List.range n).map fun k => .i (lo + (k : Nat) * c), []⟩ α0 H0 := fun α S H u ok _ => by
  refine ⟨fun i d e => ?_, by show n ≤ _; simp⟩
  rw [List.getElem?_map, Option.map_eq_some_iff] at e
  obtain ⟨k, e1, e2⟩ := e
  subst e2
  have hi : i < n := by have := (List.getElem?_eq_some_iff.mp e1).1; simpa using this
  refine ⟨hi, fun x H' y => ?_⟩
  obtain ⟨e2, e3⟩ := y
  subst e2 e3
  rw [List.getElem?_range hi] at e1
  cases e1
  exact ⟨.refl, ok, .p (.int _)⟩
theorem itOk_keys {N : Nm} {H0 : Hp} {α0 : List Addr} {a : Addr} {o : Obj} {ks : List Key} {vs : List V} {xs : List D} (h : H0 a = some (.frz o (.dK (ks.zip vs)))) (hl : ks.length = vs.length) (hx : ks.length = xs.length) :
    ItOk N (Itk a o (ks.zip vs)) ⟨(ks.zip xs).map fun q => keyD q.1, []⟩ α0 H0 := fun α S H u ok _ => by
  have h1 := u.lk a o _ h
  have e0 : ((ks.zip xs).map fun q => keyD q.1) = ks.map keyD := by
    rw [show (fun q : Key × D => keyD q.1) = keyD ∘ Prod.fst from rfl, ← List.map_map, List.map_fst_zip (by omega)]
  rw [e0]
  refine ⟨fun i d e => ?_, ⟨h1, by simp; omega⟩⟩
  rw [List.getElem?_map, Option.map_eq_some_iff] at e
  obtain ⟨k, ek, rfl⟩ := e
  have hk : i < ks.length := (List.getElem?_eq_some_iff.mp ek).1
  refine ⟨⟨h1, by simp; omega⟩, fun x H' y => ?_⟩
  obtain ⟨e2, k', v', e3, e4⟩ := y
  subst e2 e4
  have e5 : k' = k := by
    rw [List.getElem?_zip_eq_some] at e3
    rw [ek] at e3
    exact (Option.some.inj e3.1).symm
  subst e5
  exact ⟨.refl, ok, keyD_rp k'⟩
theorem itOk_items {N : Nm} {H0 : Hp} {α0 : List Addr} {a : Addr} {o : Obj} {ks : List Key} {vs : List V} {xs : List D} (h : H0 a = some (.frz o (.dK (ks.zip vs)))) (hl : ks.length = vs.length) (r : RpAll N H0 α0 vs xs) :
    ItOk N (Iti a o (ks.zip vs)) ⟨(ks.zip xs).map fun q => mkT [keyD q.1, q.2], []⟩ α0 H0 := fun α S H u ok _ => by
  have h1 := u.lk a o _ h
  have r1 := u.rpAll r
  have hx : vs.length = xs.length := r.length
  refine ⟨fun i d e => ?_, ⟨h1, by simp; omega⟩⟩
  rw [List.getElem?_map, Option.map_eq_some_iff] at e
  obtain ⟨⟨k, d'⟩, ek, rfl⟩ := e
  rw [List.getElem?_zip_eq_some] at ek
  have hk : i < ks.length := (List.getElem?_eq_some_iff.mp ek.1).1
  refine ⟨⟨h1, by simp; omega⟩, fun x H' y => ?_⟩
  obtain ⟨T, k', v', e3, e4, hT, e6⟩ := y
  subst e4 e6
  rw [List.getElem?_zip_eq_some] at e3
  have e5 : k' = k := Option.some.inj (e3.1.symm.trans ek.1)
  subst e5
  obtain ⟨v, ev, rv⟩ := r1.get ek.2
  rw [e3.2] at ev
  cases ev
  have st : Stp α S H α S (upd H T (.tup [kV k', v'])) := step_new ok hT
  exact ⟨st, sto_new ok hT, rp_mkT (.inl (.inl upd_same)) (st.rpAll ok (.cons (keyD_rp k') (.cons rv .nil)))⟩
section
variable {X : Cx} {fd : FdT} {E : XK} {tg e : Expr} {te : TE}
theorem pi_or {t t' : TI} (h : PI X tg e t) (h' : PI X tg e t') : PI X tg e (fun σ H R => t σ H R ∨ t' σ H R) := ⟨fun pins s σ H R I q => q.elim (h.run pins s σ H R I) (h'.run pins s σ H R I)⟩
/-- an iterator of a new object is had -/
theorem pie_new {pins : List (Addr × Obj)} {σ : L2.St} {H : Hp} {s : Shared} {R : It → Hp → Prop} {J : It} {o : Obj} {tn : Nat → Heap → Prop} {tk : Nat} (I : Inv X pins σ H s) (T : Turn X.prog X.w X.K tg J [s.heap.objs.size] s.heap.objs.size tn) (t0 : tn 0 (s.heap.push o)) (q : R J H) :
    PIE X pins σ tg R (.ref s.heap.objs.size) { s with heap := s.heap.push o, toks := tk } := by
  refine ⟨s.heap.objs.size, [s.heap.objs.size], tn, J, H, rfl, I.kept (t' := tk) fun b u z => Heap.get?_push_of_some _ z, T, t0, fun b hb => ?_, q⟩
  have z : b = s.heap.objs.size := by simpa using hb
  rw [z]
  exact I.fpOk (Nat.le_refl _) I.fresh
theorem pi_any (h : PE X e te) : PI X tg e (fun σ H R => te σ H fun x H1 => (∃ a xs, x = .ref a ∧ SqL X.K H1 a xs ∧ R (Itl X.K a) H1) ∨ (∃ a xs, x = .ref a ∧ SqT X.K H1 a xs ∧ R (Itt X.K a) H1) ∨ ∃ z, x = .str z ∧ R (Its z) H1) := by
  refine ⟨fun pins s σ H R I q => thn (h.run pins s σ H _ I q) fun v s1 ⟨x, H1, I1, rx, q1⟩ => ?_⟩
  rcases q1 with ⟨a, xs, ex, hx, q1⟩ | ⟨a, xs, ex, hx, q1⟩ | ⟨z, ex, q1⟩
  · subst ex
    cases rx
    obtain ⟨its, rv, p, _⟩ := I1.list hx
    exact wpAny_pyIter_list p.isList (pie_new (tk := s1.toks) I1 (turn_list a _) ⟨_, Heap.get?_push_size _ rfl, rfl, rfl⟩ q1)
  · subst ex
    cases rx
    obtain ⟨its, rv, p, _⟩ := I1.tuple hx
    exact wpAny_pyIter_tuple (show s1.heap.IsTuple a its.toArray from p) (pie_new (tk := s1.toks) I1 (turn_tuple a _) ⟨_, Heap.get?_push_size _ rfl, rfl, rfl⟩ q1)
  · subst ex
    obtain ⟨t, rfl⟩ := rx
    cases hz : z.cps.all (· < 128) with
    | false => exact wpAny_pyIter_wide hz (pie_new (tk := s1.toks) I1 (turn_str _ z t "str_iterator" (.inr rfl)) ⟨_, Heap.get?_push_size _ rfl, rfl, rfl⟩ q1)
    | true => exact wpAny_pyIter_ascii hz (pie_new (tk := s1.toks) I1 (turn_str _ z t "str_ascii_iterator" (.inl rfl)) ⟨_, Heap.get?_push_size _ rfl, rfl, rfl⟩ q1)
theorem di_seq {Fa : Slots → Sto → Res D} (ha : PE X e (dE (nm X fd) E Fa)) : PI X tg e (dI (nm X fd) E (fSeq Fa)) := by
  refine PI.imp (pi_or (pi_any ha) (pi_keys ha)) fun σ H R ⟨ρ, S, α, r, ok, h⟩ => ?_
  unfold fSeq at h
  cases q : Fa ρ S with
  | ok d S1 =>
    rw [q] at h
    simp only [bind_ok] at h
    cases kl : isLk d S1 with
    | true =>
      refine .inr ⟨ρ, S, α, r, ok, ?_⟩
      rw [q]
      intro v H' α' st ok' rv
      unfold isLk at kl
      split at kl
      · split at kl
        · rename_i l kvs e3
          cases rv with
          | loc hl =>
            obtain ⟨o, ks, vs, xs, h1, rfl, h3, h4⟩ := ok'.cell _ _ _ hl e3
            simp only [srcOf, e3] at h
            exact ⟨_, o, rfl, .inl ⟨ks.zip vs, h1, againI st ok' h (itOk_keys h1 h3 (by rw [h3, h4.length]))⟩⟩
        · cases kl
      · cases kl
    | false =>
    refine .inl ⟨ρ, S, α, r, ok, ?_⟩
    rw [q]
    intro v H' α' st ok' rv
    split at h
    · rename_i src e1
      unfold srcOf at e1
      split at e1
      · cases e1
        obtain ⟨a, vs, e2, h1, h2⟩ := rv.tup_inv (xs := _) rfl
        exact .inr (.inl ⟨a, vs, e2, h1, againI st ok' h (itOk_tup h1 h2)⟩)
      · cases e1
        cases rv with
        | p hp =>
          cases hp with
          | lst h1 h2 h3 => exact .inl ⟨_, _, rfl, h1.sq, againI st ok' h (itOk_frz h1 (RpAll.ofP h3))⟩
      · cases e1
        obtain ⟨a, vs, e2, h1, h2⟩ := rv.tup_inv (xs := _) rfl
        exact .inr (.inl ⟨a, vs, e2, h1, againI st ok' h (itOk_tup h1 h2)⟩)
      · cases e1
        exact .inr (.inr ⟨_, rv.str_inv, againI st ok' h itOk_str⟩)
      · split at e1
        · rename_i xs e3
          cases e1
          cases rv with
          | loc hl =>
            obtain ⟨vs, h1, h2⟩ := ok'.cell _ _ _ hl e3
            exact .inl ⟨_, vs, rfl, .inl (.inl h1), againI st ok' h (itOk_cell hl)⟩
        · rename_i e3
          simp only [isLk, e3] at kl
          cases kl
        · cases e1
      · cases e1
    · exact h.elim
  | ex c e' S' => rw [q] at h; exact .inl ⟨ρ, S, α, r, ok, by rw [q]; exact h⟩
  | st => rw [q] at h; exact h.elim
abbrev fItems (Fa : Slots → Sto → Res D) : Slots → Sto → Res Src := fun ρ S => (Fa ρ S).bind fun d S1 => match d with
  | .loc l => match S1[l]? with
    | some (.lk kvs) => .ok ⟨kvs.map fun q => mkT [keyD q.1, q.2], []⟩ S1
    | _ => .st
  | _ => .st
theorem di_items {elts : List Expr} {kk : Nat} {tpos apos cpos : Pos} {Fa : Slots → Sto → Res D} (ha : PE X e (dE (nm X fd) E Fa)) (hbase : attributeBase e "items" X.env (eval e X.env) = eval e X.env) (hline : (apos.endLine == cpos.line) = true) :
    PI X (.Tuple elts kk tpos) (.Call (.Attribute e "items" apos) [] [] cpos) (dI (nm X fd) E (fItems Fa)) := by
  refine PI.imp (pi_items ha hbase hline) fun σ H R ⟨ρ, S, α, r, ok, h⟩ => ⟨ρ, S, α, r, ok, ?_⟩
  unfold fItems at h
  cases q : Fa ρ S with
  | ok d S1 =>
    rw [q] at h
    simp only [bind_ok] at h
    intro v H' α' st ok' rv
    split at h
    · split at h
      · rename_i l kvs e3
        cases rv with
        | loc hl =>
          obtain ⟨o, ks, vs, xs, h1, rfl, h3, h4⟩ := ok'.cell _ _ _ hl e3
          exact ⟨_, o, ks.zip vs, rfl, h1, againI st ok' h (itOk_items h1 h3 h4)⟩
      · exact h.elim
    · exact h.elim
  | ex c e' S' => rw [q] at h; exact h
  | st => rw [q] at h; exact h.elim
end

/-! ### ranges -/
/-- an index (told apart, so that it is never reckoned out) -/
def RgB (j : Int) : Prop := -(2 ^ 62) ≤ j ∧ j < 2 ^ 62
open Classical in
noncomputable abbrev fRng1 (Fa : Slots → Sto → Res D) : Slots → Sto → Res Src := fun ρ S => (Fa ρ S).bind fun d S1 => match d with
  | .p (.int j) => if RgB j then .ok ⟨(List.range j.toNat).map fun k => .i (k : Nat), []⟩ S1 else .st
  | _ => .st
open Classical in
noncomputable abbrev fRng2 (Fs : Slots → Sto → Res (List D)) : Slots → Sto → Res Src := fun ρ S => (Fs ρ S).bind fun d S1 => match d with
  | [.p (.int i), .p (.int j)] => if RgB i ∧ RgB j then .ok ⟨(List.range (j - i).toNat).map fun k => .i (i + (k : Nat)), []⟩ S1 else .st
  | _ => .st
def rngSize (i j c : Int) : Nat := (Builtin.Range.rangeSize i j c).toNat
open Classical in
noncomputable abbrev fRng3 (Fs : Slots → Sto → Res (List D)) : Slots → Sto → Res Src := fun ρ S => (Fs ρ S).bind fun d S1 => match d with
  | [.p (.int i), .p (.int j), .p (.int c)] => if RgC i j c (rngSize i j c) then .ok ⟨(List.range (rngSize i j c)).map fun k => .i (i + (k : Nat) * c), []⟩ S1 else .st
  | _ => .st
section
variable {X : Cx} {fd : FdT} {E : XK} {tg : Expr} {a b c : Expr} {p pos : Pos}
theorem di_rng1 {Fs : Slots → Sto → Res D} (hg : Gl X "range") (hm : X.mg "range" = none) (ha : PE X a (dE (nm X fd) E Fs)) (hn : nsE a = true) : PI X tg (.Call (.Name "range" p) [a] [] pos) (dI (nm X fd) E (fRng1 Fs)) := by
  refine PI.imp (pi_range1 hg hm (pa_cons ha pa_nil (starEach_ns hn)) (starEach_ns hn)) fun σ H R ⟨ρ, S, α, r, ok, h⟩ => ⟨ρ, S, α, r, ok, ?_⟩
  unfold fRng1 at h
  cases q : Fs ρ S with
  | ok d S1 =>
    rw [q] at h
    simp only [bind_ok] at h
    intro v H' α' st ok' rv
    split at h
    · rename_i j
      split at h
      · rename_i hz
        have hz : -(2 ^ 62) ≤ j ∧ j < 2 ^ 62 := hz
        refine ⟨j, by rw [rv.int_inv], hz.1, hz.2, againI st ok' h ?_⟩
        have := itOk_rng (N := nm X fd) (H0 := H') (α0 := α') (lo := 0) (n := j.toNat)
        simpa using this
      · exact h.elim
    · exact h.elim
  | ex c e' S' => rw [q] at h; exact h
  | st => rw [q] at h; exact h
theorem ints2 {N : Nm} {H : Hp} {α : List Addr} {vs : List V} {i j : Int} (r : RpAll N H α vs [.p (.int i), .p (.int j)]) : vs = [.int i, .int j] := by
  cases r with
  | cons r1 r =>
    cases r with
    | cons r2 r =>
      cases r
      rw [r1.int_inv, r2.int_inv]
theorem ints3 {N : Nm} {H : Hp} {α : List Addr} {vs : List V} {i j k : Int} (r : RpAll N H α vs [.p (.int i), .p (.int j), .p (.int k)]) : vs = [.int i, .int j, .int k] := by
  cases r with
  | cons r1 r =>
    rw [ints2 r, r1.int_inv]
theorem di_rng2 {Fs : Slots → Sto → Res (List D)} (hg : Gl X "range") (hm : X.mg "range" = none) (ha : PA X [a, b] (dA (nm X fd) E Fs)) (hn : nsE a = true) (hn2 : nsE b = true) : PI X tg (.Call (.Name "range" p) [a, b] [] pos) (dI (nm X fd) E (fRng2 Fs)) := by
  refine PI.imp (pi_range2 hg hm ha (by rw [starEach_ns hn, starEach_ns hn2]; rfl) (by rw [starEach_ns hn2]; rfl)) fun σ H R ⟨ρ, S, α, r, ok, h⟩ => ⟨ρ, S, α, r, ok, ?_⟩
  unfold fRng2 at h
  cases q : Fs ρ S with
  | ok d S1 =>
    rw [q] at h
    simp only [bind_ok] at h
    intro v H' α' st ok' rv
    split at h
    · rename_i i j
      split at h
      · rename_i hz
        have hz : (-(2 ^ 62) ≤ i ∧ i < 2 ^ 62) ∧ -(2 ^ 62) ≤ j ∧ j < 2 ^ 62 := hz
        exact ⟨i, j, ints2 rv, ⟨hz.1.1, hz.1.2, hz.2.1, hz.2.2⟩, againI st ok' h itOk_rng⟩
      · exact h.elim
    · exact h.elim
  | ex c e' S' => rw [q] at h; exact h
  | st => rw [q] at h; exact h
theorem di_rng3 {Fs : Slots → Sto → Res (List D)} (hg : Gl X "range") (hm : X.mg "range" = none) (ha : PA X [a, b, c] (dA (nm X fd) E Fs)) (hn : nsE a = true) (hn2 : [b, c].all nsE = true) : PI X tg (.Call (.Name "range" p) [a, b, c] [] pos) (dI (nm X fd) E (fRng3 Fs)) := by
  refine PI.imp (pi_range3 hg hm ha (starEach_ns hn) (starEach_all hn2)) fun σ H R ⟨ρ, S, α, r, ok, h⟩ => ⟨ρ, S, α, r, ok, ?_⟩
  unfold fRng3 at h
  cases q : Fs ρ S with
  | ok d S1 =>
    rw [q] at h
    simp only [bind_ok] at h
    intro v H' α' st ok' rv
    split at h
    · rename_i i j k
      split at h
      · rename_i hz
        exact ⟨i, j, k, _, ints3 rv, hz, againI st ok' h itOk_rngC⟩
      · exact h.elim
    · exact h.elim
  | ex c e' S' => rw [q] at h; exact h
  | st => rw [q] at h; exact h
end
end Dl

set_option linter.all false
set_option maxRecDepth 100000
set_option maxHeartbeats 4000000
/-! Dl9: list comprehensions by plain values. -/
namespace Dl
open PySem PySem.Spec PyProof.Rows L2

def Res.nx {α : Type} : Res α → Res α
  | .ok a S => .ok a S
  | _ => .st
@[simp] theorem nx_ok {α : Type} (a : α) (S : Sto) : (Res.ok a S).nx = .ok a S := rfl
def wipeD (ρ : Slots) : List Nat → Slots
  | [] => ρ
  | v :: vs => (wipeD ρ vs).set v none
open Classical in
noncomputable def lcLoop (w : List (Nat × List D)) (t : Tg) (ρ : Slots) (Tt : Slots → Sto → Res Bool) (Fe : Slots → Sto → Res D) : List D → List D → Sto → Res (List D)
  | [], acc, S => if Wat w S then .ok acc S else .st
  | x :: xs, acc, S => if Wat w S then (match setT t x ρ with
      | some ρ' => (Tt ρ' S).nx.bind fun k S1 => match k with
        | true => (Fe ρ' S1).nx.bind fun y S2 => if acc.length < sizeLine then lcLoop w t ρ Tt Fe xs (acc ++ [y]) S2 else .st
        | false => lcLoop w t ρ Tt Fe xs acc S1
      | none => .st) else .st
noncomputable abbrev fLc (m : Bool) (Fi : Slots → Sto → Res Src) (t : Tg) (own : List Nat) (Tt : Slots → Sto → Res Bool) (Fe : Slots → Sto → Res D) : Slots → Sto → Res D := fun ρ S =>
  (Fi ρ S).bind fun src S1 => (lcLoop src.w t (wipeD ρ own) Tt Fe src.xs [] S1).bind fun acc S2 => mkL m acc S2
abbrev fYes : Slots → Sto → Res Bool := fun _ S => .ok true S

section
variable {N : Nm} {E : XK} {H H' H1 : Hp} {α α1 : List Addr} {S S1 : Sto} {σ : L2.St} {ρ : Slots} {p : Addr} {o : HO} {vs : List V} {xs : List D}
theorem Rho.wipe (r : Rho N H α σ ρ) : ∀ own : List Nat, Rho N H α (wipe σ own) (wipeD ρ own)
  | [] => r
  | v :: own => by
    have q := r.wipe own
    unfold L2.wipe wipeD
    refine ⟨by simp [q.len], fun i d h => ?_⟩
    by_cases z : v = i
    · subst z
      by_cases hi : v < (wipeD ρ own).length
      · rw [List.getElem?_set_self hi] at h
        cases h
      · rw [List.getElem?_eq_none (by simpa using hi)] at h
        cases h
    · rw [List.getElem?_set_ne z] at h ⊢
      exact q.at_ i d h
theorem wipe_at {σ : L2.St} {j : Nat} : ∀ {own : List Nat}, (wipe σ own)[j]? = if j ∈ own ∧ j < σ.length then some none else σ[j]?
  | [] => by simp [wipe]
  | v :: own => by
    unfold wipe
    by_cases z : v = j
    · subst z
      by_cases hi : v < σ.length
      · rw [List.getElem?_set_self (by rw [wipe_length]; exact hi), if_pos ⟨by simp, hi⟩]
      · rw [List.getElem?_eq_none (by rw [List.length_set, wipe_length]; omega), if_neg (fun q => hi q.2), List.getElem?_eq_none (by omega)]
    · rw [List.getElem?_set_ne z, wipe_at (own := own)]
      have this : (j ∈ v :: own) ↔ j ∈ own := ⟨fun h => (List.mem_cons.mp h).resolve_left fun q => z q.symm, List.mem_cons_of_mem _⟩
      simp only [this]
theorem wipe_same {own js : List Nat} {σ σ2 : L2.St} (h : SameBut js (wipe σ own) σ2) (hs : ∀ j ∈ js, j ∈ own) : wipe σ2 own = wipe σ own := by
  have hl : σ2.length = σ.length := by rw [h.1, wipe_length]
  refine List.ext_getElem? fun j => ?_
  rw [wipe_at, wipe_at, hl]
  by_cases z : j ∈ own ∧ j < σ.length
  · rw [if_pos z, if_pos z]
  · rw [if_neg z, if_neg z]
    by_cases hj : j ∈ own
    · rw [List.getElem?_eq_none (by rw [hl]; exact Nat.le_of_not_lt fun q => z ⟨hj, q⟩), List.getElem?_eq_none (Nat.le_of_not_lt fun q => z ⟨hj, q⟩)]
    · rw [h.2 j (fun q => hj (hs j q)), wipe_at, if_neg z]
/-- an object beside the cells that nothing leans on is changed -/
theorem up_side {u : HO} (e : H p = some u) (hf : ¬ Fix u) : Up α H α (upd H p o) := ⟨fun _ _ h => h, fun x w h f => by
  rw [upd_ne]
  · exact h
  · rintro rfl
    rw [e] at h
    cases h
    exact hf f⟩
theorem tab_side {u : HO} (e : H p = some u) (hf : ¬ Fix u) (nt : ¬ isTb u) (P : Addr) (q : Str) (t : LamX.TabS H P q) : LamX.TabS (upd H p o) P q := by
  obtain ⟨ps, h1, h2, h3⟩ := t
  refine ⟨ps, (upd_ne fun z => ?_).trans h1, h2, fun pos cv hc => ?_⟩
  · rw [z, e] at h1
    cases h1
    exact nt trivial
  · obtain ⟨c, e1, e2⟩ := h3 pos cv hc
    refine ⟨c, e1, (upd_ne fun z => ?_).trans e2⟩
    rw [z, e] at e2
    cases e2
    exact hf trivial
theorem stp_side (st : Stp α1 S1 H1 α S H) (hp : H1 p = none) : Stp α1 S1 H1 α S (upd H p o) :=
  ⟨st.pre, st.still, fun a u e nt nl => by rw [upd_ne (ne_of_none e hp)]; exact st.keep a u e nt nl, fun a h => by
    rw [upd_ne]
    · exact st.there a h
    · rintro rfl
      exact h hp⟩
theorem sto_side {u : HO} (ok : StoOk N H α S) (e : H p = some u) (hf : ¬ Fix u) (nt : ¬ isTb u) (hp : p ∉ α) : StoOk N (upd H p o) α S :=
  ⟨ok.len, ok.nd, fun l a c h1 h2 => (ok.cell l a c h1 h2).up (up_side e hf) (upd_ne fun q => hp (q ▸ List.mem_of_getElem? h1)), fun p hp => tab_side e hf nt p.1 p.2 (ok.tb p hp)⟩
theorem up_side2 (st : UpL α1 H1 α H) (hp : H1 p = none) : UpL α1 H1 α (upd H p o) := ⟨⟨st.loc, fun x u e f => by rw [upd_ne (ne_of_none e hp)]; exact st.fix x u e f⟩, fun x o z e => by rw [upd_ne (ne_of_none e hp)]; exact st.lk x o z e⟩
theorem Stp.out (st : Stp α1 S1 H1 α S H) (h : H1 p ≠ none) (n : p ∉ α1) : p ∉ α := by
  obtain ⟨β, e, f⟩ := st.pre
  rw [e]
  intro z
  rcases List.mem_append.mp z with z | z
  · exact n z
  · exact h (f p z)
/-- a list beside the cells, new since the base, becomes the value -/
theorem oldL {m : Bool} {Q : VK} (ok1 : StoOk N H1 α1 S1) (ok : StoOk N H α S) (st : Stp α1 S1 H1 α S H) (h1 : H1 p = none) (hp : H p = some (.lst vs)) (np : p ∉ α) (r : RpAll N H α vs xs) (h : dRes N E α1 S1 H1 (mkL m xs S) Q) : FzOr Q (.ref p) H := by
  have cell : dRes N E α1 S1 H1 (.ok (.loc S.length) (S ++ [.lst xs])) Q → Q (.ref p) H := fun h => by
    have up : Up α H (α ++ [p]) H := ⟨fun l x e => by rw [List.getElem?_append_left (List.getElem?_eq_some_iff.mp e).1]; exact e, fun _ _ e _ => e⟩
    refine h _ _ (α ++ [p]) ?_ ?_ (.loc ?_)
    · obtain ⟨β, e, f⟩ := st.pre
      refine ⟨⟨β ++ [p], by rw [e, List.append_assoc], fun a ha => ?_⟩, fun l c e hc => ?_, st.keep, st.there⟩
      · rcases List.mem_append.mp ha with z | z
        · exact f a z
        · have : a = p := by simpa using z
          rw [this]
          exact h1
      · have q := st.still l c e hc
        rw [List.getElem?_append_left (List.getElem?_eq_some_iff.mp q).1]
        exact q
    · refine ⟨by simp [ok.len], ?_, fun l a c g1 g2 => ?_, ok.tb⟩
      · rw [List.nodup_append]
        refine ⟨ok.nd, by simp, fun a ha b hb => ?_⟩
        simp at hb
        subst hb
        rintro rfl
        exact np ha
      · by_cases hl : l < α.length
        · rw [List.getElem?_append_left hl] at g1
          rw [List.getElem?_append_left (by rw [← ok.len]; exact hl)] at g2
          exact (ok.cell l a c g1 g2).up up rfl
        · have hl' : l = α.length := by
            have := (List.getElem?_eq_some_iff.mp g1).1
            simp at this
            omega
          subst hl'
          simp at g1
          rw [ok.len] at g2
          simp at g2
          subst g1
          subst g2
          exact ⟨vs, hp, up.rpAll r⟩
    · rw [← ok.len]
      simp
  cases m with
  | true =>
    rw [mkL_true] at h
    exact .inl (cell h)
  | false =>
    unfold mkL at h
    cases e : allP xs with
    | none =>
      rw [e] at h
      exact .inl (cell h)
    | some ds =>
      rw [e] at h
      refine .inr ⟨p, vs, rfl, hp, fun o ho => ?_⟩
      have := allP_eq e
      subst this
      have nf : ¬ Fix (HO.lst vs) := fun z => z
      exact h _ _ α (stp_side st h1) (sto_side ok hp nf (fun z => z) np) (.p (.lst (.inl ⟨_, upd_same⟩) ho ((up_side hp nf).rpAll r).toP))
abbrev E0 : XK := fun _ _ _ => False
theorem dE_lc {m : Bool} {Fi : Slots → Sto → Res Src} {t : Tg} {own : List Nat} {Tt : Slots → Sto → Res Bool} {Fe : Slots → Sto → Res D} {Q : VK} (hs : ∀ j ∈ t.slots, j ∈ own)
    (h : dE N E (fLc m Fi t own Tt Fe) σ H Q) : tLc (dI N E Fi) (gT N.K t) (dT N E0 Tt) (dE N E0 Fe) own σ H (FzOr Q) := by
  obtain ⟨ρ, S, α, r, ok, h⟩ := h
  refine ⟨ρ, S, α, r, ok, ?_⟩
  unfold fLc at h
  cases q : Fi ρ S with
  | ex c e' S' => rw [q] at h; exact h
  | st => rw [q] at h; exact h
  | ok src S1 =>
    rw [q] at h
    simp only [bind_ok] at h
    intro H1 α1 J st1 ok1 it p hp
    have h := dRes.shift ok st1 h
    have r1 := r.step ok st1
    generalize hr : lcLoop src.w t (wipeD ρ own) Tt Fe src.xs [] S1 = res at h
    -- the invariant
    refine ⟨fun i k H => k = src.xs.length - i ∧ i ≤ src.xs.length ∧ ∃ α S acc vs, Stp α1 S1 H1 α S H ∧ UpL α1 H1 α H ∧ StoOk N H α S ∧ p ∉ α ∧ H p = some (.lst vs) ∧ RpAll N H α vs acc ∧
      lcLoop src.w t (wipeD ρ own) Tt Fe (src.xs.drop i) acc S = res, ⟨src.xs.length, by simp, Nat.zero_le _, α1, S1, [], [], step_new ok1 hp, (step_new ok1 hp).upL ok1, sto_new ok1 hp, ok1.fresh hp, upd_same, .nil, by simpa using hr⟩, ?_⟩
    rintro i k H ⟨rfl, hi, α, S, acc, vs, st, up, ok', np, hD, ra, hl⟩
    have bad : res = .st → False := fun z => by
      rw [z] at h
      exact h
    by_cases hlt : i < src.xs.length
    · rw [List.drop_eq_getElem_cons hlt] at hl
      unfold lcLoop at hl
      split at hl
      · rename_i hw
        obtain ⟨its, _⟩ := it α S H up ok' hw
        obtain ⟨go, yl⟩ := its i _ (List.getElem?_eq_getElem hlt)
        refine .inr ⟨go, fun H' => ∃ α S acc vs, Stp α1 S1 H1 α S H' ∧ UpL α1 H1 α H' ∧ StoOk N H' α S ∧ p ∉ α ∧ H' p = some (.lst vs) ∧ RpAll N H' α vs acc ∧
          lcLoop src.w t (wipeD ρ own) Tt Fe (src.xs.drop (i + 1)) acc S = res, fun H' w => ⟨_, by omega, rfl, hlt, w⟩, fun x H2 y => ?_⟩
        obtain ⟨st2, ok2, rx⟩ := yl x H2 y
        split at hl
        · rename_i ρ' e1
          have st12 := st.trans ok1 st2
          have up12 := up.trans (st2.upL ok')
          have rw2 : Rho N H2 α (wipe σ own) (wipeD ρ own) := by
            have := r1.wipe own
            exact ⟨this.len, fun i d z => let ⟨v, a, b⟩ := this.at_ i d z; ⟨v, a, up12.rp b⟩⟩
          have nl : ¬ Live α S p := fun z => np z.mem
          have hD2 := st2.keep p _ hD (fun z => z) nl
          have ra2 := st2.rpAll ok' ra
          refine gT_of e1 rw2 rx fun σ2 s2 b2 => ⟨wipe_same b2 hs, ?_⟩
          refine ⟨ρ', S, α, s2, ok2, ?_⟩
          cases e2 : Tt ρ' S with
          | ex c e' S' => rw [e2] at hl; exact (bad hl.symm).elim
          | st => rw [e2] at hl; exact (bad hl.symm).elim
          | ok k S3 =>
            rw [e2] at hl
            simp only [nx_ok, bind_ok] at hl
            intro H3 α3 st3 ok3
            have st13 := st12.trans ok1 st3
            have up13 := up12.trans (st3.upL ok2)
            have np3 : p ∉ α3 := st3.out (by rw [hD2]; exact fun z => nomatch z) np
            have nl2 : ¬ Live α S p := fun z => np z.mem
            have hD3 := st3.keep p _ hD2 (fun z => z) nl2
            have ra3 := st3.rpAll ok2 ra2
            cases k with
            | false =>
              refine iteF ?_
              exact ⟨α3, S3, acc, vs, st13, up13, ok3, np3, hD3, ra3, hl⟩
            | true =>
              refine iteT ?_
              simp only at hl
              refine ⟨ρ', S3, α3, s2.step ok2 st3, ok3, ?_⟩
              cases e3 : Fe ρ' S3 with
              | ex c e' S' => rw [e3] at hl; exact (bad hl.symm).elim
              | st => rw [e3] at hl; exact (bad hl.symm).elim
              | ok y S4 =>
                rw [e3] at hl
                simp only [nx_ok, bind_ok] at hl
                intro v H4 α4 st4 ok4 rv
                have nl3 : ¬ Live α3 S3 p := fun z => np3 z.mem
                have hD4 := st4.keep p _ hD3 (fun z => z) nl3
                have np4 : p ∉ α4 := st4.out (by rw [hD3]; exact fun z => nomatch z) np3
                have ra4 := st4.rpAll ok3 ra3
                split at hl
                · rename_i hz
                  have nf : ¬ Fix (HO.lst vs) := fun z => z
                  have us := up_side (α := α4) (o := HO.lst (vs ++ [v])) hD4 nf
                  refine ⟨vs, hD4, by rw [ra4.length]; exact hz, α4, S4, acc ++ [y], vs ++ [v], stp_side (st13.trans ok1 st4) hp, up_side2 (up13.trans (st4.upL ok3)) hp, sto_side ok4 hD4 nf (fun z => z) np4, np4, upd_same, (us.rpAll ra4).append (.cons (us.rp rv) .nil), hl⟩
                · exact (bad hl.symm).elim
        · exact (bad hl.symm).elim
      · exact (bad hl.symm).elim
    · have ei : i = src.xs.length := by omega
      subst ei
      rw [List.drop_length] at hl
      unfold lcLoop at hl
      split at hl
      · rename_i hw
        obtain ⟨_, stop⟩ := it α S H up ok' hw
        refine .inl ⟨stop, ?_⟩
        rw [← hl] at h
        exact oldL ok1 ok' st hp hD np ra h
      · exact (bad hl.symm).elim
end
section
variable {X : Cx} {fd : FdT} {E : XK}
theorem PTs.imp {X : Cx} {e : List Expr} {t t' : TT} (h : PTs X e t) (i : ∀ σ H Q, t' σ H Q → t σ H Q) : PTs X e t' := ⟨fun pins s σ H Q I q => h.run pins s σ H Q I (i σ H Q q)⟩
theorem dts_nil : PTs X [] (dT (nm X fd) E fYes) := PTs.imp pts_nil fun σ H Q ⟨ρ, S, α, r, ok, h⟩ => againT ok h
theorem dts_one {c : Expr} {Tc : Slots → Sto → Res Bool} (h : PT X c (dT (nm X fd) E Tc)) : PTs X [c] (dT (nm X fd) E Tc) := pts_one h
theorem dv_lc (hsy : SysIn X) {elt tg iter : Expr} {ifs : List Expr} {scope : Scope} {own : List (Str × Nat)} {pos : Pos} {m : Bool} {Fi : Slots → Sto → Res Src} {t : Tg} {Tt : Slots → Sto → Res Bool} {Fe : Slots → Sto → Res D}
    (hc : X.calm = true) (hN : X.N.Nodup) (hi : PI X tg iter (dI (nm X fd) E Fi)) (ok : BlkOk X.N X.env.scope scope own) (hj : ∀ j ∈ t.slots, j ∈ own.map (·.2))
    (hg : ∀ (s : Shared) (H : Hp) (C : Addr) (cl : List (Str × Addr)) (fp : List Addr), PG (X.blk s H scope (compEnvC scope cl C X.env) fp) tg (gT X.K t))
    (ht : ∀ (s : Shared) (H : Hp) (C : Addr) (cl : List (Str × Addr)) (fp : List Addr), PTs (X.blk s H scope (compEnvC scope cl C X.env) fp) ifs (dT (nm X fd) E0 Tt))
    (he : ∀ (s : Shared) (H : Hp) (C : Addr) (cl : List (Str × Addr)) (fp : List Addr), PE (X.blk s H scope (compEnvC scope cl C X.env) fp) elt (dE (nm X fd) E0 Fe))
    (hs : ∀ x, foldedSetIterable iter X.env x = pure x) : PE X (.ListComp elt [⟨tg, iter, ifs, 0⟩] scope pos) (dE (nm X fd) E (fLc m Fi t (own.map (·.2)) Tt Fe)) :=
  PE.imp (pe_fz hsy (pe_lc hc hN hi ok hg ht he hs)) fun σ H Q h => dE_lc hj h
end
end Dl

set_option linter.all false
set_option maxRecDepth 100000
set_option maxHeartbeats 4000000
/-! Dl10: stores and statements by plain values. -/
namespace Dl
open PySem PySem.Spec PyProof.Rows L2

def putKD {κ : Type} [DecidableEq κ] (kvs : List (κ × D)) (k : κ) (v : D) : List (κ × D) :=
  if (kvs.any fun q => decide (q.1 = k)) = true then kvs.map (fun q => if q.1 = k then (q.1, v) else q) else kvs ++ [(k, v)]
def putFD (f : Str) (v : D) : List (Str × D) → List (Str × D)
  | [] => [(f, v)]
  | (g, x) :: r => if g = f then (g, v) :: r else (g, x) :: putFD f v r
/-- o[i] = v -/
def opSet (o i v : D) (S : Sto) : Res Unit := match o with
  | .loc l => match S[l]? with
    | some (.lst xs) => match i with
      | .p (.int k) => match ixN xs.length k with
        | some j => .ok () (S.set l (.lst (xs.set j v)))
        | none => .st
      | _ => .st
    | some (.dK kvs) => match keyOf i with
      | some k => if kvs.length < sizeLine then .ok () (S.set l (.dK (putKD kvs k v))) else .st
      | none => .st
    | _ => .st
  | _ => .st
def opSetF (fl : List (Str × Str)) (f : Str) (o v : D) (S : Sto) : Res Unit := match o with
  | .loc l => match S[l]? with
    | some (.ins C fs) => if fs.length < 1000 ∧ (C, f) ∈ fl then .ok () (S.set l (.ins C (putFD f v fs))) else .st
    | _ => .st
  | _ => .st

section
variable {N : Nm} {H : Hp} {α : List Addr} {S : Sto}
theorem putK_zip {κ : Type} [DecidableEq κ] {k : κ} {v : V} {d : D} (rv : Rp N H α v d) {ks : List κ} {vs : List V} {xs : List D} (hl : ks.length = vs.length) (r : RpAll N H α vs xs) :
    ∃ (ks' : List κ) (vs' : List V) (xs' : List D), putK (ks.zip vs) k v = ks'.zip vs' ∧ putKD (ks.zip xs) k d = ks'.zip xs' ∧ ks'.length = vs'.length ∧ RpAll N H α vs' xs' := by
  have any : ∀ {ks : List κ} {vs : List V} {xs : List D}, ks.length = vs.length → RpAll N H α vs xs → ((ks.zip vs).any fun q => decide (q.1 = k)) = (ks.zip xs).any fun q => decide (q.1 = k) := by
    intro ks
    induction ks with
    | nil => intros; rfl
    | cons q ks ih =>
      intro vs xs hl r
      cases r with
      | nil => simp at hl
      | cons r1 r2 => simp only [List.zip_cons_cons, List.any_cons, ih (by simpa using hl) r2]
  have map : ∀ {ks : List κ} {vs : List V} {xs : List D}, ks.length = vs.length → RpAll N H α vs xs →
      ∃ vs' xs', (ks.zip vs).map (fun q => if q.1 = k then (q.1, v) else q) = ks.zip vs' ∧ (ks.zip xs).map (fun q => if q.1 = k then (q.1, d) else q) = ks.zip xs' ∧ ks.length = vs'.length ∧ RpAll N H α vs' xs' := by
    intro ks
    induction ks with
    | nil => intros; exact ⟨[], [], rfl, rfl, rfl, .nil⟩
    | cons q ks ih =>
      intro vs xs hl r
      cases r with
      | nil => simp at hl
      | @cons w ws x xs' r1 r2 =>
        obtain ⟨a, b, e1, e2, e3, e4⟩ := ih (by simpa using hl) r2
        by_cases z : q = k
        · exact ⟨v :: a, d :: b, by simp [z, e1], by simp [z, e2], by simp [e3], .cons rv e4⟩
        · exact ⟨w :: a, x :: b, by simp [z, e1], by simp [z, e2], by simp [e3], .cons r1 e4⟩
  unfold putK putKD
  rw [any hl r]
  split
  · obtain ⟨a, b, e1, e2, e3, e4⟩ := map hl r
    exact ⟨ks, a, b, e1, e2, e3, e4⟩
  · have l2 := r.length
    refine ⟨ks ++ [k], vs ++ [v], xs ++ [d], ?_, ?_, by simp [hl], r.append (.cons rv .nil)⟩
    · rw [List.zip_append (by exact hl)]
      rfl
    · rw [List.zip_append (by omega)]
      rfl
theorem putF_zip {f : Str} {v : V} {d : D} (rv : Rp N H α v d) : ∀ {ks : List Str} {vs : List V} {xs : List D}, ks.length = vs.length → RpAll N H α vs xs →
    ∃ (ks' : List Str) (vs' : List V) (xs' : List D), (∀ g ∈ ks', g = f ∨ g ∈ ks) ∧ putF f v (ks.zip vs) = ks'.zip vs' ∧ putFD f d (ks.zip xs) = ks'.zip xs' ∧ ks'.length = vs'.length ∧ RpAll N H α vs' xs'
  | [], vs, xs, hl, r => ⟨[f], [v], [d], by simp, by simp [putF], by simp [putFD], rfl, .cons rv .nil⟩
  | q :: ks, _, _, hl, .nil => by simp at hl
  | q :: ks, w :: ws, x :: xs, hl, .cons r1 r2 => by
    by_cases z : q = f
    · exact ⟨q :: ks, v :: ws, d :: xs, fun g hg => .inr hg, by simp [putF, z], by simp [putFD, z], by simpa using hl, .cons rv r2⟩
    · obtain ⟨a, b, c, e0, e1, e2, e3, e4⟩ := putF_zip rv (ks := ks) (by simpa using hl) r2
      exact ⟨q :: a, w :: b, x :: c, fun g hg => (List.mem_cons.mp hg).elim (fun e => .inr (e ▸ List.mem_cons_self)) (fun e => (e0 g e).imp_right (List.mem_cons_of_mem _)), by simp [putF, z, e1], by simp [putFD, z, e2], by simp [e3], .cons r1 e4⟩
end

def dResU (N : Nm) (E : XK) (α : List Addr) (S : Sto) (H : Hp) (r : Res Unit) (Q : Hp → Prop) : Prop := match r with
  | .ok _ S' => ∀ H' α', Stp α S H α' S' H' → StoOk N H' α' S' → Q H'
  | .ex c e S' => ∀ cls dx H' α', Stp α S H α' S' H' → StoOk N H' α' S' → XOk N H' α' cls dx c e → E cls dx H'
  | .st => False
def dResS (N : Nm) (E : XK) (α : List Addr) (S : Sto) (H : Hp) (r : Res Slots) (Q : L2.St → Hp → Prop) : Prop := match r with
  | .ok ρ S' => ∀ σ H' α', Stp α S H α' S' H' → StoOk N H' α' S' → Rho N H' α' σ ρ → Q σ H'
  | .ex c e S' => ∀ cls dx H' α', Stp α S H α' S' H' → StoOk N H' α' S' → XOk N H' α' cls dx c e → E cls dx H'
  | .st => False
theorem dResS.shift {N : Nm} {E : XK} {α α1 : List Addr} {S S1 : Sto} {H H1 : Hp} (ok : StoOk N H α S) (a : Stp α S H α1 S1 H1) {r : Res Slots} {Q : L2.St → Hp → Prop} (h : dResS N E α S H r Q) : dResS N E α1 S1 H1 r Q := by
  cases r with
  | ok d S' => exact fun v H' α' st o r => h v H' α' (a.trans ok st) o r
  | ex c e S' => exact fun cls dx H' α' st o r => h cls dx H' α' (a.trans ok st) o r
  | st => exact h
theorem dResU.shift {N : Nm} {E : XK} {α α1 : List Addr} {S S1 : Sto} {H H1 : Hp} (ok : StoOk N H α S) (a : Stp α S H α1 S1 H1) {r : Res Unit} {Q : Hp → Prop} (h : dResU N E α S H r Q) : dResU N E α1 S1 H1 r Q := by
  cases r with
  | ok d S' => exact fun H' α' st o => h H' α' (a.trans ok st) o
  | ex c e S' => exact fun cls dx H' α' st o r => h cls dx H' α' (a.trans ok st) o r
  | st => exact h
abbrev FT := D → Slots → Sto → Res Slots
/-- a target -/
def dG (N : Nm) (E : XK) (F : FT) : TG := fun v σ H Q => ∃ ρ S α d, Rho N H α σ ρ ∧ StoOk N H α S ∧ Rp N H α v d ∧ dResS N E α S H (F d ρ S) Q
def dGs (N : Nm) (E : XK) (F : List D → Slots → Sto → Res Slots) : TGs := fun vs σ H Q => ∃ ρ S α ds, Rho N H α σ ρ ∧ StoOk N H α S ∧ RpAll N H α vs ds ∧ dResS N E α S H (F ds ρ S) Q
theorem PG.imp {X : Cx} {e : Expr} {t t' : TG} (h : PG X e t) (i : ∀ v σ H Q, t' v σ H Q → t v σ H Q) : PG X e t' := ⟨fun pins s σ H v u Q I r q => h.run pins s σ H v u Q I r (i v σ H Q q)⟩
theorem PGs.imp {X : Cx} {e : List Expr} {t t' : TGs} (h : PGs X e t) (i : ∀ v σ H Q, t' v σ H Q → t v σ H Q) : PGs X e t' := ⟨fun pins s σ H v u Q I r q => h.run pins s σ H v u Q I r (i v σ H Q q)⟩
section
variable {X : Cx} {fd : FdT} {E : XK} {e o i : Expr} {es : List Expr} {pos : Pos} {Fe Fo Fi : Slots → Sto → Res D}
abbrev tgNm (i : Nat) : FT := fun d ρ S => .ok (ρ.set i (some d)) S
abbrev tgTup (F : List D → Slots → Sto → Res Slots) : FT := fun d ρ S => match seqOf d S with
  | some xs => F xs ρ S
  | none => .st
abbrev tgNil : List D → Slots → Sto → Res Slots := fun ds ρ S => match ds with
  | [] => .ok ρ S
  | _ => .st
abbrev tgCons (F : FT) (G : List D → Slots → Sto → Res Slots) : List D → Slots → Sto → Res Slots := fun ds ρ S => match ds with
  | d :: ds => (F d ρ S).bind fun ρ' S' => G ds ρ' S'
  | _ => .st
abbrev tgSub (Fo Fi : Slots → Sto → Res D) : FT := fun d ρ S => (Fo ρ S).bind fun o S1 => (Fi ρ S1).bind fun i S2 => (opSet o i d S2).bind fun _ S3 => .ok ρ S3
abbrev tgFld (fl : List (Str × Str)) (f : Str) (Fo : Slots → Sto → Res D) : FT := fun d ρ S => (Fo ρ S).bind fun o S1 => (opSetF fl f o d S1).bind fun _ S2 => .ok ρ S2
theorem againS {N : Nm} {α : List Addr} {S : Sto} {H : Hp} {σ : L2.St} {ρ : Slots} {Q : L2.St → Hp → Prop} (ok : StoOk N H α S) (r : Rho N H α σ ρ) (h : dResS N E α S H (.ok ρ S) Q) : Q σ H := h σ H α .refl ok r
theorem dg_nm {i : Nat} {x : Str} (hN : X.N.Nodup) (hi : X.N[i]? = some x) (hx : Loc X.env.scope x) (hf : X.fn x = true ∨ X.env.scope.names.lookup x = some .local) : PG X (.Name x pos) (dG (nm X fd) E (tgNm i)) :=
  PG.imp (pg_name hN hi hx hf) fun v σ H Q ⟨ρ, S, α, d, r, ok, rv, h⟩ => againS ok (r.set i rv) h
theorem dgs_nil : PGs X [] (dGs (nm X fd) E tgNil) := PGs.imp pgs_nil fun vs σ H Q ⟨ρ, S, α, ds, r, ok, rv, h⟩ => by
  cases ds with
  | nil => cases rv; exact ⟨rfl, againS ok r h⟩
  | cons d ds => exact h.elim
theorem dgs_cons {F : FT} {G : List D → Slots → Sto → Res Slots} (h1 : PG X e (dG (nm X fd) E F)) (h2 : PGs X es (dGs (nm X fd) E G)) (hs : (assignEach (e :: es) X.env).map (·.2) = assign e X.env :: (assignEach es X.env).map (·.2)) :
    PGs X (e :: es) (dGs (nm X fd) E (tgCons F G)) := PGs.imp (pgs_cons h1 h2 hs) fun vs σ H Q ⟨ρ, S, α, ds, r, ok, rv, h⟩ => by
  cases ds with
  | nil => exact h.elim
  | cons d ds =>
    cases rv with
    | cons r1 r2 =>
      refine ⟨_, _, rfl, ρ, S, α, d, r, ok, r1, ?_⟩
      simp only [tgCons] at h
      cases q : F d ρ S with
      | ok ρ' S' =>
        rw [q] at h
        exact fun σ' H' α' st ok' r' => ⟨ρ', S', α', ds, r', ok', st.rpAll ok r2, dResS.shift ok st h⟩
      | ex c e' S' => rw [q] at h; exact h
      | st => rw [q] at h; exact h
theorem pg_both {t t' : TG} (h : PG X e t) (h' : PG X e t') : PG X e (fun v σ H Q => t v σ H Q ∨ t' v σ H Q) := ⟨fun pins s σ H v u Q I r q => q.elim (h.run pins s σ H v u Q I r) (h'.run pins s σ H v u Q I r)⟩
theorem dg_tup {k n : Nat} {F : List D → Slots → Sto → Res Slots} (hc : X.calm = true) (h : PGs X es (dGs (nm X fd) E F)) (hn : (assignEach es X.env).length = n) (hst : (assignEach es X.env).findIdx? (·.1) = none)
    (hF : ∀ ds ρ S, ds.length ≠ n → F ds ρ S = .st) : PG X (.Tuple es k pos) (dG (nm X fd) E (tgTup F)) := PG.imp (pg_both (pg_tup hc h hn hst) (pg_unl hc h hn hst)) fun v σ H Q ⟨ρ, S, α, d, r, ok, rv, h⟩ => by
  simp only [tgTup] at h
  split at h
  · rename_i xs e1
    obtain ⟨a, vs, e2, h1, h2⟩ := rv.seq_inv ok e1
    have hl : vs.length = n := by
      rw [h2.length]
      by_cases z : xs.length = n
      · exact z
      · rw [hF xs ρ S z] at h
        exact h.elim
    rcases h1 with h1 | h1
    · exact .inr ⟨a, vs, e2, h1, hl, ρ, S, α, xs, r, ok, h2, h⟩
    · exact .inl ⟨a, vs, e2, h1, hl, ρ, S, α, xs, r, ok, h2, h⟩
  · exact h.elim
/-! ### o[i] = v -/
theorem pset_d (hu : X.A.units + 1 < cLine) : PSet X (fun o i v H Q => ∃ S α a b c, StoOk (nm X fd) H α S ∧ Rp (nm X fd) H α o a ∧ Rp (nm X fd) H α i b ∧ Rp (nm X fd) H α v c ∧ dResU (nm X fd) E α S H (opSet a b c S) Q) := by
  intro pins s σ H o i v ov iv u Q I ro ri rv ⟨S, α, a, b, c, ok, ra, rb, rc, h⟩
  unfold opSet at h
  split at h
  · rename_i l
    cases ra with
    | @loc p _ hl =>
      split at h
      · rename_i xs e1
        split at h
        · rename_i k
          split at h
          · rename_i j e2
            obtain ⟨vs, h1, h2⟩ := ok.cell l _ _ hl e1
            have st := step_set (c' := .lst (xs.set j c)) (o := .lst (vs.set j v)) ok hl e1 rfl
            refine set_list pins s σ H _ i v ov iv u _ I ro ri rv ⟨p, vs, k, j, rfl, rb.int_inv, h1, by rw [h2.length]; exact e2, ?_⟩
            exact h _ α st (sto_set ok hl e1 rfl ⟨_, upd_same, (st.rpAll ok h2).set (st.rp ok rc) j⟩)
          · exact h.elim
        · exact h.elim
      · rename_i kvs e1
        split at h
        · rename_i k e2
          split at h
          · rename_i hz
            obtain ⟨ks, vs, xs, h1, h2, h3, h4⟩ := ok.cell l _ _ hl e1
            obtain ⟨ks', vs', xs', e3, e4, e5, e6⟩ := putK_zip (k := k) rc h3 h4
            have st := step_set (c' := .dK (ks'.zip xs')) (o := .dK (ks'.zip vs')) ok hl e1 rfl
            have e7 := rb.key e2
            subst e7 h2
            cases ro
            have h6 := h4.length
            refine d_setItem hu I (.inl ⟨_, k, h1, rfl, by simp only [List.length_zip] at hz ⊢; omega, rfl⟩) ri rv fun s' J => ⟨_, J, ?_⟩
            rw [e3]
            rw [e4] at h
            exact h _ α st (sto_set ok hl e1 rfl ⟨ks', vs', xs', upd_same, rfl, e5, st.rpAll ok e6⟩)
          · exact h.elim
        · exact h.elim
      · exact h.elim
  · exact h.elim
theorem dg_sub (hu : X.A.units + 1 < cLine) (ho : PE X o (dE (nm X fd) E Fo)) (hi : PE X i (dE (nm X fd) E Fi)) (ha : ∀ v, assign (.Subscript o i pos) X.env v = (do
      let ov ← holding [v] (eval o X.env)
      let iv ← holding [v, ov] (eval i X.env)
      standAt pos
      holding [v, ov, iv] (setItem ov iv v)
      release [v, ov, iv] [])) : PG X (.Subscript o i pos) (dG (nm X fd) E (tgSub Fo Fi)) := PG.imp (pg_sub ho hi (pset_d (fd := fd) (E := E) hu) ha) fun v σ H Q ⟨ρ, S, α, d, r, ok, rv, h⟩ => by
  refine ⟨ρ, S, α, r, ok, ?_⟩
  simp only [tgSub] at h
  cases q : Fo ρ S with
  | ex c e' S' => rw [q] at h; exact h
  | st => rw [q] at h; exact h
  | ok a S1 =>
    rw [q] at h
    intro x1 H1 α1 st1 ok1 r1
    have h := dResS.shift ok st1 h
    simp only [bind_ok] at h
    refine ⟨ρ, S1, α1, r.step ok st1, ok1, ?_⟩
    cases q2 : Fi ρ S1 with
    | ex c e' S' => rw [q2] at h; exact h
    | st => rw [q2] at h; exact h
    | ok b S2 =>
      rw [q2] at h
      intro x2 H2 α2 st2 ok2 r2
      have h := dResS.shift ok1 st2 h
      simp only [bind_ok] at h
      refine ⟨S2, α2, a, b, d, ok2, st2.rp ok1 r1, r2, st2.rp ok1 (st1.rp ok rv), ?_⟩
      cases q3 : opSet a b d S2 with
      | ex c e' S' => rw [q3] at h; exact h
      | st => rw [q3] at h; exact h
      | ok _ S3 =>
        rw [q3] at h
        exact fun H3 α3 st3 ok3 => againS ok3 (((r.step ok st1).step ok1 st2).step ok2 st3) (dResS.shift ok2 st3 h)
/-! ### o.f = v -/
/-- the attributes that may be stored: the class has no such name -/
def FldOk (X : Cx) (fl : List (Str × Str)) : Prop := ∀ C f, (C, f) ∈ fl → ∀ Ca, X.mg C = some (.ref Ca) → NoAttr X.K Ca f
theorem setf_d {fl : List (Str × Str)} {f : Str} (hF : FldOk X fl) {pins : List (Addr × Obj)} {s : Shared} {σ : L2.St} {H : Hp} {o v : V} {ov u : Value} {Q : Hp → Prop} (I : Inv X pins σ H s) (ro : RelV o ov) (rv : RelV v u)
    {S : Sto} {α : List Addr} {a c : D} (ok : StoOk (nm X fd) H α S) (ra : Rp (nm X fd) H α o a) (rc : Rp (nm X fd) H α v c) (h : dResU (nm X fd) E α S H (opSetF fl f a c S) Q) :
    wpAny (model X.prog X.w) X.A (setAttr ov f u) (fun _ s' => ∃ H', Inv X pins σ H' s' ∧ Q H') X.xe s := by
  unfold opSetF at h
  split at h
  · rename_i l
    cases ra with
    | @loc p _ hl =>
      cases ro
      split at h
      · rename_i C fs e1
        split at h
        · rename_i hz
          obtain ⟨Ca, dx, ks, vs, xs, h0, h1, h2, h3, h4, h5, h6⟩ := ok.cell l _ _ hl e1
          obtain ⟨ks', vs', xs', e0, e3, e4, e5, e6⟩ := putF_zip (f := f) rc h3 h4
          have st := step_set (c' := .ins C (ks'.zip xs')) (o := .ins Ca dx (ks'.zip vs')) ok hl e1 rfl
          have na : NoAttr X.K Ca f := hF C f hz.2 Ca h0
          subst h2
          have h7 := h4.length
          refine setattr_ok I h1 h5 na (by have := hz.1; simp only [List.length_zip] at this ⊢; omega) rv fun s' J => ⟨_, J, ?_⟩
          rw [e3]
          rw [e4] at h
          exact h _ α st (sto_set ok hl e1 rfl ⟨Ca, dx, ks', vs', xs', h0, upd_same, rfl, e5, st.rpAll ok e6, h5, fun g hg => (e0 g hg).elim (fun z => z ▸ na) (h6 g)⟩)
        · exact h.elim
      · exact h.elim
  · exact h.elim
theorem dg_fld {fl : List (Str × Str)} {f : Str} (hF : FldOk X fl) (ho : PE X o (dE (nm X fd) E Fo)) : PG X (.Attribute o f pos) (dG (nm X fd) E (tgFld fl f Fo)) := by
  refine ⟨fun pins s σ H v u Q I rv ⟨ρ, S, α, d, r, ok, rd, h⟩ => ?_⟩
  rw [assign_Attribute]
  refine wpAny_bind (wpAny_holding ?_)
  have h' : dE (nm X fd) E Fo σ H fun x H1 => ∃ S1 α1 a, StoOk (nm X fd) H1 α1 S1 ∧ Rp (nm X fd) H1 α1 x a ∧ Rp (nm X fd) H1 α1 v d ∧ Rho (nm X fd) H1 α1 σ ρ ∧ dResS (nm X fd) E α1 S1 H1 ((opSetF fl f a d S1).bind fun _ S2 => .ok ρ S2) Q := by
    refine ⟨ρ, S, α, r, ok, ?_⟩
    simp only [tgFld] at h
    cases q : Fo ρ S with
    | ex c e' S' => rw [q] at h; exact h
    | st => rw [q] at h; exact h
    | ok a S1 =>
      rw [q] at h
      exact fun x H1 α1 st ok1 rx => ⟨S1, α1, a, ok1, rx, st.rp ok rd, r.step ok st, dResS.shift ok st h⟩
  refine thn (ho.run pins s σ H _ I h') fun ov s1 ⟨x, H1, I1, rx, S1, α1, a, ok1, ra, rd1, r1, h1⟩ => ?_
  refine wpAny_bind (wpAny_standAt (wpAny_bind (wpAny_holding ?_)))
  have h2 : dResU (nm X fd) E α1 S1 H1 (opSetF fl f a d S1) fun H2 => Q σ H2 := by
    cases q : opSetF fl f a d S1 with
    | ex c e' S' => rw [q] at h1; exact h1
    | st => rw [q] at h1; exact h1
    | ok _ S2 =>
      rw [q] at h1
      exact fun H2 α2 st ok2 => h1 σ H2 α2 st ok2 (r1.step ok1 st)
  refine thn (setf_d hF I1 rx rv ok1 ra rd1 h2) fun _ s2 ⟨H2, I2, q2⟩ => ?_
  exact wpAny_release ⟨σ, H2, I2, q2⟩

/-! ### statements -/
variable {N : Nm} {st : Stmt} {rest : List Stmt} {c : Expr} {body els : List Stmt}
abbrev sSeq (A B : Slots → Sto → Out) : Slots → Sto → Out := fun ρ S => match A ρ S with
  | .nx ρ' S' => B ρ' S'
  | o => o
abbrev sNil : Slots → Sto → Out := fun ρ S => .nx ρ S
theorem dss_nil : PSs X [] (dS (nm X fd) E sNil) := PSs.imp pss_nil fun Dn σ H ⟨ρ, S, α, r, ok, h⟩ => h σ H α .refl ok r
theorem dss_cons {A B : Slots → Sto → Out} (h1 : PS X st (dS (nm X fd) E A)) (h2 : PSs X rest (dS (nm X fd) E B)) : PSs X (st :: rest) (dS (nm X fd) E (sSeq A B)) := by
  refine PSs.imp (pss_cons h1 h2) fun Dn σ H ⟨ρ, S, α, r, ok, h⟩ => ⟨ρ, S, α, r, ok, ?_⟩
  simp only [sSeq] at h
  cases q : A ρ S with
  | nx ρ' S' =>
    rw [q] at h
    exact fun σ' H' α' st' ok' r' => ⟨ρ', S', α', r', ok', dOut.shift ok st' h⟩
  | rt d S' => rw [q] at h; exact h
  | bk d S' => rw [q] at h; exact h
  | ct d S' => rw [q] at h; exact h
  | ex c e' S' => rw [q] at h; exact h
  | st => rw [q] at h; exact h
abbrev sRet (F : Slots → Sto → Res D) : Slots → Sto → Out := fun ρ S => (F ρ S).out fun d S1 => .rt d S1
theorem ds_ret (h : PE X e (dE (nm X fd) E Fe)) : PS X (.Return (some e) pos) (dS (nm X fd) E (sRet Fe)) := by
  refine PS.imp (ps_ret h) fun Dn σ H ⟨ρ, S, α, r, ok, h⟩ => ⟨ρ, S, α, r, ok, ?_⟩
  simp only [sRet] at h
  cases q : Fe ρ S with
  | ok d S1 => rw [q] at h; exact h
  | ex c e' S' => rw [q] at h; exact h
  | st => rw [q] at h; exact h
theorem ds_retN : PS X (.Return none pos) (dS (nm X fd) E fun _ S => .rt .n S) := PS.imp ps_retN fun Dn σ H ⟨ρ, S, α, r, ok, h⟩ => h .non H α .refl ok (.p .non)
abbrev sExp (F : Slots → Sto → Res D) : Slots → Sto → Out := fun ρ S => (F ρ S).out fun _ S1 => .nx ρ S1
theorem ds_expr (h : PE X e (dE (nm X fd) E Fe)) (hs : swapsWith e none pos.line X.env = pure false) : PS X (.Expr e pos) (dS (nm X fd) E (sExp Fe)) := by
  refine PS.imp (ps_expr h hs) fun Dn σ H ⟨ρ, S, α, r, ok, h⟩ => ⟨ρ, S, α, r, ok, ?_⟩
  simp only [sExp] at h
  cases q : Fe ρ S with
  | ok d S1 => rw [q] at h; exact fun v H' α' st ok' rv => h σ H' α' st ok' (r.step ok st)
  | ex c e' S' => rw [q] at h; exact h
  | st => rw [q] at h; exact h
theorem ds_pass : PS X (.Pass pos) (dS (nm X fd) E sNil) := PS.imp ps_pass fun Dn σ H ⟨ρ, S, α, r, ok, h⟩ => h σ H α .refl ok r
theorem ds_break : PS X (.Break pos) (dS (nm X fd) E fun ρ S => .bk ρ S) := PS.imp ps_break fun Dn σ H ⟨ρ, S, α, r, ok, h⟩ => h σ H α .refl ok r
theorem ds_cont : PS X (.Continue pos) (dS (nm X fd) E fun ρ S => .ct ρ S) := PS.imp ps_continue fun Dn σ H ⟨ρ, S, α, r, ok, h⟩ => h σ H α .refl ok r
abbrev sIf (Tc : Slots → Sto → Res Bool) (A B : Slots → Sto → Out) : Slots → Sto → Out := fun ρ S => (Tc ρ S).out fun k S1 => match k with
  | true => A ρ S1
  | false => B ρ S1
theorem ds_if {Tc : Slots → Sto → Res Bool} {A B : Slots → Sto → Out} (hc : PT X c (dT (nm X fd) E Tc)) (h1 : PSs X body (dS (nm X fd) E A)) (h2 : PSs X els (dS (nm X fd) E B)) : PS X (.If c body els pos) (dS (nm X fd) E (sIf Tc A B)) := by
  refine PS.imp (ps_if hc h1 h2) fun Dn σ H ⟨ρ, S, α, r, ok, h⟩ => ⟨ρ, S, α, r, ok, ?_⟩
  simp only [sIf] at h
  cases q : Tc ρ S with
  | ok k S1 =>
    rw [q] at h
    intro H' α' st ok'
    have h := dOut.shift ok st h
    cases k with
    | true => exact iteT ⟨ρ, S1, α', r.step ok st, ok', h⟩
    | false => exact iteF ⟨ρ, S1, α', r.step ok st, ok', h⟩
  | ex c e' S' => rw [q] at h; exact h
  | st => rw [q] at h; exact h
abbrev sAsg (F : Slots → Sto → Res D) (G : FT) : Slots → Sto → Out := fun ρ S => (F ρ S).out fun d S1 => (G d ρ S1).out fun ρ' S2 => .nx ρ' S2
theorem dS_asg {F : Slots → Sto → Res D} {G : FT} {Dn : Ends} {σ : L2.St} {H : Hp} (h : dS N E (sAsg F G) Dn σ H) : tAsg (dE N E F) (dG N E G) Dn σ H := by
  obtain ⟨ρ, S, α, r, ok, h⟩ := h
  refine ⟨ρ, S, α, r, ok, ?_⟩
  simp only [sAsg] at h
  cases q : F ρ S with
  | ok d S1 =>
    rw [q] at h
    intro v H' α' st ok' rv
    have h := dOut.shift ok st h
    simp only [out_ok] at h
    refine ⟨ρ, S1, α', d, r.step ok st, ok', rv, ?_⟩
    cases q2 : G d ρ S1 with
    | ok ρ' S2 => rw [q2] at h; exact h
    | ex c e' S' => rw [q2] at h; exact h
    | st => rw [q2] at h; exact h
  | ex c e' S' => rw [q] at h; exact h
  | st => rw [q] at h; exact h
theorem ds_asg {tg : Expr} {G : FT} (he : PE X e (dE (nm X fd) E Fe)) (hg : PG X tg (dG (nm X fd) E G)) (hs : swapsWithSole [tg] e pos.line X.env = pure false) (hw : swappedStores [tg] e X.env = pure none) (h1 : (assignEach [tg] X.env).map (·.2) = [assign tg X.env]) :
    PS X (.Assign [tg] e pos) (dS (nm X fd) E (sAsg Fe G)) := PS.imp (ps_asg he hg hs hw h1) fun Dn σ H h => dS_asg h
end
end Dl

set_option linter.all false
set_option maxRecDepth 100000
set_option maxHeartbeats 4000000
/-! Dl11: loops, pairs of stores, stores of comprehensions. -/
namespace Dl
open PySem PySem.Spec PyProof.Rows L2

theorem dE.mono {N : Nm} {E : XK} {F : Slots → Sto → Res D} {σ : L2.St} {H : Hp} {Q Q' : VK} (h : dE N E F σ H Q) (i : ∀ v H', Q v H' → Q' v H') : dE N E F σ H Q' := by
  obtain ⟨ρ, S, α, r, ok, h⟩ := h
  refine ⟨ρ, S, α, r, ok, ?_⟩
  cases q : F ρ S with
  | ok d S' => rw [q] at h; exact fun v H' α' st ok' rv => i v H' (h v H' α' st ok' rv)
  | ex c e S' => rw [q] at h; exact h
  | st => rw [q] at h; exact h

theorem dI.mono {N : Nm} {E : XK} {F : Slots → Sto → Res Src} {σ : L2.St} {H : Hp} {R R' : It → Hp → Prop} (h : dI N E F σ H R) (i : ∀ J H', R J H' → R' J H') : dI N E F σ H R' := by
  obtain ⟨ρ, S, α, r, ok, h⟩ := h
  refine ⟨ρ, S, α, r, ok, ?_⟩
  cases q : F ρ S with
  | ok d S' => rw [q] at h; exact fun H' α' J st ok' io => i J H' (h H' α' J st ok' io)
  | ex c e S' => rw [q] at h; exact h
  | st => rw [q] at h; exact h
theorem tLc_mono {N : Nm} {E : XK} {F : Slots → Sto → Res Src} {g : TG} {tt : TT} {te : TE} {vs : List Nat} {σ : L2.St} {H : Hp} {Q Q' : VK} (i : ∀ v H', Q v H' → Q' v H') (h : tLc (dI N E F) g tt te vs σ H Q) : tLc (dI N E F) g tt te vs σ H Q' :=
  dI.mono h fun J H1 z p hp => let ⟨W, w0, w⟩ := z p hp; ⟨W, w0, fun k m H2 hw => (w k m H2 hw).imp (fun ⟨a, b⟩ => ⟨a, i _ _ b⟩) id⟩
/-- behind a statement a new list may be frozen -/
def FzN (Q : L2.St → Hp → Prop) : L2.St → Hp → Prop := fun σ H => Q σ H ∨ ∃ a vs, H a = some (.lst vs) ∧ ∀ o, a ≠ sysModules → Q σ (upd H a (.frz o (.lst vs)))
theorem ps_fz {X : Cx} (hs : SysIn X) {st : Stmt} {t : TS} (h : PS X st t) : PS X st fun Dn σ H => t { Dn with nx := FzN Dn.nx } σ H := by
  refine ⟨fun pins s σ H Dn I q => thn (h.run pins s σ H _ I q) fun f s' z => ?_⟩
  cases f with
  | next =>
    obtain ⟨σ', H', J, q | ⟨a, vs, ha, q⟩⟩ := z
    · exact ⟨σ', H', J, q⟩
    · obtain ⟨o, K⟩ := inv_freeze J ha
      exact ⟨σ', _, K, q o (not_sys hs J ha)⟩
  | ret u => exact z
  | brk => exact z
  | cont => exact z

section
variable {X : Cx} {fd : FdT} {E : XK} {e : Expr} {es : List Expr} {pos : Pos} {Fe : Slots → Sto → Res D} {Fs : Slots → Sto → Res (List D)}
theorem dS_nm {N : Nm} {i : Nat} {F : Slots → Sto → Res D} {Dn : Ends} {σ : L2.St} {H : Hp} (h : dS N E (sAsg F (tgNm i)) Dn σ H) : dE N E F σ H fun v H' => Dn.nx (σ.set i (some v)) H' := by
  obtain ⟨ρ, S, α, r, ok, h⟩ := h
  refine ⟨ρ, S, α, r, ok, ?_⟩
  simp only [sAsg] at h
  cases q : F ρ S with
  | ok d S1 =>
    rw [q] at h
    exact fun v H' α' st ok' rv => h _ H' α' st ok' ((r.step ok st).set i rv)
  | ex c e' S' => rw [q] at h; exact h
  | st => rw [q] at h; exact h
/-- name = e -/
theorem ds_set {i : Nat} {x : Str} {px : Pos} (hN : X.N.Nodup) (hi : X.N[i]? = some x) (hx : Loc X.env.scope x) (he : PE X e (dE (nm X fd) E Fe)) (hs : swapsWith e (some (.Name x px)) pos.line X.env = pure false) (hf : X.fn x = true ∨ X.env.scope.names.lookup x = some .local) :
    PS X (.Assign [.Name x px] e pos) (dS (nm X fd) E (sAsg Fe (tgNm i))) := PS.imp (ps_set hN hi hx he hs hf) fun Dn σ H h => dS_nm h
/-- name = [..] -/
theorem ds_setLc (hsy : SysIn X) {i : Nat} {y : Str} {py : Pos} {elt tg iter : Expr} {ifs : List Expr} {scope : Scope} {own : List (Str × Nat)} {cpos : Pos} {m : Bool} {Fi : Slots → Sto → Res Src} {t : Tg} {Tt : Slots → Sto → Res Bool} {Fe : Slots → Sto → Res D}
    (hc : X.calm = true) (hN : X.N.Nodup) (hy : X.N[i]? = some y) (hyl : X.env.scope.names.lookup y = some .local)
    (hsw : swapsWith (.ListComp elt [⟨tg, iter, ifs, 0⟩] scope cpos) (some (.Name y py)) pos.line X.env = pure true)
    (hi : PI X tg iter (dI (nm X fd) E Fi)) (ok : BlkOk X.N X.env.scope scope own) (hj : ∀ j ∈ t.slots, j ∈ own.map (·.2))
    (hg : ∀ (s : Shared) (H : Hp) (C : Addr) (cl : List (Str × Addr)) (fp : List Addr), PG (X.blk s H scope (compEnvC scope cl C X.env) fp) tg (gT X.K t))
    (ht : ∀ (s : Shared) (H : Hp) (C : Addr) (cl : List (Str × Addr)) (fp : List Addr), PTs (X.blk s H scope (compEnvC scope cl C X.env) fp) ifs (dT (nm X fd) E0 Tt))
    (he : ∀ (s : Shared) (H : Hp) (C : Addr) (cl : List (Str × Addr)) (fp : List Addr), PE (X.blk s H scope (compEnvC scope cl C X.env) fp) elt (dE (nm X fd) E0 Fe))
    (hs : ∀ x, foldedSetIterable iter X.env x = pure x) : PS X (.Assign [.Name y py] (.ListComp elt [⟨tg, iter, ifs, 0⟩] scope cpos) pos) (dS (nm X fd) E (sAsg (fLc m Fi t (own.map (·.2)) Tt Fe) (tgNm i))) := by
  refine PS.imp (ps_fz hsy (ps_setLc hc hN hy hyl hsw hi ok hg ht he hs)) fun Dn σ H h => ?_
  have q := dE_lc hj (dS_nm h)
  -- the two ways of the new list
  refine tLc_mono (fun v H' z => ?_) q
  rcases z with z | ⟨a, vs, e1, e2, z⟩
  · exact .inl z
  · exact .inr ⟨a, vs, e2, z⟩
/-! ### two, three names at once -/
abbrev sPar (i j : Nat) (Fs : Slots → Sto → Res (List D)) : Slots → Sto → Out := fun ρ S => (Fs ρ S).out fun ds S1 => match ds with
  | [a, b] => .nx ((ρ.set i (some a)).set j (some b)) S1
  | _ => .st
abbrev sPar3 (i j l : Nat) (Fs : Slots → Sto → Res (List D)) : Slots → Sto → Out := fun ρ S => (Fs ρ S).out fun ds S1 => match ds with
  | [a, b, c] => .nx (((ρ.set i (some a)).set j (some b)).set l (some c)) S1
  | _ => .st
theorem ds_par {i j : Nat} {x y : Str} {a b : Expr} {px py pt : Pos} {kt k2 : Nat} {pt2 : Pos} (hc : X.calm = true) (hN : X.N.Nodup) (hi : X.N[i]? = some x) (hj : X.N[j]? = some y) (hij : i ≠ j) (hx : X.env.scope.names.lookup x = some .local) (hy : X.env.scope.names.lookup y = some .local)
    (ha : PA X [a, b] (dA (nm X fd) E Fs)) (hw : swappedStores [.Tuple [.Name x px, .Name y py] kt pt] (.Tuple [a, b] k2 pt2) X.env = pure (some [x, y])) :
    PS X (.Assign [.Tuple [.Name x px, .Name y py] kt pt] (.Tuple [a, b] k2 pt2) pos) (dS (nm X fd) E (sPar i j Fs)) := by
  refine PS.imp (ps_par hc hN hi hj hij hx hy ha hw) fun Dn σ H ⟨ρ, S, α, r, ok, h⟩ => ⟨ρ, S, α, r, ok, ?_⟩
  simp only [sPar] at h
  cases q : Fs ρ S with
  | ok ds S1 =>
    rw [q] at h
    intro vs H' α' st ok' rv
    simp only [out_ok] at h
    split at h
    · cases rv with
      | cons r1 rv =>
        cases rv with
        | cons r2 rv =>
          cases rv
          exact ⟨_, _, rfl, h _ H' α' st ok' (((r.step ok st).set i r1).set j r2)⟩
    · exact h.elim
  | ex c e' S' => rw [q] at h; exact h
  | st => rw [q] at h; exact h
theorem ds_par3 {i j l : Nat} {x y z : Str} {a b c : Expr} {px py pz pt : Pos} {kt k2 : Nat} {pt2 : Pos} (hc : X.calm = true) (hN : X.N.Nodup) (hi : X.N[i]? = some x) (hj : X.N[j]? = some y) (hl : X.N[l]? = some z) (hij : i ≠ j) (hil : i ≠ l) (hjl : j ≠ l)
    (hx : X.env.scope.names.lookup x = some .local) (hy : X.env.scope.names.lookup y = some .local) (hz : X.env.scope.names.lookup z = some .local)
    (ha : PA X [a, b, c] (dA (nm X fd) E Fs)) (hw : swappedStores [.Tuple [.Name x px, .Name y py, .Name z pz] kt pt] (.Tuple [a, b, c] k2 pt2) X.env = pure (some [x, y, z])) :
    PS X (.Assign [.Tuple [.Name x px, .Name y py, .Name z pz] kt pt] (.Tuple [a, b, c] k2 pt2) pos) (dS (nm X fd) E (sPar3 i j l Fs)) := by
  refine PS.imp (ps_par3 hc hN hi hj hl hij hil hjl hx hy hz ha hw) fun Dn σ H ⟨ρ, S, α, r, ok, h⟩ => ⟨ρ, S, α, r, ok, ?_⟩
  simp only [sPar3] at h
  cases q : Fs ρ S with
  | ok ds S1 =>
    rw [q] at h
    intro vs H' α' st ok' rv
    simp only [out_ok] at h
    split at h
    · cases rv with
      | cons r1 rv =>
        cases rv with
        | cons r2 rv =>
          cases rv with
          | cons r3 rv =>
            cases rv
            exact ⟨_, _, _, rfl, h _ H' α' st ok' ((((r.step ok st).set i r1).set j r2).set l r3)⟩
    · exact h.elim
  | ex c e' S' => rw [q] at h; exact h
  | st => rw [q] at h; exact h
/-! ### name op= e -/
def augI : Operator → Option (Int → Int → Int)
  | .Add => some (· + ·)
  | .Sub => some (· - ·)
  | _ => none
abbrev sAug (i : Nat) (op : Operator) (F : Slots → Sto → Res D) : Slots → Sto → Out := fun ρ S => match ρ[i]? with
  | some (some (.p (.int a))) => (F ρ S).out fun d S1 => match d, augI op with
    | .p (.int b), some g => .nx (ρ.set i (some (.i (g a b)))) S1
    | _, _ => .st
  | _ => .st
theorem ds_aug {i : Nat} {x : Str} {op : Operator} {px : Pos} (hN : X.N.Nodup) (hi : X.N[i]? = some x) (hx : Loc X.env.scope x) (he : PE X e (dE (nm X fd) E Fe)) (hf : X.fn x = true ∨ X.env.scope.names.lookup x = some .local) (ho : op = .Add ∨ op = .Sub) :
    PS X (.AugAssign (.Name x px) op e pos) (dS (nm X fd) E (sAug i op Fe)) := by
  have main : ∀ (g : Int → Int → Int), PIp X op (ipI g) → augI op = some g → PS X (.AugAssign (.Name x px) op e pos) (dS (nm X fd) E (sAug i op Fe)) := fun g hp hg => by
    refine PS.imp (ps_aug hN hi hx he hp hf) fun Dn σ H ⟨ρ, S, α, r, ok, h⟩ => ?_
    simp only [sAug, hg] at h
    split at h
    · rename_i a e1
      obtain ⟨v, e2, rv⟩ := r.at_ i _ e1
      refine ⟨v, e2, ρ, S, α, r, ok, ?_⟩
      cases q : Fe ρ S with
      | ok d S1 =>
        rw [q] at h
        intro w H' α' st ok' rw'
        simp only [out_ok] at h
        split at h
        · rename_i b g' eg
          cases eg
          exact ⟨a, b, rv.int_inv, rw'.int_inv, h _ H' α' st ok' ((r.step ok st).set i (.p (.int _)))⟩
        · exact h.elim
      | ex c e' S' => rw [q] at h; exact h
      | st => rw [q] at h; exact h
    · exact h.elim
  rcases ho with rfl | rfl
  · exact main _ ip_add rfl
  · exact main _ ip_sub rfl
/-! ### while -/
def whileF (T : Slots → Sto → Res Bool) (B : Slots → Sto → Out) : Nat → Slots → Sto → Out
  | 0, _, _ => .st
  | n + 1, ρ, S => (T ρ S).out fun k S1 => match k with
    | true => match B ρ S1 with
      | .nx ρ' S' => whileF T B n ρ' S'
      | .ct ρ' S' => whileF T B n ρ' S'
      | .bk ρ' S' => .nx ρ' S'
      | o => o
    | false => .nx ρ S1
theorem ds_while {c : Expr} {body : List Stmt} {T : Slots → Sto → Res Bool} {B : Slots → Sto → Out} (hp : PassesOwn (model X.prog X.w) X.A X.env X.xe) (hc : PT X c (dT (nm X fd) E T)) (hb : PSs X body (dS (nm X fd) E B)) (n : Nat) :
    PS X (.While c body [] pos) (dS (nm X fd) E (whileF T B n)) := by
  refine PS.imp (ps_while hp hc hb) fun Dn σ H h => ?_
  refine ⟨fun m σ H => dS (nm X fd) E (whileF T B m) Dn σ H, ⟨n, h⟩, fun m σ H ⟨ρ, S, α, r, ok, h⟩ => ?_⟩
  cases m with
  | zero => exact h.elim
  | succ m =>
    unfold whileF at h
    refine ⟨ρ, S, α, r, ok, ?_⟩
    cases q : T ρ S with
    | ok k S1 =>
      rw [q] at h
      intro H' α' st ok'
      have h := dOut.shift ok st h
      have r1 := r.step ok st
      simp only [out_ok] at h
      cases k with
      | true =>
        refine iteT ⟨fun σ' H' => dS (nm X fd) E (whileF T B m) Dn σ' H', fun σ' H' z => ⟨m, by omega, z⟩, ρ, S1, α', r1, ok', ?_⟩
        simp only at h
        cases q2 : B ρ S1 with
        | nx ρ' S' => rw [q2] at h; exact fun σ2 H2 α2 st2 ok2 r2 => ⟨ρ', S', α2, r2, ok2, dOut.shift ok' st2 h⟩
        | ct ρ' S' => rw [q2] at h; exact fun σ2 H2 α2 st2 ok2 r2 => ⟨ρ', S', α2, r2, ok2, dOut.shift ok' st2 h⟩
        | bk ρ' S' => rw [q2] at h; exact h
        | rt d S' => rw [q2] at h; exact h
        | ex c e' S' => rw [q2] at h; exact h
        | st => rw [q2] at h; exact h
      | false => exact iteF (h σ H' α' .refl ok' r1)
    | ex c e' S' => rw [q] at h; exact h
    | st => rw [q] at h; exact h
/-! ### for -/
open Classical in
noncomputable def forL (w : List (Nat × List D)) (G : FT) (B : Slots → Sto → Out) : List D → Slots → Sto → Out
  | [], ρ, S => if Wat w S then .nx ρ S else .st
  | x :: xs, ρ, S => if Wat w S then (G x ρ S).out fun ρ1 S1 => (match B ρ1 S1 with
      | .nx ρ' S' => forL w G B xs ρ' S'
      | .ct ρ' S' => forL w G B xs ρ' S'
      | .bk ρ' S' => .nx ρ' S'
      | o => o) else .st
noncomputable abbrev sFor (Fi : Slots → Sto → Res Src) (G : FT) (B : Slots → Sto → Out) : Slots → Sto → Out := fun ρ S => (Fi ρ S).out fun src S1 => forL src.w G B src.xs ρ S1
theorem ds_for {tg iter : Expr} {body : List Stmt} {Fi : Slots → Sto → Res Src} {G : FT} {B : Slots → Sto → Out} (hp : PassesOwn (model X.prog X.w) X.A X.env X.xe) (hc : X.calm = true) (hi : PI X tg iter (dI (nm X fd) E Fi)) (hg : PG X tg (dG (nm X fd) E G)) (hb : PSs X body (dS (nm X fd) E B))
    (hs : ∀ x, foldedSetIterable iter X.env x = pure x) : PS X (.For tg iter body [] pos) (dS (nm X fd) E (sFor Fi G B)) := by
  refine PS.imp (ps_for hp hc hi hg hb hs) fun Dn σ H ⟨ρ, S, α, r, ok, h⟩ => ⟨ρ, S, α, r, ok, ?_⟩
  simp only [sFor] at h
  cases q : Fi ρ S with
  | ex c e' S' => rw [q] at h; exact h
  | st => rw [q] at h; exact h
  | ok src S1 =>
    rw [q] at h
    simp only [out_ok] at h
    intro H1 α1 J st1 ok1 it
    refine ⟨fun i m σ H => m = src.xs.length - i ∧ i ≤ src.xs.length ∧ ∃ ρ S α, UpL α1 H1 α H ∧ Rho (nm X fd) H α σ ρ ∧ StoOk (nm X fd) H α S ∧ dOut (nm X fd) E α S H (forL src.w G B (src.xs.drop i) ρ S) Dn,
      ⟨src.xs.length, by simp, Nat.zero_le _, ρ, S1, α1, .refl, r.step ok st1, ok1, by simpa using dOut.shift ok st1 h⟩, ?_⟩
    rintro i m σ H ⟨rfl, hi, ρ, S, α, up, r, ok, h⟩
    by_cases hlt : i < src.xs.length
    · rw [List.drop_eq_getElem_cons hlt] at h
      unfold forL at h
      split at h
      · rename_i hw
        obtain ⟨its, _⟩ := it α S H up ok hw
        obtain ⟨go, yl⟩ := its i _ (List.getElem?_eq_getElem hlt)
        refine .inr ⟨go, fun σ' H' => ∃ ρ S α, UpL α1 H1 α H' ∧ Rho (nm X fd) H' α σ' ρ ∧ StoOk (nm X fd) H' α S ∧ dOut (nm X fd) E α S H' (forL src.w G B (src.xs.drop (i + 1)) ρ S) Dn, fun σ' H' z => ⟨_, by omega, rfl, hlt, z⟩, fun x H2 y => ?_⟩
        obtain ⟨st2, ok2, rx⟩ := yl x H2 y
        have h := dOut.shift ok st2 h
        have r2 := r.step ok st2
        have up2 := up.trans (st2.upL ok)
        refine ⟨ρ, S, α, _, r2, ok2, rx, ?_⟩
        cases q2 : G src.xs[i] ρ S with
        | ex c e' S' => rw [q2] at h; exact h
        | st => rw [q2] at h; exact h
        | ok ρ3 S3 =>
          rw [q2] at h
          simp only [out_ok] at h
          intro σ3 H3 α3 st3 ok3 r3
          have h := dOut.shift ok2 st3 h
          have up3 := up2.trans (st3.upL ok2)
          refine ⟨ρ3, S3, α3, r3, ok3, ?_⟩
          cases q3 : B ρ3 S3 with
          | nx ρ' S' => rw [q3] at h; exact fun σ4 H4 α4 st4 ok4 r4 => ⟨ρ', S', α4, up3.trans (st4.upL ok3), r4, ok4, dOut.shift ok3 st4 h⟩
          | ct ρ' S' => rw [q3] at h; exact fun σ4 H4 α4 st4 ok4 r4 => ⟨ρ', S', α4, up3.trans (st4.upL ok3), r4, ok4, dOut.shift ok3 st4 h⟩
          | bk ρ' S' => rw [q3] at h; exact h
          | rt d S' => rw [q3] at h; exact h
          | ex c e' S' => rw [q3] at h; exact h
          | st => rw [q3] at h; exact h
      · exact h.elim
    · have ei : i = src.xs.length := by omega
      subst ei
      rw [List.drop_length] at h
      unfold forL at h
      split at h
      · rename_i hw
        obtain ⟨_, stop⟩ := it α S H up ok hw
        exact .inl ⟨stop, h σ H α .refl ok r⟩
      · exact h.elim
end
end Dl

set_option linter.all false
set_option maxRecDepth 100000
set_option maxHeartbeats 4000000
/-! Dl12: built-in functions by plain values. -/
namespace Dl
open PySem PySem.Spec PyProof.Rows L2

/-! ### kinds of values -/
inductive Ty where
  | non | bl | int | str | tup | lst | dct
deriving DecidableEq
def Ty.nm : Ty → String
  | .non => "NoneType"
  | .bl => "bool"
  | .int => "int"
  | .str => "str"
  | .tup => "tuple"
  | .lst => "list"
  | .dct => "dict"
def Ty.sub (a b : Ty) : Bool := decide (a = b) || (decide (a = .bl) && decide (b = .int))
def tyP : PyData → Ty
  | .none => .non
  | .bool _ => .bl
  | .int _ => .int
  | .str _ => .str
  | .tuple _ => .tup
  | .list _ => .lst
  | .dict _ => .dct
def tyD (d : D) (S : Sto) : Option Ty := match d with
  | .p d => some (tyP d)
  | .tup _ => some .tup
  | .loc l => match S[l]? with
    | some (.lst _) => some .lst
    | some (.dK _) => some .dct
    | _ => none
  | .fn _ => none
@[simp] theorem tyD_p (d : PyData) (S : Sto) : tyD (.p d) S = some (tyP d) := rfl
@[simp] theorem tyD_tup (xs : List D) (S : Sto) : tyD (.tup xs) S = some .tup := rfl
theorem kit_tab : ∀ (a b : Ty), b ≠ .non → kitB a.nm b.nm = some (a.sub b) := by
  intro a b h
  cases a <;> cases b <;> first | exact absurd rfl h | decide +kernel
section
variable {X : Cx} {pins : List (Addr × Obj)} {σ : L2.St} {H : Hp} {s : Shared} {fd : FdT} {α : List Addr} {S : Sto}
def Kit (K : PySem.W.Frag) (u : Value) (T : String) (h : Heap) : Prop := ∃ P : Heap → Prop, PySem.W.KitX K u (.type T) P ∧ P h ∧ u ≠ .builtin "__main__.__loader__#opaque"
theorem kit_tup {vs : List V} {a : Addr} (I : Inv X pins σ H s) (h : SqT X.K H a vs) : Kit X.K (.ref a) "tuple" s.heap := by
  obtain ⟨its, _, ⟨o, h1, h2, _⟩, _⟩ := I.tuple h
  exact ⟨_, PySem.W.kitx_tuple, ⟨o, h1, h2⟩, fun z => nomatch z⟩
theorem kit_lst {vs : List V} {a : Addr} (I : Inv X pins σ H s) (h : SqL X.K H a vs) : Kit X.K (.ref a) "list" s.heap := by
  obtain ⟨its, _, pl, _⟩ := I.list h
  obtain ⟨o, h1, h2, _⟩ := pl.isList
  exact ⟨_, PySem.W.kitx_list, ⟨o, h1, h2⟩, fun z => nomatch z⟩
theorem kit_d {v : V} {u : Value} {d : D} {T : Ty} (I : Inv X pins σ H s) (ok : StoOk (nm X fd) H α S) (rv : RelV v u) (r : Rp (nm X fd) H α v d) (e : tyD d S = some T) : Kit X.K u T.nm s.heap := by
  cases r with
  | p r =>
    cases e
    cases r with
    | non => cases (show u = Value.none from rv); exact ⟨_, PySem.W.kitx_none, True.intro, fun z => nomatch z⟩
    | bl b => cases (show u = Value.bool b from rv); exact ⟨_, PySem.W.kitx_bool, True.intro, fun z => nomatch z⟩
    | int i => obtain ⟨t, q⟩ := (show ∃ t, u = Value.int i t from rv); cases q; exact ⟨_, PySem.W.kitx_int, True.intro, fun z => nomatch z⟩
    | str y => obtain ⟨t, q⟩ := (show ∃ t, u = Value.str y t from rv); cases q; exact ⟨_, PySem.W.kitx_str, True.intro, fun z => nomatch z⟩
    | @tup a vs ds h1 h2 => cases (show u = Value.ref a from rv); exact kit_tup I h1
    | @lst a vs ds h1 h2 h3 => cases (show u = Value.ref a from rv); exact kit_lst I h1.sq
    | @dct a φ ks vs dk dv h1 h2 h3 h4 h5 h6 =>
      cases (show u = Value.ref a from rv)
      obtain ⟨p, _, _⟩ := (show ObjOk X.prog X.w H s.heap a (.ext φ) from I.hok a _ h1)
      obtain ⟨o, es, n, g1, g2, _⟩ := h2 _ p
      exact ⟨_, PySem.W.kitx_dict, ⟨o, g1, g2⟩, fun z => nomatch z⟩
  | @tup a vs xs h1 h2 => cases e; cases (show u = Value.ref a from rv); exact kit_tup I h1
  | @loc a l hl =>
    cases (show u = Value.ref a from rv)
    unfold tyD at e
    simp only at e
    split at e
    · rename_i xs q
      cases e
      obtain ⟨vs, h1, _⟩ := ok.cell l a _ hl q
      exact kit_lst I (.inl (.inl h1))
    · rename_i xs q
      cases e
      obtain ⟨ks, vs, xs, h1, _⟩ := ok.cell l a _ hl q
      obtain ⟨_, _, ws, _, p⟩ := (show ObjOk X.prog X.w H s.heap a (.dK (ks.zip vs)) from I.hok a _ h1)
      obtain ⟨o, es, ep, g1, g2, _⟩ := p
      exact ⟨_, PySem.W.kitx_dict, ⟨o, g1, g2.1⟩, fun z => nomatch z⟩
    · cases e
  | fn _ => cases e

/-! ### what stands there, read deep -/
theorem reads_both (I : Inv X pins σ H s) : (∀ {d : PyData} {v : V}, Pd (nm X fd) H v d → ∀ {u : Value}, RelV v u → ∃ as, Reads s.heap u d as ∧ sysModules ∉ as) ∧
    ∀ {ds : List PyData} {vs : List V}, PdAll (nm X fd) H vs ds → ∀ {us : List Value}, Vals vs us → ∃ as, ReadsAll s.heap us ds as ∧ sysModules ∉ as := by
  have one : ∀ {v : V} {d : PyData} (h : Pd (nm X fd) H v d), ∀ {u : Value}, RelV v u → ∃ as, Reads s.heap u d as ∧ sysModules ∉ as := by
    intro v d h
    refine Pd.rec (motive_1 := fun v d _ => ∀ {u : Value}, RelV v u → ∃ as, Reads s.heap u d as ∧ sysModules ∉ as) (motive_2 := fun vs ds _ => ∀ {us : List Value}, Vals vs us → ∃ as, ReadsAll s.heap us ds as ∧ sysModules ∉ as) ?_ ?_ ?_ ?_ ?_ ?_ ?_ ?_ ?_ h
    · intro u rv; cases (show u = Value.none from rv); exact ⟨_, .none, by simp⟩
    · intro b u rv; cases (show u = Value.bool b from rv); exact ⟨_, .bool b, by simp⟩
    · intro i u rv; obtain ⟨t, q⟩ := (show ∃ t, u = Value.int i t from rv); cases q; exact ⟨_, .int i t, by simp⟩
    · intro y u rv; obtain ⟨t, q⟩ := (show ∃ t, u = Value.str y t from rv); cases q; exact ⟨_, .str y t, by simp⟩
    · intro a vs ds h1 h2 ih u rv
      cases (show u = Value.ref a from rv)
      obtain ⟨its, r, ⟨o, g1, g2, n, g3⟩, _⟩ := I.tuple h1
      obtain ⟨as, ra, na⟩ := ih r
      exact ⟨as, .tuple g1 g2 g3 (by simpa using ra), na⟩
    · intro a vs ds h1 h2 h3 ih u rv
      cases (show u = Value.ref a from rv)
      obtain ⟨its, r, pl, _⟩ := I.list h1.sq
      obtain ⟨o, n, g1, g2, _, g3⟩ := pl
      obtain ⟨as, ra, na⟩ := ih r
      exact ⟨_, .list g1 g2 g3 (by simpa using ra), by simp [na, Ne.symm h2]⟩
    · intro a φ ks vs dk dv h1 h2 h3 h4 h5 h6 ih1 ih2 u rv
      cases (show u = Value.ref a from rv)
      obtain ⟨p, _, _⟩ := (show ObjOk X.prog X.w H s.heap a (.ext φ) from I.hok a _ h1)
      obtain ⟨o, es, n, g1, g2, g3, g4, g5⟩ := h2 _ p
      obtain ⟨as, ra, na⟩ := ih1 g4
      obtain ⟨bs, rb, nb⟩ := ih2 g5
      refine ⟨_, .dict g1 g2 g3 (by rw [List.map_fst_zip (by omega)]; exact ra) (by rw [List.map_snd_zip (by omega)]; exact rb), ?_⟩
      simp [na, nb, Ne.symm h3]
    · intro us rv; cases rv; exact ⟨_, .nil, by simp⟩
    · intro v vs d ds h1 h2 ih1 ih2 us rv
      cases rv with
      | cons r1 r2 =>
        obtain ⟨as, ra, na⟩ := ih1 r1
        obtain ⟨bs, rb, nb⟩ := ih2 r2
        exact ⟨_, .cons ra rb, by simp [na, nb]⟩
  refine ⟨fun h => one h, ?_⟩
  intro ds vs h
  induction ds generalizing vs with
  | nil => cases h; intro us rv; cases rv; exact ⟨_, .nil, by simp⟩
  | cons d ds ih =>
    cases h with
    | cons h1 h2 =>
      intro us rv
      cases rv with
      | cons r1 r2 =>
        obtain ⟨as, ra, na⟩ := one h1 r1
        obtain ⟨bs, rb, nb⟩ := ih h2 r2
        exact ⟨_, .cons ra rb, by simp [na, nb]⟩
theorem reads_d (hs : SysIn X) (I : Inv X pins σ H s) (ok : StoOk (nm X fd) H α S) {v : V} {u : Value} {d : D} {x : PyData} (rv : RelV v u) (r : Rp (nm X fd) H α v d) (e : asP d S = some x) : ∃ as, Reads s.heap u x as ∧ sysModules ∉ as := by
  cases r with
  | p r => cases e; exact (reads_both I).1 r rv
  | tup h1 h2 => cases e
  | fn _ => cases e
  | @loc a l hl =>
    cases (show u = Value.ref a from rv)
    unfold asP at e
    simp only at e
    split at e
    · rename_i xs q
      rw [Option.map_eq_some_iff] at e
      obtain ⟨ds, e1, rfl⟩ := e
      obtain ⟨vs, h1, r⟩ := ok.cell l a _ hl q
      have := allP_eq e1
      subst this
      obtain ⟨its, rr, pl, _⟩ := I.list (.inl (.inl h1))
      obtain ⟨o, n, g1, g2, _, g3⟩ := pl
      obtain ⟨as, ra, na⟩ := (reads_both I).2 r.toP rr
      exact ⟨_, .list g1 g2 g3 (by simpa using ra), by simp [na, Ne.symm (not_sys hs I h1)]⟩
    · cases e
end

/-! ### the functions -/
inductive Bn where
  | len | int | abs | mx | mn | tup | lst | sum | all | any | repr | str | bool | srt
deriving DecidableEq
def Bn.nm : Bn → Str
  | .len => "len" | .int => "int" | .abs => "abs" | .mx => "max" | .mn => "min" | .tup => "tuple" | .lst => "list" | .sum => "sum" | .all => "all" | .any => "any" | .repr => "repr" | .str => "str" | .bool => "bool" | .srt => "sorted"
def Bn.val : Bn → Value
  | .len => .builtin "len" | .int => .type "int" | .abs => .builtin "abs" | .mx => .builtin "max" | .mn => .builtin "min" | .tup => .type "tuple" | .lst => .type "list" | .sum => .builtin "sum" | .all => .builtin "all"
  | .any => .builtin "any" | .repr => .builtin "repr" | .str => .type "str" | .bool => .type "bool" | .srt => .builtin "sorted"
def intsOf : List D → Option (List Int)
  | [] => some []
  | .p (.int i) :: r => (intsOf r).map (i :: ·)
  | _ :: _ => none
def boolsOf : List D → Option (List Bool)
  | [] => some []
  | .p (.bool i) :: r => (boolsOf r).map (i :: ·)
  | _ :: _ => none
@[simp] theorem intsOf_map (l : List Int) : intsOf (l.map fun i => D.p (.int i)) = some l := by
  induction l with
  | nil => rfl
  | cons a l ih => simp [intsOf, ih]
@[simp] theorem boolsOf_map (l : List Bool) : boolsOf (l.map fun i => D.p (.bool i)) = some l := by
  induction l with
  | nil => rfl
  | cons a l ih => simp [boolsOf, ih]
section
variable {N : Nm} {H : Hp} {α : List Addr}
theorem intsOf_rp : ∀ {xs : List D} {ns : List Int} {vs : List V}, intsOf xs = some ns → RpAll N H α vs xs → vs = ns.map V.int
  | [], ns, vs, e, r => by cases r; simp [intsOf] at e; subst e; rfl
  | .p (.int i) :: xs, ns, vs, e, r => by
    simp only [intsOf, Option.map_eq_some_iff] at e
    obtain ⟨ms, e1, rfl⟩ := e
    cases r with
    | cons r1 r2 => rw [intsOf_rp e1 r2, r1.int_inv]; rfl
  | .p .none :: _, _, _, e, _ => by cases e
  | .p (.bool _) :: _, _, _, e, _ => by cases e
  | .p (.str _) :: _, _, _, e, _ => by cases e
  | .p (.tuple _) :: _, _, _, e, _ => by cases e
  | .p (.list _) :: _, _, _, e, _ => by cases e
  | .p (.dict _) :: _, _, _, e, _ => by cases e
  | .loc _ :: _, _, _, e, _ => by cases e
  | .tup _ :: _, _, _, e, _ => by cases e
  | .fn _ :: _, _, _, e, _ => by cases e
theorem boolsOf_rp : ∀ {xs : List D} {ns : List Bool} {vs : List V}, boolsOf xs = some ns → RpAll N H α vs xs → vs = ns.map V.bl
  | [], ns, vs, e, r => by cases r; simp [boolsOf] at e; subst e; rfl
  | .p (.bool i) :: xs, ns, vs, e, r => by
    simp only [boolsOf, Option.map_eq_some_iff] at e
    obtain ⟨ms, e1, rfl⟩ := e
    cases r with
    | cons r1 r2 => rw [boolsOf_rp e1 r2, r1.bool_inv]; rfl
  | .p .none :: _, _, _, e, _ => by cases e
  | .p (.int _) :: _, _, _, e, _ => by cases e
  | .p (.str _) :: _, _, _, e, _ => by cases e
  | .p (.tuple _) :: _, _, _, e, _ => by cases e
  | .p (.list _) :: _, _, _, e, _ => by cases e
  | .p (.dict _) :: _, _, _, e, _ => by cases e
  | .loc _ :: _, _, _, e, _ => by cases e
  | .tup _ :: _, _, _, e, _ => by cases e
  | .fn _ :: _, _, _, e, _ => by cases e
end
def lenD (d : D) (S : Sto) : Option Nat := match d with
  | .p (.str z) => if z.length ≤ sizeLine then some z.length else none
  | .loc l => match S[l]? with
    | some (.lst xs) => some xs.length
    | some (.dK kvs) => some kvs.length
    | _ => none
  | d => (seqOf d S).map List.length
def maxI : List Int → Int
  | [] => 0
  | [a] => a
  | a :: r => if maxI r > a then maxI r else a
def minI : List Int → Int
  | [] => 0
  | [a] => a
  | a :: r => if minI r < a then minI r else a
/-- ints in their order -/
def insI (x : Int) : List Int → List Int
  | [] => [x]
  | y :: r => if x ≤ y then x :: y :: r else y :: insI x r
def sortI : List Int → List Int
  | [] => []
  | x :: r => insI x (sortI r)
/-- .. each once -/
def insU (x : Int) : List Int → List Int
  | [] => [x]
  | y :: r => if x < y then x :: y :: r else if x = y then y :: r else y :: insU x r
def sortU : List Int → List Int
  | [] => []
  | x :: r => insU x (sortU r)
theorem insI_perm (x : Int) : ∀ l : List Int, (insI x l).Perm (x :: l)
  | [] => .refl _
  | y :: r => by
    unfold insI
    split
    · exact .refl _
    · exact ((insI_perm x r).cons y).trans (.swap x y r)
theorem insI_sorted (x : Int) : ∀ {l : List Int}, l.Pairwise (· ≤ ·) → (insI x l).Pairwise (· ≤ ·)
  | [], _ => by simp [insI]
  | y :: r, h => by
    unfold insI
    obtain ⟨h1, h2⟩ := List.pairwise_cons.mp h
    split
    · rename_i q
      refine List.pairwise_cons.mpr ⟨fun z hz => ?_, h⟩
      rcases List.mem_cons.mp hz with e | e
      · rw [e]; exact q
      · exact Int.le_trans q (h1 z e)
    · rename_i q
      refine List.pairwise_cons.mpr ⟨fun z hz => ?_, insI_sorted x h2⟩
      rcases List.mem_cons.mp ((insI_perm x r).mem_iff.mp hz) with e | e
      · rw [e]; omega
      · exact h1 z e
theorem sortI_perm : ∀ l : List Int, (sortI l).Perm l
  | [] => .refl _
  | x :: r => (insI_perm x (sortI r)).trans ((sortI_perm r).cons x)
theorem sortI_sorted : ∀ l : List Int, (sortI l).Pairwise (· ≤ ·)
  | [] => .nil
  | x :: r => insI_sorted x (sortI_sorted r)
theorem sortI_uniq {ns ns' : List Int} (p : ns'.Perm ns) (s : ns'.Pairwise (· ≤ ·)) : ns' = sortI ns :=
  List.Perm.eq_of_pairwise (fun a b _ _ h1 h2 => Int.le_antisymm h1 h2) s (sortI_sorted ns) (p.trans (sortI_perm ns).symm)
theorem insU_mem (x k : Int) : ∀ l : List Int, k ∈ insU x l ↔ k = x ∨ k ∈ l
  | [] => by simp [insU]
  | y :: r => by
    unfold insU
    split
    · simp
    · split
      · rename_i q
        subst q
        simp
      · simp only [List.mem_cons, insU_mem x k r]
        constructor
        · rintro (h | h | h)
          · exact .inr (.inl h)
          · exact .inl h
          · exact .inr (.inr h)
        · rintro (h | h | h)
          · exact .inr (.inl h)
          · exact .inl h
          · exact .inr (.inr h)
theorem insU_sorted (x : Int) : ∀ {l : List Int}, l.Pairwise (· < ·) → (insU x l).Pairwise (· < ·)
  | [], _ => by simp [insU]
  | y :: r, h => by
    unfold insU
    obtain ⟨h1, h2⟩ := List.pairwise_cons.mp h
    split
    · rename_i q
      refine List.pairwise_cons.mpr ⟨fun z hz => ?_, h⟩
      rcases List.mem_cons.mp hz with e | e
      · rw [e]; exact q
      · exact Int.lt_trans q (h1 z e)
    · split
      · exact h
      · rename_i q q2
        refine List.pairwise_cons.mpr ⟨fun z hz => ?_, insU_sorted x h2⟩
        rcases (insU_mem x z r).mp hz with e | e
        · rw [e]; omega
        · exact h1 z e
theorem sortU_mem (k : Int) : ∀ l : List Int, k ∈ sortU l ↔ k ∈ l
  | [] => by simp [sortU]
  | x :: r => by simp only [sortU, insU_mem, sortU_mem k r, List.mem_cons]
theorem sortU_sorted : ∀ l : List Int, (sortU l).Pairwise (· < ·)
  | [] => .nil
  | x :: r => insU_sorted x (sortU_sorted r)
theorem rise_uniq : ∀ {a b : List Int}, a.Pairwise (· < ·) → b.Pairwise (· < ·) → (∀ k, k ∈ a ↔ k ∈ b) → a = b := by
  intro a b ha hb h
  have na : a.Nodup := ha.imp fun h => Int.ne_of_lt h
  have nb : b.Nodup := hb.imp fun h => Int.ne_of_lt h
  exact List.Perm.eq_of_pairwise (fun x y _ _ h1 h2 => absurd (Int.lt_trans h1 h2) (Int.lt_irrefl _)) ha hb ((List.perm_ext_iff_of_nodup na nb).mpr h)
def opBn (m : Bool) (f : Bn) (ds : List D) (S : Sto) : Res D := match f, ds with
  | .len, [d] => match lenD d S with
    | some n => .ok (.i n) S
    | none => .st
  | .int, [.p (.int i)] => .ok (.i i) S
  | .int, [.p (.bool k)] => .ok (.i (if k then 1 else 0)) S
  | .bool, [.p (.int i)] => .ok (.b (i != 0)) S
  | .bool, [.p (.bool k)] => .ok (.b k) S
  | .abs, [.p (.int i)] => .ok (.i (if i < 0 then -i else i)) S
  | .mx, [.p (.int i), .p (.int j)] => .ok (.i (if j > i then j else i)) S
  | .mn, [.p (.int i), .p (.int j)] => .ok (.i (if j < i then j else i)) S
  | .tup, [d] => match tupOf d with
    | some _ => .ok d S
    | none => match lstOf d S with
      | some xs => .ok (mkT xs) S
      | none => .st
  | .lst, [d] => match seqOf d S with
    | some xs => mkL m xs S
    | none => .st
  | .sum, [d] => match (lstOf d S).bind intsOf with
    | some ns => .ok (.i ns.sum) S
    | none => .st
  | .all, [d] => match (lstOf d S).bind boolsOf with
    | some ns => .ok (.b (ns.all id)) S
    | none => .st
  | .any, [d] => match (lstOf d S).bind boolsOf with
    | some ns => .ok (.b (ns.any id)) S
    | none => .st
  | .repr, [d] => match asP d S with
    | some x => if x.showable = true ∧ x.shown.length ≤ sizeLine ∧ x.depth ≤ 150 then .ok (.s x.shown) S else .st
    | none => .st
  | .str, [.p (.int i)] => if i.natAbs.log2 < 1920 then .ok (.s (toString i)) S else .st
  | .str, [.p (.str x)] => .ok (.s x) S
  | .srt, [d] => match (lstOf d S).bind intsOf with
    | some ns => mkL m ((sortI ns).map D.i) S
    | none => .st
  | _, _ => .st
/-- what the frame must be for the built-in functions -/
structure Good (X : Cx) : Prop where
  calm : X.calm = true
  gd : X.A.guards = some []
  un : X.A.units + 200 < cLine
  sys : SysIn X
section
variable {X : Cx} {fd : FdT} {E : XK}
theorem cr_fz {f : Value} {r : List V → Hp → VK → Prop} (hs : SysIn X) (h : CallR X f r) : CallR X f fun xs H Q => r xs H (FzOr Q) :=
  fun pins s σ H xs us Q I rs q => thn (h pins s σ H xs us _ I rs q) fun u s' z => ep_fz hs z
theorem CallR.imp {f : Value} {r r' : List V → Hp → VK → Prop} (h : CallR X f r) (i : ∀ xs H Q, r' xs H Q → r xs H Q) : CallR X f r' := fun pins s σ H xs us Q I rs q => h pins s σ H xs us Q I rs (i _ _ _ q)
theorem rp1 {N : Nm} {H : Hp} {α : List Addr} {vs : List V} {d : D} (r : RpAll N H α vs [d]) : ∃ v, vs = [v] ∧ Rp N H α v d := by
  cases r with
  | cons r1 r => cases r; exact ⟨_, rfl, r1⟩
theorem rp2 {N : Nm} {H : Hp} {α : List Addr} {vs : List V} {d e : D} (r : RpAll N H α vs [d, e]) : ∃ v w, vs = [v, w] ∧ Rp N H α v d ∧ Rp N H α w e := by
  cases r with
  | cons r1 r => obtain ⟨w, rfl, r2⟩ := rp1 r; exact ⟨_, _, rfl, r1, r2⟩
/-- an answer at once -/
theorem now {N : Nm} {α : List Addr} {S : Sto} {H : Hp} {d : D} {v : V} {Q : VK} (ok : StoOk N H α S) (h : dRes N E α S H (.ok d S) Q) (r : Rp N H α v d) : Q v H := h v H α .refl ok r
theorem cr_len : CallR X (.builtin "len") (dN (nm X fd) E (opBn m .len)) := by
  refine CallR.imp (CallR.or call_len call_lenD) fun xs H Q ⟨S, α, ds, ok, r, h⟩ => ?_
  unfold opBn at h
  split at h <;> first | (rename_i e; cases e) | skip
  · rename_i d _
    obtain ⟨v, rfl, rv⟩ := rp1 r
    split at h
    · rename_i n e
      unfold lenD at e
      split at e
      · split at e
        · rename_i hz
          cases e
          exact .inl ⟨_, _, rfl, by rw [rv.str_inv]; exact ⟨hz, rfl⟩, now ok h (.p (.int _))⟩
        · cases e
      · split at e
        · rename_i xs q
          cases e
          cases rv with
          | loc hl =>
            obtain ⟨vs, h1, r1⟩ := ok.cell _ _ _ hl q
            refine .inl ⟨_, _, rfl, .inl ⟨vs, .inl (.inl h1), rfl⟩, ?_⟩
            rw [r1.length]
            exact now ok h (.p (.int _))
        · rename_i xs q
          cases e
          cases rv with
          | loc hl =>
            obtain ⟨ks, vs, xs, h1, e2, e3, r1⟩ := ok.cell _ _ _ hl q
            refine .inr ⟨_, _, rfl, h1, ?_⟩
            have := r1.length
            subst e2
            have e4 : (ks.zip vs).length = (ks.zip xs).length := by simp; omega
            rw [e4]
            exact now ok h (.p (.int _))
        · cases e
      · rw [Option.map_eq_some_iff] at e
        obtain ⟨xs, e1, rfl⟩ := e
        obtain ⟨a, vs, rfl, h1, r1⟩ := rv.seq_inv ok e1
        refine .inl ⟨_, vs.length, rfl, ?_, ?_⟩
        · rcases h1 with h1 | h1
          · exact .inl ⟨vs, h1, rfl⟩
          · exact .inr ⟨vs, h1, rfl⟩
        · rw [r1.length]
          exact now ok h (.p (.int _))
    · exact h.elim
  · exact h.elim
end
end Dl

set_option linter.all false
set_option maxRecDepth 100000
set_option maxHeartbeats 4000000
/-! Dl13: built-in functions by plain values: the rest, and their calls. -/
namespace Dl
open PySem PySem.Spec PyProof.Rows L2
section
variable {X : Cx} {fd : FdT} {E : XK}
theorem cr_int : CallR X (.type "int") (dN (nm X fd) E (opBn m .int)) := by
  refine CallR.imp call_int1 fun xs H Q ⟨S, α, ds, ok, r, h⟩ => ?_
  unfold opBn at h
  split at h <;> first | (rename_i e; cases e) | skip
  · obtain ⟨v, rfl, rv⟩ := rp1 r
    exact .inl ⟨_, by rw [rv.int_inv], now ok h (.p (.int _))⟩
  · obtain ⟨v, rfl, rv⟩ := rp1 r
    exact .inr ⟨_, by rw [rv.bool_inv], now ok h (.p (.int _))⟩
  · exact h.elim
theorem cr_bool : CallR X (.type "bool") (dN (nm X fd) E (opBn m .bool)) := by
  refine CallR.imp call_bool1 fun xs H Q ⟨S, α, ds, ok, r, h⟩ => ?_
  unfold opBn at h
  split at h <;> first | (rename_i e; cases e) | skip
  · obtain ⟨v, rfl, rv⟩ := rp1 r
    exact .inl ⟨_, by rw [rv.int_inv], now ok h (.p (.bl _))⟩
  · obtain ⟨v, rfl, rv⟩ := rp1 r
    exact .inr ⟨_, by rw [rv.bool_inv], now ok h (.p (.bl _))⟩
  · exact h.elim
theorem cr_abs : CallR X (.builtin "abs") (dN (nm X fd) E (opBn m .abs)) := by
  refine CallR.imp call_abs fun xs H Q ⟨S, α, ds, ok, r, h⟩ => ?_
  unfold opBn at h
  split at h <;> first | (rename_i e; cases e) | skip
  · obtain ⟨v, rfl, rv⟩ := rp1 r
    exact ⟨_, by rw [rv.int_inv], now ok h (.p (.int _))⟩
  · exact h.elim
theorem cr_mx (G : Good X) : CallR X (.builtin "max") (dN (nm X fd) E (opBn m .mx)) := by
  refine CallR.imp (call_max2 G.calm) fun xs H Q ⟨S, α, ds, ok, r, h⟩ => ?_
  unfold opBn at h
  split at h <;> first | (rename_i e; cases e) | skip
  · obtain ⟨v, w, rfl, rv, rw'⟩ := rp2 r
    exact ⟨_, _, by rw [rv.int_inv, rw'.int_inv], now ok h (.p (.int _))⟩
  · exact h.elim
theorem cr_mn (G : Good X) : CallR X (.builtin "min") (dN (nm X fd) E (opBn m .mn)) := by
  refine CallR.imp (call_min2 G.calm) fun xs H Q ⟨S, α, ds, ok, r, h⟩ => ?_
  unfold opBn at h
  split at h <;> first | (rename_i e; cases e) | skip
  · obtain ⟨v, w, rfl, rv, rw'⟩ := rp2 r
    exact ⟨_, _, by rw [rv.int_inv, rw'.int_inv], now ok h (.p (.int _))⟩
  · exact h.elim
theorem cr_tup : CallR X (.type "tuple") (dN (nm X fd) E (opBn m .tup)) := by
  refine CallR.imp call_tuple_of fun xs H Q ⟨S, α, ds, ok, r, h⟩ => ?_
  unfold opBn at h
  split at h <;> first | (rename_i e; cases e) | skip
  · obtain ⟨v, rfl, rv⟩ := rp1 r
    split at h
    · rename_i xs e
      obtain ⟨a, vs, rfl, h1, r1⟩ := rv.tup_inv e
      exact ⟨a, vs, rfl, .inr ⟨h1, now ok h rv⟩⟩
    · split at h
      · rename_i xs e
        obtain ⟨a, vs, rfl, h1, r1⟩ := rv.lst_inv ok e
        exact ⟨a, vs, rfl, .inl ⟨h1, newT ok r1 h⟩⟩
      · exact h.elim
  · exact h.elim
theorem cr_lst (G : Good X) : CallR X (.type "list") (dN (nm X fd) E (opBn m .lst)) := by
  refine CallR.imp (cr_fz G.sys call_list_of) fun xs H Q ⟨S, α, ds, ok, r, h⟩ => ?_
  unfold opBn at h
  split at h <;> first | (rename_i e; cases e) | skip
  · obtain ⟨v, rfl, rv⟩ := rp1 r
    split at h
    · rename_i xs e
      obtain ⟨a, vs, rfl, h1, r1⟩ := rv.seq_inv ok e
      exact ⟨a, vs, rfl, h1, newL ok r1 h⟩
    · exact h.elim
  · exact h.elim
theorem cr_sumD (G : Good X) : CallR X (.builtin "sum") (dN (nm X fd) E (opBn m .sum)) := by
  refine CallR.imp (cr_sum G.calm) fun xs H Q ⟨S, α, ds, ok, r, h⟩ => ?_
  unfold opBn at h
  split at h <;> first | (rename_i e; cases e) | skip
  · obtain ⟨v, rfl, rv⟩ := rp1 r
    split at h
    · rename_i ns e
      obtain ⟨xs, e1, e2⟩ := Option.bind_eq_some_iff.mp e
      obtain ⟨a, vs, rfl, h1, r1⟩ := rv.lst_inv ok e1
      exact ⟨a, ns, rfl, by rw [← intsOf_rp e2 r1]; exact h1, now ok h (.p (.int _))⟩
    · exact h.elim
  · exact h.elim
theorem cr_allD (G : Good X) : CallR X (.builtin "all") (dN (nm X fd) E (opBn m .all)) := by
  refine CallR.imp (cr_all G.calm) fun xs H Q ⟨S, α, ds, ok, r, h⟩ => ?_
  unfold opBn at h
  split at h <;> first | (rename_i e; cases e) | skip
  · obtain ⟨v, rfl, rv⟩ := rp1 r
    split at h
    · rename_i ns e
      obtain ⟨xs, e1, e2⟩ := Option.bind_eq_some_iff.mp e
      obtain ⟨a, vs, rfl, h1, r1⟩ := rv.lst_inv ok e1
      exact ⟨a, ns, rfl, by rw [← boolsOf_rp e2 r1]; exact h1, now ok h (.p (.bl _))⟩
    · exact h.elim
  · exact h.elim
theorem cr_anyD (G : Good X) : CallR X (.builtin "any") (dN (nm X fd) E (opBn m .any)) := by
  refine CallR.imp (cr_any G.calm) fun xs H Q ⟨S, α, ds, ok, r, h⟩ => ?_
  unfold opBn at h
  split at h <;> first | (rename_i e; cases e) | skip
  · obtain ⟨v, rfl, rv⟩ := rp1 r
    split at h
    · rename_i ns e
      obtain ⟨xs, e1, e2⟩ := Option.bind_eq_some_iff.mp e
      obtain ⟨a, vs, rfl, h1, r1⟩ := rv.lst_inv ok e1
      exact ⟨a, ns, rfl, by rw [← boolsOf_rp e2 r1]; exact h1, now ok h (.p (.bl _))⟩
    · exact h.elim
  · exact h.elim
theorem cr_str : CallR X (.type "str") (dN (nm X fd) E (opBn m .str)) := by
  refine CallR.imp (CallR.or call_str_int SkE.call_str_str) fun xs H Q ⟨S, α, ds, ok, r, h⟩ => ?_
  unfold opBn at h
  split at h <;> first | (rename_i e; cases e) | skip
  · obtain ⟨v, rfl, rv⟩ := rp1 r
    split at h
    · rename_i hz
      exact .inl ⟨_, by rw [rv.int_inv], hz, now ok h (.p (.str _))⟩
    · exact h.elim
  · obtain ⟨v, rfl, rv⟩ := rp1 r
    exact .inr ⟨_, by rw [rv.str_inv], now ok h (.p (.str _))⟩
  · exact h.elim
theorem cr_repr (G : Good X) : CallR X (.builtin "repr") (dN (nm X fd) E (opBn m .repr)) := by
  intro pins s σ H xs us Q I rs ⟨S, α, ds, ok, r, h⟩
  unfold opBn at h
  split at h <;> first | (rename_i e; cases e) | skip
  · obtain ⟨v, rfl, rv⟩ := rp1 r
    obtain ⟨u, rfl, ru⟩ := vals1 rs
    split at h
    · rename_i d _ x e
      split at h
      · rename_i hz
        obtain ⟨h1, h2, h3⟩ := hz
        obtain ⟨as, ra, na⟩ := reads_d G.sys I ok ru rv e
        have q := now (v := .str x.shown) ok h (.p (.str _))
        have un := G.un
        have big : ∀ a, Reads s.heap (.ref a) x as → wpAny (model X.prog X.w) X.A (call (.builtin "repr") [.ref a]) (EP X pins σ Q) X.xe s := fun a ra =>
          repr_of_reads' ra h1 (fun _ => na) G.gd (by omega) (fun b o z => z) (fun h' u tk hk => ⟨.str x.shown, H, I.kept hk, ⟨_, rfl⟩, q⟩) h2
        cases ra with
        | none => exact PySem.P.repr_of_none ⟨.str _, H, I.tok _, ⟨_, rfl⟩, q⟩
        | bool b => exact PySem.P.repr_of_bool ⟨.str _, H, I.tok _, ⟨_, rfl⟩, q⟩
        | int i t => exact PySem.P.repr_of_int (by simpa [PyData.showable] using h1) ⟨.str _, H, I.tok _, ⟨_, rfl⟩, q⟩
        | str y t => exact PySem.P.repr_of_str ⟨.str _, H, I.tok _, ⟨_, rfl⟩, q⟩
        | list a1 a2 a3 a4 => exact big _ (.list a1 a2 a3 a4)
        | tuple a1 a2 a3 a4 => exact big _ (.tuple a1 a2 a3 a4)
        | dict a1 a2 a3 a4 a5 => exact big _ (.dict a1 a2 a3 a4 a5)
      · exact h.elim
    · exact h.elim
  · exact h.elim
theorem rpAll_ints {N : Nm} {H : Hp} {α : List Addr} : ∀ ns : List Int, RpAll N H α (ns.map V.int) (ns.map D.i)
  | [] => .nil
  | n :: ns => .cons (.p (.int n)) (rpAll_ints ns)
theorem cr_srt (G : Good X) : CallR X (.builtin "sorted") (dN (nm X fd) E (opBn m .srt)) := by
  refine CallR.imp (cr_fz G.sys cr_sortedI) fun xs H Q ⟨S, α, ds, ok, r, h⟩ => ?_
  unfold opBn at h
  split at h <;> first | (rename_i e; cases e) | skip
  · obtain ⟨v, rfl, rv⟩ := rp1 r
    split at h
    · rename_i ns e
      obtain ⟨xs, e1, e2⟩ := Option.bind_eq_some_iff.mp e
      obtain ⟨a, vs, rfl, h1, r1⟩ := rv.lst_inv ok e1
      refine ⟨a, ns, rfl, by rw [← intsOf_rp e2 r1]; exact h1, fun ns' p pm pw hp => ?_⟩
      rw [sortI_uniq pm pw]
      exact newL ok (rpAll_ints _) h p hp
    · exact h.elim
  · exact h.elim
theorem cr_bn (G : Good X) (f : Bn) : CallR X f.val (dN (nm X fd) E (opBn m f)) := by
  cases f with
  | len => exact cr_len
  | int => exact cr_int
  | abs => exact cr_abs
  | mx => exact cr_mx G
  | mn => exact cr_mn G
  | tup => exact cr_tup
  | lst => exact cr_lst G
  | sum => exact cr_sumD G
  | all => exact cr_allD G
  | any => exact cr_anyD G
  | repr => exact cr_repr G
  | str => exact cr_str
  | bool => exact cr_bool
  | srt => exact cr_srt G
end
end Dl

set_option linter.all false
set_option maxRecDepth 100000
set_option maxHeartbeats 4000000
/-! Dl14: calls of built-in functions, isinstance, slices, methods. -/
namespace Dl
open PySem PySem.Spec PyProof.Rows L2
section
open PySem.Spec PyProof.Rows HT
section
variable {prog : Program} {w : World} {A : Around} {E : Value → Shared → Prop} {s : Shared}
theorem adjust_rev (n : Nat) : Builtin.Slice.sliceAdjust none none (-1) (n : Int) = ((n : Int) - 1, -1) := by
  unfold Builtin.Slice.sliceAdjust
  simp
theorem places_rev (n : Nat) : Builtin.Slice.slicePlaces ((n : Int) - 1) (-1) (-1) = n := by
  unfold Builtin.Slice.slicePlaces
  simp
  omega
theorem pick_rev (xs : Array Value) : ((List.range xs.size).filterMap fun (m : Nat) => xs[((xs.size : Int) - 1 + (m : Int) * (-1)).toNat]?).toArray = xs.toList.reverse.toArray := by
  have e : (List.range xs.size).filterMap (fun (m : Nat) => xs[((xs.size : Int) - 1 + (m : Int) * (-1)).toNat]?) = ((List.range xs.size).map fun k => xs.size - 1 - k).filterMap (xs[·]?) := by
    rw [List.filterMap_map]
    have cg : ∀ l : List Nat, (∀ m ∈ l, m < xs.size) → l.filterMap (fun (m : Nat) => xs[((xs.size : Int) - 1 + (m : Int) * (-1)).toNat]?) = l.filterMap ((xs[·]?) ∘ fun k => xs.size - 1 - k) := by
      intro l
      induction l with
      | nil => intro _; rfl
      | cons m l ih =>
        intro h
        have hm := h m (by simp)
        have e : ((xs.size : Int) - 1 + (m : Int) * (-1)).toNat = xs.size - 1 - m := by omega
        simp only [List.filterMap_cons, ih fun k hk => h k (by simp [hk]), Function.comp, e]
    exact cg _ fun m hm => List.mem_range.mp hm
  rw [e, PySem.W.krv_range, List.filterMap_reverse, PySem.W.krv_all]
theorem applied_rev {sl : Addr} {vl vu vs : Value} {n : Nat} {Q : Int × Int × Nat → Shared → Prop} (hs : s.heap.IsSliceOf sl vl vu vs) (pl : IsPart vl none) (pu : IsPart vu none) (pk : IsPart vs (some (-1)))
    (h : Q ((n : Int) - 1, -1, n) s) : wpAny (model prog w) A (Builtin.Slice.sliceApplied (.ref sl) (pure (n : Int))) Q E s := by
  obtain ⟨os, hos, hcs, hds⟩ := id hs
  unfold Builtin.Slice.sliceApplied Builtin.Slice.sliceFields
  refine wpAny_bind (wpAny_bind (wpAny_field hos hds (x := vl) rfl (wpAny_bind (wpAny_field hos hds (x := vu) rfl (wpAny_bind (wpAny_field hos hds (x := vs) rfl (wpAny_pure ?_)))))))
  refine wpAny_bind (slicePart_ pk ?_)
  show wpAny _ _ (if ((-1 : Int) == 0) = true then _ else _) _ _ s
  rw [if_neg (by decide)]
  refine wpAny_bind (slicePart_ pl (wpAny_bind (slicePart_ pu (wpAny_bind (wpAny_pure ?_)))))
  show wpAny _ _ (match Builtin.Slice.sliceAdjust none none (-1) (n : Int) with | (lo, hi) => pure (lo, (-1 : Int), Builtin.Slice.slicePlaces lo hi (-1))) _ _ s
  rw [adjust_rev n]
  show wpAny _ _ (pure ((n : Int) - 1, (-1 : Int), Builtin.Slice.slicePlaces ((n : Int) - 1) (-1) (-1))) _ _ s
  rw [places_rev]
  exact wpAny_pure h
theorem getItem_tuple_rev {t sl : Addr} {items : Array Value} {vl vu vs : Value} {Q : Value → Shared → Prop} (ht : IsTup s.heap t items) (hs : s.heap.IsSliceOf sl vl vu vs) (pl : IsPart vl none) (pu : IsPart vu none) (pk : IsPart vs (some (-1)))
    (h : Q (.ref s.heap.objs.size) { s with heap := s.heap.push { cls := .type "tuple", data := .seq items.toList.reverse.toArray } })
    (hsz : items.size ≤ sizeLine) : wpAny (model prog w) A (getItem (.ref t) (.ref sl)) Q E s := by
  have htake : sizeOk (.seq items.toList.reverse.toArray) := by
    show items.toList.reverse.toArray.size ≤ sizeLine
    simpa using hsz
  obtain ⟨os, hos, hcs, hds⟩ := id hs
  have hTs : s.TypeIs (.ref sl) "slice" := ⟨os, hos, hcs⟩
  unfold getItem
  try with_reducible refine wpAny_holding ?_
  first | refine wpAny_bind (wpAny_pure ?_) | skip
  refine wpAny_bind (wpAny_sequenceKey ht.typeIs (by decide) ?_)
  refine wpAny_bind (wpAny_callSpecial?_slot (name := Str.ofString "__getitem__") ht.typeIs PyProof.Rows.slot_tuple_getitem
    (wpAny_call_entry PyProof.Rows.slot_tuple_getitem ht.typeIs entry_tuple_getitem ?_ (args_tuple_getitem _ _)))
  show wpAny _ _ (Builtin.Tuple.tupleItemsOf (.ref t) >>= _) _ _ s
  refine wpAny_bind (tupleItemsOf_ ht ?_)
  refine wpAny_bind (wpAny_typeOf hTs ?_)
  rw [if_pos (by decide)]
  refine wpAny_bind (applied_rev hs pl pu pk ?_)
  have hno : ¬ (((items.size : Int) - 1 == 0 && (-1 : Int) == 1 && items.size == items.size) = true) := by simp
  show wpAny _ _ (if ((items.size : Int) - 1 == 0 && (-1 : Int) == 1 && items.size == items.size) = true then _ else _) _ _ s
  rw [if_neg hno, pick_rev]
  first
    | exact wpAny_bind (m := Builtin.Tuple.tupleExact _) (wpAny_newObj_type (wpAny_pure ⟨_, rfl, wpAny_pure h⟩) htake)
    | exact wpAny_bind (m := Builtin.Tuple.tupleExact _) (wpAny_newObj_type (wpAny_bind (wpAny_pure (wpAny_pure ⟨_, rfl, wpAny_pure h⟩))) htake)
    | exact wpAny_bind (wpAny_bind (m := Builtin.Tuple.tupleExact _) (wpAny_newObj_type (wpAny_pure (wpAny_pure ⟨_, rfl, wpAny_pure h⟩)) htake))
    | exact wpAny_bind (wpAny_bind (m := Builtin.Tuple.tupleExact _) (wpAny_newObj_type (wpAny_pure ⟨_, rfl, wpAny_pure h⟩) htake))
end
/-- xs[::-1] of a list, of a tuple -/
def tRev2 (K : PySem.W.Frag) (te : TE) : TE := fun σ H Q => te σ H fun x H1 => (∃ a xs, x = .ref a ∧ SqL K H1 a xs ∧ ∀ p, H1 p = none → Q (.ref p) (upd H1 p (.lst xs.reverse))) ∨
  ∃ a xs, x = .ref a ∧ SqT K H1 a xs ∧ ∀ p, H1 p = none → Q (.ref p) (upd H1 p (.tup xs.reverse))
theorem pe_rev2 {X : Cx} {e : Expr} {te : TE} {k : Nat} {p1 p2 p3 pos : Pos} (he : PE X e te) : PE X (.Subscript e (.Slice none none (some (.UnaryOp .USub (.Constant (.int 1) k p1) p2)) p3) pos) (tRev2 X.K te) := by
  refine ⟨fun pins s σ H Q I h => ?_⟩
  refine Subscript_ (thn (he.run pins s σ H _ I h) fun v s1 ⟨x, H1, I1, r1, q1⟩ => ?_)
  have hst : PO X (some (.UnaryOp .USub (.Constant (.int 1) k p1) p2)) (tPart (tUn (rU fun i => .int (-i)) (tC (.int 1)))) := po_some (pe_un un_neg pe_int)
  refine wpAny_Slice (thn (po_none.run pins s1 σ H1 (fun o H2 => o = none ∧ H2 = H1) I1 ⟨rfl, rfl⟩) fun vl s2 ⟨l, H2, I2, pl, el, e2⟩ => ?_)
  subst el e2
  refine thn (po_none.run pins s2 σ H2 (fun o H3 => o = none ∧ H3 = H2) I2 ⟨rfl, rfl⟩) fun vu s3 ⟨u, H3, I3, pu, eu, e3⟩ => ?_
  subst eu e3
  refine thn (hst.run pins s3 σ H3 (fun o H4 => o = some (-1) ∧ H4 = H3) I3 ⟨1, rfl, -1, rfl, rfl, rfl⟩) fun vs s4 ⟨o, H4, I4, ps, eo, e4⟩ => ?_
  subst eo e4
  have I5 : Inv X pins σ H4 { s4 with heap := s4.heap.push { cls := .type "slice", data := .fields #[vl, vu, vs] } } := I4.kept (t' := s4.toks) fun b ob q => Heap.get?_push_of_some _ q
  rcases q1 with ⟨a, xs, ex, hx, q⟩ | ⟨a, xs, ex, hx, q⟩
  · subst ex
    cases r1
    obtain ⟨its, r, ht, hz⟩ := I5.list hx
    have hlen := r.length
    show wpAny (model X.prog X.w) X.A (subscriptTail e (.Slice none none (some (.UnaryOp .USub (.Constant (.int 1) k p1) p2)) p3) (.ref a) (.ref s4.heap.objs.size)) (EP X pins σ Q) X.xe { s4 with heap := s4.heap.push { cls := .type "slice", data := .fields #[vl, vu, vs] } }
    refine tail_any (ops := [.ref a, .ref s4.heap.objs.size]) ht.isList.typeIs (PySem.slot_list_getitem.lookup) ?_ (by with_unfolding_all rfl)
    refine wpAny_getItem_list_slice ht.isList (Heap.IsSliceOf.new _ vl vu vs) pl pu ps (by decide) ?_ (by rw [List.size_toArray]; omega)
    rw [PySem.W.krv_pick]
    refine ⟨.ref _, _, I5.laid (t' := s4.toks) (o := .lst xs.reverse) (fun b ob q => Heap.get?_push_of_some _ q) (Nat.le_refl _) ?_, rfl, q _ (I5.hok.fresh (Nat.le_refl _))⟩
    exact ⟨by rw [List.length_reverse]; exact hz, _, 0, r.reverse, Heap.get?_push_size _ rfl⟩
  · subst ex
    cases r1
    obtain ⟨its, r, ht, hz⟩ := I5.tuple hx
    have hlen := r.length
    show wpAny (model X.prog X.w) X.A (subscriptTail e (.Slice none none (some (.UnaryOp .USub (.Constant (.int 1) k p1) p2)) p3) (.ref a) (.ref s4.heap.objs.size)) (EP X pins σ Q) X.xe { s4 with heap := s4.heap.push { cls := .type "slice", data := .fields #[vl, vu, vs] } }
    refine tail_any (ops := [.ref a, .ref s4.heap.objs.size]) ht.typeIs (PyProof.Rows.slot_tuple_getitem.lookup) ?_ (by with_unfolding_all rfl)
    refine getItem_tuple_rev ht (Heap.IsSliceOf.new _ vl vu vs) pl pu ps ?_ (by rw [List.size_toArray]; omega)
    refine ⟨.ref _, _, I5.laid (t' := s4.toks) (o := .tup xs.reverse) (fun b ob q => Heap.get?_push_of_some _ q) (Nat.le_refl _) ?_, rfl, q _ (I5.hok.fresh (Nat.le_refl _))⟩
    exact ⟨by rw [List.length_reverse]; exact hz, _, r.reverse, IsTup.new _ _⟩
end
section
variable {X : Cx} {fd : FdT} {E : XK} {e a b : Expr} {es : List Expr} {pos p apos : Pos} {Fe Fa Fb : Slots → Sto → Res D} {Fs : Slots → Sto → Res (List D)}
theorem bn_boot (f : Bn) : bootBuiltins f.nm = some f.val := by cases f <;> decide +kernel
theorem bn_ne (f : Bn) : f.nm ≠ "__name__" := by cases f <;> decide +kernel
theorem bn_db (f : Bn) : (f.nm == ("__debug__" : Str)) = false := by cases f <;> decide +kernel
abbrev fBn (m : Bool) (f : Bn) (Fs : Slots → Sto → Res (List D)) : Slots → Sto → Res D := fun ρ S => (Fs ρ S).bind (opBn m f)
theorem dv_bn (G : Good X) {m : Bool} (f : Bn) {x : Str} (ex : x = f.nm) (hg : Gl X x) (hm : X.mg x = none) (ha : PA X (e :: es) (dA (nm X fd) E Fs)) (hn : (e :: es).all nsE = true) :
    PE X (.Call (.Name x p) (e :: es) [] pos) (dE (nm X fd) E (fBn m f Fs)) := by
  subst ex
  simp only [List.all_cons, Bool.and_eq_true] at hn
  have he : starEach (e :: es) X.env = (false, eval e X.env) :: starEach es X.env := starEach_ns hn.1
  have hpl : (backTo pos (starEach es X.env)).any (·.1) = false := starEach_all hn.2
  have i : ∀ σ H Q, dE (nm X fd) E (fBn m f Fs) σ H Q → tCB (dN (nm X fd) E (opBn m f)) (dA (nm X fd) E Fs) σ H Q := fun σ H Q h => dE_args h
  have big : ∀ u, f.val = u → (∃ id, u = .builtin id) ∨ (∃ T, u = .type T) → PE X (.Call (.Name f.nm p) (e :: es) [] pos) (dE (nm X fd) E (fBn m f Fs)) := fun u eu z => by
    rcases z with ⟨id, z⟩ | ⟨T, z⟩
    · exact PE.imp (pe_callB (id := id) (by rw [← z, ← eu]; exact cr_bn G f) hg hm (by rw [← z, ← eu]; exact bn_boot f) ha (bn_ne f) (bn_db f) he hpl) i
    · exact PE.imp (pe_callTy (T := T) (by rw [← z, ← eu]; exact cr_bn G f) hg hm (by rw [← z, ← eu]; exact bn_boot f) ha (bn_ne f) (bn_db f) he hpl) i
  refine big f.val rfl ?_
  cases f <;> first | exact .inl ⟨_, rfl⟩ | exact .inr ⟨_, rfl⟩
/-! ### isinstance -/
theorem ty_boot (T : Ty) (h : T ≠ .non) : bootBuiltins T.nm = some (.type T.nm) := by cases T <;> first | exact absurd rfl h | decide +kernel
theorem ty_ne (T : Ty) : (T.nm : Str) ≠ "__name__" := by cases T <;> decide +kernel
theorem ty_db (T : Ty) : ((T.nm : Str) == ("__debug__" : Str)) = false := by cases T <;> decide +kernel
def opIsi (T : Ty) (d : D) (S : Sto) : Res D := match tyD d S with
  | some t => .ok (.b (t.sub T)) S
  | none => .st
abbrev fIsi (T : Ty) (Fe : Slots → Sto → Res D) : Slots → Sto → Res D := fun ρ S => (Fe ρ S).bind (opIsi T)
theorem call_isiD (fd : FdT) (E : XK) (T : Ty) (hT : T ≠ .non) : CallR X (.builtin "isinstance") (fun xs H Q => ∃ S α d v, xs = [v, .ty T.nm] ∧ StoOk (nm X fd) H α S ∧ Rp (nm X fd) H α v d ∧ dRes (nm X fd) E α S H (opIsi T d S) Q) := by
  intro pins s σ H xs us Q I r ⟨S, α, d, v, ex, ok, rv, h⟩
  subst ex
  obtain ⟨u1, u2, rfl, r1, r2⟩ := vals2 r
  cases (show u2 = Value.type T.nm from r2)
  unfold opIsi at h
  split at h
  · rename_i t e
    obtain ⟨P, Z, p, hx⟩ := kit_d I ok r1 rv e
    exact PySem.W.kia_one Z I.kIn p (kit_ty (kit_tab t T hT)) hx fun tk => ⟨.bl _, H, I.tok tk, rfl, now ok h (.p (.bl _))⟩
  · exact h.elim
theorem dv_isi {T : Ty} (hT : T ≠ .non) {x y : Str} {py : Pos} (ex : x = "isinstance") (ey : y = T.nm) (hg : Gl X x) (hm : X.mg x = none) (hg2 : Gl X y) (hm2 : X.mg y = none) (he : PE X e (dE (nm X fd) E Fe)) (hn : nsE e = true) :
    PE X (.Call (.Name x p) [e, .Name y py] [] pos) (dE (nm X fd) E (fIsi T Fe)) := by
  subst ex ey
  have hy : PE X (.Name T.nm py) (tC (.ty T.nm)) := pe_bltn hg2 hm2 (ty_boot T hT) rfl (ty_ne T) (ty_db T)
  refine PE.imp (pe_callB (call_isiD fd E T hT) hg hm (by decide +kernel) (pa_cons he (pa_cons hy pa_nil) (starEach_ns hn)) (by decide +kernel) (by decide +kernel) (starEach_ns hn) (by rfl)) ?_
  intro σ H Q ⟨ρ, S, α, r, ok, h⟩
  refine ⟨ρ, S, α, r, ok, ?_⟩
  simp only [fIsi] at h
  cases q : Fe ρ S with
  | ok d S1 =>
    rw [q] at h
    exact fun v H' α' st ok' rv => ⟨S1, α', d, v, rfl, ok', rv, dRes.shift ok st h⟩
  | ex c e' S' => rw [q] at h; exact h
  | st => rw [q] at h; exact h
/-! ### slices -/
def part (F : Option (Slots → Sto → Res D)) (ρ : Slots) (S : Sto) : Res (Option Int) := match F with
  | none => .ok none S
  | some F => (F ρ S).bind fun d S1 => match d with
    | .p (.int i) => .ok (some i) S1
    | _ => .st
def dResO (N : Nm) (E : XK) (α : List Addr) (S : Sto) (H : Hp) (r : Res (Option Int)) (Q : Option Int → Hp → Prop) : Prop := match r with
  | .ok d S' => ∀ H' α', Stp α S H α' S' H' → StoOk N H' α' S' → Q d H'
  | .ex c e S' => ∀ cls dx H' α', Stp α S H α' S' H' → StoOk N H' α' S' → XOk N H' α' cls dx c e → E cls dx H'
  | .st => False
def dO (N : Nm) (E : XK) (F : Slots → Sto → Res (Option Int)) : TO := fun σ H Q => ∃ ρ S α, Rho N H α σ ρ ∧ StoOk N H α S ∧ dResO N E α S H (F ρ S) Q
theorem do_none : PO X none (dO (nm X fd) E (part none)) := by
  refine ⟨fun pins s σ H Q I ⟨ρ, S, α, r, ok, h⟩ => po_none.run pins s σ H Q I ?_⟩
  exact h H α .refl ok
theorem do_some (he : PE X e (dE (nm X fd) E Fe)) : PO X (some e) (dO (nm X fd) E (part (some Fe))) := by
  refine ⟨fun pins s σ H Q I ⟨ρ, S, α, r, ok, h⟩ => (po_some he).run pins s σ H Q I ⟨ρ, S, α, r, ok, ?_⟩⟩
  simp only [part] at h
  cases q : Fe ρ S with
  | ok d S1 =>
    rw [q] at h
    intro v H' α' st ok' rv
    simp only [bind_ok] at h
    split at h
    · exact ⟨_, rv.int_inv, h H' α' st ok'⟩
    · exact h.elim
  | ex c e' S' => rw [q] at h; exact h
  | st => rw [q] at h; exact h
abbrev fSli (m : Bool) (Fa : Slots → Sto → Res D) (lo hi : Option (Slots → Sto → Res D)) : Slots → Sto → Res D :=
  fun ρ S => (Fa ρ S).bind fun a S1 => (part lo ρ S1).bind fun l S2 => (part hi ρ S2).bind fun u S3 => opSli m a l u S3
theorem dResO.shift {N : Nm} {E : XK} {α α1 : List Addr} {S S1 : Sto} {H H1 : Hp} (ok : StoOk N H α S) (a : Stp α S H α1 S1 H1) {r : Res (Option Int)} {Q : Option Int → Hp → Prop} (h : dResO N E α S H r Q) : dResO N E α1 S1 H1 r Q := by
  cases r with
  | ok d S' => exact fun H' α' st o => h H' α' (a.trans ok st) o
  | ex c e S' => exact fun cls dx H' α' st o r => h cls dx H' α' (a.trans ok st) o r
  | st => exact h
theorem dv_sli (hs : SysIn X) {m : Bool} {lo hi : Option Expr} {Fl Fh : Option (Slots → Sto → Res D)} {p2 : Pos} (ha : PE X a (dE (nm X fd) E Fa)) (hl : PO X lo (dO (nm X fd) E (part Fl))) (hh : PO X hi (dO (nm X fd) E (part Fh))) :
    PE X (.Subscript a (.Slice lo hi none p2) pos) (dE (nm X fd) E (fSli m Fa Fl Fh)) := by
  refine PE.imp (pe_fz hs (pe_slice (slr_sli (fd := fd) (E := E) m) ha hl hh)) fun σ H Q ⟨ρ, S, α, r, ok, h⟩ => ⟨ρ, S, α, r, ok, ?_⟩
  simp only [fSli] at h
  cases q : Fa ρ S with
  | ex c e' S' => rw [q] at h; exact h
  | st => rw [q] at h; exact h
  | ok d S1 =>
    rw [q] at h
    intro v H1 α1 st1 ok1 rv
    refine ⟨ρ, S1, α1, r.step ok st1, ok1, ?_⟩
    have h := dRes.shift ok st1 h
    simp only [bind_ok] at h
    cases q2 : part Fl ρ S1 with
    | ex c e' S' => rw [q2] at h; exact h
    | st => rw [q2] at h; exact h
    | ok l S2 =>
      rw [q2] at h
      intro H2 α2 st2 ok2
      refine ⟨ρ, S2, α2, (r.step ok st1).step ok1 st2, ok2, ?_⟩
      have h := dRes.shift ok1 st2 h
      simp only [bind_ok] at h
      cases q3 : part Fh ρ S2 with
      | ex c e' S' => rw [q3] at h; exact h
      | st => rw [q3] at h; exact h
      | ok u S3 =>
        rw [q3] at h
        intro H3 α3 st3 ok3
        have h := dRes.shift ok2 st3 h
        exact ⟨S3, α3, d, ok3, st3.rp ok2 (st2.rp ok1 rv), Q, h, rfl⟩
/-! ### all items, turned -/
def opRev (m : Bool) (d : D) (S : Sto) : Res D := match tupOf d, lstOf d S with
  | some xs, _ => .ok (mkT xs.reverse) S
  | none, some xs => mkL m xs.reverse S
  | none, none => .st
abbrev fRev (m : Bool) (Fa : Slots → Sto → Res D) : Slots → Sto → Res D := fun ρ S => (Fa ρ S).bind (opRev m)
theorem dv_rev (hs : SysIn X) {m : Bool} {k : Nat} {p1 p2 p3 : Pos} (ha : PE X a (dE (nm X fd) E Fa)) : PE X (.Subscript a (.Slice none none (some (.UnaryOp .USub (.Constant (.int 1) k p1) p2)) p3) pos) (dE (nm X fd) E (fRev m Fa)) := by
  refine PE.imp (pe_fz hs (pe_rev2 ha)) fun σ H Q ⟨ρ, S, α, r, ok, h⟩ => ⟨ρ, S, α, r, ok, ?_⟩
  simp only [fRev] at h
  cases q : Fa ρ S with
  | ex c e' S' => rw [q] at h; exact h
  | st => rw [q] at h; exact h
  | ok d S1 =>
    rw [q] at h
    intro v H1 α1 st1 ok1 rv
    have h := dRes.shift ok st1 h
    simp only [bind_ok, opRev] at h
    split at h
    · rename_i xs e1
      obtain ⟨p, vs, rfl, h1, r1⟩ := rv.tup_inv e1
      exact .inr ⟨p, vs, rfl, h1, fun q hq => .inl (newT ok1 r1.reverse h q hq)⟩
    · rename_i xs e1
      obtain ⟨p, vs, rfl, h1, r1⟩ := rv.lst_inv ok1 e1
      exact .inl ⟨p, vs, rfl, h1, newL ok1 r1.reverse h⟩
    · exact h.elim
/-! ### a field -/
abbrev fFld (f : Str) (Fa : Slots → Sto → Res D) : Slots → Sto → Res D := fun ρ S => (Fa ρ S).bind (opFld f)
def baseE : Expr → Bool
  | .Call (.Name _ _) [] [] _ => false
  | _ => true
theorem base_of {o : Expr} {f : Str} {env : Env} (h : baseE o = true) : attributeBase o f env (eval o env) = eval o env := by
  unfold baseE at h
  split at h
  · cases h
  · rename_i h2
    unfold attributeBase
    split
    · rename_i q
      exact absurd rfl (h2 _ _ _)
    · rfl
theorem lookup_zipD {N : Nm} {H : Hp} {α : List Addr} {f : Str} {d : D} : ∀ {ks : List Str} {vs : List V} {xs : List D}, RpAll N H α vs xs → List.lookup f (ks.zip xs) = some d → ks.length = vs.length → f ∈ ks ∧ ∃ v, (ks.zip vs).lookup f = some v ∧ Rp N H α v d
  | [], vs, xs, r, e, hl => by simp at e
  | k :: ks, _, _, .nil, e, hl => by simp at e
  | k :: ks, _, _, .cons (v := v) (d := x) r1 r2, e, hl => by
    simp only [List.zip_cons_cons, List.lookup_cons] at e ⊢
    by_cases q : f = k
    · subst q
      simp only [beq_self_eq_true] at e ⊢
      cases e
      exact ⟨by simp, v, rfl, r1⟩
    · have : (f == k) = false := by simpa using q
      simp only [this] at e ⊢
      obtain ⟨m, w, e2, r3⟩ := lookup_zipD r2 e (by simpa using hl)
      exact ⟨by simp [m], w, e2, r3⟩
theorem dv_fld {f : Str} (ha : PE X a (dE (nm X fd) E Fa)) (hb : baseE a = true) : PE X (.Attribute a f pos) (dE (nm X fd) E (fFld f Fa)) := by
  refine PE.imp (pe_fld ha (base_of hb)) fun σ H Q ⟨ρ, S, α, r, ok, h⟩ => ⟨ρ, S, α, r, ok, ?_⟩
  simp only [fFld] at h
  cases q : Fa ρ S with
  | ex c e' S' => rw [q] at h; exact h
  | st => rw [q] at h; exact h
  | ok d S1 =>
    rw [q] at h
    intro v H1 α1 st1 ok1 rv
    have h := dRes.shift ok st1 h
    simp only [bind_ok, opFld] at h
    split at h
    · split at h
      · rename_i C fs e1
        split at h
        · rename_i d e2
          cases rv with
          | @loc p _ hl =>
            obtain ⟨Ca, dx, ks, vs, xs, h1, h2, h3, h4, h5, h6, h7⟩ := ok1.cell _ _ _ hl e1
            subst h3
            obtain ⟨mem, w, e3, rw'⟩ := lookup_zipD h5 e2 h4
            exact ⟨p, Ca, dx, _, w, rfl, h2, h6, h7 f mem, e3, now ok1 h rw'⟩
        · exact h.elim
      · exact h.elim
    · exact h.elim
end
end Dl

set_option linter.all false
set_option maxRecDepth 100000
set_option maxHeartbeats 4000000
/-! Dl15: zip and enumerate of lists and tuples of any kind. -/
namespace Dl
open PySem PySem.Spec PyProof.Rows L2
/-- a list or a tuple, by its place -/
inductive Sk where
  | l (a : Addr)
  | t (a : Addr)
namespace Sk
def pl : Sk → Addr
  | .l a => a
  | .t a => a
def sq (K : PySem.W.Frag) (H : Hp) : Sk → List V → Prop
  | .l a, xs => SqL K H a xs
  | .t a, xs => SqT K H a xs
def itr (p : Addr) (i : Nat) (h : Heap) : Sk → Prop
  | .l a => h.IsListIter p a i
  | .t a => h.IsTupleIter p a i
def has (items : Array Value) (h : Heap) : Sk → Prop
  | .l a => h.IsList a items
  | .t a => h.IsTuple a items
def obj : Sk → Obj
  | .l a => { cls := .type "list_iterator", data := .fields #[.ref a, .int 0 0] }
  | .t a => { cls := .type "tuple_iterator", data := .fields #[.ref a, .int 0 0] }
section
variable {X : Cx} {pins : List (Addr × Obj)} {σ : L2.St} {H : Hp} {s : Shared}
theorem of {k : Sk} {xs : List V} (I : Inv X pins σ H s) (h : k.sq X.K H xs) : ∃ its : List Value, Vals xs its ∧ k.has its.toArray s.heap ∧ k.pl < s.heap.objs.size := by
  cases k with
  | l a =>
    obtain ⟨its, r, p, _⟩ := I.list h
    exact ⟨its, r, p.isList, p.lt⟩
  | t a =>
    obtain ⟨its, r, p, _⟩ := I.tuple h
    exact ⟨its, r, p, p.lt⟩
theorem inj {k : Sk} {xs ys : List V} (I : Inv X pins σ H s) (h : k.sq X.K H xs) (g : k.sq X.K H ys) : xs = ys := by
  cases k with
  | l a => exact I.list_inj h g
  | t a => exact I.tuple_inj h g
theorem itr_keep {k : Sk} {p : Addr} {i : Nat} {h h' : Heap} (q : k.itr p i h) (e : ∀ o, h.get? p = some o → h'.get? p = some o) : k.itr p i h' := by
  cases k with
  | l a => exact q.at e
  | t a => exact q.at e
theorem itr_obj {k : Sk} {p : Addr} {i : Nat} {h : Heap} (q : k.itr p i h) : ∃ o, h.get? p = some o ∧ ∀ v, o.data ≠ .cell v := by
  cases k with
  | l a => obtain ⟨o, e, _, d⟩ := q; exact ⟨o, e, fun v z => by rw [d] at z; cases z⟩
  | t a => obtain ⟨o, e, _, d⟩ := q; exact ⟨o, e, fun v z => by rw [d] at z; cases z⟩
theorem itr_new {k : Sk} {p : Addr} {h : Heap} (q : h.get? p = some k.obj) : k.itr p 0 h := by
  cases k with
  | l a => exact ⟨_, q, rfl, rfl⟩
  | t a => exact ⟨_, q, rfl, rfl⟩
theorem begins (k : Sk) (items : Array Value) : Begins (.ref k.pl) k.obj (k.has items) := by
  cases k with
  | l a => exact begins_list a items
  | t a => exact begins_tuple a items
theorem draws {P : Program} {w : World} {A : Around} (hh : A.handled = none) (k : Sk) (p : Addr) (ne : k.pl ≠ p) (items : Array Value) :
    Draws P w A p [p, k.pl] items.size (fun i v => items[i]? = some v) fun i h => k.itr p i h ∧ k.has items h := by
  cases k with
  | l a => exact Draws.list hh p a ne items
  | t a => exact Draws.tuple hh p a ne items
end
end Sk
/-! ### zip -/
def ItZ (K : PySem.W.Frag) (a b : Sk) : It where
  go i H := ∃ (xs ys : List V) (x y : V), (a.sq K H xs ∧ xs[i]? = some x) ∧ b.sq K H ys ∧ ys[i]? = some y
  yld i H v H' := ∃ T x y, v = .ref T ∧ H T = none ∧ H' = upd H T (.tup [x, y]) ∧ (∀ xs, a.sq K H xs → xs[i]? = some x) ∧ ∀ ys, b.sq K H ys → ys[i]? = some y
  stop i H := ∃ (xs ys : List V), a.sq K H xs ∧ b.sq K H ys ∧ i = min xs.length ys.length
theorem turn_zip2 {P : Program} {w : World} {K : PySem.W.Frag} {elts : List Expr} {kk : Nat} {tp : Pos} {a b : Sk} {n : Nat} (la : a.pl < n) (lb : b.pl < n) :
    Turn P w K (.Tuple elts kk tp) (ItZ K a b) [n + 4, n + 2, n + 3, n, n + 1] (n + 4) fun i h =>
      (IsZip h (n + 4) (n + 2) (n + 3) .none ∧ IsTupOf2 h (n + 2) (.ref n) (.ref (n + 1))) ∧ (∃ x y, IsTupOf2 h (n + 3) x y) ∧ a.itr n i h ∧ b.itr (n + 1) i h := by
  have sep := zip_sep2 (N := n) (fp1 := [a.pl]) (fp2 := [b.pl]) (by simpa using la) (by simpa using lb)
  have n1 : a.pl ≠ n := Nat.ne_of_lt la
  have n2 : b.pl ≠ n + 1 := Nat.ne_of_lt (Nat.lt_succ_of_lt lb)
  refine ⟨by simp, ?_, ?_, ?_, ?_, fun A i s Q E st q => wpAny_pyIter_zip st.1.1 q⟩
  · rintro i h ⟨⟨t1, t2⟩, ⟨x, y, t3⟩, t4, t5⟩ c hc
    simp only [List.mem_cons, List.not_mem_nil, or_false] at hc
    rcases hc with rfl | rfl | rfl | rfl | rfl
    · exact ⟨_, t1, fun v z => nomatch z⟩
    · exact ⟨_, t2, fun v z => nomatch z⟩
    · exact ⟨_, t3, fun v z => nomatch z⟩
    · exact Sk.itr_obj t4
    · exact Sk.itr_obj t5
  · rintro i h h' ⟨⟨t1, t2⟩, ⟨x, y, t3⟩, t4, t5⟩ kp
    have kp' : ∀ c, c ∈ [n + 4, n + 2, n + 3, n, n + 1] → ∀ o, h.get? c = some o → h'.get? c = some o := kp
    exact ⟨⟨kp' _ (by simp) _ t1, kp' _ (by simp) _ t2⟩, ⟨x, y, kp' _ (by simp) _ t3⟩, Sk.itr_keep (k := a) t4 (kp' _ (by simp)), Sk.itr_keep (k := b) t5 (kp' _ (by simp))⟩
  · intro X hP hw hK hc i pins s σ H E I hf ⟨⟨t1, t2⟩, ⟨x0, y0, t3⟩, t4, t5⟩ ⟨xs, ys, x, y, ⟨qx, ex⟩, qy, ey⟩
    subst hP hw hK
    obtain ⟨us, rx, hx, _⟩ := Sk.of I qx
    obtain ⟨ws, ry, hy, _⟩ := Sk.of I qy
    have hh : X.A.in1.handled = none := I.ok.hd hc
    obtain ⟨u, eu, ru⟩ := rx.get ex
    obtain ⟨w, ew, rw'⟩ := ry.get ey
    have l1 : i < us.toArray.size := by simpa using (List.getElem?_eq_some_iff.mp eu).1
    have l2 : i < ws.toArray.size := by simpa using (List.getElem?_eq_some_iff.mp ew).1
    refine wpAny_pyNext_zipD2_item sep (a.draws hh n n1 us.toArray) (b.draws hh (n + 1) n2 ws.toArray) t1 t2 t3 ⟨t4, hx⟩ ⟨t5, hy⟩ l1 l2 fun u' w' h1 tk e1 e2 g1 g2 g3 g4 g5 g6 g7 => ?_
    have e1' : us[i]? = some u' := by simpa using e1
    have e2' : ws[i]? = some w' := by simpa using e2
    rw [eu] at e1'
    rw [ew] at e2'
    cases e1'
    cases e2'
    have zl : n + 4 < s.heap.objs.size := Heap.lt_size t1
    refine ⟨_, rfl, wpAny_letOwnedTupleGo_zip (s := { s with heap := h1, toks := tk }) g1 fun h2 z2 sb => ?_⟩
    have newT : h2.get? s.heap.objs.size = some { cls := .type "tuple", data := .seq #[u, w] } := (sb.2 _ (Nat.ne_of_gt zl)).trans g5
    have J : Inv X pins σ (upd H s.heap.objs.size (.tup [x, y])) { s with heap := h2, toks := tk } :=
      I.turnedNew (ch := [n + 4, n + 2, n + 3, n, n + 1]) (fun c o nc q => (sb.2 c fun z => nc (by simp [z])).trans (g7 c o (fun z => nc (by simp [z])) (fun z => nc (by simp [z])) (fun z => nc (by simp [z])) (fun z => nc (by simp [z])) q)) hf (Nat.le_refl _)
        (show ObjOk X.prog X.w _ h2 _ (.tup [x, y]) from ⟨by show 2 ≤ sizeLine; decide, [u, w], .cons ru (.cons rw' .nil), ⟨_, newT, rfl, _, rfl⟩⟩)
    refine ⟨.ref s.heap.objs.size, _, J, rfl, ⟨_, x, y, rfl, I.hok.fresh (Nat.le_refl _), rfl, fun l hl => by rw [Sk.inj I hl qx]; exact ex, fun l hl => by rw [Sk.inj I hl qy]; exact ey⟩, ⟨⟨z2, ?_⟩, ⟨u, w, ?_⟩, ?_, ?_⟩, fun c hm => ?_⟩
    · exact (sb.2 _ sep.TIz).trans (g7 _ _ sep.TIz sep.TITO sep.TIi1 sep.TIi2 t2)
    · exact (sb.2 _ sep.TOz).trans g2
    · exact Sk.itr_keep (k := a) g3.1 fun o q => (sb.2 _ sep.zi1.symm).trans q
    · exact Sk.itr_keep (k := b) g4.1 fun o q => (sb.2 _ sep.zi2.symm).trans q
    · have lt : c < s.heap.objs.size := by
        simp only [List.mem_cons, List.not_mem_nil, or_false] at hm
        have a4 : (n : Nat) + 4 < s.heap.objs.size := zl
        rcases hm with rfl | rfl | rfl | rfl | rfl <;> first | exact a4 | exact Nat.lt_trans (by simp) a4
      rw [upd_ne (Nat.ne_of_lt lt)]
      exact (hf c hm).1
  · intro X hP hw hK hc i pins s σ H E I hf ⟨⟨t1, t2⟩, ⟨x0, y0, t3⟩, t4, t5⟩ ⟨xs, ys, qx, qy, ei⟩
    subst hP hw hK
    obtain ⟨us, rx, hx, _⟩ := Sk.of I qx
    obtain ⟨ws, ry, hy, _⟩ := Sk.of I qy
    have hh : X.A.in1.handled = none := I.ok.hd hc
    have z1 := rx.length
    have z2 := ry.length
    refine wpAny_pyNext_zipD2_end sep (a.draws hh n n1 us.toArray) (b.draws hh (n + 1) n2 ws.toArray) t1 t2 t3 ⟨t4, hx⟩ ⟨t5, hy⟩ (by simp only [List.size_toArray]; omega) (by simp only [List.size_toArray]; omega) (by simp only [List.size_toArray]; omega) fun h1 tk g => ⟨rfl, ?_⟩
    exact I.turnedL (ch := [n + 4, n + 2, n + 3, n, n + 1]) (fun c o nc q => g c o (fun z => nc (by simp [z])) (fun z => nc (by simp [z])) (fun z => nc (by simp [z])) (fun z => nc (by simp [z])) q) hf
section
variable {X : Cx} {pins : List (Addr × Obj)} {σ : L2.St} {H : Hp} {s : Shared} {e e2 : Expr} {ta : TA} {p pos tpos : Pos} {elts : List Expr} {kk : Nat}
theorem pi_zip2 (hg : Gl X "zip") (hm : X.mg "zip" = none) (ha : PA X [e, e2] ta) (n1 : nsE e = true) (n2 : nsE e2 = true) :
    PI X (.Tuple elts kk tpos) (.Call (.Name "zip" p) [e, e2] [] pos) fun σ H R => ta σ H fun vs H1 => ∃ (a b : Sk) (xs ys : List V), vs = [.ref a.pl, .ref b.pl] ∧ a.sq X.K H1 xs ∧ b.sq X.K H1 ys ∧ R (ItZ X.K a b) H1 := by
  refine ⟨fun pins s σ H R I h => ?_⟩
  have hs : starEach [e, e2] X.env = (false, eval e X.env) :: starEach [e2] X.env := starEach_ns n1
  have hpl : (backTo pos (starEach [e2] X.env)).any (·.1) = false := starEach_all (by simp [n2])
  refine Call_ (ld_blt I hg hm PyProof.Rows.boot_zip (PyProof.Rows.callWith_type1 (thn (ha.run pos pins s σ H _ I h) fun us s1 ⟨vs, H1, I1, r1, q1⟩ => ?_) hs hpl))
  obtain ⟨a, b, xs, ys, ex, qx, qy, q⟩ := q1
  subst ex
  obtain ⟨u, w, rfl, r2, r3⟩ := vals2 r1
  cases (show u = Value.ref a.pl from r2)
  cases (show w = Value.ref b.pl from r3)
  obtain ⟨is, _, hx, la⟩ := Sk.of I1 qx
  obtain ⟨js, _, hy, lb⟩ := Sk.of I1 qy
  refine zip_begins2 (a.begins is.toArray) (b.begins js.toArray) hx hy fun h' g1 g2 g3 g4 g5 g6 g7 => wpAny_pyIter_zip g1 ?_
  have I2 : Inv X pins σ H1 { s1 with heap := h' } := I1.kept (t' := s1.toks) g7
  refine ⟨s1.heap.objs.size + 4, _, _, _, H1, rfl, I2, turn_zip2 la lb, ⟨⟨g1, g2⟩, ⟨_, _, g3⟩, Sk.itr_new g4, Sk.itr_new g5⟩, fun c hc => ?_, q⟩
  have le : s1.heap.objs.size ≤ c := by
    simp only [List.mem_cons, List.not_mem_nil, or_false] at hc
    rcases hc with rfl | rfl | rfl | rfl | rfl <;> first | exact Nat.le_add_right _ _ | exact Nat.le_refl _
  exact I1.fpOk le (I1.hok.fresh le)
end
/-! ### enumerate -/
theorem en_new {v : Value} {o : Obj} {Z : Heap → Prop} (B : Begins v o Z) : Meets (Builtin.«enumerate.__new__» ⟨[.type "enumerate", v], []⟩) fun _ R s => Z s.heap ∧
    R (.ok (.ret (.ref (s.heap.push o).objs.size))) { s with heap := (s.heap.push o).push { cls := .type "enumerate", data := .fields #[.none, .bool false, .ref s.heap.objs.size, rawInt 0, .none, .none] } } := by
  refine .of_wp fun prog w A R s h => ?_
  obtain ⟨hp, gs, dr, tk, os⟩ := s
  obtain ⟨hz, h⟩ := h
  have sub := sub_enumerate
  have q1 : ∀ {A' : Around} {E' : Value → Shared → Prop} {Q' : Value → Shared → Prop}, Q' (.ref hp.objs.size) ⟨hp.push o, gs, dr, tk, os⟩ → wpAny (model prog w) A' (pyIter v) Q' E' ⟨hp, gs, dr, tk, os⟩ :=
    fun q => B.iter prog w _ _ ⟨hp, gs, dr, tk, os⟩ _ hz q
  wp_walk using q1
  refine wpAny_stack_any fun st => wpAny_pure ?_
  split
  · rename_i c _ _ _ _ _
    cases (c == Value.type "enumerate") <;> (wp_walk using q1; exact ⟨_, rfl, h⟩)
  · wp_walk using q1
    exact ⟨_, rfl, h⟩
theorem enum_begins1 {prog : Program} {w : World} {A : Around} {E : Value → Shared → Prop} {s : Shared} {v : Value} {o : Obj} {Z : Heap → Prop} {Q : Value → Shared → Prop} (B : Begins v o Z) (hz : Z s.heap)
    (h : ∀ h', IsEnum h' (s.heap.objs.size + 1) s.heap.objs.size ((0 : Nat) : Int) .none → h'.get? s.heap.objs.size = some o → h'.objs.size = s.heap.objs.size + 2 → (∀ b u, s.heap.get? b = some u → h'.get? b = some u) → Q (.ref (s.heap.objs.size + 1)) { s with heap := h' }) :
    wpAny (model prog w) A (call (.type "enumerate") [v]) Q E s := by
  refine callType_new F.called_enumerate (by decide) (F.typeCall_enumerate_1 _) (F.newCall_enumerate_1 _) (fun obj => F.args_object_init_2 obj _) F.entry_enumerate_new (en_new B) ⟨hz, ?_⟩
  have z1 : (s.heap.push o).objs.size = s.heap.objs.size + 1 := by rw [Heap.size_push]
  have at2 := Heap.get?_push_size (s.heap.push o) (o := { cls := .type "enumerate", data := .fields #[.none, .bool false, .ref s.heap.objs.size, rawInt 0, .none, .none] }) rfl
  show _ ∧ _
  rw [z1]
  rw [z1] at at2
  exact ⟨⟨_, at2, rfl⟩, h _ at2 (Heap.get?_push_of_some _ (Heap.get?_push_size _ B.free)) (by rw [Heap.size_push, z1]) fun b u z => Heap.get?_push_of_some _ (Heap.get?_push_of_some _ z)⟩
def ItE (K : PySem.W.Frag) (a : Sk) : It where
  go i H := ∃ (xs : List V) (x : V), a.sq K H xs ∧ xs[i]? = some x
  yld i H v H' := ∃ T x, v = .ref T ∧ H T = none ∧ H' = upd H T (.tup [.int (i : Nat), x]) ∧ ∀ xs, a.sq K H xs → xs[i]? = some x
  stop i H := ∃ xs : List V, a.sq K H xs ∧ i = xs.length
theorem turn_enumK {P : Program} {w : World} {K : PySem.W.Frag} {elts : List Expr} {kk : Nat} {tp : Pos} {a : Sk} {n : Nat} (la : a.pl < n) :
    Turn P w K (.Tuple elts kk tp) (ItE K a) [n + 1, n] (n + 1) fun i h => (∃ old, IsEnum h (n + 1) n (i : Nat) old) ∧ a.itr n i h := by
  have n1 : a.pl ≠ n := Nat.ne_of_lt la
  have n2 : n + 1 ≠ n := Nat.succ_ne_self n
  have n3 : n + 1 ∉ [n, a.pl] := by
    simp only [List.mem_cons, List.not_mem_nil, or_false, not_or]
    exact ⟨n2, fun z => by have : a.pl < n := la; rw [← z] at this; exact absurd this (Nat.not_lt.mpr (Nat.le_succ n))⟩
  refine ⟨by simp, ?_, ?_, ?_, ?_, fun A i s Q E ⟨⟨_, st⟩, _⟩ q => wpAny_pyIter_enum st q⟩
  · rintro i h ⟨⟨old, t1⟩, t2⟩ c hc
    simp only [List.mem_cons, List.not_mem_nil, or_false] at hc
    rcases hc with rfl | rfl
    · exact ⟨_, t1, fun v z => nomatch z⟩
    · exact Sk.itr_obj t2
  · rintro i h h' ⟨⟨old, t1⟩, t2⟩ kp
    have kp' : ∀ c, c ∈ [n + 1, n] → ∀ o, h.get? c = some o → h'.get? c = some o := kp
    exact ⟨⟨old, kp' _ (by simp) _ t1⟩, Sk.itr_keep (k := a) t2 (kp' _ (by simp))⟩
  · intro X hP hw hK hc i pins s σ H E I hf ⟨⟨old, t1⟩, t2⟩ ⟨xs, x, qx, ex⟩
    subst hP hw hK
    obtain ⟨us, rx, hx, _⟩ := Sk.of I qx
    have hh : X.A.in1.handled = none := I.ok.hd hc
    obtain ⟨u, eu, ru⟩ := rx.get ex
    have l1 : i < us.toArray.size := by simpa using (List.getElem?_eq_some_iff.mp eu).1
    refine wpAny_pyNext_enum_itemC (a.draws hh n n1 us.toArray) t1 ⟨t2, hx⟩ l1 n2 n3 fun u' h1 tk e1 g1 g2 g3 g4 g5 => ?_
    have e1' : us[i]? = some u' := by simpa using e1
    rw [eu] at e1'
    cases e1'
    have zl : n + 1 < s.heap.objs.size := Heap.lt_size t1
    refine ⟨_, rfl, wpAny_letOwnedTupleGo_enum (s := { s with heap := h1, toks := tk + 1 }) g1 fun h2 z2 sb => ?_⟩
    have newT : h2.get? s.heap.objs.size = some { cls := .type "tuple", data := .seq #[.int i tk, u] } := (sb.2 _ (Nat.ne_of_gt zl)).trans g3
    have J : Inv X pins σ (upd H s.heap.objs.size (.tup [.int (i : Nat), x])) { s with heap := h2, toks := tk + 1 } :=
      I.turnedNew (ch := [n + 1, n]) (fun c o nc q => (sb.2 c fun z => nc (by simp [z])).trans (g5 c o (fun z => nc (by simp [z])) (fun z => nc (by simp [z])) q)) hf (Nat.le_refl _)
        (show ObjOk X.prog X.w _ h2 _ (.tup [.int (i : Nat), x]) from ⟨by show 2 ≤ sizeLine; decide, [.int i tk, u], .cons ⟨_, rfl⟩ (.cons ru .nil), ⟨_, newT, rfl, _, rfl⟩⟩)
    refine ⟨.ref s.heap.objs.size, _, J, rfl, ⟨_, x, rfl, I.hok.fresh (Nat.le_refl _), rfl, fun l hl => by rw [Sk.inj I hl qx]; exact ex⟩, ⟨⟨u, ?_⟩, ?_⟩, fun c hm => ?_⟩
    · have e2 : ((i + 1 : Nat) : Int) = (i : Int) + 1 := by omega
      rw [e2]
      exact z2
    · exact Sk.itr_keep (k := a) g2.1 fun o q => (sb.2 _ n2.symm).trans q
    · have lt : c < s.heap.objs.size := by
        simp only [List.mem_cons, List.not_mem_nil, or_false] at hm
        rcases hm with rfl | rfl
        · exact zl
        · exact Nat.lt_of_succ_lt zl
      rw [upd_ne (Nat.ne_of_lt lt)]
      exact (hf c hm).1
  · intro X hP hw hK hc i pins s σ H E I hf ⟨⟨old, t1⟩, t2⟩ ⟨xs, qx, ei⟩
    subst hP hw hK
    obtain ⟨us, rx, hx, _⟩ := Sk.of I qx
    have hh : X.A.in1.handled = none := I.ok.hd hc
    have z1 := rx.length
    have e3 : us.toArray.size = i := by simp only [List.size_toArray]; omega
    refine wpAny_pyNext_enum_endD (a.draws hh n n1 us.toArray) t1 (by rw [e3]; exact ⟨t2, hx⟩) fun h1 g => ⟨rfl, ?_⟩
    exact I.turnedL (t' := s.toks) (ch := [n + 1, n]) (fun c o nc q => g c o (fun z => nc (by simp [z])) q) hf
section
variable {X : Cx} {e : Expr} {ta : TA} {p pos tpos : Pos} {elts : List Expr} {kk : Nat}
theorem pi_enumK (hg : Gl X "enumerate") (hm : X.mg "enumerate" = none) (ha : PA X [e] ta) (n1 : nsE e = true) :
    PI X (.Tuple elts kk tpos) (.Call (.Name "enumerate" p) [e] [] pos) fun σ H R => ta σ H fun vs H1 => ∃ (a : Sk) (xs : List V), vs = [.ref a.pl] ∧ a.sq X.K H1 xs ∧ R (ItE X.K a) H1 := by
  refine ⟨fun pins s σ H R I h => ?_⟩
  have hs : starEach [e] X.env = (false, eval e X.env) :: starEach [] X.env := starEach_ns n1
  refine Call_ (ld_blt I hg hm boot_enumerate (PyProof.Rows.callWith_type1 (thn (ha.run pos pins s σ H _ I h) fun us s1 ⟨vs, H1, I1, r1, q1⟩ => ?_) hs rfl))
  obtain ⟨a, xs, ex, qx, q⟩ := q1
  subst ex
  obtain ⟨u, rfl, r2⟩ := vals1 r1
  cases (show u = Value.ref a.pl from r2)
  obtain ⟨is, _, hx, la⟩ := Sk.of I1 qx
  refine enum_begins1 (a.begins is.toArray) hx fun h' g1 g2 g3 g4 => wpAny_pyIter_enum g1 ?_
  have I2 : Inv X pins σ H1 { s1 with heap := h' } := I1.kept (t' := s1.toks) g4
  refine ⟨s1.heap.objs.size + 1, _, _, _, H1, rfl, I2, turn_enumK la, ⟨⟨_, g1⟩, Sk.itr_new g2⟩, fun c hc => ?_, q⟩
  have le : s1.heap.objs.size ≤ c := by
    simp only [List.mem_cons, List.not_mem_nil, or_false] at hc
    rcases hc with rfl | rfl <;> first | exact Nat.le_add_right _ _ | exact Nat.le_refl _
  exact I1.fpOk le (I1.hok.fresh le)
end
end Dl

set_option linter.all false
set_option maxRecDepth 100000
set_option maxHeartbeats 4000000
/-! Dl16: zip, enumerate, methods, dict displays, module constants by plain values. -/
namespace Dl
open PySem PySem.Spec PyProof.Rows L2
def isTxt : D → Bool
  | .p (.str _) => true
  | _ => false
def sqOf (d : D) (S : Sto) : Option Src := if (isTxt d || isLk d S) = true then none else srcOf d S
theorem wat_of {d : D} {S : Sto} {src : Src} (e : sqOf d S = some src) : Wat src.w S := by
  unfold sqOf srcOf at e
  split at e
  · cases e
  · split at e
    · cases e; intro z hz; cases hz
    · cases e; intro z hz; cases hz
    · cases e; intro z hz; cases hz
    · cases e; intro z hz; cases hz
    · split at e
      · rename_i q
        cases e
        intro z hz
        simp only [List.mem_singleton] at hz
        subst hz
        exact q
      · cases e; intro z hz; cases hz
      · cases e
    · cases e
def SkOk (N : Nm) (k : Sk) (src : Src) (α0 : List Addr) (H0 : Hp) : Prop := ∀ α S H, UpL α0 H0 α H → StoOk N H α S → Wat src.w S → ∃ vs, k.sq N.K H vs ∧ RpAll N H α vs src.xs
theorem sk_of {N : Nm} {H : Hp} {α : List Addr} {S : Sto} {v : V} {d : D} {src : Src} (ok : StoOk N H α S) (r : Rp N H α v d) (e : sqOf d S = some src) : ∃ k : Sk, v = .ref k.pl ∧ SkOk N k src α H := by
  unfold sqOf at e
  split at e
  · cases e
  · rename_i nt
    unfold srcOf at e
    split at e
    · cases e
      obtain ⟨a, vs, e2, h1, h2⟩ := r.tup_inv (xs := _) rfl
      exact ⟨.t a, e2, fun α' S' H' u ok' _ => ⟨vs, u.sqT h1, u.rpAll h2⟩⟩
    · cases e
      cases r with
      | p hp =>
        cases hp with
        | @lst a vs ds h1 h2 h3 => exact ⟨.l a, rfl, fun α' S' H' u ok' _ => ⟨vs, (u.fzL h1).sq, u.rpAll (RpAll.ofP h3)⟩⟩
    · cases e
      obtain ⟨a, vs, e2, h1, h2⟩ := r.tup_inv (xs := _) rfl
      exact ⟨.t a, e2, fun α' S' H' u ok' _ => ⟨vs, u.sqT h1, u.rpAll h2⟩⟩
    · exact absurd rfl nt
    · rename_i l
      split at e
      · rename_i xs e3
        cases e
        cases r with
        | @loc a l hl =>
          refine ⟨.l a, rfl, fun α' S' H' u ok' w => ?_⟩
          obtain ⟨vs, h1, h2⟩ := ok'.cell _ _ _ (u.loc _ _ hl) (w (_, xs) (by simp))
          exact ⟨vs, .inl (.inl h1), h2⟩
      · rename_i kvs e3
        exact absurd (by simp [isLk, e3]) nt
      · cases e
    · cases e
theorem wat_app {w1 w2 : List (Nat × List D)} {S : Sto} (h : Wat (w1 ++ w2) S) : Wat w1 S ∧ Wat w2 S := ⟨fun q m => h q (by simp [m]), fun q m => h q (by simp [m])⟩
def zipSrc (a b : Src) : Src := ⟨List.zipWith (fun x y => mkT [x, y]) a.xs b.xs, a.w ++ b.w⟩
def enumSrc (a : Src) : Src := ⟨a.xs.zipIdx.map fun q => mkT [.i (q.2 : Nat), q.1], a.w⟩
section
variable {X : Cx} {fd : FdT} {E : XK} {e e2 : Expr} {p pos tpos apos cpos : Pos} {elts : List Expr} {kk : Nat} {Fs : Slots → Sto → Res (List D)}
theorem itOk_zip {N : Nm} {a b : Sk} {s1 s2 : Src} {α0 : List Addr} {H0 : Hp} (h1 : SkOk N a s1 α0 H0) (h2 : SkOk N b s2 α0 H0) : ItOk N (ItZ N.K a b) (zipSrc s1 s2) α0 H0 := fun α S H u ok w => by
  obtain ⟨w1, w2⟩ := wat_app w
  obtain ⟨vs, q1, r1⟩ := h1 α S H u ok w1
  obtain ⟨ws, q2, r2⟩ := h2 α S H u ok w2
  refine ⟨fun i d ed => ?_, ⟨vs, ws, q1, q2, by simp [zipSrc, r1.length, r2.length]⟩⟩
  simp only [zipSrc, List.getElem?_zipWith'] at ed
  cases ex : s1.xs[i]? with
  | none => rw [ex] at ed; cases ed
  | some x =>
    cases ey : s2.xs[i]? with
    | none => rw [ex, ey] at ed; cases ed
    | some y =>
      rw [ex, ey] at ed
      have ed : mkT [x, y] = d := Option.some.inj ed
      subst ed
      obtain ⟨v, e1, rv⟩ := r1.get ex
      obtain ⟨v2, e3, rv2⟩ := r2.get ey
      refine ⟨⟨vs, ws, v, v2, ⟨q1, e1⟩, q2, e3⟩, fun z H' ⟨T, x', y', ez, hT, eH, p1, p2⟩ => ?_⟩
      subst ez eH
      have e4 := p1 vs q1
      have e5 := p2 ws q2
      rw [e1] at e4
      rw [e3] at e5
      cases e4
      cases e5
      have st : Stp α S H α S (upd H T (.tup [v, v2])) := step_new ok hT
      exact ⟨st, sto_new ok hT, rp_mkT (.inl (.inl upd_same)) (st.rpAll ok (.cons rv (.cons rv2 .nil)))⟩
theorem itOk_enum {N : Nm} {a : Sk} {s1 : Src} {α0 : List Addr} {H0 : Hp} (h1 : SkOk N a s1 α0 H0) : ItOk N (ItE N.K a) (enumSrc s1) α0 H0 := fun α S H u ok w => by
  obtain ⟨vs, q1, r1⟩ := h1 α S H u ok w
  refine ⟨fun i d ed => ?_, ⟨vs, q1, by simp [enumSrc, r1.length]⟩⟩
  simp only [enumSrc, List.getElem?_map, List.getElem?_zipIdx, Option.map_map, Option.map_eq_some_iff] at ed
  obtain ⟨x, ex, ed⟩ := ed
  subst ed
  obtain ⟨v, e1, rv⟩ := r1.get ex
  refine ⟨⟨vs, v, q1, e1⟩, fun z H' ⟨T, x', ez, hT, eH, p1⟩ => ?_⟩
  subst ez eH
  have e4 := p1 vs q1
  rw [e1] at e4
  cases e4
  have st : Stp α S H α S (upd H T (.tup [.int (i : Nat), v])) := step_new ok hT
  refine ⟨st, sto_new ok hT, ?_⟩
  have := rp_mkT (N := N) (α := α) (H := upd H T (.tup [.int (i : Nat), v])) (a := T) (xs := [.i ((0 + i : Nat) : Int), x]) (.inl (.inl upd_same)) (.cons (.p (by rw [Nat.zero_add]; exact .int _)) (st.rpAll ok (.cons rv .nil)))
  exact this
abbrev fZip (Fs : Slots → Sto → Res (List D)) : Slots → Sto → Res Src := fun ρ S => (Fs ρ S).bind fun ds S1 => match ds with
  | [x, y] => match sqOf x S1, sqOf y S1 with
    | some a, some b => .ok (zipSrc a b) S1
    | _, _ => .st
  | _ => .st
theorem di_zip (hg : Gl X "zip") (hm : X.mg "zip" = none) (ha : PA X [e, e2] (dA (nm X fd) E Fs)) (n1 : nsE e = true) (n2 : nsE e2 = true) :
    PI X (.Tuple elts kk tpos) (.Call (.Name "zip" p) [e, e2] [] pos) (dI (nm X fd) E (fZip Fs)) := by
  refine PI.imp (pi_zip2 hg hm ha n1 n2) fun σ H R ⟨ρ, S, α, r, ok, h⟩ => ⟨ρ, S, α, r, ok, ?_⟩
  simp only [fZip] at h
  cases q : Fs ρ S with
  | ex c e' S' => rw [q] at h; exact h
  | st => rw [q] at h; exact h
  | ok d S1 =>
    rw [q] at h
    simp only [bind_ok] at h
    intro v H' α' st ok' rv
    split at h
    · split at h
      · rename_i a b e1 e3
        obtain ⟨v1, v2, rfl, r1, r2⟩ := rp2 rv
        obtain ⟨k1, rfl, g1⟩ := sk_of ok' r1 e1
        obtain ⟨k2, rfl, g2⟩ := sk_of ok' r2 e3
        obtain ⟨vs, q1, _⟩ := g1 _ _ _ .refl ok' (wat_of e1)
        obtain ⟨ws, q2, _⟩ := g2 _ _ _ .refl ok' (wat_of e3)
        exact ⟨k1, k2, vs, ws, rfl, q1, q2, againI st ok' h (itOk_zip g1 g2)⟩
      · exact h.elim
    · exact h.elim
abbrev fEnum (Fa : Slots → Sto → Res D) : Slots → Sto → Res Src := fun ρ S => (Fa ρ S).bind fun d S1 => match sqOf d S1 with
  | some a => .ok (enumSrc a) S1
  | none => .st
theorem di_enum {Fa : Slots → Sto → Res D} (hg : Gl X "enumerate") (hm : X.mg "enumerate" = none) (ha : PE X e (dE (nm X fd) E Fa)) (n1 : nsE e = true) :
    PI X (.Tuple elts kk tpos) (.Call (.Name "enumerate" p) [e] [] pos) (dI (nm X fd) E (fEnum Fa)) := by
  refine PI.imp (pi_enumK hg hm (pa_cons ha pa_nil (starEach_ns n1)) n1) fun σ H R ⟨ρ, S, α, r, ok, h⟩ => ⟨ρ, S, α, r, ok, ?_⟩
  simp only [fEnum] at h
  cases q : Fa ρ S with
  | ex c e' S' => rw [q] at h; exact h
  | st => rw [q] at h; exact h
  | ok d S1 =>
    rw [q] at h
    simp only [bind_ok] at h
    intro v H' α' st ok' rv
    split at h
    · rename_i a e1
      obtain ⟨k1, rfl, g1⟩ := sk_of ok' rv e1
      obtain ⟨vs, q1, _⟩ := g1 _ _ _ .refl ok' (wat_of e1)
      exact ⟨k1, vs, rfl, q1, againI st ok' h (itOk_enum g1)⟩
    · exact h.elim
/-! ### a constant of the module -/
def GlobC (X : Cx) (fd : FdT) (x : Str) (c : PyData) : Prop := ∃ v u, X.mg x = some u ∧ RelV v u ∧ ∀ H, Pd (nm X fd) H v c
theorem dv_glob {x : Str} {c : PyData} (hg : Gl X x) (g : GlobC X fd x c) (hd : (x == ("__debug__" : Str)) = false) : PE X (.Name x pos) (dE (nm X fd) E fun _ S => .ok (.p c) S) := by
  obtain ⟨v, u, h1, h2, h3⟩ := g
  exact PE.imp (pe_glob hg h1 h2 hd) fun σ H Q ⟨ρ, S, α, r, ok, h⟩ => now ok h (.p (h3 H))
end
end Dl

set_option linter.all false
set_option maxRecDepth 100000
set_option maxHeartbeats 4000000
/-! Dl17: methods of built-in types, dict displays. -/
namespace Dl
open PySem PySem.Spec PyProof.Rows L2
inductive Mt where
  | append | extend | pop | popAt | split | join | upper
deriving DecidableEq
def Mt.nm : Mt → Str
  | .append => "append" | .extend => "extend" | .pop => "pop" | .popAt => "pop" | .split => "split" | .join => "join" | .upper => "upper"
def Mt.ty : Mt → String
  | .append => "list" | .extend => "list" | .pop => "list" | .popAt => "list" | .split => "str" | .join => "str" | .upper => "str"
def Mt.id : Mt → String
  | .append => "list.append" | .extend => "list.extend" | .pop => "list.pop" | .popAt => "list.pop" | .split => "str.split" | .join => "str.join" | .upper => "str.upper"
def strsOf : List D → Option (List Str)
  | [] => some []
  | .p (.str i) :: r => (strsOf r).map (i :: ·)
  | _ :: _ => none
@[simp] theorem strsOf_map (l : List Str) : strsOf (l.map fun i => D.p (.str i)) = some l := by
  induction l with
  | nil => rfl
  | cons a l ih => simp [strsOf, ih]
theorem strsOf_rp {N : Nm} {H : Hp} {α : List Addr} : ∀ {xs : List D} {ns : List Str} {vs : List V}, strsOf xs = some ns → RpAll N H α vs xs → vs = ns.map V.str
  | [], ns, vs, e, r => by cases r; simp [strsOf] at e; subst e; rfl
  | .p (.str i) :: xs, ns, vs, e, r => by
    simp only [strsOf, Option.map_eq_some_iff] at e
    obtain ⟨ms, e1, rfl⟩ := e
    cases r with
    | cons r1 r2 => rw [strsOf_rp e1 r2, r1.str_inv]; rfl
  | .p .none :: _, _, _, e, _ => by cases e
  | .p (.bool _) :: _, _, _, e, _ => by cases e
  | .p (.int _) :: _, _, _, e, _ => by cases e
  | .p (.tuple _) :: _, _, _, e, _ => by cases e
  | .p (.list _) :: _, _, _, e, _ => by cases e
  | .p (.dict _) :: _, _, _, e, _ => by cases e
  | .loc _ :: _, _, _, e, _ => by cases e
  | .tup _ :: _, _, _, e, _ => by cases e
  | .fn _ :: _, _, _, e, _ => by cases e
/-- of which type the receiver is -/
def rcv (d : D) (S : Sto) : Option String := match d with
  | .p (.str _) => some "str"
  | .p (.list _) => some "list"
  | .loc l => match S[l]? with
    | some (.lst _) => some "list"
    | _ => none
  | _ => none
def cellL (d : D) (S : Sto) : Option (Nat × List D) := match d with
  | .loc l => match S[l]? with
    | some (.lst xs) => some (l, xs)
    | _ => none
  | _ => none
def opMt (m : Bool) (f : Mt) (o : D) (ds : List D) (S : Sto) : Res D := match f, ds with
  | .append, [d] => match cellL o S with
    | some (l, xs) => if xs.length < sizeLine then .ok .n (S.set l (.lst (xs ++ [d]))) else .st
    | none => .st
  | .extend, [d] => match cellL o S, cellL d S with
    | some (l, xs), some (_, ys) => if xs.length + ys.length ≤ sizeLine then .ok .n (S.set l (.lst (xs ++ ys))) else .st
    | _, _ => .st
  | .pop, [] => match cellL o S with
    | some (l, xs) => match xs[xs.length - 1]? with
      | some d => .ok d (S.set l (.lst xs.dropLast))
      | none => .st
    | none => .st
  | .popAt, [.p (.int i)] => match cellL o S with
    | some (l, xs) => if -(2 ^ 63) ≤ i ∧ i < 2 ^ 63 then match seqIndex? i xs.length with
      | some k => match xs[k]? with
        | some d => .ok d (S.set l (.lst (xs.eraseIdx k)))
        | none => .st
      | none => .st
      else .st
    | none => .st
  | .split, [.p (.str b)] => match o with
    | .p (.str a) => if (b.length == 0) = false ∧ a.length + 2 ≤ sizeLine then mkL m ((Txt.split a b).map fun z => .s z) S else .st
    | _ => .st
  | .join, [d] => match o, (seqOf d S).bind strsOf with
    | .p (.str a), some ys => if (ys.map (·.length)).sum + ys.length * a.length ≤ 16777216 then .ok (.s (Txt.join a ys)) S else .st
    | _, _ => .st
  | .upper, [] => match o with
    | .p (.str a) => if a.length ≤ 5592405 then .ok (.s (Txt.upper a)) S else .st
    | _ => .st
  | _, _ => .st
section
variable {X : Cx} {fd : FdT} {E : XK}
def dM (N : Nm) (E : XK) (g : D → List D → Sto → Res D) : V → List V → Hp → VK → Prop := fun x xs H Q => ∃ S α d ds, StoOk N H α S ∧ Rp N H α x d ∧ RpAll N H α xs ds ∧ dRes N E α S H (g d ds S) Q
theorem cellL_inv {N : Nm} {H : Hp} {α : List Addr} {S : Sto} {v : V} {d : D} {l : Nat} {xs : List D} (ok : StoOk N H α S) (r : Rp N H α v d) (e : cellL d S = some (l, xs)) :
    ∃ a vs, v = .ref a ∧ α[l]? = some a ∧ S[l]? = some (.lst xs) ∧ H a = some (.lst vs) ∧ RpAll N H α vs xs := by
  unfold cellL at e
  split at e
  · split at e
    · rename_i q
      cases e
      cases r with
      | @loc a _ hl =>
        obtain ⟨vs, h1, h2⟩ := ok.cell _ _ _ hl q
        exact ⟨a, vs, rfl, hl, q, h1, h2⟩
    · cases e
  · cases e
/-- a list's cell is written -/
theorem wr {α : List Addr} {S : Sto} {H : Hp} {l : Nat} {a : Addr} {xs ys : List D} {ws : List V} {v : V} {d : D} {N : Nm} {Q : VK} (ok : StoOk N H α S) (hl : α[l]? = some a) (hs : S[l]? = some (.lst xs)) (r : RpAll N H α ws ys) (rv : Rp N H α v d)
    (h : dRes N E α S H (.ok d (S.set l (.lst ys))) Q) : Q v (upd H a (.lst ws)) := by
  have st := step_set (c' := .lst ys) (o := .lst ws) ok hl hs rfl
  exact h _ _ α st (sto_set ok hl hs rfl ⟨ws, upd_same, st.rpAll ok r⟩) (st.rp ok rv)
theorem RpAll.dropLast {N : Nm} {H : Hp} {α : List Addr} {vs : List V} {xs : List D} (r : RpAll N H α vs xs) : RpAll N H α vs.dropLast xs.dropLast := by
  rw [List.dropLast_eq_take, List.dropLast_eq_take, r.length]
  exact r.take _
theorem RpAll.eraseIdx {N : Nm} {H : Hp} {α : List Addr} : ∀ {vs : List V} {xs : List D} (k : Nat), RpAll N H α vs xs → RpAll N H α (vs.eraseIdx k) (xs.eraseIdx k)
  | _, _, _, .nil => .nil
  | _, _, 0, .cons _ r => r
  | _, _, k + 1, .cons r1 r => .cons r1 (RpAll.eraseIdx k r)
theorem RpAll.strs {N : Nm} {H : Hp} {α : List Addr} : ∀ (ys : List Str), RpAll N H α (ys.map V.str) (ys.map fun z => D.s z)
  | [] => .nil
  | y :: ys => .cons (.p (.str y)) (RpAll.strs ys)
theorem MtR.fz {id : String} {r : V → List V → Hp → VK → Prop} (hs : SysIn X) (h : MtR X id r) : MtR X id fun x xs H Q => r x xs H (FzOr Q) :=
  fun pins s σ H x xs v us Q I rx rs q => thn (h pins s σ H x xs v us _ I rx rs q) fun u s' z => ep_fz hs z
theorem MtR.imp {id : String} {r r' : V → List V → Hp → VK → Prop} (h : MtR X id r) (i : ∀ x xs H Q, r' x xs H Q → r x xs H Q) : MtR X id r' := fun pins s σ H x xs v us Q I rx rs q => h pins s σ H x xs v us Q I rx rs (i _ _ _ _ q)
theorem mr_append : MtR X "list.append" (dM (nm X fd) E (opMt m .append)) := by
  refine MtR.imp mt_append fun x xs H Q ⟨S, α, d, ds, ok, r, rs, h⟩ => ?_
  unfold opMt at h
  split at h <;> first | (rename_i e; cases e) | skip
  · split at h
    · rename_i l ys e
      split at h
      · rename_i hz
        obtain ⟨a, vs, rfl, hl, hs, h1, r1⟩ := cellL_inv ok r e
        obtain ⟨w, rfl, rw'⟩ := rp1 rs
        exact ⟨a, vs, w, rfl, rfl, h1, by rw [r1.length]; exact hz, wr ok hl hs (r1.append (.cons rw' .nil)) (.p .non) h⟩
      · exact h.elim
    · exact h.elim
  · exact h.elim
theorem mr_extend : MtR X "list.extend" (dM (nm X fd) E (opMt m .extend)) := by
  refine MtR.imp mt_extend fun x xs H Q ⟨S, α, d, ds, ok, r, rs, h⟩ => ?_
  unfold opMt at h
  split at h <;> first | (rename_i e; cases e) | skip
  · split at h
    · rename_i l ys k zs e e2
      split at h
      · rename_i hz
        obtain ⟨a, vs, rfl, hl, hs, h1, r1⟩ := cellL_inv ok r e
        obtain ⟨w, rfl, rw'⟩ := rp1 rs
        obtain ⟨b, ws, rfl, hl2, hs2, h2, r2⟩ := cellL_inv ok rw' e2
        exact ⟨a, b, vs, ws, rfl, rfl, h1, h2, by rw [r1.length, r2.length]; exact hz, wr ok hl hs (r1.append r2) (.p .non) h⟩
      · exact h.elim
    · exact h.elim
  · exact h.elim
theorem mr_pop : MtR X "list.pop" (dM (nm X fd) E (opMt m .pop)) := by
  refine MtR.imp mt_pop fun x xs H Q ⟨S, α, d, ds, ok, r, rs, h⟩ => ?_
  unfold opMt at h
  split at h <;> first | (rename_i e; cases e) | skip
  · split at h
    · rename_i l ys e
      split at h
      · rename_i d ed
        obtain ⟨a, vs, rfl, hl, hs, h1, r1⟩ := cellL_inv ok r e
        cases rs
        obtain ⟨v, ev, rv⟩ := r1.get ed
        exact ⟨a, vs, v, rfl, rfl, h1, by rw [r1.length]; exact ev, wr ok hl hs r1.dropLast rv h⟩
      · exact h.elim
    · exact h.elim
  · exact h.elim
theorem mr_popAt : MtR X "list.pop" (dM (nm X fd) E (opMt m .popAt)) := by
  refine MtR.imp mt_popAt fun x xs H Q ⟨S, α, d, ds, ok, r, rs, h⟩ => ?_
  unfold opMt at h
  split at h <;> first | (rename_i e; cases e) | skip
  · split at h
    · rename_i l ys e
      split at h
      · rename_i hz
        split at h
        · rename_i k ek
          split at h
          · rename_i d ed
            obtain ⟨a, vs, rfl, hl, hs, h1, r1⟩ := cellL_inv ok r e
            obtain ⟨w, rfl, rw'⟩ := rp1 rs
            obtain ⟨v, ev, rv⟩ := r1.get ed
            exact ⟨a, vs, _, k, v, rfl, by rw [rw'.int_inv], h1, hz.1, hz.2, by rw [r1.length]; exact ek, ev, wr ok hl hs (r1.eraseIdx k) rv h⟩
          · exact h.elim
        · exact h.elim
      · exact h.elim
    · exact h.elim
  · exact h.elim
theorem mr_split (G : Good X) : MtR X "str.split" (dM (nm X fd) E (opMt m .split)) := by
  refine MtR.imp (MtR.fz G.sys mt_split) fun x xs H Q ⟨S, α, d, ds, ok, r, rs, h⟩ => ?_
  unfold opMt at h
  split at h <;> first | (rename_i e; cases e) | skip
  · split at h
    · split at h
      · rename_i hz
        obtain ⟨w, rfl, rw'⟩ := rp1 rs
        exact ⟨_, _, r.str_inv, by rw [rw'.str_inv], hz.1, hz.2, newL ok (RpAll.strs _) h⟩
      · exact h.elim
    · exact h.elim
  · exact h.elim
theorem mr_join : MtR X "str.join" (dM (nm X fd) E (opMt m .join)) := by
  refine MtR.imp mt_join fun x xs H Q ⟨S, α, d, ds, ok, r, rs, h⟩ => ?_
  unfold opMt at h
  split at h <;> first | (rename_i e; cases e) | skip
  · split at h
    · rename_i a ys e
      split at h
      · rename_i hz
        obtain ⟨w, rfl, rw'⟩ := rp1 rs
        obtain ⟨zs, e1, e2⟩ := Option.bind_eq_some_iff.mp e
        obtain ⟨b, vs, rfl, h1, r1⟩ := rw'.seq_inv ok e1
        have := strsOf_rp e2 r1
        subst this
        exact ⟨_, b, ys, r.str_inv, rfl, h1, hz, now ok h (.p (.str _))⟩
      · exact h.elim
    · exact h.elim
  · exact h.elim
theorem mr_upper : MtR X "str.upper" (dM (nm X fd) E (opMt m .upper)) := by
  refine MtR.imp mt_upper fun x xs H Q ⟨S, α, d, ds, ok, r, rs, h⟩ => ?_
  unfold opMt at h
  split at h <;> first | (rename_i e; cases e) | skip
  · split at h
    · split at h
      · rename_i hz
        cases rs
        exact ⟨_, r.str_inv, rfl, hz, now ok h (.p (.str _))⟩
      · exact h.elim
    · exact h.elim
  · exact h.elim
theorem mr_all (G : Good X) (f : Mt) : MtR X f.id (dM (nm X fd) E (opMt m f)) := by
  cases f with
  | append => exact mr_append
  | extend => exact mr_extend
  | pop => exact mr_pop
  | popAt => exact mr_popAt
  | split => exact mr_split G
  | join => exact mr_join
  | upper => exact mr_upper
theorem mt_pa (f : Mt) : PlainAttrs f.ty := by cases f <;> first | exact PySem.F.plainAttrs_list | exact PySem.F.plainAttrs_str
theorem mt_sl (f : Mt) : Slot f.ty f.nm f.id := by
  cases f with
  | append => exact PySem.F.slot_list_append
  | extend => exact PySem.F.slot_list_extend
  | pop => exact PySem.F.slot_list_pop
  | popAt => exact PySem.F.slot_list_pop
  | split => exact PySem.F.slot_str_split
  | join => exact PySem.F.slot_str_join
  | upper => exact PySem.F.slot_str_upper
theorem mt_md (f : Mt) : typeOf (.builtin f.id) = pure (.type "method_descriptor") := by
  cases f with
  | append => exact PySem.F.type_list_append
  | extend => exact PySem.F.type_list_extend
  | pop => exact PySem.F.type_list_pop
  | popAt => exact PySem.F.type_list_pop
  | split => exact PySem.F.type_str_split
  | join => exact PySem.F.type_str_join
  | upper => exact PySem.F.type_str_upper
theorem rcv_ty {N : Nm} {H : Hp} {α : List Addr} {S : Sto} {v : V} {d : D} {T : String} (ok : StoOk N H α S) (r : Rp N H α v d) (e : rcv d S = some T) : tyV N.K T v H := by
  unfold rcv at e
  split at e
  · cases e
    rw [r.str_inv]
    rfl
  · cases e
    cases r with
    | p hp => cases hp with | @lst a vs ds h1 h2 h3 => exact .inl ⟨rfl, vs, h1.sq⟩
  · split at e
    · rename_i q
      cases e
      cases r with
      | @loc a _ hl =>
        obtain ⟨vs, h1, _⟩ := ok.cell _ _ _ hl q
        exact .inl ⟨rfl, vs, .inl (.inl h1)⟩
    · cases e
  · cases e
variable {o e : Expr} {es : List Expr} {apos cpos : Pos} {Fo : Slots → Sto → Res D} {Fs : Slots → Sto → Res (List D)}
abbrev fMt (m : Bool) (f : Mt) (Fo : Slots → Sto → Res D) (Fs : Slots → Sto → Res (List D)) : Slots → Sto → Res D := fun ρ S => (Fo ρ S).bind fun o S1 => if rcv o S1 = some f.ty then (Fs ρ S1).bind fun xs S2 => opMt m f o xs S2 else .st
theorem dv_mt0 (G : Good X) {m : Bool} (f : Mt) {x : Str} (ex : x = f.nm) (ho : PE X o (dE (nm X fd) E Fo)) (hb : baseE o = true) (hline : (apos.endLine == cpos.line) = true) :
    PE X (.Call (.Attribute o x apos) [] [] cpos) (dE (nm X fd) E (fMt m f Fo fNil)) := by
  subst ex
  refine PE.imp (pe_bm0 (mt_pa f) (mt_sl f) (mt_md f) (mr_all (fd := fd) (E := E) (m := m) G f) ho (base_of hb) hline) fun σ H Q ⟨ρ, S, α, r, ok, h⟩ => ⟨ρ, S, α, r, ok, ?_⟩
  simp only [fMt] at h
  cases q : Fo ρ S with
  | ex c e' S' => rw [q] at h; exact h
  | st => rw [q] at h; exact h
  | ok d S1 =>
    rw [q] at h
    simp only [bind_ok] at h
    intro v H' α' st ok' rv
    split at h
    · rename_i hr
      exact ⟨rcv_ty ok' rv hr, S1, α', d, [], ok', rv, .nil, dRes.shift ok st h⟩
    · exact h.elim
theorem few_ok {es : List Expr} {env : Env} (h : es.all nsE = true) (hl : es.length < 30) :
    ((backTo cpos (starEach es env)).all (fun x => !x.1) && (backToKw cpos (keywordEach [] env)).all (fun x => x.1.isSome) && decide (es.length + ([] : List Keyword).length + (if ([] : List Keyword).isEmpty then 0 else 1) < 30)) = true := by
  have h1 := starEach_all (env := env) (pos := cpos) h
  have h2 : (backTo cpos (starEach es env)).all (fun x => !x.1) = true := by
    rw [List.all_eq_true]
    intro x hx
    rw [List.any_eq_false] at h1
    simpa using h1 x hx
  rw [h2]
  show (true && decide (es.length + 0 + 0 < 30)) = true
  simp [hl]
theorem dv_mt (G : Good X) {m : Bool} (f : Mt) {x : Str} (ex : x = f.nm) (ho : PE X o (dE (nm X fd) E Fo)) (ha : PA X (e :: es) (dA (nm X fd) E Fs)) (hb : baseE o = true) (hn : (e :: es).all nsE = true) (hl : (e :: es).length < 30) (hline : (apos.endLine == cpos.line) = true) :
    PE X (.Call (.Attribute o x apos) (e :: es) [] cpos) (dE (nm X fd) E (fMt m f Fo Fs)) := by
  subst ex
  have hn' := hn
  simp only [List.all_cons, Bool.and_eq_true] at hn'
  refine PE.imp (pe_bm (mt_pa f) (mt_sl f) (mt_md f) (mr_all (fd := fd) (E := E) (m := m) G f) ho ha (base_of hb) (few_ok hn hl) hline (starEach_ns hn'.1) (starEach_all hn'.2)) fun σ H Q ⟨ρ, S, α, r, ok, h⟩ => ⟨ρ, S, α, r, ok, ?_⟩
  simp only [fMt] at h
  cases q : Fo ρ S with
  | ex c e' S' => rw [q] at h; exact h
  | st => rw [q] at h; exact h
  | ok d S1 =>
    rw [q] at h
    simp only [bind_ok] at h
    intro v H' α' st ok' rv
    split at h
    · rename_i hr
      refine ⟨rcv_ty ok' rv hr, ρ, S1, α', r.step ok st, ok', ?_⟩
      have h := dRes.shift ok st h
      cases q2 : Fs ρ S1 with
      | ex c e' S' => rw [q2] at h; exact h
      | st => rw [q2] at h; exact h
      | ok ds S2 =>
        rw [q2] at h
        exact fun vs H2 α2 st2 ok2 rvs => ⟨S2, α2, d, ds, ok2, st2.rp ok' rv, rvs, dRes.shift ok' st2 h⟩
    · exact h.elim
end
/-! ### dict displays -/
section
variable {X : Cx} {fd : FdT} {E : XK} {pos : Pos}
abbrev FD := Slots → Sto → Res D
def pairsF : List (FD × FD) → Slots → Sto → Res (List (D × D))
  | [], _, S => .ok [] S
  | (fk, fv) :: r, ρ, S => (fk ρ S).bind fun k S1 => (fv ρ S1).bind fun v S2 => (pairsF r ρ S2).bind fun kvs S3 => .ok ((k, v) :: kvs) S3
def dResP (N : Nm) (E : XK) (α : List Addr) (S : Sto) (H : Hp) (r : Res (List (D × D))) (Q : List (V × V) → Hp → Prop) : Prop := match r with
  | .ok d S' => ∀ ps H' α', Stp α S H α' S' H' → StoOk N H' α' S' → RpAll N H' α' (ps.map (·.1)) (d.map (·.1)) → RpAll N H' α' (ps.map (·.2)) (d.map (·.2)) → Q ps H'
  | .ex c e S' => ∀ cls dx H' α', Stp α S H α' S' H' → StoOk N H' α' S' → XOk N H' α' cls dx c e → E cls dx H'
  | .st => False
theorem dPairs {N : Nm} : ∀ {fs : List (FD × FD)} {σ : L2.St} {H : Hp} {ρ : Slots} {S : Sto} {α : List Addr} {Q : List (V × V) → Hp → Prop}, Rho N H α σ ρ → StoOk N H α S → dResP N E α S H (pairsF fs ρ S) Q →
    tPairs (fs.map fun f => (dE N E f.1, dE N E f.2)) σ H Q
  | [], σ, H, ρ, S, α, Q, r, ok, h => h [] H α .refl ok .nil .nil
  | (fk, fv) :: fs, σ, H, ρ, S, α, Q, r, ok, h => by
    refine ⟨ρ, S, α, r, ok, ?_⟩
    show dRes N E α S H (fk ρ S) _
    simp only [pairsF] at h
    cases q : fk ρ S with
    | ex c e' S' => rw [q] at h; exact h
    | st => rw [q] at h; exact h
    | ok k S1 =>
      rw [q] at h
      intro x H1 α1 st1 ok1 rx
      refine ⟨ρ, S1, α1, r.step ok st1, ok1, ?_⟩
      show dRes N E α1 S1 H1 (fv ρ S1) _
      simp only [bind_ok] at h
      cases q2 : fv ρ S1 with
      | ex c e' S' => rw [q2] at h; exact fun cls dx H' α' st o z => h cls dx H' α' (st1.trans ok st) o z
      | st => rw [q2] at h; exact h
      | ok v S2 =>
        rw [q2] at h
        intro y H2 α2 st2 ok2 ry
        simp only [bind_ok] at h
        refine dPairs (fs := fs) (ρ := ρ) (S := S2) (α := α2) ((r.step ok st1).step ok1 st2) ok2 ?_
        cases q3 : pairsF fs ρ S2 with
        | ex c e' S' => rw [q3] at h; exact fun cls dx H' α' st o z => h cls dx H' α' (st1.trans ok (st2.trans ok1 st)) o z
        | st => rw [q3] at h; exact h
        | ok kvs S3 =>
          rw [q3] at h
          exact fun ps H3 α3 st3 ok3 r1 r2 => h _ H3 α3 (st1.trans ok (st2.trans ok1 st3)) ok3 (.cons (st3.rp ok2 (st2.rp ok1 rx)) r1) (.cons (st3.rp ok2 ry) r2)
def keysOf : List (D × D) → Option (List (Key × D))
  | [] => some []
  | (k, v) :: r => match keyOf k, keysOf r with
    | some k, some l => some ((k, v) :: l)
    | _, _ => none
def mergeD (kvs more : List (Key × D)) : List (Key × D) := more.foldl (fun acc kv => putKD acc kv.1 kv.2) kvs
theorem keys_rp {N : Nm} {H : Hp} {α : List Addr} : ∀ {d : List (D × D)} {kvs : List (Key × D)} {ps : List (V × V)}, keysOf d = some kvs → RpAll N H α (ps.map (·.1)) (d.map (·.1)) → RpAll N H α (ps.map (·.2)) (d.map (·.2)) →
    ∃ ws : List (Key × V), ps = ws.map (fun kv => (kV kv.1, kv.2)) ∧ ws.length = kvs.length ∧ ws.map (·.1) = kvs.map (·.1) ∧ RpAll N H α (ws.map (·.2)) (kvs.map (·.2)) ∧ d.length = kvs.length
  | [], kvs, ps, e, r1, r2 => by
    cases e
    cases ps with
    | nil => exact ⟨[], rfl, rfl, rfl, .nil, rfl⟩
    | cons p ps => simp at r1; cases r1
  | (k, v) :: d, kvs, ps, e, r1, r2 => by
    cases ps with
    | nil => simp at r1; cases r1
    | cons p ps =>
      unfold keysOf at e
      split at e
      · rename_i kk l e1 e2
        cases e
        cases r1 with
        | cons a1 a2 =>
          cases r2 with
          | cons b1 b2 =>
            obtain ⟨ws, h1, h2, h3, h4, h5⟩ := keys_rp e2 a2 b2
            refine ⟨(kk, p.2) :: ws, ?_, by simp [h2], by simp [h3], .cons b1 h4, by simp [h5]⟩
            obtain ⟨p1, p2⟩ := p
            have := a1.key e1
            simp only at this
            simp only [List.map_cons, ← h1, this]
      · cases e
theorem merge_rp {N : Nm} {H : Hp} {α : List Addr} : ∀ {more : List (Key × D)} {ws : List (Key × V)} {ks : List Key} {vs : List V} {xs : List D}, ws.map (·.1) = more.map (·.1) → RpAll N H α (ws.map (·.2)) (more.map (·.2)) → ks.length = vs.length → RpAll N H α vs xs →
    ∃ (ks' : List Key) (vs' : List V) (xs' : List D), mergeK (ks.zip vs) ws = ks'.zip vs' ∧ mergeD (ks.zip xs) more = ks'.zip xs' ∧ ks'.length = vs'.length ∧ RpAll N H α vs' xs'
  | [], [], ks, vs, xs, _, _, hl, r => ⟨ks, vs, xs, rfl, rfl, hl, r⟩
  | [], w :: ws, ks, vs, xs, e, _, _, _ => by simp at e
  | q :: more, [], ks, vs, xs, e, _, _, _ => by simp at e
  | (k, d) :: more, (k2, v) :: ws, ks, vs, xs, e, rm, hl, r => by
    simp only [List.map_cons, List.cons.injEq] at e
    obtain ⟨rfl, e⟩ := e
    cases rm with
    | cons r1 r2 =>
      obtain ⟨ks', vs', xs', e1, e2, e3, e4⟩ := putK_zip (k := k2) r1 hl r
      obtain ⟨k3, v3, x3, f1, f2, f3, f4⟩ := merge_rp e r2 e3 e4
      refine ⟨k3, v3, x3, ?_, ?_, f3, f4⟩
      · rw [← f1]
        unfold mergeK
        rw [List.foldl_cons, e1]
      · rw [← f2]
        unfold mergeD
        rw [List.foldl_cons, e2]
abbrev fDct (fs : List (FD × FD)) : Slots → Sto → Res D := fun ρ S => (pairsF fs ρ (S ++ [.dK []])).bind fun kvs S1 => match S1[S.length]?, keysOf kvs with
  | some (.dK []), some l => if l.length ≤ 15 then .ok (.loc S.length) (S1.set S.length (.dK (mergeD [] l))) else .st
  | _, _ => .st
theorem dv_dct0 : PE X (.Dict [] [] pos) (dE (nm X fd) E fun _ S => .ok (.loc S.length) (S ++ [.dK []])) := PE.imp pe_dnewK fun σ H Q ⟨ρ, S, α, r, ok, h⟩ p hp => by
  have st := step_alloc (c := .dK []) (o := .dK []) ok hp
  refine h _ _ (α ++ [p]) st (sto_alloc ok hp ⟨[], [], [], upd_same, rfl, rfl, .nil⟩) (.loc ?_)
  rw [← ok.len]
  simp
theorem dv_dct {keys : List (Option Expr)} {values : List Expr} {fs : List (FD × FD)} (h : PPs X pos keys values (fs.map fun f => (dE (nm X fd) E f.1, dE (nm X fd) E f.2))) (hall : keys.all (·.isSome) = true) (hl : keys.length = values.length) (h0 : keys ≠ []) (h15 : keys.length ≤ 15) :
    PE X (.Dict keys values pos) (dE (nm X fd) E (fDct fs)) := by
  refine PE.imp (pe_disp h hall hl h0 h15) fun σ H Q ⟨ρ, S, α, r, ok, h⟩ p hp => ?_
  have st := step_alloc (c := .dK []) (o := .dK []) ok hp
  have ok1 : StoOk (nm X fd) (upd H p (.dK [])) (α ++ [p]) (S ++ [.dK []]) := sto_alloc ok hp ⟨[], [], [], upd_same, rfl, rfl, .nil⟩
  refine dPairs (ρ := ρ) (r.step ok st) ok1 ?_
  have atp : (α ++ [p])[S.length]? = some p := by rw [← ok.len]; simp
  simp only [fDct] at h
  cases q : pairsF fs ρ (S ++ [.dK []]) with
  | ex c e' S' => rw [q] at h; exact fun cls dx H' α' st' o z => h cls dx H' α' (st.trans ok st') o z
  | st => rw [q] at h; exact h
  | ok kvs S2 =>
    rw [q] at h
    simp only [bind_ok] at h
    intro ps H2 α2 st2 ok2 r1 r2
    split at h
    · rename_i l e1 e2
      split at h
      · rename_i hz
        have hl2 := st2.loc atp
        obtain ⟨ks, vs, xs, g1, g2, g3, g4⟩ := ok2.cell _ _ _ hl2 e1
        have hx : xs = [] ∧ ks = [] ∧ vs = [] := by
          have e3 := g4.length
          cases ks with
          | nil =>
            cases vs with
            | nil =>
              cases xs with
              | nil => exact ⟨rfl, rfl, rfl⟩
              | cons x xs => cases g4
            | cons v vs => cases g3
          | cons k ks =>
            cases vs with
            | nil => cases g3
            | cons v vs =>
              cases xs with
              | nil => cases g4
              | cons x xs => cases g2
        obtain ⟨rfl, rfl, rfl⟩ := hx
        obtain ⟨ws, f1, f2, f3, f4, f5⟩ := keys_rp e2 r1 r2
        obtain ⟨k3, v3, x3, m1, m2, m3, m4⟩ := merge_rp (ks := []) (vs := []) (xs := []) f3 f4 rfl .nil
        refine ⟨g1, ws, f1, by rw [f2]; exact hz, ?_⟩
        have m1' : mergeK [] ws = k3.zip v3 := m1
        have m2' : mergeD [] l = k3.zip x3 := m2
        rw [m1']
        rw [m2'] at h
        have st3 := step_set (c' := .dK (k3.zip x3)) (o := .dK (k3.zip v3)) ok2 hl2 e1 rfl
        exact h _ _ α2 (st.trans ok (st2.trans ok1 st3)) (sto_set ok2 hl2 e1 rfl ⟨k3, v3, x3, upd_same, rfl, m3, st3.rpAll ok2 m4⟩) (.loc hl2)
      · exact h.elim
    · exact h.elim
end
end Dl

set_option linter.all false
set_option maxRecDepth 100000
set_option maxHeartbeats 4000000
/-! Dl18: defs by plain values: what a call gives, how a body keeps it. -/
namespace Dl
open PySem PySem.Spec PyProof.Rows L2
/-! ### own cells go -/
section
variable {N : Nm} {E : XK} {H H' : Hp} {α α' : List Addr} {S S' : Sto}
mutual
theorem Rp.closed : ∀ {d : D} {v : V}, Rp N H α v d → d.closed α.length = true
  | .p _, _, _ => by simp [D.closed]
  | .loc l, _, .loc h => by simp only [D.closed, decide_eq_true_eq]; exact (List.getElem?_eq_some_iff.mp h).1
  | .tup xs, _, .tup _ r => by simp only [D.closed]; exact RpAll.closed r
  | .fn _, _, _ => by simp [D.closed]
theorem RpAll.closed : ∀ {ds : List D} {vs : List V}, RpAll N H α vs ds → closedAll α.length ds = true
  | [], _, _ => by simp [closedAll]
  | d :: ds, _, .cons r1 r2 => by simp only [closedAll, Rp.closed r1, RpAll.closed r2, Bool.and_self]
end
theorem CellOk.closed {a : Addr} {c : Cell} (h : CellOk N H α a c) : c.closed α.length = true := by
  cases c with
  | lst xs => obtain ⟨vs, _, r⟩ := h; exact r.closed
  | dK kvs =>
    obtain ⟨ks, vs, xs, _, e, hl, r⟩ := h
    subst e
    show (ks.zip xs).all _ = true
    rw [closed_zip (by rw [hl, r.length])]
    exact r.closed
  | lk kvs =>
    obtain ⟨o, ks, vs, xs, _, e, hl, r⟩ := h
    subst e
    show (ks.zip xs).all _ = true
    rw [closed_zip (by rw [hl, r.length])]
    exact r.closed
  | ins C fs =>
    obtain ⟨Ca, dx, ks, vs, xs, _, _, e, hl, r, _⟩ := h
    subst e
    show (ks.zip xs).all _ = true
    rw [closed_zip (by rw [hl, r.length])]
    exact r.closed
  | dead => rfl
theorem trim (ok : StoOk N H α S) (t : TrimOk S S') (st : Stp α S H α' S' H') (ok' : StoOk N H' α' S') : (Stp α S H α (S'.take S.length) H' ∧ StoOk N H' α (S'.take S.length)) ∧ α'.take S.length = α := by
  obtain ⟨β, e1, e2⟩ := st.pre
  have ea : α'.take S.length = α := by rw [e1, ← ok.len]; simp
  refine ⟨⟨⟨⟨[], by simp, by simp⟩, fun l c h hc => ?_, st.keep, st.there⟩, ?_⟩, ea⟩
  · have hl : l < S.length := (List.getElem?_eq_some_iff.mp h).1
    rw [List.getElem?_take_of_lt hl]
    exact st.still l c h hc
  · refine ⟨by rw [ok.len, List.length_take]; have := t.1; omega, ok.nd, fun l a c h1 h2 => ?_, ok'.tb⟩
    have hl : l < S.length := by rw [← ok.len]; exact (List.getElem?_eq_some_iff.mp h1).1
    rw [List.getElem?_take_of_lt hl] at h2
    have h3 := ok'.cell l a c (st.loc h1) h2
    have hc : c.closed S.length = true := by
      rcases t.2 l c hl h2 with h | h
      · rw [← ok.len]
        exact (ok.cell l a c h1 h).closed
      · exact h
    have := h3.cut hc
    rw [ea] at this
    exact this
theorem fin_out {out : Out} {Q : VK} (ok : StoOk N H α S) (h : dRes N E α S H (fin S out) Q) : dOut N E α S H out { nx := fun _ H' => Q .non H', rt := Q } := by
  cases out with
  | nx ρ S' =>
    intro σ H' α' st ok' r
    simp only [fin] at h
    split at h
    · rename_i t
      obtain ⟨⟨s1, o1⟩, _⟩ := trim ok t st ok'
      exact h .non H' α s1 o1 (.p .non)
    · exact h .non H' α' st ok' (.p .non)
  | rt d S' =>
    intro v H' α' st ok' r
    simp only [fin] at h
    split at h
    · rename_i t
      obtain ⟨⟨s1, o1⟩, ea⟩ := trim ok t.1 st ok'
      have := r.cut t.2
      rw [ea] at this
      exact h v H' α s1 o1 this
    · exact h v H' α' st ok' r
  | ex c e S' =>
    intro cls dx H' α' st ok' x
    simp only [fin] at h
    split at h
    · rename_i t
      obtain ⟨⟨s1, o1⟩, ea⟩ := trim ok t.1 st ok'
      obtain ⟨Ca, d, w, x1, x2, x3, x4, x5⟩ := x
      have := x5.cut t.2
      rw [ea] at this
      exact h cls dx H' α s1 o1 ⟨Ca, d, w, x1, x2, x3, x4, this⟩
    · exact h cls dx H' α' st ok' x
  | bk ρ S' => exact h.elim
  | ct ρ S' => exact h.elim
  | st => exact h.elim
end
/-! ### what a def promises -/
def spD (N : Nm) (n : Nat) (g : List D → Sto → Res D) : Sp := fun vs H Q E => ∃ S α ds, (StoOk N H α S ∧ vs.length = n) ∧ RpAll N H α vs ds ∧ dRes N E α S H (g ds S) Q
structure FnG (P : Program) (w : World) (K : PySem.W.Frag) (mg : Str → Option Value) (base : Heap) (CX : CXT) (k : Nat) (f : Addr) (fd : FuncData) (ps : List Str) (sp : Sp) : Prop where
  go : ∀ (A : Around) (outer : List Env) (s : Shared) (H : Hp) (args : Args) (us : List Value) (vs : List V) (Q : VK) (E : XK), (Room k A ∧ A.guards = some []) → Env0 P w K mg base A outer s H →
    BindsTo s fd args (ps.zip us) → Vals vs us → (vs.length = ps.length ∧ sp vs H Q E) → codeAny (model P w) A (.call (.ref f) args) (CR CX outer P w H s Q E) s
section
variable {P : Program} {w : World} {K : PySem.W.Frag} {mg : Str → Option Value} {base : Heap} {CX : CXT} {k : Nat} {f : Addr} {fdt : FuncData} {ps N : List Str} {sp : Sp}
theorem FnG.mono {j : Nat} (F : FnG P w K mg base CX j f fdt ps sp) (h : j ≤ k) : FnG P w K mg base CX k f fdt ps sp := ⟨fun A outer s H args us vs Q E hr => F.go A outer s H args us vs Q E ⟨hr.1.mono h, hr.2⟩⟩
theorem guards_deeper {A : Around} {env : Env} (h : A.guards = some []) : (A.deeper env).guards = some [] := by
  first
    | exact h
    | (show A.guards = some []; exact h)
    | (unfold Around.deeper; simpa using h)
/-- a body keeps the promise -/
theorem fn_g {x qual : Str} {params : Arguments} {body : List Stmt} {scope : Scope} {dV kV doc pm cdv ct oc : Value} {an od : Option Addr} {osl : Array (Option Value)}
    (lk : K.lookup f = some ⟨oc, od, .func (PySem.W.fnOf x qual params body scope dV kV doc pm an cdv ct), osl⟩) (hcd : PySem.W.codeIn K cdv qual = true) (S : FnScope N ps scope)
    (hb : ∀ (A : Around) (outer : List Env) (s : Shared) (H : Hp) (vs : List V) (Q : VK) (E : XK), Room k (A.deeper (envOfC qual scope s.heap.objs.size f cdv)) → (A.deeper (envOfC qual scope s.heap.objs.size f cdv)).guards = some [] →
      vs.length = ps.length → sp vs H Q E → ∃ t, PSs (cxOf CX P w K mg base N qual scope f cdv A outer s H E) body t ∧ t { nx := fun _ H' => Q .non H', rt := Q } (L2.start N vs) H) :
    FnG P w K mg base CX (k + 1) f (PySem.W.fnOf x qual params body scope dV kV doc pm an cdv ct) ps sp := by
  refine ⟨fun A outer s H args us vs Q E ⟨room, gd⟩ e0 bd rv ⟨len, hsp⟩ => ?_⟩
  have inK : K.In s.heap := e0.mod.kin.keeps fun b o z => (e0.bs b o z).1
  have noL : s.heap.NoLimit := e0.mod.nolimit.keeps fun b o z => (e0.bs b o z).1
  have kinds : ∀ y ∈ ps.zip us, scope.names.lookup y.1 = some .local ∨ (scope.names.lookup y.1 = some .cell ∧ ((cellsFrom (s.heap.objs.size + 1) scope.names []).lookup y.1).isSome = true) := by
    rintro ⟨n, v⟩ hy
    rcases S.par n (List.of_mem_zip hy).1 with q | q
    · exact .inl q
    · exact .inr ⟨q, PySem.W.cellsFrom_some _ _ _ (.inl q)⟩
  refine codeAny_call_function room.depth (inK _ _ lk) rfl S.co S.gen rfl (PySem.W.codeRec_of inK hcd) (bd _ _ _ _ (wpAny_newFunctionEnv_cells S.kind kinds fun env he s1 x => ?_))
  subst he
  refine ⟨noL.keeps x.toInCall.keep, codeAny_func ?_⟩
  obtain ⟨t, run, rd⟩ := hb A outer s H vs Q E (room.deeper _) (guards_deeper gd) len hsp
  refine wpAny_mono (run.run [] s1 (L2.start N vs) H _ (inv_start S room.hd e0 len rv x) rd) (fun fl s' z => ?_) fun _ _ z => z
  cases fl with
  | ret u => obtain ⟨v, σ', H', J, r, q⟩ := z; exact ⟨v, H', J.os, J.bare, J.base, J.hok, r, q⟩
  | next => obtain ⟨σ', H', J, q⟩ := z; exact ⟨.non, H', J.os, J.bare, J.base, J.hok, rfl, q⟩
  | brk => obtain ⟨_, _, _, q⟩ := z; exact q.elim
  | cont => obtain ⟨_, _, _, q⟩ := z; exact q.elim
end
/-! ### how the arguments are put in order -/
abbrev Arr := List (Nat ⊕ PyData)
def arrD (arr : Arr) (ds : List D) : List D := arr.map fun a => match a with
  | .inl k => ds.getD k .n
  | .inr c => .p c
/-- one parameter's value -/
def OneArg (K : PySem.W.Frag) (mg : Str → Option Value) (fd : FdT) (written : List Value) (a : Nat ⊕ PyData) (z : Value) : Prop := match a with
  | .inl k => written[k]? = some z
  | .inr c => ∃ v, RelV v z ∧ ∀ H, Pd ⟨K, mg, fd⟩ H v c
def BndOk (K : PySem.W.Frag) (mg : Str → Option Value) (fd : FdT) (fdt : FuncData) (ps : List Str) (n : Nat) (ks : List Str) (arr : Arr) : Prop :=
  ∀ (s : Shared) (us ws : List Value), K.In s.heap → us.length = n → ws.length = ks.length → ∃ zs, BindsTo s fdt ⟨us, ks.zip ws⟩ (ps.zip zs) ∧ zs.length = ps.length ∧ Paired (OneArg K mg fd (us ++ ws)) arr zs
section
variable {X : Cx} {fd : FdT} {E : XK} {CX : CXT} {k n : Nat} {f : Addr} {fdt : FuncData} {ps ks : List Str} {arr : Arr} {g : List D → Sto → Res D}
theorem args_in {H : Hp} {α : List Addr} {ds : List D} {vs : List V} {us : List Value} (rv : Vals vs us) (r : RpAll (nm X fd) H α vs ds) : ∀ {arr : Arr} {zs : List Value}, Paired (OneArg X.K X.mg fd us) arr zs → ∃ ys, Vals ys zs ∧ RpAll (nm X fd) H α ys (arrD arr ds)
  | _, _, .nil => ⟨[], .nil, .nil⟩
  | _, _, .cons (a := a) h t => by
    obtain ⟨ys, h1, h2⟩ := args_in rv r t
    cases a with
    | inl k =>
      have hk : us[k]? = some _ := h
      have hl : k < vs.length := by rw [rv.length]; exact (List.getElem?_eq_some_iff.mp hk).1
      obtain ⟨u, e1, e2⟩ := rv.get (List.getElem?_eq_getElem hl)
      rw [hk] at e1
      cases e1
      obtain ⟨d, e3, rd⟩ := r.get' (List.getElem?_eq_getElem hl)
      refine ⟨_ :: ys, .cons e2 h1, .cons ?_ h2⟩
      show Rp _ _ _ _ (ds.getD k .n)
      rw [List.getD_eq_getElem?_getD, e3]
      exact rd
    | inr c =>
      obtain ⟨v, e1, e2⟩ := h
      exact ⟨v :: ys, .cons e1 h1, .cons (.p (e2 H)) h2⟩
theorem paired_len {A B : Type} {R : A → B → Prop} : ∀ {xs : List A} {ys : List B}, Paired R xs ys → xs.length = ys.length
  | _, _, .nil => rfl
  | _, _, .cons _ t => congrArg Nat.succ (paired_len t)
theorem run_g {pins : List (Addr × Obj)} {σ : L2.St} {H : Hp} {s : Shared} {Q : VK} {us ws : List Value} {vs : List V} {ds : List D} {α : List Addr} {S : Sto} (F : FnG X.prog X.w X.K X.mg X.base CX k f fdt ps (spD (nm X fd) ps.length g)) (hr : Room k X.A) (gd : X.A.guards = some [])
    (hb : BndOk X.K X.mg fd fdt ps n ks arr) (hx : Passes CX X E) (I : Inv X pins σ H s) (ok : StoOk (nm X fd) H α S) (rv : Vals vs (us ++ ws)) (r : RpAll (nm X fd) H α vs ds) (h1 : us.length = n) (h2 : ws.length = ks.length)
    (h : dRes (nm X fd) E α S H (g (arrD arr ds) S) Q) : wpAny (model X.prog X.w) X.A (call (.ref f) us (ks.zip ws)) (EP X pins σ Q) X.xe s := by
  obtain ⟨zs, b1, b2, b3⟩ := hb s us ws I.kIn h1 h2
  obtain ⟨ys, e1, e2⟩ := args_in rv r b3
  have len : ys.length = ps.length := by rw [e1.length, b2]
  refine wpAny_call (codeAny_mono (F.go X.A X.stack s H ⟨us, ks.zip ws⟩ zs ys Q E ⟨hr, gd⟩ I.env0 b1 e1 ⟨len, S, α, _, ⟨ok, len⟩, e2, h⟩) fun o s' z => ?_)
  cases o with
  | error e => exact hx pins σ H s e s' I z
  | ok fl => cases fl <;> first | exact I.after z | exact False.elim z
abbrev fCall (g : List D → Sto → Res D) (n m : Nat) (arr : Arr) (Fs Fk : Slots → Sto → Res (List D)) : Slots → Sto → Res D := fun ρ S => (Fs ρ S).bind fun ds S1 => (Fk ρ S1).bind fun es S2 => if ds.length = n ∧ es.length = m then g (arrD arr (ds ++ es)) S2 else .st
theorem dk_nil : PK X [] (dA (nm X fd) E fNil) := ⟨fun pos pins s σ H Q I h => pk_nil.run pos pins s σ H Q I (dA_nil h)⟩
theorem dk_cons {e : Expr} {kws : List Keyword} {x : Option Str} {kp : Pos} {Fa : Slots → Sto → Res D} {Fk : Slots → Sto → Res (List D)} (ha : PE X e (dE (nm X fd) E Fa)) (hk : PK X kws (dA (nm X fd) E Fk)) : PK X (⟨x, e, kp⟩ :: kws) (dA (nm X fd) E (fCons Fa Fk)) :=
  ⟨fun pos pins s σ H Q I h => (pk_cons ha hk).run pos pins s σ H Q I (dA_cons h)⟩
def kwN : List Keyword → Option (List Str)
  | [] => some []
  | ⟨some x, _, _⟩ :: r => (kwN r).map (x :: ·)
  | ⟨none, _, _⟩ :: _ => none
theorem kw_facts {env : Env} {pos : Pos} : ∀ {kws : List Keyword} {ks : List Str}, kwN kws = some ks → (backToKw pos (keywordEach kws env)).all (·.1.isSome) = true ∧ (backToKw pos (keywordEach kws env)).filterMap (·.1) = ks ∧ (backToKw pos (keywordEach kws env)).any (·.1.isNone) = false
  | [], ks, e => by cases e; exact ⟨rfl, rfl, rfl⟩
  | ⟨some x, v, p⟩ :: r, ks, e => by
    simp only [kwN, Option.map_eq_some_iff] at e
    obtain ⟨l, e1, rfl⟩ := e
    obtain ⟨h1, h2, h3⟩ := kw_facts (env := env) (pos := pos) e1
    refine ⟨?_, ?_, ?_⟩
    · show (true && _) = true
      exact h1
    · show x :: _ = x :: l
      rw [← h2]
      rfl
    · show (false || _) = false
      exact h3
  | ⟨none, v, p⟩ :: r, ks, e => by cases e
theorem dv_call {x : Str} {es : List Expr} {kws : List Keyword} {p pos : Pos} {Fs Fk : Slots → Sto → Res (List D)} (F : FnG X.prog X.w X.K X.mg X.base CX k f fdt ps (spD (nm X fd) ps.length g)) (hr : Room k X.A) (gd : X.A.guards = some []) (hg : Gl X x) (hm : X.mg x = some (.ref f))
    (hk : PySem.W.keepIn X.K (.ref f) = true) (hb : BndOk X.K X.mg fd fdt ps es.length ks arr) (hx : Passes CX X E) (hdb : (x == ("__debug__" : Str)) = false) (ha : PA X es (dA (nm X fd) E Fs)) (hkw : PK X kws (dA (nm X fd) E Fk)) (hns : es.all nsE = true) (hks : kwN kws = some ks) (hF : es = [] → Fs = fNil) :
    PE X (.Call (.Name x p) es kws pos) (dE (nm X fd) E (fCall g es.length ks.length arr Fs Fk)) := by
  obtain ⟨w1, w2, w3⟩ := kw_facts (env := X.env) (pos := pos) hks
  -- the keywords' values are read, then the callee runs
  have goK : ∀ {pins : List (Addr × Obj)} {σ : L2.St} {H1 : Hp} {s1 : Shared} {Q : VK} {us : List Value} {vs : List V} {ds : List D} {ρ : Slots} {α : List Addr} {S : Sto}, Inv X pins σ H1 s1 → Rho (nm X fd) H1 α σ ρ → StoOk (nm X fd) H1 α S → Vals vs us → RpAll (nm X fd) H1 α vs ds →
      dRes (nm X fd) E α S H1 ((Fk ρ S).bind fun zs S2 => if ds.length = es.length ∧ zs.length = ks.length then g (arrD arr (ds ++ zs)) S2 else .st) Q → wpAny (model X.prog X.w) X.A (evalAll ((backToKw pos (keywordEach kws X.env)).map (·.2)))
        (fun ws s2 => X.K.In s2.heap ∧ wpAny (model X.prog X.w) X.A (call (.ref f) ([] ++ us) (((backToKw pos (keywordEach kws X.env)).filterMap (·.1)).zip ws)) (EP X pins σ Q) X.xe s2) X.xe s1 := by
    intro pins σ H1 s1 Q us vs ds ρ α S I r ok rv rd h
    have rd2 : dA (nm X fd) E Fk σ H1 fun zs H2 => ∃ S2 α2 es', (StoOk (nm X fd) H2 α2 S2 ∧ ds.length = es.length ∧ zs.length = ks.length) ∧ RpAll (nm X fd) H2 α2 (vs ++ zs) (ds ++ es') ∧ dRes (nm X fd) E α2 S2 H2 (g (arrD arr (ds ++ es')) S2) Q := by
      refine ⟨ρ, S, α, r, ok, ?_⟩
      cases q : Fk ρ S with
      | ex c e' S' => rw [q] at h; exact h
      | st => rw [q] at h; exact h
      | ok es' S2 =>
        rw [q] at h
        intro zs H2 α2 st2 ok2 rz
        simp only [bind_ok] at h
        split at h
        · rename_i hl
          exact ⟨S2, α2, es', ⟨ok2, hl.1, by rw [rz.length]; exact hl.2⟩, (st2.rpAll ok rd).append rz, dRes.shift ok st2 h⟩
        · exact h.elim
    refine thn (hkw.run pos pins s1 σ H1 _ I rd2) fun ws s2 ⟨zs, H2, I2, rz, S2, α2, es', ⟨ok2, l1, l2⟩, r2, h2⟩ => ⟨I2.kIn, ?_⟩
    rw [w2]
    exact run_g F hr gd hb hx I2 ok2 (rv.append rz) r2 (by show us.length = _; rw [← rv.length, rd.length, l1]) (rz.length.symm.trans l2) h2
  refine ⟨fun pins s σ H Q I ⟨ρ, S, α, r, ok, h⟩ => wpAny_Call_Name_kw (ld_glob I hg hm ?_ hdb)⟩
  simp only [fCall] at h
  cases es with
  | nil =>
    rw [hF rfl] at h
    refine PySem.W.callWith_KW0 (h₀ := X.base) I.ok.mod.kin hk w1 ?_ (by rw [w3]; rfl)
    exact goK (us := []) (vs := []) (ds := []) I r ok .nil .nil h
  | cons e es =>
    simp only [List.all_cons, Bool.and_eq_true] at hns
    refine PySem.W.callWith_KW (h₀ := X.base) I.ok.mod.kin hk w1 ?_ (by rw [w3, Bool.or_false]; exact starEach_all (by simp only [List.all_cons, Bool.and_eq_true]; exact hns)) (starEach_ns hns.1)
    have h0 : dA (nm X fd) E Fs σ H fun vs H1 => ∃ ρ1 S1 α1 ds, (Rho (nm X fd) H1 α1 σ ρ1 ∧ StoOk (nm X fd) H1 α1 S1) ∧ RpAll (nm X fd) H1 α1 vs ds ∧ dRes (nm X fd) E α1 S1 H1 ((Fk ρ1 S1).bind fun zs S2 => if ds.length = (e :: es).length ∧ zs.length = ks.length then g (arrD arr (ds ++ zs)) S2 else .st) Q := by
      refine ⟨ρ, S, α, r, ok, ?_⟩
      cases q : Fs ρ S with
      | ex c e' S' => rw [q] at h; exact h
      | st => rw [q] at h; exact h
      | ok ds S1 =>
        rw [q] at h
        exact fun vs H1 α1 st ok1 rd => ⟨ρ, S1, α1, ds, ⟨r.step ok st, ok1⟩, rd, dRes.shift ok st h⟩
    exact thn (ha.run pos pins s σ H _ I h0) fun us s1 ⟨vs, H1, I1, rv, ρ1, S1, α1, ds, ⟨r1, ok1⟩, rd, h1⟩ => goK I1 r1 ok1 rv rd h1
end
/-! ### more stands in memory; a cell at what is new there -/
section
variable {N : Nm} {H H' : Hp} {α : List Addr} {S : Sto} {p : Addr} {c : Cell}
theorem up_ext (ext : ∀ b o, H b = some o → H' b = some o) : Up α H (α ++ [p]) H' := ⟨fun l x e => by rw [List.getElem?_append_left (List.getElem?_eq_some_iff.mp e).1]; exact e, fun x u e _ => ext x u e⟩
theorem step_ext (ext : ∀ b o, H b = some o → H' b = some o) (hp : H p = none) : Stp α S H (α ++ [p]) (S ++ [c]) H' := by
  refine ⟨⟨[p], rfl, by simpa using hp⟩, fun l c h _ => ?_, fun a u e _ _ => ext a u e, fun a h => ?_⟩
  · rw [List.getElem?_append_left (List.getElem?_eq_some_iff.mp h).1]
    exact h
  · cases e : H a with
    | none => exact absurd e h
    | some u => rw [ext a u e]; exact fun z => nomatch z
theorem sto_ext (ok : StoOk N H α S) (ext : ∀ b o, H b = some o → H' b = some o) (hp : H p = none) (hc : CellOk N H' (α ++ [p]) p c) : StoOk N H' (α ++ [p]) (S ++ [c]) := by
  refine ⟨by simp [ok.len], ?_, fun l a c' h1 h2 => ?_, ok.tb.ext ext⟩
  · rw [List.nodup_append]
    refine ⟨ok.nd, by simp, fun a ha b hb => ?_⟩
    simp at hb
    subst hb
    rintro rfl
    exact ok.fresh hp ha
  · by_cases hl : l < α.length
    · rw [List.getElem?_append_left hl] at h1
      rw [List.getElem?_append_left (by rw [← ok.len]; exact hl)] at h2
      refine (ok.cell l a c' h1 h2).up (up_ext ext) ?_
      have := ok.tracked h1
      cases e : H a with
      | none => exact absurd e this
      | some u => exact ext a u e
    · have hl' : l = α.length := by
        have := (List.getElem?_eq_some_iff.mp h1).1
        simp at this
        omega
      subst hl'
      simp at h1
      rw [ok.len] at h2
      simp at h2
      subst h1
      subst h2
      exact hc
theorem rp_items : ∀ {ts : List Addr} {ks : List Key} {vs : List V} {xs : List D}, Paired (fun (t : Addr) (q : Key × V) => H t = some (.tup [kV q.1, q.2])) ts (ks.zip vs) → ks.length = vs.length → RpAll N H α vs xs →
    RpAll N H α (ts.map V.ref) ((ks.zip xs).map fun q => mkT [keyD q.1, q.2])
  | _, [], [], _, pr, _, .nil => by cases pr; exact .nil
  | _, k :: ks, v :: vs, x :: xs, pr, hl, .cons rv r => by
    cases pr with
    | cons h t => exact .cons (rp_mkT (.inl (.inl h)) (.cons (keyD_rp k) (.cons rv .nil))) (rp_items t (by simpa using hl) r)
  | _, [], _ :: _, _, _, hl, _ => by cases hl
  | _, _ :: _, [], _, _, hl, _ => by cases hl
end
/-! ### list(d.items()) -/
abbrev fLitems (Fa : Slots → Sto → Res D) : Slots → Sto → Res D := fun ρ S => (Fa ρ S).bind fun d S1 => match d with
  | .loc l => match S1[l]? with
    | some (.dK kvs) => .ok (.loc S1.length) (S1 ++ [.lst (kvs.map fun q => mkT [keyD q.1, q.2])])
    | _ => .st
  | _ => .st
section
variable {X : Cx} {fd : FdT} {E : XK} {e : Expr} {st : Stmt} {Fa F : Slots → Sto → Res D} {p apos cpos pos : Pos}
theorem dv_litems (hc : X.calm = true) (ha : PE X e (dE (nm X fd) E Fa)) (hg : Gl X "list") (hm : X.mg "list" = none) (hbase : attributeBase e "items" X.env (eval e X.env) = eval e X.env) (hline : (apos.endLine == cpos.line) = true) :
    PE X (.Call (.Name "list" p) [.Call (.Attribute e "items" apos) [] [] cpos] [] pos) (dE (nm X fd) E (fLitems Fa)) := by
  refine PE.imp (LiI.pe_listItems hc ha hg hm rfl hbase hline) fun σ H Q ⟨ρ, S, α, r, ok, h⟩ => ⟨ρ, S, α, r, ok, ?_⟩
  unfold fLitems at h
  cases q : Fa ρ S with
  | ex c e' S' => rw [q] at h; exact h
  | st => rw [q] at h; exact h.elim
  | ok d S1 =>
    rw [q] at h
    simp only [bind_ok] at h
    intro v H1 α1 st1 ok1 rv
    split at h
    · split at h
      · rename_i l kvs e3
        cases rv with
        | @loc a _ hl =>
          obtain ⟨ks, vs, xs, h1, rfl, h3, h4⟩ := ok1.cell _ _ _ hl e3
          refine ⟨a, ks.zip vs, rfl, h1, fun H' b ts ext hp hts np hb pr => ?_⟩
          refine h _ H' (α1 ++ [b]) (st1.trans ok (step_ext ext hp)) (sto_ext ok1 ext hp ⟨_, hb, rp_items pr h3 ((up_ext ext).rpAll h4)⟩) (.loc ?_)
          rw [← ok1.len]
          simp
      · exact h.elim
    · exact h.elim
end
/-! ### a dict is locked while it is walked -/
section
variable {N : Nm} {H H' : Hp} {α α' : List Addr} {S S' : Sto} {l : Nat} {a : Addr} {kvs : List (Key × D)} {ks : List Key} {vs : List V} {xs : List D} {od : Obj}
theorem up_lock (h : H a = some (.dK (ks.zip vs))) : Up α H α (upd H a (.frz od (.dK (ks.zip vs)))) := ⟨fun _ _ h => h, fun x u e f => by
  by_cases q : x = a
  · subst q
    rw [h] at e
    cases e
    exact f.elim
  · rw [upd_ne q]; exact e⟩
theorem lock_ok (ok : StoOk N H α S) (hl : α[l]? = some a) (hs : S[l]? = some (.dK (ks.zip xs))) (h : H a = some (.dK (ks.zip vs))) (h3 : ks.length = vs.length) (h4 : RpAll N H α vs xs) :
    StoOk N (upd H a (.frz od (.dK (ks.zip vs)))) α (S.set l (.lk (ks.zip xs))) :=
  sto_set ok hl hs rfl ⟨od, ks, vs, xs, upd_same, rfl, h3, (up_lock h).rpAll h4⟩
theorem unlock_stp (ok : StoOk N H α S) (hl : α[l]? = some a) (hs : S[l]? = some (.dK (ks.zip xs))) (h : H a = some (.dK (ks.zip vs))) (st : Stp α (S.set l (.lk (ks.zip xs))) (upd H a (.frz od (.dK (ks.zip vs)))) α' S' H') :
    Stp α S H α' (S'.set l (.dK (ks.zip xs))) (upd H' a (.dK (ks.zip vs))) := by
  obtain ⟨β, e1, f1⟩ := st.pre
  refine ⟨⟨β, e1, fun b hb => ?_⟩, fun k c hk hc => ?_, fun x u e nt nl => ?_, fun x hx => ?_⟩
  · have := f1 b hb
    by_cases q : b = a
    · subst q
      rw [upd_same] at this
      cases this
    · rwa [upd_ne q] at this
  · have ne : l ≠ k := fun q => by
      subst q
      rw [hs] at hk
      cases hk
      cases hc
    rw [List.getElem?_set_ne ne]
    exact st.still k c (by rw [List.getElem?_set_ne ne]; exact hk) hc
  · have ne : x ≠ a := fun q => nl (q ▸ ⟨l, _, hl, hs, rfl⟩)
    rw [upd_ne ne]
    refine st.keep x u (by rw [upd_ne ne]; exact e) nt ?_
    rintro ⟨k, c, h1, h2, h3⟩
    have nk : l ≠ k := fun q => by
      subst q
      rw [List.getElem?_set_self (List.getElem?_eq_some_iff.mp hs).1] at h2
      cases h2
      cases h3
    rw [List.getElem?_set_ne nk] at h2
    exact nl ⟨k, c, h1, h2, h3⟩
  · by_cases q : x = a
    · subst q
      rw [upd_same]
      exact fun z => nomatch z
    · rw [upd_ne q]
      exact st.there x (by rw [upd_ne q]; exact hx)
theorem unlock_ok (ok : StoOk N H α S) (hl : α[l]? = some a) (hs : S[l]? = some (.dK (ks.zip xs))) (h : H a = some (.dK (ks.zip vs))) (h3 : ks.length = vs.length) (h4 : RpAll N H α vs xs)
    (st : Stp α (S.set l (.lk (ks.zip xs))) (upd H a (.frz od (.dK (ks.zip vs)))) α' S' H') (ok' : StoOk N H' α' S') : StoOk N (upd H' a (.dK (ks.zip vs))) α' (S'.set l (.dK (ks.zip xs))) ∧ ∀ {d : D} {v : V}, Rp N H' α' v d → Rp N (upd H' a (.dK (ks.zip vs))) α' v d := by
  have hl' : α'[l]? = some a := st.loc hl
  have hs' : S'[l]? = some (.lk (ks.zip xs)) := st.still l _ (by rw [List.getElem?_set_self (List.getElem?_eq_some_iff.mp hs).1]) rfl
  have ha : H' a = some (.frz od (.dK (ks.zip vs))) := st.keep a _ upd_same (fun z => z) ((lock_ok (od := od) ok hl hs h h3 h4).notLive' upd_same)
  have up : Up α' H' α' (upd H' a (.dK (ks.zip vs))) := ⟨fun _ _ h => h, fun x u e f => by
    by_cases q : x = a
    · subst q
      rw [ha] at e
      cases e
      exact f.elim
    · rw [upd_ne q]; exact e⟩
  refine ⟨⟨by simp [ok'.len], ok'.nd, fun k b c h1 h2 => ?_, fun p hp => tab_side ha (fun z => z) (fun z => z) p.1 p.2 (ok'.tb p hp)⟩, fun r => up.rp r⟩
  by_cases q : l = k
  · subst q
    rw [hl'] at h1
    cases h1
    rw [List.getElem?_set_self (List.getElem?_eq_some_iff.mp hs').1] at h2
    cases h2
    exact ⟨ks, vs, xs, upd_same, rfl, h3, (unlock_stp ok hl hs h st).rpAll ok h4⟩
  · rw [List.getElem?_set_ne q] at h2
    refine (ok'.cell k b c h1 h2).up up (upd_ne fun e => ?_)
    subst e
    exact q (nodup_at ok'.nd hl' h1)
end
noncomputable def fLock (Fa F : Slots → Sto → Res D) : Slots → Sto → Res D := fun ρ S => match Fa ρ S with
  | .ok (.loc l) _ => match S[l]? with
    | some (.dK kvs) => match F ρ (S.set l (.lk kvs)) with
      | .ok d S' => .ok d (S'.set l (.dK kvs))
      | _ => .st
    | _ => .st
  | _ => .st
def unlk (l : Nat) (kvs : List (Key × D)) : Out → Out
  | .nx ρ S => .nx ρ (S.set l (.dK kvs))
  | .rt d S => .rt d (S.set l (.dK kvs))
  | .bk ρ S => .bk ρ (S.set l (.dK kvs))
  | .ct ρ S => .ct ρ (S.set l (.dK kvs))
  | _ => .st
noncomputable def sLock (Fa : Slots → Sto → Res D) (A : Slots → Sto → Out) : Slots → Sto → Out := fun ρ S => match Fa ρ S with
  | .ok (.loc l) _ => match S[l]? with
    | some (.dK kvs) => unlk l kvs (A ρ (S.set l (.lk kvs)))
    | _ => .st
  | _ => .st
section
variable {X : Cx} {fd : FdT} {E : XK} {e : Expr} {st : Stmt} {Fa F : Slots → Sto → Res D} {A : Slots → Sto → Out}
theorem Rho.up {N : Nm} {H H' : Hp} {α α' : List Addr} {σ : L2.St} {ρ : Slots} (u : Up α H α' H') (r : Rho N H α σ ρ) : Rho N H' α' σ ρ := ⟨r.len, fun i d h => let ⟨v, h1, h2⟩ := r.at_ i d h; ⟨v, h1, u.rp h2⟩⟩
theorem Rho.up' {N : Nm} {H H' : Hp} {α α' : List Addr} {σ : L2.St} {ρ : Slots} (u : ∀ {d : D} {v : V}, Rp N H α v d → Rp N H' α' v d) (r : Rho N H α σ ρ) : Rho N H' α' σ ρ := ⟨r.len, fun i d h => let ⟨v, h1, h2⟩ := r.at_ i d h; ⟨v, h1, u h2⟩⟩
theorem dv_lock (he : PE X e (dE (nm X fd) E F)) : PE X e (dE (nm X fd) E (fLock Fa F)) := by
  refine PE.imp (pe_lock he) fun σ H Q ⟨ρ, S, α, r, ok, h⟩ => ?_
  unfold fLock at h
  split at h
  · rename_i l S0 _
    split at h
    · rename_i kvs hs
      have hl : l < α.length := by rw [ok.len]; exact (List.getElem?_eq_some_iff.mp hs).1
      have hl := List.getElem?_eq_getElem hl
      generalize α[l] = a at hl
      obtain ⟨ks, vs, xs, h1, rfl, h3, h4⟩ := ok.cell _ _ _ hl hs
      refine ⟨a, _, h1, trivial, fun od => ⟨ρ, S.set l (.lk (ks.zip xs)), α, r.up (up_lock h1), lock_ok ok hl hs h1 h3 h4, ?_⟩⟩
      cases q : F ρ (S.set l (.lk (ks.zip xs))) with
      | ex c e' S' => rw [q] at h; exact h.elim
      | st => rw [q] at h; exact h.elim
      | ok d S' =>
        rw [q] at h
        intro v H' α' st ok' rv
        obtain ⟨u1, u2⟩ := unlock_ok ok hl hs h1 h3 h4 st ok'
        exact ⟨st.keep a _ upd_same (fun z => z) ((lock_ok (od := od) ok hl hs h1 h3 h4).notLive' upd_same), h v _ α' (unlock_stp ok hl hs h1 st) u1 (u2 rv)⟩
    · exact h.elim
  · exact h.elim
theorem ds_lock (hs : PS X st (dS (nm X fd) E A)) : PS X st (dS (nm X fd) E (sLock Fa A)) := by
  refine PS.imp (ps_lock hs) fun Dn σ H ⟨ρ, S, α, r, ok, h⟩ => ?_
  unfold sLock at h
  split at h
  · rename_i l S0 _
    split at h
    · rename_i kvs hs
      have hl : l < α.length := by rw [ok.len]; exact (List.getElem?_eq_some_iff.mp hs).1
      have hl := List.getElem?_eq_getElem hl
      generalize α[l] = a at hl
      obtain ⟨ks, vs, xs, h1, rfl, h3, h4⟩ := ok.cell _ _ _ hl hs
      refine ⟨a, _, h1, trivial, fun od => ⟨ρ, S.set l (.lk (ks.zip xs)), α, r.up (up_lock h1), lock_ok ok hl hs h1 h3 h4, ?_⟩⟩
      have kp : ∀ {α' S' H'}, Stp α (S.set l (.lk (ks.zip xs))) (upd H a (.frz od (.dK (ks.zip vs)))) α' S' H' → H' a = some (.frz od (.dK (ks.zip vs))) := fun st => st.keep a _ upd_same (fun z => z) ((lock_ok (od := od) ok hl hs h1 h3 h4).notLive' upd_same)
      cases q : A ρ (S.set l (.lk (ks.zip xs))) with
      | ex c e' S' => rw [q] at h; exact h.elim
      | st => rw [q] at h; exact h.elim
      | nx ρ' S' =>
        rw [q] at h
        intro σ' H' α' st ok' rv
        obtain ⟨u1, u2⟩ := unlock_ok ok hl hs h1 h3 h4 st ok'
        exact ⟨kp st, h σ' _ α' (unlock_stp ok hl hs h1 st) u1 (rv.up' u2)⟩
      | bk ρ' S' =>
        rw [q] at h
        intro σ' H' α' st ok' rv
        obtain ⟨u1, u2⟩ := unlock_ok ok hl hs h1 h3 h4 st ok'
        exact ⟨kp st, h σ' _ α' (unlock_stp ok hl hs h1 st) u1 (rv.up' u2)⟩
      | ct ρ' S' =>
        rw [q] at h
        intro σ' H' α' st ok' rv
        obtain ⟨u1, u2⟩ := unlock_ok ok hl hs h1 h3 h4 st ok'
        exact ⟨kp st, h σ' _ α' (unlock_stp ok hl hs h1 st) u1 (rv.up' u2)⟩
      | rt d S' =>
        rw [q] at h
        intro v H' α' st ok' rv
        obtain ⟨u1, u2⟩ := unlock_ok ok hl hs h1 h3 h4 st ok'
        exact ⟨kp st, h v _ α' (unlock_stp ok hl hs h1 st) u1 (u2 rv)⟩
    · exact h.elim
  · exact h.elim
end
/-! ### new instances, methods -/
section
variable {X : Cx} {fd : FdT} {E : XK} {CX : CXT} {k n : Nat} {f C : Addr} {fdt : FuncData} {ps : List Str} {arr : Arr} {g : List D → Sto → Res D} {cn m : Str}
/-- C(..): the new instance's cell, then __init__ -/
def fMk (cn : Str) (g : List D → Sto → Res D) (n : Nat) (arr : Arr) (ds : List D) (S : Sto) : Res D := if ds.length = n then (g (arrD arr (.loc S.length :: ds)) (S ++ [.ins cn []])).bind fun r S2 => (match r with
  | .p .none => .ok (.loc S.length) S2
  | _ => .st) else .st
abbrev fMake (cn : Str) (g : List D → Sto → Res D) (n : Nat) (arr : Arr) (Fs : Slots → Sto → Res (List D)) : Slots → Sto → Res D := fun ρ S => (Fs ρ S).bind (fMk cn g n arr)
theorem guards_make {A : Around} {C : Addr} {us : List Value} {kw : List (Str × Value)} (h : A.guards = some []) : (A.under (.builtin "type.__call__" ⟨.ref C :: us, kw⟩)).guards = some [] := by
  first
    | exact h
    | (show A.guards = some []; exact h)
    | (simp [Around.under, h])
theorem run_makeG {pins : List (Addr × Obj)} {σ : L2.St} {H : Hp} {s : Shared} {Q : VK} {us : List Value} {vs : List V} {ds : List D} {α : List Addr} {S : Sto} (M : Mk X.K C f) (cl : Cls X.K C) (hm : X.mg cn = some (.ref C))
    (F : FnG X.prog X.w X.K X.mg X.base CX k f fdt ps (spD (nm X fd) ps.length g)) (hr : Room (k + 1) X.A) (gd : X.A.guards = some []) (hb : BndOk X.K X.mg fd fdt ps (n + 1) [] arr) (hx : Passes CX X E) (I : Inv X pins σ H s) (ok : StoOk (nm X fd) H α S)
    (rv : Vals vs us) (r : RpAll (nm X fd) H α vs ds) (h : dRes (nm X fd) E α S H (fMk cn g n arr ds S) Q) : wpAny (model X.prog X.w) X.A (call (.ref C) us) (EP X pins σ Q) X.xe s := by
  unfold fMk at h
  split at h
  · rename_i hn
    have hx0 : H (s.heap.objs.size + 1) = none := I.hok.fresh (Nat.le_succ _)
    have hd0 : H s.heap.objs.size = none := I.hok.fresh (Nat.le_refl _)
    have I2 := Inv.made (C := C) I
    generalize eH : upd (upd H s.heap.objs.size (.own (s.heap.objs.size + 1))) (s.heap.objs.size + 1) (.ins C s.heap.objs.size []) = H2 at I2
    have ext : ∀ b o, H b = some o → H2 b = some o := fun b o e => by
      rw [← eH, upd_ne (ne_of_none e hx0), upd_ne (ne_of_none e hd0)]
      exact e
    have ok2 : StoOk (nm X fd) H2 (α ++ [s.heap.objs.size + 1]) (S ++ [.ins cn []]) := sto_ext ok ext hx0 ⟨C, s.heap.objs.size, [], [], [], hm, by rw [← eH]; exact upd_same, rfl, rfl, .nil, cl, fun g hg => nomatch hg⟩
    have st : Stp α S H (α ++ [s.heap.objs.size + 1]) (S ++ [.ins cn []]) H2 := step_ext ext hx0
    have r2 : RpAll (nm X fd) H2 (α ++ [s.heap.objs.size + 1]) (V.ref (s.heap.objs.size + 1) :: vs) (.loc S.length :: ds) := .cons (.loc (by rw [← ok.len]; simp)) ((up_ext ext).rpAll r)
    have rv2 : Vals (V.ref (s.heap.objs.size + 1) :: vs) (Value.ref (s.heap.objs.size + 1) :: us) := .cons rfl rv
    obtain ⟨zs, b1, b2, b3⟩ := hb _ (Value.ref (s.heap.objs.size + 1) :: us) [] I2.kIn (by simp [← rv.length, r.length, hn]) rfl
    rw [List.append_nil] at b3
    obtain ⟨ys, e1, e2⟩ := args_in rv2 r2 b3
    have len : ys.length = ps.length := by rw [e1.length, b2]
    have hq : dRes (nm X fd) E (α ++ [s.heap.objs.size + 1]) (S ++ [.ins cn []]) H2 (g (arrD arr (.loc S.length :: ds)) (S ++ [.ins cn []])) (fun v H3 => v = .non ∧ Q (.ref (s.heap.objs.size + 1)) H3) := by
      cases q : g (arrD arr (.loc S.length :: ds)) (S ++ [.ins cn []]) with
      | ex c e S' => rw [q] at h; exact fun cls dx H' α' st' ok' x => h cls dx H' α' (st.trans ok st') ok' x
      | st => rw [q] at h; exact h
      | ok d S3 =>
        rw [q] at h
        simp only [bind_ok] at h
        split at h
        · exact fun v H3 α3 st3 ok3 rv3 => ⟨rv3.none_inv, h _ H3 α3 (st.trans ok st3) ok3 (.loc (st3.loc (by rw [← ok.len]; simp)))⟩
        · exact h.elim
    refine wpAny_call (make_map (f := f) I.kIn M.makes M.init (beq_iff_eq.mp M.fn) (codeAny_mono (F.go _ X.stack _ _ ⟨Value.ref (s.heap.objs.size + 1) :: us, []⟩ zs ys _ E ⟨hr.make C us [], guards_make gd⟩ (I2.env0.make C us []) b1 e1 ⟨len, _, _, _, ⟨ok2, len⟩, e2, hq⟩) fun o s' hq' => ?_))
    cases o with
    | error e => exact hx pins σ _ _ e s' I2 hq'
    | ok fl =>
      cases fl with
      | ret u =>
        obtain ⟨v, H', I3, rv', ev, q3⟩ := I2.after hq'
        subst ev
        exact ⟨rv', ⟨V.ref (s.heap.objs.size + 1), H', I3, rfl, q3⟩⟩
      | next => exact False.elim hq'
      | brk => exact False.elim hq'
      | cont => exact False.elim hq'
  · exact h.elim
theorem dv_make {x : Str} {e : Expr} {es : List Expr} {p pos : Pos} {Fs : Slots → Sto → Res (List D)} (M : Mk X.K C f) (cl : Cls X.K C) (F : FnG X.prog X.w X.K X.mg X.base CX k f fdt ps (spD (nm X fd) ps.length g)) (hr : Room (k + 1) X.A) (gd : X.A.guards = some []) (hg : Gl X x) (hm : X.mg x = some (.ref C))
    (hb : BndOk X.K X.mg fd fdt ps (n + 1) [] arr) (hx : Passes CX X E) (hdb : (x == ("__debug__" : Str)) = false) (ha : PA X (e :: es) (dA (nm X fd) E Fs)) (hns : (e :: es).all nsE = true) :
    PE X (.Call (.Name x p) (e :: es) [] pos) (dE (nm X fd) E (fMake x g n arr Fs)) := by
  simp only [List.all_cons, Bool.and_eq_true] at hns
  refine ⟨fun pins s σ H Q I h => ?_⟩
  refine wpAny_Call_Name_kw (ld_glob I hg hm ?_ hdb)
  refine PySem.W.callWith_K (h₀ := X.base) I.ok.mod.kin M.kp (thn (ha.run pos pins s σ H _ I (dE_args h)) fun us s1 ⟨vs, H1, I1, rv, S1, α1, ds, ok1, r1, h1⟩ => ⟨I1.kIn, ?_⟩) (starEach_ns hns.1) (starEach_all hns.2)
  exact run_makeG M cl hm F hr gd hb hx I1 ok1 rv r1 h1
/-- o.m(..) -/
abbrev fMeth (cn m : Str) (g : List D → Sto → Res D) (n : Nat) (arr : Arr) (Fo : Slots → Sto → Res D) (Fs : Slots → Sto → Res (List D)) : Slots → Sto → Res D := fun ρ S => (Fo ρ S).bind fun o S1 => match o with
  | .loc l => match S1[l]? with
    | some (.ins c fs) => if c = cn ∧ fs.lookup m = none then (Fs ρ S1).bind fun ds S2 => if ds.length = n then g (arrD arr (.loc l :: ds)) S2 else .st else .st
    | _ => .st
  | _ => .st
theorem look_none {m : Str} : ∀ {ks : List Str} {vs : List V} {xs : List D}, ks.length = vs.length → vs.length = xs.length → (ks.zip xs).lookup m = none → (ks.zip vs).lookup m = none
  | [], _, _, _, _, _ => rfl
  | k :: ks, v :: vs, x :: xs, h1, h2, h => by
    simp only [List.zip_cons_cons, List.lookup_cons] at h ⊢
    split at h
    · cases h
    · exact look_none (by simpa using h1) (by simpa using h2) h
  | _ :: _, [], _, h1, _, _ => by cases h1
  | _ :: _, _ :: _, [], _, h2, _ => by cases h2
theorem dv_meth {o e : Expr} {es : List Expr} {apos pos : Pos} {Fo : Slots → Sto → Res D} {Fs : Slots → Sto → Res (List D)} (ho : PE X o (dE (nm X fd) E Fo)) (hcn : X.mg cn = some (.ref C)) (cl : Cls X.K C) (hM : Meth X.K C m f) (F : FnG X.prog X.w X.K X.mg X.base CX k f fdt ps (spD (nm X fd) ps.length g)) (hr : Room k X.A)
    (gd : X.A.guards = some []) (hb : BndOk X.K X.mg fd fdt ps (n + 1) [] arr) (hx : Passes CX X E) (ha : PA X (e :: es) (dA (nm X fd) E Fs)) (hns : (e :: es).all nsE = true) (hl : (e :: es).length < 30) (hbase : baseE o = true) (hline : (apos.endLine == pos.line) = true) :
    PE X (.Call (.Attribute o m apos) (e :: es) [] pos) (dE (nm X fd) E (fMeth cn m g n arr Fo Fs)) := by
  have hn' := hns
  simp only [List.all_cons, Bool.and_eq_true] at hn'
  refine ⟨fun pins s σ H Q I h => ?_⟩
  have rd : dE (nm X fd) E Fo σ H fun x H1 => ∃ ρ1 S1 α1 l c fs, (Rho (nm X fd) H1 α1 σ ρ1 ∧ StoOk (nm X fd) H1 α1 S1) ∧ Rp (nm X fd) H1 α1 x (.loc l) ∧ S1[l]? = some (.ins c fs) ∧ (c = cn ∧ fs.lookup m = none) ∧
      dRes (nm X fd) E α1 S1 H1 ((Fs ρ1 S1).bind fun ds S2 => if ds.length = n then g (arrD arr (.loc l :: ds)) S2 else .st) Q := by
    obtain ⟨ρ, S, α, r, ok, h⟩ := h
    refine ⟨ρ, S, α, r, ok, ?_⟩
    unfold fMeth at h
    cases q : Fo ρ S with
    | ex c e' S' => rw [q] at h; exact h
    | st => rw [q] at h; exact h.elim
    | ok d S1 =>
      rw [q] at h
      simp only [bind_ok] at h
      intro v H1 α1 st ok1 rv
      split at h
      · rename_i l
        split at h
        · rename_i c fs e3
          split at h
          · rename_i hc
            exact ⟨ρ, S1, α1, l, c, fs, ⟨r.step ok st, ok1⟩, rv, e3, hc, dRes.shift ok st h⟩
          · exact h.elim
        · exact h.elim
      · exact h.elim
  rw [arm_eval_Call, base_of hbase]
  refine wpAny_bind (wpAny_mono (ho.run pins s σ H _ I rd) (fun ov s1 hov => ?_) fun _ _ z => z)
  obtain ⟨x, H1, I1, rx, ρ1, S1, α1, l, c, fs, ⟨r1, ok1⟩, rl, e3, ⟨rfl, hlk⟩, h1⟩ := hov
  refine wpAny_bind (wpAny_standAt ?_)
  have hform : methodCallForm ((e :: es).length + ([] : List Keyword).length) (backTo pos (starEach (e :: es) X.env)) (backToKw pos (keywordEach [] X.env)) = true := few_ok hns hl
  have hpos : methodCallPos true o X.env apos pos = pure pos := by unfold methodCallPos; simp [hline]
  unfold methodCall
  rw [hform, hpos]
  cases rl with
  | @loc a _ hla =>
    obtain ⟨Ca, dx, ks, vs, xs, q1, q2, rfl, q3, q4, _, _⟩ := ok1.cell _ _ _ hla e3
    have q1 : X.mg c = some (.ref Ca) := q1
    rw [hcn] at q1
    cases q1
    obtain rfl : ov = Value.ref a := rx
    refine wpAny_bind (wpAny_holding ?_)
    show wpAny _ _ (getMethod (.ref a) m _) _ _ _
    refine getmeth_ok I1 q2 cl hM (look_none q3 q4.length hlk) ?_
    refine wpAny_bind (wpAny_pure ?_)
    have rd2 : dA (nm X fd) E Fs σ H1 fun us H2 => ∃ S2 α2 ds, StoOk (nm X fd) H2 α2 S2 ∧ α2[l]? = some a ∧ RpAll (nm X fd) H2 α2 us ds ∧ ds.length = n ∧ dRes (nm X fd) E α2 S2 H2 (g (arrD arr (.loc l :: ds)) S2) Q := by
      refine ⟨ρ1, S1, α1, r1, ok1, ?_⟩
      cases q : Fs ρ1 S1 with
      | ex c e' S' => rw [q] at h1; exact h1
      | st => rw [q] at h1; exact h1.elim
      | ok ds S2 =>
        rw [q] at h1
        simp only [bind_ok] at h1
        intro us H2 α2 st2 ok2 rz
        split at h1
        · rename_i hds
          exact ⟨S2, α2, ds, ok2, st2.loc hla, rz, hds, dRes.shift ok1 st2 h1⟩
        · exact h1.elim
    refine PySem.W.callWith_K (first := [.ref a]) (h₀ := X.base) I.ok.mod.kin hM.kp (thn (ha.run pos pins s1 σ H1 _ I1 rd2) fun us s2 ⟨vs2, H2, I2, rv, S2, α2, ds, ok2, hl2, r2, hds, h2⟩ => ⟨I2.kIn, ?_⟩) (starEach_ns hn'.1) (starEach_all hn'.2)
    exact run_g (us := .ref a :: us) (ws := []) (vs := .ref a :: vs2) (ds := .loc l :: ds) (ks := []) F hr gd hb hx I2 ok2 (by rw [List.append_nil]; exact .cons rfl rv) (.cons (.loc hl2) r2) (by simp [← rv.length, r2.length, hds]) rfl h2
end
/-! ### sorted(set(t)), list(range(n)), a dict that stays as it is -/
/-- set(t), t a tuple of ints -/
def rSetT (w : World) (K : PySem.W.Frag) : List V → Hp → VK → Prop := fun xs H Q => ∃ (p0 : Addr) (ns : List Int), xs = [V.ref p0] ∧ SqT K H p0 (ns.map V.int) ∧ ns.length < 60 ∧
  ∀ (p : Addr) (c : Nat), H p = none → c ≤ ns.length → Q (.ref p) (upd H p (SetO w p (fun j => decide (j ∈ ns)) c))
theorem cr_setT {X : Cx} (hc : X.calm = true) : CallR X (.type "set") (rSetT X.w X.K) := by
  intro pins s σ H xs us Q I r h
  obtain ⟨p0, ns, rfl, hq, hl, q⟩ := h
  rw [Vals.ref1 r]
  obtain ⟨its, rv, pt, hz⟩ := I.tuple hq
  refine call_set_tupI ns (I.ok.hd hc) (show s.heap.IsTuple p0 its.toArray from pt) (ints_of_vals rv) (by unfold scanBound; omega) fun h' tk c R hcn k => ?_
  exact ⟨.ref s.heap.objs.size, _, I.laid (t' := tk) (o := SetO X.w s.heap.objs.size (fun j => decide (j ∈ ns)) c) k (Nat.le_refl _) (setO_new R), rfl, q _ c (I.hok.fresh (Nat.le_refl _)) hcn⟩
def opSset (m : Bool) (d : D) (S : Sto) : Res D := match (tupOf d).bind intsOf with
  | some ns => if ns.length < 60 then mkL m ((sortU ns).map D.i) S else .st
  | none => .st
abbrev fSset (m : Bool) (Fa : Slots → Sto → Res D) : Slots → Sto → Res D := fun ρ S => (Fa ρ S).bind (opSset m)
def opLrg (m : Bool) (d : D) (S : Sto) : Res D := match d with
  | .p (.int n) => if -1000 ≤ n ∧ n ≤ 1000000 then mkL m ((List.range n.toNat).map fun i => D.i (i : Nat)) S else .st
  | _ => .st
abbrev fLrg (m : Bool) (Fa : Slots → Sto → Res D) : Slots → Sto → Res D := fun ρ S => (Fa ρ S).bind (opLrg m)
def keyP : Key → PyData
  | .inl i => .int i
  | .inr x => .str x
def allPv : List (Key × D) → Option (List (PyData × PyData))
  | [] => some []
  | (k, .p d) :: r => (allPv r).map ((keyP k, d) :: ·)
  | _ :: _ => none
/-- a new dict of frozen values, kept as it is -/
def opFrz (d : D) (S : Sto) : Res D := match d with
  | .loc l => match S[l]? with
    | some (.dK kvs) => match allPv kvs with
      | some ds => .ok (.p (.dict ds)) (S.set l .dead)
      | none => .st
    | _ => .st
  | _ => .st
abbrev fFrz (Fa : Slots → Sto → Res D) : Slots → Sto → Res D := fun ρ S => (Fa ρ S).bind opFrz
section
variable {X : Cx} {fd : FdT} {E : XK} {a : Expr} {Fa : Slots → Sto → Res D} {p p2 pos pos2 : Pos} {m : Bool}
theorem dv_sset (G : Good X) (hg : Gl X "sorted") (hm : X.mg "sorted" = none) (hg2 : Gl X "set") (hm2 : X.mg "set" = none) (ha : PE X a (dE (nm X fd) E Fa)) (hn : nsE a = true) :
    PE X (.Call (.Name "sorted" p) [.Call (.Name "set" p2) [a] [] pos2] [] pos) (dE (nm X fd) E (fSset m Fa)) := by
  have inner := pe_callTy (T := "set") (cr_setT G.calm) hg2 hm2 PyProof.Rows.boot_set (pa_cons ha pa_nil (starEach_ns hn)) (by decide) (by decide) (starEach_ns hn) rfl (p := p2) (pos := pos2)
  have outer := pe_callB (id := "sorted") (cr_fz G.sys (cr_sortedSet G.calm)) hg hm (by decide +kernel) (pa_cons inner pa_nil) (p := p) (pos := pos)
  refine PE.imp outer fun σ H Q ⟨ρ, S, α, r, ok, h⟩ => ⟨ρ, S, α, r, ok, ?_⟩
  unfold fSset at h
  cases q : Fa ρ S with
  | ex c e' S' => rw [q] at h; exact h
  | st => rw [q] at h; exact h.elim
  | ok d S1 =>
    rw [q] at h
    intro x H1 α1 st1 ok1 rv
    have h := dRes.shift ok st1 h
    simp only [bind_ok, opSset] at h
    split at h
    · rename_i ns e
      split at h
      · rename_i hz
        obtain ⟨xs, e1, e2⟩ := Option.bind_eq_some_iff.mp e
        obtain ⟨b, vs, rfl, h1, r1⟩ := rv.tup_inv e1
        have ev := intsOf_rp e2 r1
        subst ev
        refine ⟨b, ns, rfl, h1, hz, fun q c hq hc => ⟨q, _, c, rfl, upd_same, by omega, fun ns' t pw mem hl ht => ?_⟩⟩
        have eu : ns' = sortU ns := rise_uniq pw (sortU_sorted ns) fun k => by rw [mem, decide_eq_true_eq, sortU_mem]
        subst eu
        have st2 : Stp α1 S1 H1 α1 S1 (upd H1 q (SetO X.w q (fun j => decide (j ∈ ns)) c)) := step_new ok1 hq
        exact newL (sto_new ok1 hq) (rpAll_ints _) (dRes.shift ok1 st2 h) t ht
      · exact h.elim
    · exact h.elim
theorem dv_lrg (G : Good X) (hg : Gl X "list") (hm : X.mg "list" = none) (hg2 : Gl X "range") (hm2 : X.mg "range" = none) (ha : PE X a (dE (nm X fd) E Fa)) (hn : nsE a = true) :
    PE X (.Call (.Name "list" p) [.Call (.Name "range" p2) [a] [] pos2] [] pos) (dE (nm X fd) E (fLrg m Fa)) := by
  refine PE.imp (pe_fz G.sys (pe_listRg G.calm hg hm (prg_1 hg2 hm2 ha (starEach_ns hn)))) fun σ H Q ⟨ρ, S, α, r, ok, h⟩ => ⟨ρ, S, α, r, ok, ?_⟩
  unfold fLrg at h
  cases q : Fa ρ S with
  | ex c e' S' => rw [q] at h; exact h
  | st => rw [q] at h; exact h.elim
  | ok d S1 =>
    rw [q] at h
    intro x H1 α1 st1 ok1 rv
    have h := dRes.shift ok st1 h
    simp only [bind_ok, opLrg] at h
    split at h
    · rename_i n _
      split at h
      · rename_i hz
        refine ⟨n, rv.int_inv, ⟨by decide, by decide, by omega, by omega, by omega⟩, fun t ht => ?_⟩
        have e : rgV 0 n = ((List.range n.toNat).map fun i : Nat => (i : Int)).map V.int := by
          unfold rgV
          rw [List.map_map, Int.sub_zero]
          refine List.map_congr_left fun i _ => ?_
          show V.int (0 + (i : Int)) = V.int (i : Int)
          rw [Int.zero_add]
        rw [e]
        have e2 : ((List.range n.toNat).map fun i => D.i (i : Nat)) = ((List.range n.toNat).map fun i : Nat => (i : Int)).map D.i := by rw [List.map_map]; rfl
        rw [e2] at h
        exact newL ok1 (rpAll_ints _) h t ht
      · exact h.elim
    · exact h.elim
/-- a tracked dict of keys, from now on as it is -/
def FzD (Q : VK) : VK := fun v H => ∃ (a : Addr) (ks : List Key) (vs : List V), v = .ref a ∧ H a = some (.dK (ks.zip vs)) ∧ ks.length = vs.length ∧ (a ≠ sysModules → ∀ φ : Heap → Prop, (∀ h, φ h → DctAt h a (ks.map kV) vs) → Q v (upd H a (.ext φ)))
theorem key_rel {k : Key} {v : Value} (h : keyIs k v = true) : RelV (kV k) v := by
  rcases keyIs_shape h with ⟨i, t, e1, e2⟩ | ⟨x, t, e1, e2⟩
  · rw [e1, e2]
    exact ⟨t, rfl⟩
  · rw [e1, e2]
    exact ⟨t, rfl⟩
theorem dct_vals {P : Program} {w : World} : ∀ (ks : List Key) (vs : List V) (us : List (Key × Value)) (es : List DictEntry), KV (ks.zip vs) us → ks.length = vs.length → Pairs (mixKind P w) es us → Vals (ks.map kV) (es.map (·.key)) ∧ Vals vs (es.map (·.val)) := by
  intro ks
  induction ks with
  | nil =>
    intro vs us es h hl p
    cases vs with
    | cons _ _ => cases hl
    | nil =>
      cases h
      cases p
      exact ⟨.nil, .nil⟩
  | cons k ks ih =>
    intro vs us es h hl p
    cases vs with
    | nil => cases hl
    | cons v vs =>
      cases h with
      | cons h t =>
        cases p with
        | cons h1 h2 t2 =>
          obtain ⟨r1, r2⟩ := ih vs _ _ t (by simpa using hl) t2
          obtain ⟨g1, g2⟩ := h
          have g1 : k = _ := g1
          refine ⟨.cons (key_rel ?_) r1, .cons ?_ r2⟩
          · rw [g1]
            exact h1
          · show RelV v (DictEntry.val _)
            rw [h2]
            exact g2
theorem pe_fzD (hs : SysIn X) {e : Expr} {t : TE} (h : PE X e t) : PE X e fun σ H Q => t σ H (FzD Q) := ⟨fun pins s σ H Q I q => thn (h.run pins s σ H _ I q) fun u s' z => by
  obtain ⟨v, H', J, r, b, ks, vs, rfl, hb, hl, q2⟩ := z
  obtain ⟨hz, hsys, us, kv, o, es, ep, ho, hex, hd, hko, prs, nd⟩ := J.hok b _ hb
  obtain ⟨r1, r2⟩ := dct_vals _ _ _ _ kv hl prs
  have φs : DctAt s'.heap b (ks.map kV) vs := ⟨o, es, ep, ho, hex.1, hd, r1, r2⟩
  have ok : ObjOk X.prog X.w (upd H' b (.ext fun h => DctAt h b (ks.map kV) vs)) s'.heap b (.ext fun h => DctAt h b (ks.map kV) vs) :=
    ⟨φs, ⟨o, ho⟩, fun h1 h2 ⟨o', es', n', g1, g2, g3, g4, g5⟩ st => ⟨o', es', n', st _ g1, g2, g3, g4, g5⟩⟩
  exact ⟨.ref b, _, inv_relab J hb (fun _ z => nomatch z) (fun _ z => nomatch z) (fun _ _ z => nomatch z) (fun _ z => nomatch z) ok, r, q2 (not_sys hs J hb) _ fun h z => z⟩⟩
theorem allPv_rp {N : Nm} {H : Hp} {α : List Addr} : ∀ {ks : List Key} {xs : List D} {vs : List V} {ds : List (PyData × PyData)}, allPv (ks.zip xs) = some ds → ks.length = vs.length → RpAll N H α vs xs →
    ∃ dv, ds = (ks.map keyP).zip dv ∧ PdAll N H vs dv ∧ dv.length = ks.length
  | [], xs, vs, ds, e, hl, r => by
    cases vs with
    | nil =>
      cases r
      simp only [List.zip_nil_left, allPv, Option.some.injEq] at e
      subst e
      exact ⟨[], rfl, .nil, rfl⟩
    | cons v vs => cases hl
  | k :: ks, [], vs, ds, e, hl, r => by cases r; cases hl
  | k :: ks, x :: xs, v :: vs, ds, e, hl, .cons r1 r => by
    cases x with
    | p d =>
      simp only [List.zip_cons_cons, allPv, Option.map_eq_some_iff] at e
      obtain ⟨ds', e1, rfl⟩ := e
      obtain ⟨dv, e2, e3, e4⟩ := allPv_rp e1 (by simpa using hl) r
      cases r1 with
      | p h => exact ⟨d :: dv, by rw [e2]; rfl, .cons h e3, by simp [e4]⟩
    | loc _ => simp [allPv] at e
    | tup _ => simp [allPv] at e
    | fn _ => simp [allPv] at e
theorem pd_keys {N : Nm} {H : Hp} : ∀ ks : List Key, PdAll N H (ks.map kV) (ks.map keyP)
  | [] => .nil
  | .inl i :: ks => .cons (.int i) (pd_keys ks)
  | .inr x :: ks => .cons (.str x) (pd_keys ks)
theorem dv_frz (G : Good X) (ha : PE X a (dE (nm X fd) E Fa)) : PE X a (dE (nm X fd) E (fFrz Fa)) := by
  refine PE.imp (pe_fzD G.sys ha) fun σ H Q ⟨ρ, S, α, r, ok, h⟩ => ⟨ρ, S, α, r, ok, ?_⟩
  unfold fFrz at h
  cases q : Fa ρ S with
  | ex c e' S' => rw [q] at h; exact h
  | st => rw [q] at h; exact h.elim
  | ok d S1 =>
    rw [q] at h
    intro x H1 α1 st1 ok1 rv
    have h := dRes.shift ok st1 h
    simp only [bind_ok, opFrz] at h
    split at h
    · rename_i l
      split at h
      · rename_i kvs hs
        split at h
        · rename_i ds e
          cases rv with
          | @loc b _ hl =>
            obtain ⟨ks, vs, xs, h1, rfl, h3, h4⟩ := ok1.cell _ _ _ hl hs
            obtain ⟨dv, rfl, pv, len⟩ := allPv_rp e h3 h4
            refine ⟨b, ks, vs, rfl, h1, h3, fun nb φ hφ => ?_⟩
            have st2 := step_set (c' := .dead) (o := .ext φ) ok1 hl hs rfl
            refine h _ _ α1 st2 (sto_set ok1 hl hs rfl (show upd H1 b (.ext φ) b ≠ none from by rw [upd_same]; exact fun z => nomatch z)) (.p ?_)
            have up : Up α1 H1 α1 (upd H1 b (.ext φ)) := st2.up ok1
            exact .dct upd_same hφ nb (pd_keys ks) (up.pdAll pv) (by simp [len])
        · exact h.elim
      · exact h.elim
    · exact h.elim
end
end Dl

set_option Elab.async false
set_option linter.all false
set_option maxRecDepth 100000
set_option maxHeartbeats 4000000
/-! Dx1: own classes over Exception, at any depth: the first field is stored; C(x, ..) is made by its own __init__. -/
namespace Dl
open PySem PySem.Spec PyProof.Rows L2

/-- some own classes, then Exception and what stands above it -/
def XMro (bm : List Value) : Prop := ∃ l : List Addr, bm = l.map Value.ref ++ PySem.ESX.exTail
theorem XMro.tells {bm : List Value} (h : XMro bm) (T : String) : bm.contains (.type T) = PySem.ESX.exTail.contains (.type T) := by
  obtain ⟨l, rfl⟩ := h
  induction l with
  | nil => rfl
  | cons c l ih =>
    rw [List.map_cons, List.cons_append, List.contains_cons, ih]
    rfl
theorem XMro.lets {bm : List Value} (h : XMro bm) (self : Value) : refuseLoop self "__setattr__" bm = pure () := by
  obtain ⟨l, rfl⟩ := h
  induction l with
  | nil => exact PySem.F.store_Exception.passes self
  | cons c l ih =>
    rw [List.map_cons, List.cons_append, refuseLoop_ref]
    exact ih
theorem XMro.some_ {bm : List Value} (h : XMro bm) : bm.isEmpty = false := by
  obtain ⟨l, rfl⟩ := h
  cases l <;> rfl
theorem XMro.more {bm : List Value} (h : XMro bm) (c : Addr) : XMro (.ref c :: bm) := by
  obtain ⟨l, rfl⟩ := h
  exact ⟨c :: l, rfl⟩

section
variable {prog : Program} {w : World} {A : Around} {R : Result → Shared → Prop} {hp : Heap} {g : Array GenState} {dr : Drawn} {t : Nat} {os : OsState}
open PySem.W Builtin Builtin.ObjectAttr
/-- the first field of such an exception: it gets its dict -/
theorem xm_first {K : Frag} {f : Str} {tk : Tok} {v : Value} {a C : Addr} {fv : Array Value} {cd : ClassData} (kin : K.In hp) (at_ : hp.get? a = some { cls := .ref C, data := .fields fv }) (cdC : clsIn K C = some cd) (mro : XMro cd.mro) (dct : cd.hasDict = true)
    (none_ : findIn K (.ref C) f = some none)
    (go : ∀ h' tk' dx, (∀ b o, b ≠ a → hp.get? b = some o → h'.get? b = some o) → hp.objs.size ≤ dx → dx ≠ a → h'.get? a = some { cls := .ref C, dict := some dx, data := .fields fv } → h'.Ns1 dx (fun y => if y = f then some v else Option.none) →
      R (.ok (.ret .none)) ⟨h', g, dr, tk', os⟩) : codeAny (model prog w) A (.call (.builtin "object.__setattr__") ⟨[.ref a, .str f tk, v], []⟩) R ⟨hp, g, dr, t, os⟩ := by
  have inst : InstAt hp a { cls := .ref C, data := .fields fv } C Option.none := ⟨at_, rfl, rfl, trivial⟩
  have slotF := PySem.F.store_object
  have isO : Looks (model prog w) hp (isInstance (.ref a) (.type "object")) true := by
    refine inst.type.andThen (looks_mroIn kin ?_)
    unfold mroIn
    rw [cdC, Option.bind_some, if_neg (by rw [mro.some_]; decide), show cd.mro.contains (.type "object") = true from (mro.tells "object").trans (by decide +kernel)]
  have old : a ≠ hp.objs.size := Nat.ne_of_lt (Heap.lt_size at_)
  refine codeAny_call_builtin slotF.slot.plain slotF.entry (@check_slot (model prog w) _ _ ⟨hp, g, dr, t, os⟩ "object.__setattr__" "object" "__setattr__" (.ref a) [.str f tk, v] [] _ slotF.kind slotF.split isO (slotF.args (.ref a) (.str f tk) v) ?_)
  have lm : Looks (model prog w) hp (mroOf (.ref C)) cd.mro := (looks_clsIn kin cdC).andThen .now
  have lt : Looks (model prog w) hp (storeTaker? Option.none) Option.none := .now
  have lc : Looks (model prog w) hp (classData C) cd := looks_clsIn kin cdC
  rw [osa_eq, refuse_eq]
  refine wpAny_bind (wpAny_bind (inst.type.at (wpAny_bind (lm.at ?_))))
  rw [mro.lets]
  refine wpAny_pure (wpAny_bind (inst.type.at (wpAny_bind ((looks_findIn kin none_).at (wpAny_bind (lt.at ?_))))))
  cases cd with
  | mk nm bs mr ns qn hd sn sb ab col del =>
    cases (show hd = true from dct)
    unfold storeInOwnDict ownDictForStores
    repeat (first | with_reducible refine PySem.HandSPX.store_in_new ?_ ?_ | with_reducible refine wpAny_loadPart_at at_ ?_ | with_reducible refine lc.at ?_ | wp_step)
    · exact ⟨_, #[], _, (Heap.get?_update_ne _ _ _ _ old.symm).trans (Heap.get?_push_at rfl rfl), rfl, fun e he => absurd he (by simp), fun _ => rfl⟩
    · intro h' tk' ns' same
      have there : (hp.push { cls := .type "dict", data := .dict #[] }).get? a = some { cls := .ref C, data := .fields fv } := Heap.get?_push_of_some _ at_
      exact go h' tk' hp.objs.size (fun b o hb e => (same.2 b (Nat.ne_of_lt (Heap.lt_size e))).trans ((Heap.get?_update_ne _ _ _ _ hb).trans (Heap.get?_push_of_some _ e))) (Nat.le_refl _) old.symm
        ((same.2 a old).trans (Heap.get?_update_self _ there rfl)) ns'
end
end Dl

set_option Elab.async false
set_option linter.all false
set_option maxRecDepth 100000
set_option maxHeartbeats 4000000
/-! Dx2: `self.f = y` in the __init__ of such a class; C(x, ..) is made. -/
namespace Dl
open PySem PySem.Spec PyProof.Rows L2

/-- what the written part says of such a class -/
structure XCls (K : PySem.W.Frag) (C : Addr) : Prop where
  obj : ∃ nm q N bs bm sn sub ab col dd k0 k1 k2 k3 k5, K.lookup C = some (excClassObj nm q C N bs bm true sn sub ab col dd k0 k1 k2 k3 k5 "Exception.__new__") ∧ XMro bm
  set_ : PySem.W.findIn K (.ref C) "__setattr__" = some (some (.builtin "object.__setattr__"))
  isB : PySem.W.subIn K (.ref C) (.type "BaseException") = some true
  isT : PySem.W.typeIn K (.ref C) = some (.type "type")
  keeps : PySem.W.keepIn K (.ref C) = true
theorem XCls.cd {K : PySem.W.Frag} {C : Addr} (T : XCls K C) : ∃ cd, PySem.W.clsIn K C = some cd ∧ XMro cd.mro ∧ cd.hasDict = true := by
  obtain ⟨nm, q, N, bs, bm, sn, sub, ab, col, dd, k0, k1, k2, k3, k5, hC, hm⟩ := T.obj
  refine ⟨{ name := nm, bases := bs, mro := .ref C :: bm, ns := N, qualname := q, hasDict := true, slotNames := sn, subclasses := sub, abstract := ab, collection := col, hasDel := false }, ?_, hm.more C, rfl⟩
  unfold PySem.W.clsIn
  rw [hC] <;> rfl

section
variable {X : Cx} {pins : List (Addr × Obj)} {σ : L2.St} {H : Hp} {s : Shared} {a C dx : Addr} {f : Str} {y : V} {u : Value} {Q : Unit → Shared → Prop} {E : Value → Shared → Prop} {A : Around}
theorem xs_first (T : XCls X.K C) (I : Inv X pins σ H s) (at_ : H a = some (exo a C none)) (none_ : PySem.W.findIn X.K (.ref C) f = some none) (ry : RelV y u)
    (go : ∀ dx s', H dx = none → dx ≠ a → Inv X pins σ (upd (upd H dx (exd dx [(f, y)])) a (exo a C (some dx))) s' → Q () s') : wpAny (model X.prog X.w) A (setAttr (.ref a) f u) Q E s := by
  obtain ⟨cd, hcd, hm, hd⟩ := T.cd
  obtain ⟨t1, ho⟩ := exo_at I.hok at_
  obtain ⟨hp, g, dr, t, os⟩ := s
  refine PySem.W.set_plain I.kIn (ox := { cls := .ref C, dict := none, data := .fields #[.ref t1, .none, .none, .none, .bool false, .none] }) (od := none) ⟨ho, rfl, rfl, trivial⟩ T.set_ ?_
  refine xm_first I.kIn ho hcd hm hd none_ fun h' tk' dx same le ne hx ns' => ?_
  have fr : H dx = none := I.hok.fresh le
  have notD : ∀ {b : Addr} {o : Obj}, hp.get? b = some o → b ≠ dx := fun {b o} e => Nat.ne_of_lt (Nat.lt_of_lt_of_le (Heap.lt_size e) le)
  have notA : ∀ {b : Addr}, H b = none → b ≠ a := fun {b} n z => by rw [z, at_] at n; cases n
  have un : Un X.fs [] H (upd (upd H dx (exd dx [(f, y)])) a (exo a C (some dx))) hp h' := by
    refine ⟨fun b o e n _ _ => same b o (notA n) e, fun b o e n _ _ => ⟨o.slots, same b o (notA n) e⟩, fun b o e n _ => by rw [upd_ne (notA n), upd_ne (notD e)]; exact n, fun b o e _ => ?_,
      fun b xs e => by rw [upd_ne (at_ne at_ e exo_tup), upd_ne (ne_of_none e fr)]; exact e, fun b o v e => by rw [upd_ne (at_ne at_ e exo_frz), upd_ne (ne_of_none e fr)]; exact e,
      fun b ps e => ⟨#[], by rw [upd_ne (at_ne at_ e exo_tbl), upd_ne (ne_of_none e fr), e]; simp⟩⟩
    rcases Decidable.em (b = a) with z | z
    · exact ⟨_, by rw [z]; exact hx⟩
    · exact ⟨o, same b o z e⟩
  refine go dx _ fr ne (I.un (t' := tk') un fun b o e => ?_)
  rcases Decidable.em (b = a) with z | z
  · subst z
    rw [upd_same] at e
    cases e
    exact exo_ok hx
  rw [upd_ne z] at e
  rcases Decidable.em (b = dx) with z2 | z2
  · subst z2
    rw [upd_same] at e
    cases e
    exact exd_ok ns' (relO_put (fs := []) ry fun g => True.intro)
  rw [upd_ne z2] at e
  refine (I.hok b o e).stay (fun c v hc k => same c v ?_ k) (fun c hc => by rw [upd_ne (at_ne at_ hc exo_own), upd_ne (ne_of_none hc fr)]; exact hc) (fun c xs hc => by rw [upd_ne (at_ne at_ hc exo_tup), upd_ne (ne_of_none hc fr)]; exact hc)
  rcases hc with hc | hc
  · rw [hc]; exact z
  · exact at_ne at_ hc exo_own
/-- self.f = e, once -/
def tXs (K : PySem.W.Frag) (f : Str) (to te : TE) : TS := fun D σ H => te σ H fun y H1 => to σ H1 fun x H2 => ∃ a C : Addr, x = .ref a ∧ XCls K C ∧ PySem.W.findIn K (.ref C) f = some none ∧
  H2 a = some (exo a C none) ∧ ∀ dx, H2 dx = none → dx ≠ a → D.nx σ (upd (upd H2 dx (exd dx [(f, y)])) a (exo a C (some dx)))
theorem ps_xs {o e : Expr} {to te : TE} {p' pos : Pos} (ho : PE X o to) (he : PE X e te) (hs : swapsWith e (some (.Attribute o f p')) pos.line X.env = pure false := by rfl) : PS X (.Assign [.Attribute o f p'] e pos) (tXs X.K f to te) := by
  refine ⟨fun pins s σ H D I h => ?_⟩
  refine plainObj_wpAny_Assign_Attribute (thn (he.run pins s σ H _ I h) fun v s1 ⟨y, H1, I1, r1, q1⟩ => thn (ho.run pins s1 σ H1 _ I1 q1) fun u s2 ⟨x, H2, I2, r2, a, C, ex, T, hno, ea, q⟩ => ?_) hs
  subst ex
  obtain rfl : u = Value.ref a := r2
  exact xs_first T I2 ea hno r1 fun dx s' n ne J => ⟨σ, _, J, q dx n ne⟩
/-- C(e, ..) in a raise, its own __init__ told by sp -/
theorem pmk_x {CX : CXT} {x : Str} {C fI : Addr} {k : Nat} {fd : FuncData} {ps : List Str} {sp : Sp} {e : Expr} {es : List Expr} {ta : TA} {p pos : Pos} (T : XCls X.K C) (iC : PySem.W.findIn X.K (.ref C) "__init__" = some (some (.ref fI))) (tI : PySem.W.typeIn X.K (.ref fI) = some (.type "function"))
    (F1 : FnOk X.prog X.w X.K X.mg X.base CX k fI fd ps sp) (hr : Room (k + 1) X.A) (hb : Binds X.K fd ps []) (hx : Passes CX X (fun _ _ _ => False)) (hg : Gl X x) (hm : X.mg x = some (.ref C)) (ha : PA X (e :: es) ta)
    (hdb : (x == ("__debug__" : Str)) = false := by decide) (he : starEach (e :: es) X.env = (false, eval e X.env) :: starEach es X.env := by rfl) (hpl : (backTo pos (starEach es X.env)).any (·.1) = false := by rfl) :
    PMk X (.Call (.Name x p) (e :: es) [] pos) (tMkO C sp [] ta) := by
  intro pins s σ H Q I h
  obtain ⟨nm, q, N, bs, bm, sn, sub, ab, col, dd, k0, k1, k2, k3, k5, hC, hbm⟩ := T.obj
  refine wpAny_Call_Name_kw (ld_glob I hg hm ?_ hdb)
  refine PySem.W.callWith_K (h₀ := X.base) I.ok.mod.kin T.keeps (thn (ha.run pos pins s σ H _ I h) fun us s1 ⟨vs, H1, I1, r1, hz, q1⟩ => ⟨I1.kIn, ?_⟩) he hpl
  show wpAny _ _ (call (.ref C) us) _ _ _
  obtain ⟨hp, g, dr, tk, os⟩ := s1
  have le : hp.objs.size ≤ hp.objs.size + 1 := Nat.le_succ _
  have want := q1 (hp.objs.size + 1) (I1.hok.fresh le)
  rw [List.append_nil] at want
  have kp : ∀ b o, hp.get? b = some o → ((hp.push (PySem.W.kdv_tup us)).push (PySem.HandSPX.excO C hp.objs.size)).get? b = some o := fun b o z => Heap.get?_push_of_some _ (Heap.get?_push_of_some _ z)
  have there : ((hp.push (PySem.W.kdv_tup us)).push (PySem.HandSPX.excO C hp.objs.size)).get? (hp.objs.size + 1) = some (PySem.HandSPX.excO C hp.objs.size) := by heap_get
  have I2 := I1.laid (t' := tk) (a := hp.objs.size + 1) (o := exo (hp.objs.size + 1) C none) (h' := (hp.push (PySem.W.kdv_tup us)).push (PySem.HandSPX.excO C hp.objs.size)) kp le (exo_ok there)
  have rs : Vals (V.ref (hp.objs.size + 1) :: vs) (Value.ref (hp.objs.size + 1) :: us) := .cons rfl r1
  have many : (Value.ref (hp.objs.size + 1) :: us ++ ([] : List Value)).length = ps.length := by
    rw [List.append_nil, ← rs.length]
    exact F1.len _ _ _ _ want
  have few : us.length ≤ sizeLine := by
    rw [← Paired.length r1, sizeLine_eq]
    omega
  have run := F1.run _ X.stack _ _ ⟨Value.ref (hp.objs.size + 1) :: us, []⟩ (Value.ref (hp.objs.size + 1) :: us) _ _ (fun _ _ _ => False) (hr.make C us []) (I2.env0.make C us []) (by have := hb _ (Value.ref (hp.objs.size + 1) :: us) I2.kIn many; rwa [List.append_nil] at this) rs want
  refine wpAny_call (PySem.HandSPX.call_own PySem.F.excBase_Exception (fun Y => hbm.tells Y) (I1.kIn _ _ hC) (PySem.W.looks_findIn I1.kIn iC) (fun self => PySem.W.bind_fn I1.kIn self tI) few (codeAny_mono run fun r s' got => ?_))
  cases r with
  | error er => exact hx pins σ _ _ er s' I2 got
  | ok fl =>
    cases fl with
    | ret u =>
      obtain ⟨v, H2, os2, bare2, un2, hok2, rv, ev, d, fs, ea, ed, hd1, q2⟩ := got
      subst ev
      obtain ⟨h2, g2, d2, t2, os'⟩ := s'
      exact ⟨rv, mk_end (raises_own T.isB T.isT) I1 le kp un2 hok2 os2 bare2 ea ed hd1 q2⟩
    | next => exact False.elim got
    | brk => exact False.elim got
    | cont => exact False.elim got
end
end Dl

set_option Elab.async false
set_option linter.all false
set_option maxRecDepth 100000
set_option maxHeartbeats 4000000
/-! Dx3: raise C(e) over plain values; the __init__ of such a class. -/
namespace Dl
open PySem PySem.Spec PyProof.Rows L2
/-- what `def __init__(self, x): self.f = x` promises -/
def spI (K : PySem.W.Frag) (f : Str) : Sp := fun vs H Q E => ∃ (a C : Addr) (v : V), vs = [.ref a, v] ∧ XCls K C ∧ PySem.W.findIn K (.ref C) f = some none ∧ H a = some (exo a C none) ∧
  ∀ dx, H dx = none → dx ≠ a → Q .non (upd (upd H dx (exd dx [(f, v)])) a (exo a C (some dx)))
section
variable {P : Program} {w : World} {K : PySem.W.Frag} {mg : Str → Option Value} {base : Heap} {CX : CXT} {k : Nat} {g : Addr} {f p1 p2 : Str}
theorem init_x {x qual : Str} {params : Arguments} {scope : Scope} {dV kV doc pm cdv ct oc : Value} {an od : Option Addr} {osl : Array (Option Value)} {q1 q2 q3 q4 : Pos}
    (lk : K.lookup g = some ⟨oc, od, .func (PySem.W.fnOf x qual params [.Assign [.Attribute (.Name p1 q1) f q2] (.Name p2 q3) q4] scope dV kV doc pm an cdv ct), osl⟩) (hcd : PySem.W.codeIn K cdv qual = true) (S : FnScope [p1, p2] [p1, p2] scope)
    (v1 : Vis scope p1) (v2 : Vis scope p2) (n1 : (p1 == ("__debug__" : Str)) = false) (n2 : (p2 == ("__debug__" : Str)) = false) (m1 : (p1 == ("__classdict__" : Str)) = false) (m2 : (p2 == ("__classdict__" : Str)) = false) :
    FnOk P w K mg base CX (k + 1) g (PySem.W.fnOf x qual params [.Assign [.Attribute (.Name p1 q1) f q2] (.Name p2 q3) q4] scope dV kV doc pm an cdv ct) [p1, p2] (spI K f) := by
  refine ⟨fun vs H Q E ⟨a, C, v, e, _⟩ => by rw [e]; rfl, fun A outer s H args us vs Q E hr e0 hb r ⟨a, C, v, ev, T, hno, ea, q⟩ => ?_⟩
  subst ev
  refine LamX.run_ofS lk hcd S hr e0 hb r rfl fun hr' => ⟨_, pss_one (ps_xs (pe_var (i := 0) rfl v1 n1 m1) (pe_var (i := 1) rfl v2 n2 m2)), ?_⟩
  refine ⟨v, rfl, .ref a, rfl, a, C, rfl, T, hno, ea, fun dx n ne => q dx n ne⟩
end
/-- an exception class that the text raises: its own __init__ stores its one argument -/
structure ExOk (X : Cx) (fd : FdT) (CX : CXT) (k : Nat) (c : Str) : Prop where
  ex : ∃ (C fI : Addr) (fdI : FuncData) (ps : List Str), X.mg c = some (.ref C) ∧ XCls X.K C ∧ PySem.W.findIn X.K (.ref C) (fd c) = some none ∧ PySem.W.findIn X.K (.ref C) "__init__" = some (some (.ref fI)) ∧ PySem.W.typeIn X.K (.ref fI) = some (.type "function") ∧
    FnOk X.prog X.w X.K X.mg X.base CX k fI fdI ps (spI X.K (fd c)) ∧ Binds X.K fdI ps []
/-- raise c(e) -/
noncomputable def sRaise (c : Str) (F : Slots → Sto → Res D) : Slots → Sto → Out := fun ρ S => (F ρ S).out fun v S1 => .ex c v S1
section
variable {fd : FdT} {CX : CXT} {k : Nat} {X : Cx} {E : XK} {F : Slots → Sto → Res D} {c : Str} {e : Expr} {p pos pos' : Pos}
theorem ds_raise (x : ExOk X fd CX k c) (hr : Room (k + 1) X.A) (hx : Passes CX X E0) (calm : X.calm = true) (tk : Takes X (fun cls d _ H => E cls d H)) (hg : Gl X c) (hdb : (c == ("__debug__" : Str)) = false) (he : PE X e (dE (nm X fd) E F))
    (h1 : starEach [e] X.env = [(false, eval e X.env)]) (h2 : (backTo pos (starEach [] X.env)).any (·.1) = false) : PS X (.Raise (some (.Call (.Name c p) [e] [] pos)) none pos') (dS (nm X fd) E (sRaise c F)) := by
  obtain ⟨C, fI, fdI, ps, mc, T, hno, iC, tI, F1, hb⟩ := x.ex
  have mk := pmk_x (x := c) (p := p) (pos := pos) (es := []) T iC tI F1 hr hb (fun pins σ H s e s' I h => hx pins σ H s e s' I h) hg mc (pa_cons he pa_nil h1) hdb h1 h2
  refine ⟨fun pins s σ H Dn I ⟨ρ, S, α, r, ok, h⟩ => ?_⟩
  refine (ps_raise (pos := pos') calm tk mk).run pins s σ H Dn I ?_
  refine ⟨ρ, S, α, r, ok, ?_⟩
  unfold sRaise at h
  cases q : F ρ S with
  | st => rw [q] at h; exact h.elim
  | ex c' v' S' => rw [q] at h; exact fun cls dx H' α' st ok' x => h cls dx H' α' st ok' x
  | ok d S1 =>
    rw [q] at h
    intro v H1 α1 st ok1 rv
    refine ⟨by simp, fun a na => ⟨a, C, v, rfl, T, hno, upd_same, fun dx n ne => ⟨rfl, dx, [(fd c, v)], upd_same, ?_, ?_, ?_⟩⟩⟩
    · rw [upd_ne ne, upd_same]
    · rwa [upd_ne ne] at n
    · have n' : H1 dx = none := by rwa [upd_ne ne] at n
      have eH : upd (del (upd (upd (upd H1 a (exo a C none)) dx (exd dx [(fd c, v)])) a (exo a C (some dx))) a) dx (.xd [(fd c, v)]) = upd H1 dx (.xd [(fd c, v)]) := by
        funext b
        by_cases z : b = dx
        · subst z; rw [upd_same, upd_same]
        · rw [upd_ne z, upd_ne z]
          by_cases z2 : b = a
          · subst z2; rw [del_same, na]
          · rw [del_ne z2, upd_ne z2, upd_ne z, upd_ne z2]
      rw [eH]
      exact h _ _ _ α1 (st.trans ok (step_new ok1 n')) (sto_new ok1 n') ⟨C, dx, v, rfl, rfl, mc, upd_same, (step_new ok1 n').rp ok1 rv⟩
end
end Dl

set_option Elab.async false
set_option linter.all false
set_option maxRecDepth 100000
set_option maxHeartbeats 4000000
/-! Dx4: in an except suite: isinstance of the caught error, its field; a small expression of both. -/
namespace Dl
open PySem PySem.Spec PyProof.Rows L2
section
variable {X : Cx} {a D dd : Addr} {oe : Obj} {pn : List (Addr × Obj)}
/-- isinstance(e, c): the error e has a dict -/
theorem call_isX (C : ExcC X.K D) (hz : Zc (.ref D) (some dd) oe) (hf : ∃ vs, oe.data = .fields vs) :
    CallR (X.suite a ((a, oe) :: pn)) (.builtin "isinstance") fun xs H Q => (∃ fs, H dd = some (.xd fs)) ∧ rIsE X.K D a xs H Q := by
  intro pins s σ H xs us Q I r ⟨⟨fs, ed⟩, c, cv, b, ex, hcv, e, q⟩
  subst ex
  cases r with
  | @cons _ u0 _ ur ra rr =>
    cases rr with
    | @cons _ u1 _ ur1 rc rr =>
      cases rr
      obtain rfl : u0 = Value.ref a := ra
      cases hcv _ rc
      obtain ⟨at_, _⟩ := I.pin (a, oe) (List.mem_append_left _ List.mem_cons_self)
      obtain ⟨vs, hd⟩ := hf
      have ob : ObjOk X.prog X.w H s.heap dd (.xd fs) := I.hok dd _ ed
      obtain ⟨mA, ns, _⟩ := ob
      obtain ⟨od, ho, _⟩ := lookIn_ns ns
      have inst : PySem.W.InstAt s.heap a oe D (some od) := ⟨at_, hz.1, by unfold PySem.W.notCls; rw [hd] <;> rfl, by rw [hz.2]; exact ho⟩
      have hcl : (PySem.W.clsIn X.K D).isSome = true := by
        obtain ⟨cd, hc, _⟩ := PySem.W.any_some C.hd
        rw [hc]; rfl
      exact PySem.W.kia_one (PySem.W.kitx_exc (gt := none) (od := some od) hcl C.hg C.hk C.hs C.ha C.hn C.ht C.hm) I.kIn inst e (fun z => nomatch z) fun tk => ⟨.bl b, H, I.kept (t' := tk) fun _ _ z => z, rfl, q⟩
end
end Dl

set_option Elab.async false
set_option linter.all false
set_option maxRecDepth 100000
set_option maxHeartbeats 4000000
/-! Dx5: small expressions in an except suite: what they tell, from the caught error's value. -/
namespace Dl
open PySem PySem.Spec PyProof.Rows L2
section
variable (N : Nm) (o : Option Nat) (a dd : Addr) (f : Str)
/-- slot o holds the error at a; its dict at dd holds f, told by v; the other slots are as ρ says -/
def XS (v : D) (ρ : Slots) (σ : L2.St) (H : Hp) (α : List Addr) (S : Sto) : Prop := Rho N H α σ ρ ∧ StoOk N H α S ∧ (∀ i, o = some i → σ[i]? = some (some (.ref a))) ∧ ∃ w, H dd = some (.xd [(f, w)]) ∧ Rp N H α w v
def xR (v : D) (ρ : Slots) (d : D) : TE := fun σ H Q => ∃ α S, XS N o a dd f v ρ σ H α S ∧ dRes N E0 α S H (.ok d S) Q
def xA (v : D) (ρ : Slots) (ds : List D) : TA := fun σ H Q => ∃ α S, XS N o a dd f v ρ σ H α S ∧ dResA N E0 α S H (.ok ds S) Q
def xB (v : D) (ρ : Slots) (b : Bool) : TT := fun σ H Q => ∃ α S, XS N o a dd f v ρ σ H α S ∧ dResT N E0 α S H (.ok b S) Q
end
section
variable {N : Nm} {o : Option Nat} {a dd : Addr} {f : Str} {v : D} {ρ : Slots} {σ : L2.St} {H H' : Hp} {α α' : List Addr} {S : Sto}
theorem StoOk.notXd (ok : StoOk N H α S) {b : Addr} {fs : List (Str × V)} (e : H b = some (.xd fs)) : ¬ Live α S b := by
  rintro ⟨l, c, h1, h2, h3⟩
  have q := ok.cell l b c h1 h2
  cases c with
  | lst xs => obtain ⟨vs, q, _⟩ := q; rw [e] at q; cases q
  | dK kvs => obtain ⟨ks, vs, xs, q, _⟩ := q; rw [e] at q; cases q
  | lk kvs => cases h3
  | ins C fs => obtain ⟨Ca, dx, ks, vs, xs, _, q, _⟩ := q; rw [e] at q; cases q
  | dead => cases h3
theorem XS.go (x : XS N o a dd f v ρ σ H α S) (st : Stp α S H α' S H') (ok' : StoOk N H' α' S) : XS N o a dd f v ρ σ H' α' S := by
  obtain ⟨r, ok, h1, w, h2, h3⟩ := x
  exact ⟨r.step ok st, ok', h1, w, st.keep dd _ h2 (fun z => z) (ok.notXd h2), st.rp ok h3⟩
theorem XS.ok (x : XS N o a dd f v ρ σ H α S) : StoOk N H α S := x.2.1
/-- another slot is stored -/
theorem XS.put (x : XS N o a dd f v ρ σ H α S) {u : V} {d : D} {j : Nat} (hj : o ≠ some j) (r : Rp N H α u d) : XS N o a dd f v (ρ.set j (some d)) (σ.set j (some u)) H α S := by
  obtain ⟨r0, ok, h1, h2⟩ := x
  refine ⟨r0.set j r, ok, fun i e => ?_, h2⟩
  rw [List.getElem?_set_ne (fun z => hj (by rw [e, z]))]
  exact h1 i e
end
section
variable {X : Cx} {fd : FdT} {o : Option Nat} {a C dd : Addr} {f n : Str} {v d d1 d2 : D} {ρ : Slots} {ds : List D} {e e1 e2 : Expr} {es : List Expr} {pos p1 p2 p3 : Pos}
theorem x_c {u : V} {c : PyData} (h : PE X e (tC u)) (hp : ∀ H, Pd (nm X fd) H u c) : PE X e (xR (nm X fd) o a dd f v ρ (.p c)) :=
  PE.imp h fun σ H Q ⟨α, S, x, q⟩ => now (E := E0) x.ok q (.p (hp H))
theorem x_var {i : Nat} {x : Str} (hN : X.N[i]? = some x) (hv : Vis X.env.scope x) (g1 : (x == ("__debug__" : Str)) = false) (g2 : (x == ("__classdict__" : Str)) = false) (hd : ρ[i]? = some (some d)) : PE X (.Name x pos) (xR (nm X fd) o a dd f v ρ d) :=
  PE.imp (pe_var hN hv g1 g2) fun σ H Q ⟨α, S, x, q⟩ => by
    obtain ⟨u, e1, r⟩ := x.1.at_ i d hd
    exact ⟨u, e1, now (E := E0) x.ok q r⟩
theorem x_nil : PA X [] (xA (nm X fd) o a dd f v ρ []) := PA.imp pa_nil fun σ H Q ⟨α, S, x, q⟩ => q _ _ _ .refl x.ok .nil
theorem x_cons (he : PE X e (xR (nm X fd) o a dd f v ρ d)) (hs : PA X es (xA (nm X fd) o a dd f v ρ ds)) (hn : nsE e = true) : PA X (e :: es) (xA (nm X fd) o a dd f v ρ (d :: ds)) := by
  refine PA.imp (pa_cons he hs (starEach_ns hn)) fun σ H Q ⟨α, S, x, q⟩ => ⟨α, S, x, fun u H1 α1 st1 ok1 r1 => ⟨α1, S, x.go st1 ok1, fun us H2 α2 st2 ok2 r2 => ?_⟩⟩
  exact q _ _ _ (st1.trans x.ok st2) ok2 (.cons (st2.rp ok1 r1) r2)
theorem x_tup {k : Nat} (hs : PA X es (xA (nm X fd) o a dd f v ρ ds)) (hz : ds.length ≤ sizeLine) : PE X (.Tuple es k pos) (xR (nm X fd) o a dd f v ρ (mkT ds)) := by
  refine PE.imp (pe_tup hs) fun σ H Q ⟨α, S, x, q⟩ => ⟨α, S, x, fun us H1 α1 st1 ok1 r1 => ⟨by rw [r1.length]; exact hz, ?_⟩⟩
  exact newT ok1 r1 (dRes.shift x.ok st1 q)
theorem x_lst (hs : SysIn X) {ps : List PyData} (ha : PA X es (xA (nm X fd) o a dd f v ρ (ps.map D.p))) (hz : ps.length ≤ sizeLine) : PE X (.List es pos) (xR (nm X fd) o a dd f v ρ (.p (.list ps))) := by
  refine PE.imp (pe_fz hs (pe_lst ha)) fun σ H Q ⟨α, S, x, q⟩ => ⟨α, S, x, fun us H1 α1 st1 ok1 r1 => ⟨by rw [r1.length]; simpa using hz, ?_⟩⟩
  have e : mkL false (ps.map D.p) S = .ok (.p (.list ps)) S := mkL_map ps S
  refine newL (m := false) (E := E0) ok1 r1 ?_
  rw [e]
  exact dRes.shift x.ok st1 q
theorem x_bin (hs : SysIn X) {op : Operator} (ha : PE X e1 (xR (nm X fd) o a dd f v ρ d1)) (hb : PE X e2 (xR (nm X fd) o a dd f v ρ d2)) (hv : ∀ S, opBin op false d1 d2 S = .ok d S) : PE X (.BinOp e1 op e2 pos) (xR (nm X fd) o a dd f v ρ d) := by
  refine PE.imp (pe_op (opr_bin (fd := fd) (E := E0) hs op false) ha hb) fun σ H Q ⟨α, S, x, q⟩ => ⟨α, S, x, fun u H1 α1 st1 ok1 r1 => ⟨α1, S, x.go st1 ok1, fun u2 H2 α2 st2 ok2 r2 => ?_⟩⟩
  refine ⟨S, α2, d1, d2, ok2, st2.rp ok1 r1, r2, ?_⟩
  rw [hv S]
  exact dRes.shift x.ok (st1.trans x.ok st2) q
theorem x_or {b : Bool} {b2 : Bool} (h1 : PE X e1 (xR (nm X fd) o a dd f v ρ (.p (.bool b)))) (h2 : PE X (.BoolOp .Or (e2 :: es) pos) (xR (nm X fd) o a dd f v ρ (.p (.bool b2)))) : PE X (.BoolOp .Or (e1 :: e2 :: es) pos) (xR (nm X fd) o a dd f v ρ (.p (.bool (b || b2)))) := by
  refine PE.imp (pe_or h1 h2) fun σ H Q ⟨α, S, x, q⟩ => ⟨α, S, x, fun u H1 α1 st1 ok1 r1 => ⟨b, r1.bool_inv, ?_⟩⟩
  have q := dRes.shift x.ok st1 q
  cases b with
  | true => exact iteT (now (E := E0) ok1 q (.p (.bl _)))
  | false => exact iteF ⟨α1, S, x.go st1 ok1, q⟩
theorem x_or1 (h : PE X e (xR (nm X fd) o a dd f v ρ d)) : PE X (.BoolOp .Or [e] pos) (xR (nm X fd) o a dd f v ρ d) := ⟨fun pins s σ H Q I q => by
  have := h.run pins s σ H Q I q
  exact this⟩
theorem x_test {b : Bool} (h : PE X e (xR (nm X fd) o a dd f v ρ (.p (.bool b)))) (he : PlainT X e) : PT X e (xB (nm X fd) o a dd f v ρ b) := by
  refine PT.imp (pt_val h he) fun σ H Q ⟨α, S, x, q⟩ => ⟨α, S, x, fun u H1 α1 st1 ok1 r1 => ⟨b, r1.bool_inv, ?_⟩⟩
  exact q _ _ (st1) ok1
theorem x_ite {b : Bool} (hc : PT X e (xB (nm X fd) o a dd f v ρ b)) (h1 : b = true → PE X e1 (xR (nm X fd) o a dd f v ρ d)) (h2 : b = false → PE X e2 (xR (nm X fd) o a dd f v ρ d)) : PE X (.IfExp e e1 e2 pos) (xR (nm X fd) o a dd f v ρ d) := by
  cases b with
  | true =>
    refine PE.imp (pe_ifExp (tb := fun _ _ _ => False) hc (h1 rfl) ⟨fun _ _ _ _ _ _ z => z.elim⟩) fun σ H Q ⟨α, S, x, q⟩ => ⟨α, S, x, fun H1 α1 st1 ok1 => ?_⟩
    exact iteT ⟨α1, S, x.go st1 ok1, dRes.shift x.ok st1 q⟩
  | false =>
    refine PE.imp (pe_ifExp (ta := fun _ _ _ => False) hc ⟨fun _ _ _ _ _ _ z => z.elim⟩ (h2 rfl)) fun σ H Q ⟨α, S, x, q⟩ => ⟨α, S, x, fun H1 α1 st1 ok1 => ?_⟩
    exact iteF ⟨α1, S, x.go st1 ok1, dRes.shift x.ok st1 q⟩
end
section
variable {X : Cx} {fd : FdT} {i : Nat} {a C dd : Addr} {f n : Str} {v : D} {ρ : Slots} {oe : Obj} {pn : List (Addr × Obj)} {pos p1 p2 p3 : Pos}
theorem x_thing (T : XfC X.K C) (hno : PySem.W.findIn X.K (.ref C) f = some none) (hz : Zc (.ref C) (some dd) oe) (hf : ∃ vs, oe.data = .fields vs) (hN : X.N[i]? = some n) (hv : Vis X.env.scope n) (g1 : (n == ("__debug__" : Str)) = false) (g2 : (n == ("__classdict__" : Str)) = false) :
    PE (X.suite a ((a, oe) :: pn)) (.Attribute (.Name n p1) f pos) (xR (nm X fd) (some i) a dd f v ρ v) := by
  refine PE.imp (pe_xf T hno hz hf (pe_var (X := X.suite a ((a, oe) :: pn)) (i := i) (pos := p1) hN hv g1 g2)) fun σ H Q ⟨α, S, x, q⟩ => ?_
  obtain ⟨r, ok, h1, w, h2, h3⟩ := x
  exact ⟨_, h1 i rfl, rfl, rfl, dd, _, w, rfl, h2, by simp [List.lookup], now (E := E0) ok q h3⟩
theorem x_isi {k : Str} {Ka : Addr} {b : Bool} (T : ExcC X.K C) (hz : Zc (.ref C) (some dd) oe) (hf : ∃ vs, oe.data = .fields vs) (hg : Gl X "isinstance") (hm : X.mg "isinstance" = none) (gk : Gl X k) (mk : X.mg k = some (.ref Ka)) (dk : (k == ("__debug__" : Str)) = false)
    (ek : PySem.W.kitOne X.K (.ref C) (.ref Ka) = some b) (hN : X.N[i]? = some n) (hv : Vis X.env.scope n) (g1 : (n == ("__debug__" : Str)) = false) (g2 : (n == ("__classdict__" : Str)) = false) :
    PE (X.suite a ((a, oe) :: pn)) (.Call (.Name "isinstance" p1) [.Name n p2, .Name k p3] [] pos) (xR (nm X fd) (some i) a dd f v ρ (.p (.bool b))) := by
  have h1 := pe_var (X := X.suite a ((a, oe) :: pn)) (i := i) (pos := p2) hN hv g1 g2
  have h2 : PE (X.suite a ((a, oe) :: pn)) (.Name k p3) (tC (.ref Ka)) := pe_glob (X := X.suite a ((a, oe) :: pn)) gk mk rfl dk
  refine PE.imp (pe_callB (call_isX T hz hf) hg hm (by decide +kernel) (pa_cons h1 (pa_cons h2 pa_nil)) (by decide +kernel) (by decide +kernel)) fun σ H Q ⟨α, S, x, q⟩ => ?_
  obtain ⟨r, ok, h1, w, h2, h3⟩ := x
  exact ⟨_, h1 i rfl, ⟨_, h2⟩, _, _, b, rfl, fun u z => z, ek, now (E := E0) ok q (.p (.bl b))⟩
end
end Dl

set_option Elab.async false
set_option linter.all false
set_option maxRecDepth 100000
set_option maxHeartbeats 4000000
/-! Dx6: try with some except clauses, each with a name or without. -/
namespace Dl
open PySem PySem.Spec PyProof.Rows L2
/-- a suite's ends; behind a suite with a name its slot is empty -/
def offD (o : Option Nat) (D : Ends) : Ends := match o with
  | none => D
  | some i => { nx := fun σ H => D.nx (σ.set i none) H, rt := D.rt, bk := fun σ H => D.bk (σ.set i none) H, ct := fun σ H => D.ct (σ.set i none) H }
def onS (o : Option Nat) (a : Addr) (σ : L2.St) : L2.St := match o with
  | none => σ
  | some i => σ.set i (some (.ref a))
abbrev Cl := Value × Option Nat × (Addr → Value → Option Addr → TS)
/-- what the clauses wish -/
def wX (K : PySem.W.Frag) (Wo : WX) (D : Ends) : List Cl → WX
  | [] => Wo
  | (c, o, ts) :: r => fun cls d σ H => ∃ b, PySem.W.exmOne K cls c = some b ∧ (b = true → ∀ a, H a = none → ts a cls d (offD o D) (onS o a σ) H) ∧ (b = false → wX K Wo D r cls d σ H)
/-- a clause's name and its slot -/
def NmX (X : Cx) : Option Str → Option Nat → Prop
  | none, none => True
  | some n, some i => X.N[i]? = some n ∧ X.env.kindOf n = some .local
  | _, _ => False
inductive HdX (X : Cx) : List ExceptHandler → List Cl → Prop
  | nil : HdX X [] []
  | cons {x : Str} {c : Value} {n : Option Str} {o : Option Nat} {ts : Addr → Value → Option Addr → TS} {b : Stmt} {bs : List Stmt} {p p' : Pos} {hs : List ExceptHandler} {l : List Cl} (hc : Names X x c) (hn : NmX X n o)
      (su : ∀ (a : Addr) (oe : Obj) (cls : Value) (d : Option Addr) (pn : List (Addr × Obj)), Zc cls d oe → (∃ vs, oe.data = .fields vs) → PSs (X.suite a ((a, oe) :: pn)) (b :: bs) (ts a cls d)) (r : HdX X hs l) :
      HdX X (.ExceptHandler (some (.Name x p)) n (b :: bs) p' :: hs) ((c, o, ts) :: l)
/-- the error at a flies above s -/
structure Aloft (X : Cx) (a : Addr) (cls : Value) (d : Option Addr) (pins : List (Addr × Obj)) (σ : L2.St) (H : Hp) (s : Shared) : Prop where
  ex : ∃ (B : Heap) (sI : Shared), Inv X pins σ H sI ∧ (∀ b o, sI.heap.get? b = some o → b ∉ frs X.stack → B.get? b = some o) ∧ sI.heap.UpToSlots s.heap ∧ HandSPX.FlyingZ B (X.env :: X.outer) a (Zc cls d) s.heap ∧ H a = none ∧ s.os = sI.os ∧ AllBare s.gens
section
variable {X : Cx} {a : Addr} {cls : Value} {d : Option Addr} {pins : List (Addr × Obj)} {σ : L2.St} {H : Hp} {s : Shared} {K : PySem.W.Frag} {Wo : WX} {D : Ends}
theorem Aloft.none_ (x : Aloft X a cls d pins σ H s) : H a = none := by obtain ⟨B, sI, _, _, _, _, h, _⟩ := x.ex; exact h
theorem Aloft.suite (x : Aloft X a cls d pins σ H s) : ∃ oe, Zc cls d oe ∧ (∃ vs, oe.data = .fields vs) ∧ s.heap.get? a = some oe ∧ Inv (X.suite a ((a, oe) :: (X.pn ++ pins))) [] σ H s := by
  obtain ⟨B, sI, I, nb, up, fl, na, os, ag⟩ := x.ex
  have J : Inv X pins σ H s := I.landed nb fl.1 up os ag
  obtain ⟨oe, vs, at_, z, dt⟩ := fl.there
  have out : a ∉ frs (X.env :: X.outer) := fun hm => by
    obtain ⟨_, o', e', nf⟩ := fl.2.2.1.mem hm
    rw [at_] at e'
    cases e'
    exact nf _ dt
  have nL : a ≠ X.env.locals := fun e => by
    obtain ⟨m, fr⟩ := J.fr
    obtain ⟨o, es, ep, e1, e2, _⟩ := J.loc.choose_spec.1
    rw [← e, at_] at e1
    cases e1
    rw [dt] at e2
    cases e2
  have nF : a ∉ X.fs := fun hm => by
    obtain ⟨e, he, q⟩ := List.mem_filterMap.mp hm
    exact out (List.mem_filterMap.mpr ⟨e, List.mem_cons_of_mem _ he, q⟩)
  exact ⟨oe, z, ⟨vs, dt⟩, at_, J.suite at_ dt na nL nF⟩
/-- its flight is set to none again -/
theorem Aloft.again {Q : Unit → Shared → Prop} {A : Around} {E : Value → Shared → Prop} (x : Aloft X a cls d pins σ H s) (go : ∀ h, Aloft X a cls d pins σ H { s with heap := h } → Q () { s with heap := h }) : wpAny (model X.prog X.w) A (setFlight (.ref a) none) Q E s := by
  obtain ⟨B, sI, I, nb, up, fl, na, os, ag⟩ := x.ex
  exact HandSPX.lands_againZ fl fun h fl' up' => go h ⟨B, sI, I, nb, up.trans up', fl', na, os, ag⟩
/-- no clause took it: it flies on -/
theorem Aloft.on (x : Aloft X a cls d pins σ H s) (hs : X.stack = X.env :: X.outer) (hf : X.env.frame = some X.env.locals) (tk : Takes X Wo) (w : Wo cls d σ H) : wpAny (model X.prog X.w) X.A (handleBy (.ref a) X.env []) (SP X pins D) X.xe s := by
  obtain ⟨B, sI, I, nb, up, fl, na, os, ag⟩ := x.ex
  refine wpAny_handleBy_nil ?_
  obtain ⟨k1, k2, k3, oe, vs, T, oT, ts, at_, z, dt, h1, rest⟩ := id fl
  unfold PySem.passOn
  refine wpAny_bind (wpAny_field at_ dt h1 ?_)
  rw [if_neg (show ¬ ((Value.ref T == Value.none) = true) from by simp)]
  have fly : wpAny (model X.prog X.w) X.A (setFlight (.ref a) X.env.frame) (fun _ s4 => wpAny (model X.prog X.w) X.A (throw (.ref a) : Sem Flow) (SP X pins D) X.xe s4) X.xe s := by
    rw [hf]
    exact HandSPX.setFlight_upZ fl fun h hh up' => wpAny_throw (tk _ _ ⟨a, B, sI, pins, σ, H, cls, d, rfl, I, nb, up.trans up', .inr (.inr (by rw [hs]; exact hh)), na, os, ag, w⟩)
  first
    | exact wpAny_bind (wpAny_pure (wpAny_bind fly))
    | exact wpAny_bind fly
theorem clauses (ok : X.Ok) (hs : X.stack = X.env :: X.outer) (hf : X.env.frame = some X.env.locals) (hN : X.N.Nodup) (tk : Takes X Wo) {hds : List ExceptHandler} {l : List Cl} (hk : HdX X hds l) :
    ∀ s, Aloft X a cls d pins σ H s → wX X.K Wo D l cls d σ H → wpAny (model X.prog X.w) X.A (handleBy (.ref a) X.env hds) (SP X pins D) X.xe s := by
  induction hk with
  | nil => exact fun s x w => x.on hs hf tk w
  | @cons y c n o ts b bs p p' hs' l' hc hn su r ih =>
    intro s x ⟨t, e1, yes, no⟩
    obtain ⟨oe, z, dt, at_, J⟩ := x.suite
    refine wpAny_handleBy_cons (codeAny_handlers_test ?_) (by intro q; cases q)
    have look : PySem.W.Looks (model X.prog X.w) s.heap (typeOf (.ref a)) cls := fun A Q E s' k q => wpAny_typeOf_ref (k _ _ at_) (by rw [z.1]; exact q)
    have m := PySem.W.exm_one (M := model X.prog X.w) J.kIn look e1
    have named : ∀ {Q : Value → Shared → Prop} {E : Value → Shared → Prop}, Q c s → wpAny (model X.prog X.w) (X.A.mark (some (.ref a))) (eval (.Name y p) X.env) Q E s := fun {Q E} q => by
      obtain ⟨g1, g2, g | ⟨g, v, nn⟩⟩ := hc
      · exact ld_glob (X := X.suite a ((a, oe) :: (X.pn ++ pins))) J g1 g q g2
      · exact ld_blt (X := X.suite a ((a, oe) :: (X.pn ++ pins))) J g1 g v q nn g2
    refine named (m.here ?_)
    cases t with
    | false => exact ih s x (no rfl)
    | true =>
      have want := yes rfl a x.none_
      cases n with
      | none =>
        cases o with
        | some i => exact hn.elim
        | none =>
          refine codeAny_handlers_suite (x.again fun h x' => ?_)
          obtain ⟨oe', z', dt', _, J'⟩ := x'.suite
          refine wpAny_mono ((su a oe' cls d (X.pn ++ pins) z' dt').run [] _ _ H _ J' want) (fun f s6 got => ?_) fun _ _ q => False.elim q
          cases f with
          | next => obtain ⟨σ6, H6, S6, q⟩ := got; exact ⟨_, _, S6.unsuite ok, q⟩
          | brk => obtain ⟨σ6, H6, S6, q⟩ := got; exact ⟨_, _, S6.unsuite ok, q⟩
          | cont => obtain ⟨σ6, H6, S6, q⟩ := got; exact ⟨_, _, S6.unsuite ok, q⟩
          | ret u => obtain ⟨v6, σ6, H6, S6, r6, q⟩ := got; exact ⟨_, _, _, S6.unsuite ok, r6, q⟩
      | some n =>
        cases o with
        | none => exact hn.elim
        | some i =>
          obtain ⟨hi, hl⟩ := hn
          refine codeAny_handlers_suite_as (x.again fun h x' => ?_)
          obtain ⟨oe', z', dt', _, J'⟩ := x'.suite
          refine store_ok (X := X.suite a ((a, oe') :: (X.pn ++ pins))) (v := .ref a) J' hN hi (.inl hl) rfl (fun s5 S5 => ?_) (.inr hl)
          refine wpAny_mono ((su a oe' cls d (X.pn ++ pins) z' dt').run [] s5 _ H _ S5 want) (fun f s6 got => ?_) fun _ _ q => False.elim q
          have gone : ∀ {σ6 : L2.St} {H6 : Hp} {Q : Shared → Prop}, Inv (X.suite a ((a, oe') :: (X.pn ++ pins))) [] σ6 H6 s6 → (∀ s7, Inv X pins (σ6.set i none) H6 s7 → Q s7) →
              wpAny (model X.prog X.w) X.A (do bindName X.env n .none; unbindBehindTheSuite X.env n p') (fun _ s7 => Q s7) X.xe s6 := fun {σ6 H6 Q} S6 q => gone_ok (S6.unsuite ok) hN hi hl q
          cases f with
          | next => obtain ⟨σ6, H6, S6, q⟩ := got; exact gone S6 fun s7 J7 => ⟨_, _, J7, q⟩
          | brk => obtain ⟨σ6, H6, S6, q⟩ := got; exact gone S6 fun s7 J7 => ⟨_, _, J7, q⟩
          | cont => obtain ⟨σ6, H6, S6, q⟩ := got; exact gone S6 fun s7 J7 => ⟨_, _, J7, q⟩
          | ret u => obtain ⟨v6, σ6, H6, S6, r6, q⟩ := got; exact gone S6 fun s7 J7 => ⟨_, _, _, J7, r6, q⟩
end
section
variable {X : Cx} {body : List Stmt} {hd : ExceptHandler} {hds : List ExceptHandler} {l : List Cl} {pos : Pos} {tb : WX → TS} {Wo : WX}
/-- try: body / except ..: ..; the body's errors go to the clauses -/
theorem ps_try_x (hs : X.stack = X.env :: X.outer) (hf : X.env.frame = some X.env.locals) (hN : X.N.Nodup) (tk : Takes X Wo)
    (hb : ∀ (W : WX) (pn : List (Addr × Obj)) (xe : Value → Shared → Prop), Takes (X.tr pn xe) W → PassesOwn (model X.prog X.w) X.A X.env xe → PSs (X.tr pn xe) body (tb W)) (hk : HdX X (hd :: hds) l) :
    PS X (.Try body (hd :: hds) [] [] pos) fun D σ H => tb (wX X.K Wo D l) D σ H := by
  refine ⟨fun pins s σ H D I h => ?_⟩
  have ok := I.ok
  have fr : X.A.frames = some (X.env :: X.outer) := by rw [ok.frames, hs]
  refine wpAny_Try_except (wpAny_mono ((hb (wX X.K Wo D l) (X.pn ++ pins) (fun e s₁ => wpAny (model X.prog X.w) X.A (noteFrame e X.env) (fun _ s₂ => wpAny (model X.prog X.w) X.A (setFlight e none) (fun _ s₃ =>
    wpAny (model X.prog X.w) X.A (handleBy e X.env (hd :: hds)) (SP X pins D) X.xe s₃) X.xe s₂) X.xe s₁) (fun u s' air => ?_) PassesOwn.looking).run [] s σ H D (I.toTry _) h) (fun f s1 got => ?_) fun e s1 he => he)
  · obtain ⟨a, B, sI, pins', σ', H', cls, d, rfl, J, nb, up, sky, na, os, ag, w⟩ := air
    have sky' : Sky B (X.env :: X.outer) a (Zc cls d) X.env.locals s'.heap := by rw [← hs]; exact sky
    exact Sky.land Zc.steady fr hf sky' fun h fl up' => clauses ok hs hf hN tk hk _ ⟨B, sI, J.ofTry ok, nb, up.trans up', fl, na, os, ag⟩ w
  · cases f with
    | next => obtain ⟨σ', H', J, q⟩ := got; exact wpAny_execs_nil ⟨σ', H', J.ofTry ok, q⟩
    | brk => obtain ⟨σ', H', J, q⟩ := got; exact ⟨σ', H', J.ofTry ok, q⟩
    | cont => obtain ⟨σ', H', J, q⟩ := got; exact ⟨σ', H', J.ofTry ok, q⟩
    | ret u => obtain ⟨v, σ', H', J, r, q⟩ := got; exact ⟨v, σ', H', J.ofTry ok, r, q⟩
end
end Dl

set_option Elab.async false
set_option linter.all false
set_option maxRecDepth 100000
set_option maxHeartbeats 4000000
/-! Dx7: a lambda is made: all but its maker's table stays. -/
namespace Dl
open PySem PySem.Spec PyProof.Rows L2
/-- a table is not at a cell -/
theorem noTbC {N : Nm} {H : Hp} {α : List Addr} {a : Addr} {c : Cell} {ps : Array Value} (k : CellOk N H α a c) (e : H a = some (.tbl ps)) (nd : c ≠ .dead) : False := by
  cases c with
  | lst xs => obtain ⟨vs, q, _⟩ := k; rw [e] at q; cases q
  | dK kvs => obtain ⟨ks, vs, xs, q, _⟩ := k; rw [e] at q; cases q
  | lk kvs => obtain ⟨o, ks, vs, xs, q, _⟩ := k; rw [e] at q; cases q
  | ins C fs => obtain ⟨Ca, dx, ks, vs, xs, _, q, _⟩ := k; rw [e] at q; cases q
  | dead => exact nd rfl
/-- a table may have grown by a code object of its name -/
structure Grew (P : Addr) (q : Str) (H H1 : Hp) : Prop where
  rest : ∀ b o, b ≠ P → H b = some o → H1 b = some o
  tab : LamX.TabS H1 P q
theorem Grew.refl {P : Addr} {q : Str} {H : Hp} (t : LamX.TabS H P q) : Grew P q H H := ⟨fun _ _ _ h => h, t⟩
/-- other tables stay -/
theorem Grew.tabs {P : Addr} {q : Str} {H H1 : Hp} (g : Grew P q H H1) (t : LamX.TabS H P q) {P2 : Addr} {q2 : Str} (ne : P2 ≠ P) (t2 : LamX.TabS H P2 q2) : LamX.TabS H1 P2 q2 := by
  obtain ⟨ps, h1, h2, h3⟩ := t2
  obtain ⟨qs, k1, _⟩ := t
  refine ⟨ps, g.rest _ _ ne h1, h2, fun pos cv hc => ?_⟩
  obtain ⟨c, e1, e2⟩ := h3 pos cv hc
  refine ⟨c, e1, g.rest _ _ (fun z => ?_) e2⟩
  rw [z, k1] at e2
  exact LamX.codeO_ne _ (Option.some.inj e2).symm
section
variable {X : Cx} {pins : List (Addr × Obj)} {σ : L2.St} {H : Hp} {s : Shared}
theorem lam_x {c P : Addr} {params : Arguments} {body : Expr} {scope : Scope} {pos : Pos} {E : Value → Shared → Prop} {Q : Value → Shared → Prop} (I : Inv X pins σ H s) (TB : LamX.TabB X.base X.mg c P) (code : X.env.code = .ref c) (t : LamX.TabS H P (X.env.qual ++ "<lambda>"))
    (dfl : defaultsOf params X.env = ([], [])) (fr : ∀ y ∈ scope.names, y.2 = .free → ∃ c, X.env.cells.lookup y.1 = some c)
    (go : ∀ (f c' : Addr) (pm ctv : Value) (H1 : Hp) (s' : Shared), Inv X pins σ H1 s' → Grew P (X.env.qual ++ "<lambda>") H H1 →
      s'.heap.get? f = some (PySem.W.kla_obj "<lambda>" (X.env.qual ++ "<lambda>") params body scope (cloFrom X.env.cells scope.names []) pm c' ctv) → H1 f = none → f ∉ frs X.stack → H1 c' = some (LamX.CodeO c' (X.env.qual ++ "<lambda>")) → Q (.ref f) s') :
    wpAny (model X.prog X.w) X.A (eval (.Lambda params body scope pos) X.env) Q E s := by
  obtain ⟨ps, hP, tri, among⟩ := id t
  have bP : s.heap.BuiltinsAt X.mg P := TB.bm.keeps I.bk
  have atP : s.heap.get? P = some { cls := .none, data := .fields ps } := I.hok P _ hP
  have out : ∀ f, s.heap.objs.size ≤ f → f ∉ frs X.stack := fun f hf z => by
    rcases List.mem_cons.mp (I.stkSub _ z) with e | e
    · have l := I.lt
      rw [← e] at l
      exact Nat.lt_irrefl _ (Nat.lt_of_lt_of_le l hf)
    · exact I.nofs hf e
  refine PySem.W.kla_eval dfl ?_
  cases hc : codeAmong pos ps.toList with
  | some cv =>
    obtain ⟨c', e, hco⟩ := among pos cv hc
    subst e
    refine PySem.W.kla_makeFunctionHit (mg := X.mg) (c := c) (P := P) (ps := ps) (closure_ok fr) I.ok.glob (I.mod.glob.keeps I.bk) code (TB.code.keeps I.bk) atP tri hc bP fun ctv h' tk hx hsz => ?_
    refine go h'.objs.size c' ((X.mg "__name__").getD .none) ctv H _ (I.kept fun b o e => Heap.get?_push_of_some _ (hx b o e)) (.refl t) (Heap.get?_push_size _ rfl) (I.hok.fresh hsz) (out _ hsz) hco
  | none =>
    refine PySem.W.kla_makeFunction (mg := X.mg) (c := c) (P := P) (ps := ps) (closure_ok fr) I.ok.glob (I.mod.glob.keeps I.bk) code (TB.code.keeps I.bk) atP tri hc TB.gP bP fun c' ctv h' tk hx hge hlt hrec htb => ?_
    obtain ⟨c2, oc, vs, tok, e2, hoc, hd, hv⟩ := hrec
    cases e2
    have fresh : H c' = none := I.hok.fresh hge
    have le : s.heap.objs.size ≤ h'.objs.size := Nat.le_trans hge (Nat.le_of_lt hlt)
    have J := LamX.inv_table (t' := tk) (more := #[rawInt pos.line, rawInt pos.col, .ref c']) (h' := h'.push (PySem.W.kla_obj "<lambda>" (X.env.qual ++ "<lambda>") params body scope (cloFrom X.env.cells scope.names []) ((X.mg "__name__").getD .none) c' ctv)) I hP
      (fun b o hb e => Heap.get?_push_of_some _ (hx b o hb e)) (Heap.get?_push_of_some _ htb) hge ⟨oc, vs, tok, Heap.get?_push_of_some _ hoc, hd, hv⟩
    have rest : ∀ b o, b ≠ P → H b = some o → (upd (upd H P (.tbl (ps ++ #[rawInt pos.line, rawInt pos.col, .ref c']))) c' (LamX.CodeO c' (X.env.qual ++ "<lambda>"))) b = some o := fun b o nb e => by
      rw [upd_ne (ne_of_none e fresh), upd_ne nb]
      exact e
    have nPc : P ≠ c' := ne_of_none hP fresh
    refine go h'.objs.size c' ((X.mg "__name__").getD .none) ctv _ _ J ⟨rest, ?_⟩ (Heap.get?_push_size _ rfl) ?_ (out _ le) upd_same
    · refine ⟨_, by rw [upd_ne nPc, upd_same], ?_, fun p' cv hcv => ?_⟩
      · rw [Array.toList_append]
        exact PySem.TriplesOk_snoc _ _ _ _ tri
      · rw [Array.toList_append] at hcv
        rcases LamX.among_app _ tri hcv with z | z
        · obtain ⟨c0, e1, e2⟩ := among p' cv z
          refine ⟨c0, e1, rest _ _ (fun w => ?_) e2⟩
          rw [w, hP] at e2
          exact LamX.codeO_ne _ (Option.some.inj e2).symm
        · exact ⟨c', z, upd_same⟩
    · rw [upd_ne (Nat.ne_of_gt hlt), upd_ne (Nat.ne_of_gt (Nat.lt_of_lt_of_le (Heap.lt_size atP) le))]
      exact I.hok.fresh le
/-- that is a step -/
theorem Grew.stp {N : Nm} {α : List Addr} {S : Sto} {P : Addr} {q : Str} {H H1 : Hp} (g : Grew P q H H1) (ok : StoOk N H α S) (t : LamX.TabS H P q) (one : ∀ p ∈ N.fd.T, p.1 = P → p.2 = q) : Stp α S H α S H1 ∧ StoOk N H1 α S := by
  obtain ⟨ps, hP, _⟩ := id t
  obtain ⟨ps1, hP1, _⟩ := g.tab
  have keep : ∀ a u, H a = some u → ¬ isTb u → H1 a = some u := fun a u e nt => g.rest a u (fun z => by
    rw [z, hP] at e
    cases e
    exact nt trivial) e
  have st : Stp α S H α S H1 := by
    refine ⟨⟨[], by simp, by simp⟩, fun _ _ h _ => h, fun a u e nt _ => keep a u e nt, fun a h => ?_⟩
    by_cases z : a = P
    · rw [z, hP1]
      exact fun z => nomatch z
    · cases e : H a with
      | none => exact absurd e h
      | some u => rw [g.rest a u z e]; exact fun z => nomatch z
  refine ⟨st, ok.len, ok.nd, fun l a c h1 h2 => ?_, fun p hp => ?_⟩
  · have k := ok.cell l a c h1 h2
    by_cases nd : c = .dead
    · subst nd
      exact st.there a k
    have no : a ≠ P := fun z => by
      subst z
      exact noTbC k hP nd
    refine (ok.cell l a c h1 h2).up (st.up ok) ?_
    cases e : H a with
    | none => exact absurd e (ok.tracked h1)
    | some u => exact g.rest a u no e
  · by_cases z : p.1 = P
    · rw [z, one p hp z]
      exact g.tab
    · exact g.tabs t z (ok.tb p hp)
end
end Dl


set_option Elab.async false
set_option linter.all false
set_option maxRecDepth 100000
set_option maxHeartbeats 4000000
/-! Dx8: g(lambda: f(x, ..)): g calls the lambda in a try and catches all its errors. -/
namespace Dl
open PySem PySem.Spec PyProof.Rows L2
/-- the arguments are the maker's names -/
noncomputable def fVars : List Nat → Slots → Sto → Res (List D)
  | [] => fNil
  | i :: is => fCons (fVar i) (fVars is)
/-- what g makes of what the lambda tells -/
def noEx : Res D → Res D
  | .ok v S => .ok v S
  | _ => .st
@[simp] theorem noEx_ok (v : D) (S : Sto) : noEx (.ok v S) = .ok v S := rfl
theorem noEx_any {N : Nm} {E E' : XK} {α : List Addr} {S : Sto} {H : Hp} {r : Res D} {Q : VK} (h : dRes N E α S H (noEx r) Q) : dRes N E' α S H (noEx r) Q := by
  cases r with
  | ok v S' => exact h
  | ex c v S' => exact h
  | st => exact h
def rsdK (G : Str → List D → Sto → Res D) (g : Str) : Res D → Res D
  | .ok v S => noEx (G g [v] S)
  | .ex c v S => noEx (G g [.s c, v] S)
  | .st => .st
theorem rsdK_any {N : Nm} {E E' : XK} {α : List Addr} {S : Sto} {H : Hp} {r : Res D} {Q : VK} {G : Str → List D → Sto → Res D} {g : Str} (h : dRes N E α S H (rsdK G g r) Q) : dRes N E' α S H (rsdK G g r) Q := by
  cases r with
  | ok v S' => exact noEx_any h
  | ex c v S' => exact noEx_any h
  | st => exact h
noncomputable abbrev fRsd (G : Str → List D → Sto → Res D) (g f : Str) (n m : Nat) (arr : Arr) (is ks : List Nat) : Slots → Sto → Res D := fun ρ S => rsdK G g (fCall (G f) n m arr (fVars is) (fVars ks) ρ S)
/-- the maker of a lambda: its code object and the table there -/
structure LamOk (X : Cx) (fd : FdT) : Prop where
  ex : ∃ c P, LamX.TabB X.base X.mg c P ∧ X.env.code = .ref c ∧ (P, X.env.qual ++ "<lambda>") ∈ fd.T ∧ ∀ p ∈ fd.T, p.1 = P → p.2 = X.env.qual ++ "<lambda>"
/-- the def that gets the lambda and calls it -/
structure CatOk (P : Program) (w : World) (K : PySem.W.Frag) (mg : Str → Option Value) (base : Heap) (fd : FdT) (G : Str → List D → Sto → Res D) (g : Str) : Prop where
  ex : ∃ (ga : Addr) (a : Str) (Ng : List Str) (pg : Arguments) (bg : List Stmt) (sg : Scope) (dV kV doc pm cdv ct oc : Value) (an od : Option Addr) (osl : Array (Option Value)), mg g = some (.ref ga) ∧ PySem.W.keepIn K (.ref ga) = true ∧
    K.lookup ga = some ⟨oc, od, .func (PySem.W.fnOf g g pg bg sg dV kV doc pm an cdv ct), osl⟩ ∧ PySem.W.codeIn K cdv g = true ∧ L2.Binds K (PySem.W.fnOf g g pg bg sg dV kV doc pm an cdv ct) [a] [] ∧ FnScope Ng [a] sg ∧
    (Ng[0]? = some a ∧ Vis sg a ∧ (a == ("__debug__" : Str)) = false ∧ (a == ("__classdict__" : Str)) = false) ∧
    ∀ (A : Around) (outer : List Env) (s : Shared) (H : Hp) (f : Addr) (th : Res D) (α : List Addr) (S : Sto) (Q : VK), StoOk ⟨K, mg, fd⟩ H α S →
      (∀ (W : WX) (pn : List (Addr × Obj)) (xe : Value → Shared → Prop) (E : XK) (p1 p2 : Pos), Takes ((cxOf C8.CX0 P w K mg base Ng g sg ga cdv A outer s H C8.E0).tr pn xe) W → (∀ cls d σ' H', E cls d H' → W cls d σ' H') →
        PE ((cxOf C8.CX0 P w K mg base Ng g sg ga cdv A outer s H C8.E0).tr pn xe) (.Call (.Name a p1) [] [] p2) (fun σZ HZ Q => σZ[0]? = some (some (.ref f)) ∧ HZ = H ∧ dRes ⟨K, mg, fd⟩ E α S H th Q)) →
      Room 2 (A.deeper (envOfC g sg s.heap.objs.size ga cdv)) → (A.deeper (envOfC g sg s.heap.objs.size ga cdv)).guards = some [] → (∃ o, base.get? sysModules = some o) →
      dRes ⟨K, mg, fd⟩ C8.E0 α S H (rsdK G g th) Q → ∃ t, PSs (cxOf C8.CX0 P w K mg base Ng g sg ga cdv A outer s H C8.E0).nox bg t ∧ t { nx := fun _ H' => Q .non H', rt := Q } (L2.start Ng [.ref f]) H
section
variable {X : Cx} {pins : List (Addr × Obj)} {σ : L2.St} {H HZ : Hp} {s s1 : Shared}
/-- the lambda is called in the def that got it -/
theorem act_x {CXg : CXT} {Eg : XK} {Ng : List Str} {qg : Str} {sg : Scope} {g f c' : Addr} {cdg pm ctv : Value} {params : Arguments} {body : Expr} {scope : Scope} {k : Nat} {a : Str} {pn : List (Addr × Obj)} {xe : Value → Shared → Prop} {W : WX} {E : XK} {tb : TE} {p1 p2 : Pos}
    (I : Inv X pins σ H s) (L : LamX.LamS X.env.scope scope) (at_ : s.heap.get? f = some (PySem.W.kla_obj "<lambda>" (X.env.qual ++ "<lambda>") params body scope (cloFrom X.env.cells scope.names []) pm c' ctv)) (free : H f = none) (off : f ∉ frs X.stack)
    (bnd : bindArgs (PySem.W.kla_fn "<lambda>" (X.env.qual ++ "<lambda>") params body scope (cloFrom X.env.cells scope.names []) pm (.ref c') ctv) ⟨[], []⟩ = pure [])
    (tk : Takes ((cxOf CXg X.prog X.w X.K X.mg X.base Ng qg sg g cdg X.A X.stack s H Eg).tr pn xe) W) (ew : ∀ cls d σ' H', E cls d H' → W cls d σ' H') (room : Room (k + 1) (X.A.deeper (envOfC qg sg s.heap.objs.size g cdg)))
    (run : ∀ (s2 : Shared) (H2 : Hp), Room k ((X.A.deeper (envOfC qg sg s.heap.objs.size g cdg)).deeper (LamX.lamEnv X scope s2.heap.objs.size f c')) →
      PE (LamX.lamCx X (X.A.deeper (envOfC qg sg s.heap.objs.size g cdg)) (envOfC qg sg s.heap.objs.size g cdg :: X.stack) s2 H2 E scope f c') body tb)
    (hN : Ng[0]? = some a) (hv : Vis sg a) (g1 : (a == ("__debug__" : Str)) = false) (g2 : (a == ("__classdict__" : Str)) = false) :
    PE ((cxOf CXg X.prog X.w X.K X.mg X.base Ng qg sg g cdg X.A X.stack s H Eg).tr pn xe) (.Call (.Name a p1) [] [] p2)
      (fun σZ HZ Q => σZ[0]? = some (some (.ref f)) ∧ HZ c' = some (LamX.CodeO c' (X.env.qual ++ "<lambda>")) ∧ tb σ HZ Q) := by
  refine ⟨fun pz sz σz Hz Qz J ⟨slot, code, want⟩ => ?_⟩
  have rd := (pe_var (pos := p1) (i := 0) hN hv g1 g2).run pz sz σz Hz (fun v H1 => v = .ref f ∧ H1 = Hz) J ⟨.ref f, slot, rfl, rfl⟩
  refine wpAny_Call_Name_kw (thn rd fun u s1 ⟨v, H1, J1, r1, ⟨e1, e2⟩⟩ => ?_)
  subst e1 e2
  obtain rfl : u = Value.ref f := r1
  have un : Un (frs X.stack) [] H H1 s.heap s1.heap := J1.base
  have here : s1.heap.get? f = some (PySem.W.kla_obj "<lambda>" (X.env.qual ++ "<lambda>") params body scope (cloFrom X.env.cells scope.names []) pm c' ctv) := un.keep f _ at_ free off (by simp)
  refine PySem.W.callWith_F0 ⟨_, _, _, _, here⟩ ?_
  obtain ⟨⟨oc, fs, t, w1, w2, w3⟩, _⟩ := J1.hok c' _ code
  have passes : Passes (L2.CX X.prog X.w) ((cxOf CXg X.prog X.w X.K X.mg X.base Ng qg sg g cdg X.A X.stack s H Eg).tr pn xe) E := passes_call tk ew
  have rc : codeAny (model X.prog X.w) (X.A.deeper (envOfC qg sg s.heap.objs.size g cdg)) (.call (.ref f) ⟨[], []⟩) (CR (L2.CX X.prog X.w) (envOfC qg sg s.heap.objs.size g cdg :: X.stack) X.prog X.w H1 s1 Qz E) s1 := by
    refine PySem.W.kla_callFunE room.depth here rfl L.co L.gen rfl ⟨c', oc, fs, t, rfl, w1, w2, w3⟩ ?_
    rw [bnd]
    refine wpAny_pure (wpAny_newFunctionEnv (fun y hy => (L.own y hy).2) (fun y hy => absurd hy (by simp)) (fun h₁ ns same => ⟨J1.nolimit.fresh _ same, ?_⟩) L.kind)
    have kp : ∀ b o, s1.heap.get? b = some o → h₁.get? b = some o := fun b o e => same.extBut b o (Nat.ne_of_lt (Heap.lt_size e)) (Heap.get?_push_of_some _ e)
    have K0 : Inv (LamX.lamCx X (X.A.deeper (envOfC qg sg s.heap.objs.size g cdg)) (envOfC qg sg s.heap.objs.size g cdg :: X.stack) s1 H1 E scope f c') [] σ H1 { s1 with heap := h₁, toks := s1.toks + ([] : List (Str × Value)).length } :=
      LamX.lam_start2 I L J1.env0 room.hd un ns kp
    refine PySem.W.kla_codeExpr (wpAny_mono ((run s1 H1 (room.deeper _)).run [] _ _ H1 Qz K0 want) (fun v s' ⟨w', H', J', rv, q⟩ => ?_) fun _ _ q => q)
    exact ⟨w', H', J'.os, J'.bare, J'.base, J'.hok, rv, q⟩
  refine wpAny_call (codeAny_mono rc fun r s' got => ?_)
  cases r with
  | error e => exact passes pz σz H1 s1 e s' J1 got
  | ok fl => cases fl <;> first | exact J1.after got | exact False.elim got
/-- g(lambda: f(x, ..)) -/
theorem dv_rsd {fd : FdT} {E : XK} {G : Str → List D → Sto → Res D} {g f : Str} {k : Nat} {arr : Arr} {is ks : List Nat} {fa : Addr} {fdt : FuncData} {ps kn : List Str} {scope : Scope} {l : List Expr} {q : List Keyword} {p fp cp lpos pos : Pos}
    (C : CatOk X.prog X.w X.K X.mg X.base fd G g) (LO : LamOk X fd) (room : Room (k + 2) X.A) (hk1 : 1 ≤ k) (gd : X.A.guards = some []) (sys : SysIn X) (hg : Gl X g) (hdb : (g == ("__debug__" : Str)) = false) (L : LamX.LamS X.env.scope scope)
    (F : FnG X.prog X.w X.K X.mg X.base (L2.CX X.prog X.w) k fa fdt ps (spD (nm X fd) ps.length (G f))) (hmf : X.mg f = some (.ref fa)) (hkf : PySem.W.keepIn X.K (.ref fa) = true) (hgf : scope.names.lookup f = some .globalImplicit) (hdf : (f == ("__debug__" : Str)) = false) (bn : BndOk X.K X.mg fd fdt ps l.length kn arr)
    (ha : ∀ (X' : Cx) (E' : XK), X'.N = X.N → X'.env.scope = scope → PA X' l (dA (nm X' fd) E' (fVars is)) ∧ PK X' q (dA (nm X' fd) E' (fVars ks))) (hns : l.all nsE = true) (hks : kwN q = some kn) (h0 : l = [] → is = []) :
    PE X (.Call (.Name g p) [.Lambda ⟨[], [], none, [], [], none, []⟩ (.Call (.Name f fp) l q cp) scope lpos] [] pos) (dE (nm X fd) E (fRsd G g f l.length kn.length arr is ks)) := by
  refine ⟨fun pins s σ H Q I ⟨ρ, S, α, r, ok, h⟩ => ?_⟩
  obtain ⟨ga, a, Ng, pg, bg, sg, dV, kV, doc, pm, cdv, ct, oc, an, od, osl, c1, c2, c3, c4, c5, c6, ⟨c7, c8, c9, c10⟩, go⟩ := C.ex
  obtain ⟨co, P, tb, hco, mem, one⟩ := LO.ex
  refine wpAny_Call_Name_kw (ld_glob I hg c1 ?_ hdb)
  refine PySem.W.callWith_K (h₀ := X.base) I.ok.mod.kin c2 ?_ (by rfl) (by rfl)
  show wpAny _ _ (spliced ((false, eval (.Lambda ⟨[], [], none, [], [], none, []⟩ (.Call (.Name f fp) l q cp) scope lpos) X.env) :: backTo pos (starEach [] X.env))) _ _ s
  refine Calls.spliced_cons (lam_x I tb hco (ok.tb _ mem) rfl (L.has I.ok) fun lf c' pm' ctv H1 s1 I1 gr at_ free off code => ?_)
  obtain ⟨st1, ok1⟩ := gr.stp ok (ok.tb _ mem) one
  refine Calls.spliced_nil ⟨I1.kIn, ?_⟩
  have want := dRes.shift (E := E) ok st1 h
  have want0 : dRes (nm X fd) C8.E0 α S H1 (rsdK G g (fCall (G f) l.length kn.length arr (fVars is) (fVars ks) ρ S)) Q := rsdK_any want
  refine wpAny_call (codeAny_mono (R := CR C8.CX0 X.stack X.prog X.w H1 s1 Q C8.E0) ?_ fun o s2 got => ?_)
  · refine LamX.run_ofS (N := Ng) (ps := [a]) (us := [.ref lf]) (vs := [.ref lf]) c3 c4 c6 room I1.env0 (c5 s1 [.ref lf] I1.kIn rfl) (.cons rfl .nil) rfl fun room1 => ?_
    refine (fun ⟨t, ht, q⟩ => ⟨t, PSs.nox ht, q⟩) (go X.A X.stack s1 H1 lf _ α S Q ok1 (fun W pn xe E' p1 p2 tk ew => ?_) (room1.mono (by omega)) (guards_deeper gd) sys want0)
    · refine PE.imp (act_x (tb := dE (nm X fd) E' (fCall (G f) l.length kn.length arr (fVars is) (fVars ks))) I1 L at_ free off rfl tk ew room1 (fun s2 H2 room2 => ?_) c7 c8 c9 c10) fun σZ HZ QZ ⟨z1, z2, z3⟩ => by subst z2; exact ⟨z1, code, ρ, S, α, r.step ok st1, ok1, z3⟩
      obtain ⟨a1, a2⟩ := ha (LamX.lamCx X (X.A.deeper (envOfC g sg s1.heap.objs.size ga cdv)) (envOfC g sg s1.heap.objs.size ga cdv :: X.stack) s2 H2 E' scope lf c') E' rfl rfl
      refine dv_call (X := LamX.lamCx X (X.A.deeper (envOfC g sg s1.heap.objs.size ga cdv)) (envOfC g sg s1.heap.objs.size ga cdv :: X.stack) s2 H2 E' scope lf c') F room2 (guards_deeper (guards_deeper gd)) hgf hmf hkf bn ?_ hdf a1 a2 hns hks fun z => by rw [h0 z]; rfl
      exact passes_call (takes_of rfl rfl rfl rfl) fun _ _ _ _ z => z
  · cases o with
    | error e => exact (show False from got).elim
    | ok fl => cases fl <;> first | exact I1.after got | exact False.elim got
end
end Dl

set_option linter.all false
set_option maxRecDepth 100000
set_option maxHeartbeats 4000000
/-! Dl19: texts as small trees: what they compute (ev), whether a tree is a text's (ck). -/
namespace Dl
open PySem PySem.Spec PyProof.Rows L2
mutual
inductive Ex where
  | none
  | var (i : Nat)
  | c (d : PyData)
  | glob (d : PyData)
  | bin (op : Operator) (m : Bool) (a b : Ex)
  | neg (a : Ex)
  | cmp (op : CmpOp) (a b : Ex)
  | chain (op op' : CmpOp) (a b c : Ex)
  | not (a : Ex)
  | and (a : Ex) (r : Exs)
  | or (a : Ex) (r : Exs)
  | ite (c a b : Ex)
  | tup (es : Exs)
  | lst (m : Bool) (es : Exs)
  | idx (a b : Ex)
  | sli (m : Bool) (a : Ex) (lo hi : Exo)
  | rev (m : Bool) (a : Ex)
  | fld (f : Str) (a : Ex)
  | bn (m : Bool) (f : Bn) (es : Exs)
  | isi (T : Ty) (a : Ex)
  | mt (m : Bool) (f : Mt) (o : Ex) (es : Exs)
  | call (f : Str) (arr : Arr) (es ks : Exs)
  | lc (m : Bool) (src : Sr) (t : Tg) (own : List (Str × Nat)) (tst : Exo) (elt : Ex)
  | dct (kvs : Exp)
  | make (cn fn : Str) (arr : Arr) (es : Exs)
  | meth (cn m fn : Str) (arr : Arr) (o : Ex) (es : Exs)
  | litems (a : Ex)
  | lock (a e : Ex)
  | sset (m : Bool) (a : Ex)
  | lrg (m : Bool) (a : Ex)
  | frz (a : Ex)
  | rsd (g f : Str) (arr : Arr) (is ks : List Nat)
inductive Exs where
  | nil
  | cons (a : Ex) (r : Exs)
inductive Exo where
  | no
  | so (a : Ex)
inductive Exp where
  | nil
  | cons (k v : Ex) (r : Exp)
inductive Sr where
  | seq (a : Ex)
  | r1 (a : Ex)
  | r2 (a b : Ex)
  | r3 (a b c : Ex)
  | zip (a b : Ex)
  | enum (a : Ex)
  | items (a : Ex)
end
def Exs.len : Exs → Nat
  | .nil => 0
  | .cons _ r => r.len + 1
def Exs.isNil : Exs → Bool
  | .nil => true
  | _ => false
/-- a value's reading, and the test's -/
structure Rd where
  v : Slots → Sto → Res D
  t : Slots → Sto → Res Bool
abbrev Rd.of (F : Slots → Sto → Res D) : Rd := ⟨F, fTru F⟩
abbrev gIf (Tc Ta Tb : Slots → Sto → Res Bool) : Slots → Sto → Res Bool := fun ρ S => (Tc ρ S).bind fun k S1 => match k with
  | true => Ta ρ S1
  | false => Tb ρ S1
abbrev Fns := Str → List D → Sto → Res D
section
variable (G : Fns)
mutual
noncomputable def ev : Ex → Rd
  | .none => .of fun _ _ => .st
  | .var i => .of (fVar i)
  | .c d => .of (fC d)
  | .glob d => .of (fC d)
  | .bin op m a b => .of (fBin op m (ev a).v (ev b).v)
  | .neg a => .of (fNeg (ev a).v)
  | .cmp op a b => .of (fCmp op (ev a).v (ev b).v)
  | .chain op op' a b c => .of (fChain op op' (ev a).v (ev b).v (ev c).v)
  | .not a => ⟨fNot (ev a).v, gNot (ev a).t⟩
  | .and a r => evAnd (ev a) r
  | .or a r => evOr (ev a) r
  | .ite c a b => ⟨fIf (ev c).t (ev a).v (ev b).v, gIf (ev c).t (ev a).t (ev b).t⟩
  | .tup es => .of (fTup (evs es))
  | .lst m es => .of (fLst m (evs es))
  | .idx a b => .of (fIdx (ev a).v (ev b).v)
  | .sli m a lo hi => .of (fSli m (ev a).v (evo lo) (evo hi))
  | .rev m a => .of (fRev m (ev a).v)
  | .fld f a => .of (fFld f (ev a).v)
  | .bn m f es => .of (fBn m f (evs es))
  | .isi T a => .of (fIsi T (ev a).v)
  | .mt m f o es => .of (fMt m f (ev o).v (evs es))
  | .call f arr es ks => .of (fCall (G f) es.len ks.len arr (evs es) (evs ks))
  | .lc m src t own tst elt => .of (fLc m (evr src) t (own.map (·.2)) (evt tst) (ev elt).v)
  | .dct .nil => .of fun _ S => .ok (.loc S.length) (S ++ [.dK []])
  | .dct (.cons k v r) => .of (fDct (((ev k).v, (ev v).v) :: evp r))
  | .make cn fn arr es => .of (fMake cn (G fn) es.len arr (evs es))
  | .meth cn m fn arr o es => .of (fMeth cn m (G fn) es.len arr (ev o).v (evs es))
  | .litems a => .of (fLitems (ev a).v)
  | .lock a e => .of (fLock (ev a).v (ev e).v)
  | .sset m a => .of (fSset m (ev a).v)
  | .lrg m a => .of (fLrg m (ev a).v)
  | .frz a => .of (fFrz (ev a).v)
  | .rsd g f arr is ks => .of (fRsd G g f is.length ks.length arr is ks)
noncomputable def evAnd (a : Rd) : Exs → Rd
  | .nil => a
  | .cons b r => ⟨fAnd a.v (evAnd (ev b) r).v, gAnd a.t (evAnd (ev b) r).t⟩
noncomputable def evOr (a : Rd) : Exs → Rd
  | .nil => a
  | .cons b r => ⟨fOr a.v (evOr (ev b) r).v, gOr a.t (evOr (ev b) r).t⟩
noncomputable def evs : Exs → Slots → Sto → Res (List D)
  | .nil => fNil
  | .cons a r => fCons (ev a).v (evs r)
noncomputable def evo : Exo → Option (Slots → Sto → Res D)
  | .no => .none
  | .so a => some (ev a).v
noncomputable def evt : Exo → Slots → Sto → Res Bool
  | .no => fYes
  | .so a => (ev a).t
noncomputable def evp : Exp → List (FD × FD)
  | .nil => []
  | .cons k v r => ((ev k).v, (ev v).v) :: evp r
noncomputable def evr : Sr → Slots → Sto → Res Src
  | .seq a => fSeq (ev a).v
  | .r1 a => fRng1 (ev a).v
  | .r2 a b => fRng2 (fCons (ev a).v (fCons (ev b).v fNil))
  | .r3 a b c => fRng3 (fCons (ev a).v (fCons (ev b).v (fCons (ev c).v fNil)))
  | .zip a b => fZip (fCons (ev a).v (fCons (ev b).v fNil))
  | .enum a => fEnum (ev a).v
  | .items a => fItems (ev a).v
end
end
/-! ### texts and trees -/
structure Tab where
  blt : List Str
  cst : List (Str × PyData)
  shp : List (Str × Nat × List Str × Arr)
  fl : List (Str × Str)
  mks : List (Str × Str × Nat × Arr) := []
  mth : List (Str × Str × Str × Nat × Arr) := []
  exs : List Str := []
  cats : List Str := []
  lmk : List Str := []
  lam : Bool := false
  sub : List (Str × Str) := []
  fx : List (Str × Str) := []
  knm : List Str := []
/-- in the def named x -/
def Tab.fld (T : Tab) (x : Str) : Str := (T.fx.lookup x).getD "thing"
/-- no calls -/
def Tab.still (T : Tab) : Tab := { T with shp := [], mks := [], mth := [], exs := [], cats := [], lam := false }
def Tab.at_ (T : Tab) (x : Str) : Tab := { T with lam := decide (x ∈ T.lmk) }
mutual
def pdEq : PyData → PyData → Bool
  | .none, d => match d with
    | .none => true
    | _ => false
  | .bool a, d => match d with
    | .bool b => decide (a = b)
    | _ => false
  | .int a, d => match d with
    | .int b => decide (a = b)
    | _ => false
  | .str a, d => match d with
    | .str b => decide (a = b)
    | _ => false
  | .tuple a, d => match d with
    | .tuple b => pdsEq a b
    | _ => false
  | .list a, d => match d with
    | .list b => pdsEq a b
    | _ => false
  | .dict _, _ => false
def pdsEq : List PyData → List PyData → Bool
  | [], l => l.isEmpty
  | a :: r, l => match l with
    | b :: q => pdEq a b && pdsEq r q
    | [] => false
end
mutual
theorem pdEq_ok : ∀ {a b : PyData}, pdEq a b = true → a = b
  | .none, b, h => by unfold pdEq at h; split at h <;> first | rfl | cases h
  | .bool a, b, h => by unfold pdEq at h; split at h <;> first | (rw [of_decide_eq_true h]) | cases h
  | .int a, b, h => by unfold pdEq at h; split at h <;> first | (rw [of_decide_eq_true h]) | cases h
  | .str a, b, h => by unfold pdEq at h; split at h <;> first | (rw [of_decide_eq_true h]) | cases h
  | .tuple a, b, h => by unfold pdEq at h; split at h <;> first | (rw [pdsEq_ok h]) | cases h
  | .list a, b, h => by unfold pdEq at h; split at h <;> first | (rw [pdsEq_ok h]) | cases h
  | .dict a, b, h => by unfold pdEq at h; cases h
theorem pdsEq_ok : ∀ {a b : List PyData}, pdsEq a b = true → a = b
  | [], b, h => by unfold pdsEq at h; cases b <;> first | rfl | cases h
  | x :: a, b, h => by
    unfold pdsEq at h
    split at h
    · rw [Bool.and_eq_true] at h
      rw [pdEq_ok h.1, pdsEq_ok h.2]
    · cases h
end
def arrEq : Arr → Arr → Bool
  | [], l => l.isEmpty
  | a :: r, l => match a, l with
    | .inl i, .inl j :: q => decide (i = j) && arrEq r q
    | .inr c, .inr d :: q => pdEq c d && arrEq r q
    | _, _ => false
theorem arrEq_ok : ∀ {a b : Arr}, arrEq a b = true → a = b
  | [], b, h => by unfold arrEq at h; cases b <;> first | rfl | cases h
  | x :: a, b, h => by
    unfold arrEq at h
    split at h
    · rw [Bool.and_eq_true] at h
      rw [of_decide_eq_true h.1, arrEq_ok h.2]
    · rw [Bool.and_eq_true] at h
      rw [pdEq_ok h.1, arrEq_ok h.2]
    · cases h
def glb (sc : Scope) (x : Str) : Bool := decide (sc.names.lookup x = some .globalImplicit) && !(x == ("__debug__" : Str))
def bltC (T : Tab) (sc : Scope) (x : Str) : Bool := decide (sc.names.lookup x = some .globalImplicit) && decide (x ∈ T.blt)
def visC (sc : Scope) (x : Str) : Bool := (decide (sc.names.lookup x = some .local) || decide (sc.names.lookup x = some .cell) || decide (sc.names.lookup x = some .free)) && !(x == ("__debug__" : Str)) && !(x == ("__classdict__" : Str))
def constC (k : Const) (d : PyData) : Bool := match k, d with
  | .int i, .int j => decide (i = j)
  | .bool i, .bool j => decide (i = j)
  | .str i, .str j => decide (i = j)
  | .none, .none => true
  | _, _ => false
def plainIxC : Expr → Bool
  | .Slice _ _ _ _ => false
  | _ => true
/-- names of a block's target -/
def storeC (N : List Str) (sc : Scope) (fnc : Str → Bool) (i : Nat) (x : Str) : Bool :=
  decide (N[i]? = some x) && (decide (sc.names.lookup x = some .local) || (decide (sc.names.lookup x = some .cell) && fnc x))
mutual
def tgC (N : List Str) (sc : Scope) (fnc : Str → Bool) : Tg → Expr → Bool
  | .nm i, e => match e with
    | .Name x _ => storeC N sc fnc i x
    | _ => false
  | .tp ts, e => match e with
    | .Tuple es _ _ => es.all nsE && tgsC N sc fnc ts es
    | _ => false
def tgsC (N : List Str) (sc : Scope) (fnc : Str → Bool) : Tgs → List Expr → Bool
  | .nil, es => es.isEmpty
  | .cons t ts, es => match es with
    | e :: es => tgC N sc fnc t e && tgsC N sc fnc ts es
    | [] => false
end
def isTup : Expr → Bool
  | .Tuple _ _ _ => true
  | _ => false
def notSet : Expr → Bool
  | .Set _ _ _ => false
  | _ => true
def plainTC : Expr → Bool
  | .UnaryOp .Not _ _ => false
  | .BoolOp _ _ _ => false
  | .IfExp _ _ _ _ => false
  | .Compare _ _ _ _ => false
  | _ => true
/-- some names, as slots -/
def varC (N : List Str) (sc : Scope) (i : Nat) (e : Expr) : Bool := match e with
  | .Name x _ => decide (N[i]? = some x) && visC sc x
  | _ => false
def varsC (N : List Str) (sc : Scope) : List Nat → List Expr → Bool
  | [], l => l.isEmpty
  | i :: is, l => match l with
    | e :: l => varC N sc i e && varsC N sc is l
    | [] => false
def varsK (N : List Str) (sc : Scope) : List Nat → List Keyword → Bool
  | [], l => l.isEmpty
  | i :: is, l => match l with
    | ⟨_, e, _⟩ :: l => varC N sc i e && varsK N sc is l
    | [] => false
section
variable (T : Tab) (N : List Str)
mutual
def ck (sc : Scope) : Ex → Expr → Bool
  | .none, _ => true
  | .var i, e => match e with
    | .Name x _ => decide (N[i]? = some x) && visC sc x
    | _ => false
  | .c d, e => match e with
    | .Constant k _ _ => constC k d
    | _ => false
  | .glob d, e => match e with
    | .Name x _ => glb sc x && (match T.cst.lookup x with
      | some d' => pdEq d d'
      | .none => false)
    | _ => false
  | .bin op m a b, e => match e with
    | .BinOp l o r _ => decide (o = op) && ck sc a l && ck sc b r
    | _ => false
  | .neg a, e => match e with
    | .UnaryOp .USub l _ => ck sc a l
    | _ => false
  | .cmp op a b, e => match e with
    | .Compare l [o] [r] _ => decide (o = op) && notSet r && ck sc a l && ck sc b r
    | _ => false
  | .chain op op' a b c, e => match e with
    | .Compare l [o, o'] [r, q] _ => decide (o = op) && decide (o' = op') && notSet q && ck sc a l && ck sc b r && ck sc c q
    | _ => false
  | .not a, e => match e with
    | .UnaryOp .Not l _ => ck sc a l
    | _ => false
  | .and a r, e => match e with
    | .BoolOp .And (l :: q) _ => ck sc a l && cks sc r q
    | _ => false
  | .or a r, e => match e with
    | .BoolOp .Or (l :: q) _ => ck sc a l && cks sc r q
    | _ => false
  | .ite c a b, e => match e with
    | .IfExp t l r _ => ck sc c t && ck sc a l && ck sc b r
    | _ => false
  | .tup es, e => match e with
    | .Tuple l _ _ => l.all nsE && cks sc es l
    | _ => false
  | .lst m es, e => match e with
    | .List l _ => l.all nsE && cks sc es l
    | _ => false
  | .idx a b, e => match e with
    | .Subscript l r _ => plainIxC r && ck sc a l && ck sc b r
    | _ => false
  | .sli m a lo hi, e => match e with
    | .Subscript l (.Slice u v .none _) _ => ck sc a l && cko sc lo u && cko sc hi v
    | _ => false
  | .rev m a, e => match e with
    | .Subscript l (.Slice .none .none (some (.UnaryOp .USub (.Constant (.int 1) _ _) _)) _) _ => ck sc a l
    | _ => false
  | .fld f a, e => match e with
    | .Attribute l g _ => decide (g = f) && baseE l && ck sc a l
    | _ => false
  | .bn m f es, e => match e with
    | .Call (.Name x _) l [] _ => decide (x = f.nm) && bltC T sc x && l.all nsE && !l.isEmpty && cks sc es l
    | _ => false
  | .isi Ti a, e => match e with
    | .Call (.Name x _) [l, .Name y _] [] _ => decide (Ti ≠ .non) && decide (x = "isinstance") && bltC T sc x && decide (y = Ti.nm) && bltC T sc y && nsE l && ck sc a l
    | _ => false
  | .mt m f o es, e => match e with
    | .Call (.Attribute l x ap) q [] cp => decide (x = f.nm) && baseE l && (ap.endLine == cp.line) && q.all nsE && decide (q.length < 30) && ck sc o l && cks sc es q
    | _ => false
  | .call f arr es ks, e => match e with
    | .Call (.Name x _) l q _ => decide (x = f) && glb sc x && l.all nsE && cks sc es l && ckk sc ks q && (match kwN q with
      | some kn => T.shp.any fun q => decide (q.1 = f) && decide (q.2.1 = l.length) && decide (q.2.2.1 = kn) && arrEq q.2.2.2 arr
      | .none => false)
    | _ => false
  | .lc m src t own tst elt, e => match e with
    | .ListComp x [⟨tg, it, ifs, k⟩] sc2 _ => decide (k = 0) && blkC N sc sc2 own && decide (∀ j ∈ t.slots, j ∈ own.map (·.2)) && tgC N (relS sc2 sc) (fun y => sc2.names.lookup y == some .cell) t tg &&
        ckr sc src tg it && ckt (relS sc2 sc) tst ifs && ck (relS sc2 sc) elt x && notSet it
    | _ => false
  | .dct kvs, e => match e with
    | .Dict ks vs _ => decide (ks.length = vs.length) && decide (ks.length ≤ 15) && ckp sc kvs ks vs
    | _ => false
  | .make cn fn arr es, e => match e with
    | .Call (.Name x _) l [] _ => decide (x = cn) && glb sc x && l.all nsE && !l.isEmpty && cks sc es l && T.mks.any fun q => decide (q.1 = cn) && decide (q.2.1 = fn) && decide (q.2.2.1 = l.length) && arrEq q.2.2.2 arr
    | _ => false
  | .meth cn m fn arr o es, e => match e with
    | .Call (.Attribute l x ap) q [] cp => decide (x = m) && baseE l && (ap.endLine == cp.line) && q.all nsE && decide (q.length < 30) && !q.isEmpty && ck sc o l && cks sc es q &&
        T.mth.any fun t => decide (t.1 = cn) && decide (t.2.1 = m) && decide (t.2.2.1 = fn) && decide (t.2.2.2.1 = q.length) && arrEq t.2.2.2.2 arr
    | _ => false
  | .litems a, e => match e with
    | .Call (.Name x _) [.Call (.Attribute l y ap) [] [] cp] [] _ => decide (x = "list") && bltC T sc x && decide (y = "items") && baseE l && (ap.endLine == cp.line) && ck sc a l
    | _ => false
  | .lock _ a, e => plainTC e && ck sc a e
  | .sset m a, e => match e with
    | .Call (.Name x _) [.Call (.Name y _) [l] [] _] [] _ => decide (x = "sorted") && bltC T sc x && decide (y = "set") && bltC T sc y && nsE l && ck sc a l
    | _ => false
  | .lrg m a, e => match e with
    | .Call (.Name x _) [.Call (.Name y _) [l] [] _] [] _ => decide (x = "list") && bltC T sc x && decide (y = "range") && bltC T sc y && nsE l && ck sc a l
    | _ => false
  | .frz a, e => plainTC e && ck sc a e
  | .rsd g f arr is ks, e => match e with
    | .Call (.Name x _) [.Lambda ⟨[], [], .none, [], [], .none, []⟩ (.Call (.Name y _) l q _) scope _] [] _ => decide (x = g) && glb sc x && decide (g ∈ T.cats) && T.lam && LamX.lamSB sc scope && decide (y = f) && glb scope y && l.all nsE && varsC N scope is l && varsK N scope ks q &&
        (match kwN q with
        | some kn => T.shp.any fun q => decide (q.1 = f) && decide (q.2.1 = l.length) && decide (q.2.2.1 = kn) && arrEq q.2.2.2 arr
        | .none => false)
    | _ => false
def cks (sc : Scope) : Exs → List Expr → Bool
  | .nil, es => es.isEmpty
  | .cons a r, es => match es with
    | e :: es => ck sc a e && cks sc r es
    | [] => false
def cko (sc : Scope) : Exo → Option Expr → Bool
  | .no, o => o.isNone
  | .so a, o => match o with
    | some e => ck sc a e
    | .none => false
def ckt (sc : Scope) : Exo → List Expr → Bool
  | .no, o => o.isEmpty
  | .so a, o => match o with
    | [e] => ck sc a e
    | _ => false
def ckk (sc : Scope) : Exs → List Keyword → Bool
  | .nil, es => es.isEmpty
  | .cons a r, es => match es with
    | ⟨_, e, _⟩ :: es => ck sc a e && ckk sc r es
    | [] => false
def ckp (sc : Scope) : Exp → List (Option Expr) → List Expr → Bool
  | .nil, ks, vs => ks.isEmpty && vs.isEmpty
  | .cons k v r, ks, vs => match ks, vs with
    | some x :: ks, y :: vs => ck sc k x && ck sc v y && ckp sc r ks vs
    | _, _ => false
def ckr (sc : Scope) : Sr → Expr → Expr → Bool
  | .seq a, _, e => ck sc a e
  | .r1 a, _, e => match e with
    | .Call (.Name x _) [l] [] _ => decide (x = "range") && bltC T sc x && nsE l && ck sc a l
    | _ => false
  | .r2 a b, _, e => match e with
    | .Call (.Name x _) [l, r] [] _ => decide (x = "range") && bltC T sc x && nsE l && nsE r && ck sc a l && ck sc b r
    | _ => false
  | .r3 a b c, _, e => match e with
    | .Call (.Name x _) [l, r, q] [] _ => decide (x = "range") && bltC T sc x && nsE l && nsE r && nsE q && ck sc a l && ck sc b r && ck sc c q
    | _ => false
  | .zip a b, tg, e => match e with
    | .Call (.Name x _) [l, r] [] _ => decide (x = "zip") && isTup tg && bltC T sc x && nsE l && nsE r && ck sc a l && ck sc b r
    | _ => false
  | .enum a, tg, e => match e with
    | .Call (.Name x _) [l] [] _ => decide (x = "enumerate") && isTup tg && bltC T sc x && nsE l && ck sc a l
    | _ => false
  | .items a, tg, e => match e with
    | .Call (.Attribute l x ap) [] [] cp => decide (x = "items") && isTup tg && baseE l && (ap.endLine == cp.line) && ck sc a l
    | _ => false
end
end
end Dl

set_option linter.all false
set_option maxRecDepth 100000
set_option maxHeartbeats 8000000
/-! Dl20: a tree that is a text's computes what the text computes: expressions. -/
namespace Dl
open PySem PySem.Spec PyProof.Rows L2
/-- what a call of a def of the text needs -/
structure CallOk (X : Cx) (fd : FdT) (CX : CXT) (k : Nat) (G : Fns) (q : Str × Nat × List Str × Arr) : Prop where
  ex : ∃ (f : Addr) (fdt : FuncData) (ps : List Str), FnG X.prog X.w X.K X.mg X.base CX k f fdt ps (spD (nm X fd) ps.length (G q.1)) ∧ X.mg q.1 = some (.ref f) ∧ PySem.W.keepIn X.K (.ref f) = true ∧ BndOk X.K X.mg fd fdt ps q.2.1 q.2.2.1 q.2.2.2
structure MkOk (X : Cx) (fd : FdT) (CX : CXT) (k : Nat) (G : Fns) (q : Str × Str × Nat × Arr) : Prop where
  ex : ∃ (C f : Addr) (fdt : FuncData) (ps : List Str), FnG X.prog X.w X.K X.mg X.base CX k f fdt ps (spD (nm X fd) ps.length (G q.2.1)) ∧ X.mg q.1 = some (.ref C) ∧ Mk X.K C f ∧ Cls X.K C ∧ BndOk X.K X.mg fd fdt ps (q.2.2.1 + 1) [] q.2.2.2
structure MtOk (X : Cx) (fd : FdT) (CX : CXT) (k : Nat) (G : Fns) (q : Str × Str × Str × Nat × Arr) : Prop where
  ex : ∃ (C f : Addr) (fdt : FuncData) (ps : List Str), FnG X.prog X.w X.K X.mg X.base CX k f fdt ps (spD (nm X fd) ps.length (G q.2.2.1)) ∧ X.mg q.1 = some (.ref C) ∧ Cls X.K C ∧ Meth X.K C q.2.1 f ∧ BndOk X.K X.mg fd fdt ps (q.2.2.2.1 + 1) [] q.2.2.2.2
structure Cxt (T : Tab) (N : List Str) (fd : FdT) (CX : CXT) (k : Nat) (G : Fns) (X : Cx) (E : XK) : Prop where
  good : Good X
  room : Room (k + 2) X.A
  eN : X.N = N
  nd : N.Nodup
  blt : ∀ x ∈ T.blt, X.mg x = none
  cst : ∀ x d, T.cst.lookup x = some d → GlobC X fd x d
  fns : ∀ q ∈ T.shp, CallOk X fd CX k G q
  mks : ∀ q ∈ T.mks, MkOk X fd CX k G q
  mth : ∀ q ∈ T.mth, MtOk X fd CX k G q
  exs : ∀ c ∈ T.exs, ExOk X fd CX k c
  cat : ∀ g ∈ T.cats, CatOk X.prog X.w X.K X.mg X.base fd G g
  lam : T.lam = true → LamOk X fd ∧ CX = L2.CX X.prog X.w ∧ 1 ≤ k
  pas : Passes CX X E
  pas0 : ∀ l H s e s', CX l H s E0 e s' → False
section
variable {T : Tab} {N : List Str} {fd : FdT} {CX : CXT} {k : Nat} {G : Fns} {X : Cx} {E : XK} {sc : Scope}
theorem Cxt.blk (C : Cxt T N fd CX k G X E) (s : Shared) (H : Hp) (scope : Scope) (cenv : Env) (fp : List Addr) (e1 : cenv.code = X.env.code) (e2 : cenv.qual = X.env.qual) : Cxt T N fd CX k G (X.blk s H scope cenv fp) E0 :=
  ⟨⟨C.good.calm, C.good.gd, C.good.un, C.good.sys⟩, C.room, C.eN, C.nd, C.blt, C.cst, fun q hq => ⟨(C.fns q hq).ex⟩, fun q hq => ⟨(C.mks q hq).ex⟩, fun q hq => ⟨(C.mth q hq).ex⟩, fun c hc => ⟨(C.exs c hc).ex⟩, C.cat, fun z => ⟨⟨by
    obtain ⟨c, P, h1, h2, h3⟩ := (C.lam z).1.ex
    have e2' : (X.blk s H scope cenv fp).env.qual = X.env.qual := e2
    refine ⟨c, P, h1, (show cenv.code = _ from e1.trans h2), ?_⟩
    rw [e2']
    exact h3⟩, (C.lam z).2⟩, fun pins σ H s e s' I h => C.pas0 _ _ _ _ _ h, C.pas0⟩
theorem Cxt.room1 (C : Cxt T N fd CX k G X E) : Room (k + 1) X.A := C.room.mono (Nat.le_succ _)
theorem Cxt.hu (C : Cxt T N fd CX k G X E) : X.A.units + 65 < cLine := by have := C.good.un; omega
theorem Cxt.hu1 (C : Cxt T N fd CX k G X E) : X.A.units + 1 < cLine := by have := C.good.un; omega
theorem glb_ok {x : Str} (e : X.env.scope = sc) (h : glb sc x = true) : Gl X x ∧ (x == ("__debug__" : Str)) = false := by
  unfold glb at h
  simp only [Bool.and_eq_true, Bool.not_eq_true', decide_eq_true_eq] at h
  exact ⟨by show X.env.scope.names.lookup x = _; rw [e]; exact h.1, h.2⟩
theorem blt_ok (C : Cxt T N fd CX k G X E) {x : Str} (e : X.env.scope = sc) (h : bltC T sc x = true) : Gl X x ∧ X.mg x = none := by
  unfold bltC at h
  simp only [Bool.and_eq_true, decide_eq_true_eq] at h
  exact ⟨by show X.env.scope.names.lookup x = _; rw [e]; exact h.1, C.blt x h.2⟩
theorem vis_ok {x : Str} (e : X.env.scope = sc) (h : visC sc x = true) : Vis X.env.scope x ∧ (x == ("__debug__" : Str)) = false ∧ (x == ("__classdict__" : Str)) = false := by
  unfold visC at h
  simp only [Bool.and_eq_true, Bool.not_eq_true', Bool.or_eq_true, decide_eq_true_eq] at h
  refine ⟨?_, h.1.2, h.2⟩
  rw [e]
  rcases h.1.1 with (z | z) | z
  · exact .inl z
  · exact .inr (.inl z)
  · exact .inr (.inr z)
theorem vis_ok0 {x : Str} (h : visC sc x = true) : Vis sc x ∧ (x == ("__debug__" : Str)) = false ∧ (x == ("__classdict__" : Str)) = false := by
  unfold visC at h
  simp only [Bool.and_eq_true, Bool.not_eq_true', Bool.or_eq_true, decide_eq_true_eq] at h
  refine ⟨?_, h.1.2, h.2⟩
  rcases h.1.1 with (z | z) | z
  · exact .inl z
  · exact .inr (.inl z)
  · exact .inr (.inr z)
theorem nm_mark {op : CmpOp} {b : Expr} (h : notSet b = true) : behindInMarks op b = false := by
  cases b <;> first | rfl | cases h
theorem no_fold {it : Expr} {env : Env} (h : notSet it = true) (x : Value) : foldedSetIterable it env x = pure x := by
  cases it <;> first | rfl | cases h
theorem ix_plain {b : Expr} (h : plainIxC b = true) : PlainIx b := by
  intro o i
  cases b <;> first | rfl | cases h
/-- a context with other names -/
abbrev _root_.L2.Cx.withSc (X : Cx) (sc : Scope) : Cx := { X with env := { X.env with scope := sc } }
theorem vars_ok {is : List Nat} (eN : X.N = N) (e : X.env.scope = sc) : ∀ {l : List Expr}, l.all nsE = true → varsC N sc is l = true → PA X l (dA (nm X fd) E (fVars is)) ∧ l.length = is.length := by
  induction is with
  | nil =>
    intro l _ h
    unfold varsC at h
    cases l with
    | nil => exact ⟨da_nil, rfl⟩
    | cons _ _ => cases h
  | cons i is ih =>
    intro l hn h
    unfold varsC at h
    cases l with
    | nil => cases h
    | cons y l =>
      simp only [List.all_cons, Bool.and_eq_true] at hn h
      obtain ⟨h1, h2⟩ := ih hn.2 h.2
      have h3 := h.1
      unfold varC at h3
      split at h3
      · rw [Bool.and_eq_true, decide_eq_true_eq] at h3
        obtain ⟨g1, g2, g3⟩ := vis_ok e h3.2
        exact ⟨da_cons (dv_var (by rw [eN]; exact h3.1) g1 g2 g3) h1 hn.1, congrArg Nat.succ h2⟩
      · cases h3
theorem varsk_ok {is : List Nat} (eN : X.N = N) (e : X.env.scope = sc) : ∀ {l : List Keyword}, varsK N sc is l = true → PK X l (dA (nm X fd) E (fVars is)) ∧ l.length = is.length := by
  induction is with
  | nil =>
    intro l h
    unfold varsK at h
    cases l with
    | nil => exact ⟨dk_nil, rfl⟩
    | cons _ _ => cases h
  | cons i is ih =>
    intro l h
    unfold varsK at h
    cases l with
    | nil => cases h
    | cons y l =>
      obtain ⟨x, y, p⟩ := y
      simp only [Bool.and_eq_true] at h
      obtain ⟨h1, h2⟩ := ih h.2
      have h3 := h.1
      unfold varC at h3
      split at h3
      · rw [Bool.and_eq_true, decide_eq_true_eq] at h3
        obtain ⟨g1, g2, g3⟩ := vis_ok e h3.2
        exact ⟨dk_cons (dv_var (by rw [eN]; exact h3.1) g1 g2 g3) h1, congrArg Nat.succ h2⟩
      · cases h3
/-! ### targets of blocks -/
theorem asg_len {env : Env} : ∀ {es : List Expr}, (assignEach es env).length = es.length
  | [] => rfl
  | e :: es => by cases e <;> exact congrArg Nat.succ (asg_len (es := es))
theorem asg_ns {env : Env} : ∀ {es : List Expr}, es.all nsE = true → (assignEach es env).findIdx? (·.1) = none
  | [], _ => rfl
  | e :: es, h => by
    simp only [List.all_cons, Bool.and_eq_true] at h
    have ih := asg_ns (env := env) h.2
    have e1 : assignEach (e :: es) env = (false, assign e env) :: assignEach es env := by cases e <;> first | rfl | cases h.1
    rw [e1, List.findIdx?_cons, ih]
    rfl
theorem asg_cons {env : Env} {e : Expr} {es : List Expr} (h : nsE e = true) : (assignEach (e :: es) env).map (·.2) = assign e env :: (assignEach es env).map (·.2) := by cases e <;> first | rfl | cases h
theorem store_ok' {fnc : Str → Bool} {i : Nat} {x : Str} (eN : X.N = N) (e : X.env.scope = sc) (hf : ∀ y, fnc y = true → X.fn y = true) (h : storeC N sc fnc i x = true) :
    X.N[i]? = some x ∧ Loc X.env.scope x ∧ (X.fn x = true ∨ X.env.scope.names.lookup x = some .local) := by
  unfold storeC at h
  simp only [Bool.and_eq_true, Bool.or_eq_true, decide_eq_true_eq] at h
  refine ⟨by rw [eN]; exact h.1, ?_, ?_⟩
  · rw [e]
    rcases h.2 with z | z
    · exact .inl z
    · exact .inr z.1
  · rw [e]
    rcases h.2 with z | z
    · exact .inr z
    · exact .inl (hf x z.2)
theorem tgs_len {fnc : Str → Bool} : ∀ {ts : Tgs} {es : List Expr}, tgsC N sc fnc ts es = true → es.length = ts.len
  | .nil, es, h => by unfold tgsC at h; cases es <;> first | rfl | cases h
  | .cons t ts, es, h => by
    unfold tgsC at h
    split at h
    · rw [Bool.and_eq_true] at h
      exact congrArg Nat.succ (tgs_len h.2)
    · cases h
mutual
theorem pg_tg {fnc : Str → Bool} (nd : N.Nodup) (eN : X.N = N) (hc : X.calm = true) (e : X.env.scope = sc) (hf : ∀ y, fnc y = true → X.fn y = true) : ∀ {t : Tg} {tg : Expr}, tgC N sc fnc t tg = true → PG X tg (gT X.K t)
  | .nm i, tg, h => by
    unfold tgC at h
    split at h
    · obtain ⟨h1, h2, h3⟩ := store_ok' eN e hf h
      exact pg_name (by rw [eN]; exact nd) h1 h2 h3
    · cases h
  | .tp ts, tg, h => by
    unfold tgC at h
    split at h
    · rw [Bool.and_eq_true] at h
      exact pg_tup hc (pgs_tg nd eN hc e hf h.1 h.2) (by rw [asg_len]; exact tgs_len h.2) (asg_ns h.1)
    · cases h
theorem pgs_tg {fnc : Str → Bool} (nd : N.Nodup) (eN : X.N = N) (hc : X.calm = true) (e : X.env.scope = sc) (hf : ∀ y, fnc y = true → X.fn y = true) : ∀ {ts : Tgs} {es : List Expr}, es.all nsE = true → tgsC N sc fnc ts es = true → PGs X es (gTs X.K ts)
  | .nil, es, hn, h => by
    unfold tgsC at h
    cases es with
    | nil => exact pgs_nil
    | cons _ _ => cases h
  | .cons t ts, es, hn, h => by
    unfold tgsC at h
    split at h
    · rw [Bool.and_eq_true] at h
      simp only [List.all_cons, Bool.and_eq_true] at hn
      exact pgs_cons (pg_tg nd eN hc e hf h.1) (pgs_tg nd eN hc e hf hn.2 h.2) (asg_cons hn.1)
    · cases h
end
/-! ### single rules that lacked -/
theorem pe_bool1 {op : BoolOp} {l : Expr} {pos : Pos} {t : TE} (h : PE X l t) : PE X (.BoolOp op [l] pos) t := ⟨fun pins s σ H Q I q => by
  have := h.run pins s σ H Q I q
  exact this⟩
theorem dt_none {e : Expr} {F : Slots → Sto → Res Bool} (h : ∀ ρ S, F ρ S = .st) : PT X e (dT (nm X fd) E F) := ⟨fun pins s σ H Q I ⟨ρ, S, α, r, ok, q⟩ => by rw [h] at q; exact q.elim⟩
theorem dv_none {e : Expr} {F : Slots → Sto → Res D} (h : ∀ ρ S, F ρ S = .st) : PE X e (dE (nm X fd) E F) := ⟨fun pins s σ H Q I ⟨ρ, S, α, r, ok, q⟩ => by rw [h] at q; exact q.elim⟩
theorem dt_ite {c a b : Expr} {pos : Pos} {Tc Ta Tb : Slots → Sto → Res Bool} (hc : PT X c (dT (nm X fd) E Tc)) (ha : PT X a (dT (nm X fd) E Ta)) (hb : PT X b (dT (nm X fd) E Tb)) : PT X (.IfExp c a b pos) (dT (nm X fd) E (gIf Tc Ta Tb)) := by
  refine ⟨fun pins s σ H Q I ⟨ρ, S, α, r, ok, h⟩ => ?_⟩
  have rd : dT (nm X fd) E Tc σ H fun k H1 => (k = true → dT (nm X fd) E Ta σ H1 Q) ∧ (k = false → dT (nm X fd) E Tb σ H1 Q) := by
    refine ⟨ρ, S, α, r, ok, ?_⟩
    simp only [gIf] at h
    cases q : Tc ρ S with
    | ex c e' S' => rw [q] at h; exact h
    | st => rw [q] at h; exact h
    | ok k S1 =>
      rw [q] at h
      intro H1 α1 st ok1
      have h := dResT.shift ok st h
      cases k with
      | true => exact ⟨fun _ => ⟨ρ, S1, α1, r.step ok st, ok1, h⟩, fun z => nomatch z⟩
      | false => exact ⟨(fun z => nomatch z), fun _ => ⟨ρ, S1, α1, r.step ok st, ok1, h⟩⟩
  show wpAny _ _ (do if ← isTrue c X.env (eval c X.env) then isTrue a X.env (eval a X.env) else isTrue b X.env (eval b X.env)) _ _ s
  refine wpAny_bind (thn (hc.run pins s σ H _ I rd) fun k s1 ⟨H1, I1, q1, q2⟩ => ?_)
  cases k with
  | true => exact ha.run pins s1 σ H1 Q I1 (q1 rfl)
  | false => exact hb.run pins s1 σ H1 Q I1 (q2 rfl)
theorem plain_t {e : Expr} (h : plainTC e = true) : PlainT X e := by
  intro whole
  cases e <;> first | rfl | cases h | skip
  rename_i op _ _
  cases op <;> first | rfl | cases h
theorem both {e : Expr} {F : Slots → Sto → Res D} (h : PE X e (dE (nm X fd) E F)) (hp : plainTC e = true) : PE X e (dE (nm X fd) E (Rd.of F).v) ∧ PT X e (dT (nm X fd) E (Rd.of F).t) := ⟨h, dt_val h (plain_t hp)⟩
end
end Dl

set_option linter.all false
set_option maxRecDepth 100000
set_option maxHeartbeats 16000000
/-! Dl21: a tree that is a text's computes what the text computes: the expressions' theorem. -/
namespace Dl
open PySem PySem.Spec PyProof.Rows L2
section
variable {T : Tab} {N : List Str}
theorem cks_len {sc : Scope} : ∀ {r : Exs} {es : List Expr}, cks T N sc r es = true → es.length = r.len
  | .nil, es, h => by unfold cks at h; cases es <;> first | rfl | cases h
  | .cons a r, es, h => by
    unfold cks at h
    split at h
    · rw [Bool.and_eq_true] at h
      exact congrArg Nat.succ (cks_len h.2)
    · cases h
theorem ckk_len {sc : Scope} : ∀ {r : Exs} {es : List Keyword}, ckk T N sc r es = true → es.length = r.len
  | .nil, es, h => by unfold ckk at h; cases es <;> first | rfl | cases h
  | .cons a r, es, h => by
    unfold ckk at h
    split at h
    · rw [Bool.and_eq_true] at h
      exact congrArg Nat.succ (ckk_len h.2)
    · cases h
theorem kwN_len : ∀ {q : List Keyword} {kn : List Str}, kwN q = some kn → q.length = kn.length
  | [], kn, h => by cases h; rfl
  | ⟨some x, _, _⟩ :: q, kn, h => by
    simp only [kwN, Option.map_eq_some_iff] at h
    obtain ⟨l, e, rfl⟩ := h
    exact congrArg Nat.succ (kwN_len e)
  | ⟨none, _, _⟩ :: q, kn, h => by cases h
theorem ckp_some {sc : Scope} : ∀ {r : Exp} {ks : List (Option Expr)} {vs : List Expr}, ckp T N sc r ks vs = true → ks.all (·.isSome) = true
  | .nil, ks, vs, h => by
    unfold ckp at h
    rw [Bool.and_eq_true] at h
    cases ks with
    | nil => rfl
    | cons _ _ => cases h.1
  | .cons a b r, ks, vs, h => by
    unfold ckp at h
    split at h
    · simp only [Bool.and_eq_true] at h
      show (true && _) = true
      exact ckp_some h.2
    · cases h
end
abbrev Says (fd : FdT) (E : XK) (X : Cx) (e : Expr) (r : Rd) : Prop := PE X e (dE (nm X fd) E r.v) ∧ PT X e (dT (nm X fd) E r.t)
section
variable {T : Tab} {N : List Str} {fd : FdT} {CX : CXT} {k : Nat} {G : Fns}
mutual
theorem ok_e : ∀ (a : Ex) {X : Cx} {E : XK} {sc : Scope} {e : Expr}, Cxt T N fd CX k G X E → X.env.scope = sc → ck T N sc a e = true → Says fd E X e (ev G a)
  | .none, X, E, sc, e, C, es, h => ⟨dv_none fun _ _ => rfl, dt_none fun _ _ => rfl⟩
  | .var i, X, E, sc, e, C, es, h => by
    unfold ck at h
    split at h
    · rw [Bool.and_eq_true, decide_eq_true_eq] at h
      obtain ⟨h1, h2, h3⟩ := vis_ok es h.2
      exact both (dv_var (by rw [C.eN]; exact h.1) h1 h2 h3) rfl
    · cases h
  | .c d, X, E, sc, e, C, es, h => by
    unfold ck at h
    split at h
    · unfold constC at h
      split at h
      · rw [← of_decide_eq_true h]; exact both (dv_c pe_int fun H => .int _) rfl
      · rw [← of_decide_eq_true h]; exact both (dv_c pe_bl fun H => .bl _) rfl
      · rw [← of_decide_eq_true h]; exact both (dv_c pe_str fun H => .str _) rfl
      · exact both (dv_c pe_non fun H => .non) rfl
      · cases h
    · cases h
  | .glob d, X, E, sc, e, C, es, h => by
    unfold ck at h
    split at h
    · rename_i x _
      rw [Bool.and_eq_true] at h
      obtain ⟨h1, h2⟩ := glb_ok es h.1
      have h3 := h.2
      split at h3
      · rename_i d' q
        rw [pdEq_ok h3]
        exact both (dv_glob h1 (C.cst _ _ q) h2) rfl
      · cases h3
    · cases h
  | .bin op m a b, X, E, sc, e, C, es, h => by
    unfold ck at h
    split at h
    · simp only [Bool.and_eq_true, decide_eq_true_eq] at h
      obtain ⟨⟨rfl, h1⟩, h2⟩ := h
      exact both (dv_bin C.good.sys (ok_e a C es h1).1 (ok_e b C es h2).1) rfl
    · cases h
  | .neg a, X, E, sc, e, C, es, h => by
    unfold ck at h
    split at h
    · exact both (dv_neg (ok_e a C es h).1) rfl
    · cases h
  | .cmp op a b, X, E, sc, e, C, es, h => by
    unfold ck at h
    split at h
    · simp only [Bool.and_eq_true, decide_eq_true_eq] at h
      obtain ⟨⟨⟨rfl, h0⟩, h1⟩, h2⟩ := h
      have ha := (ok_e a C es h1).1
      have hb := (ok_e b C es h2).1
      exact ⟨dv_cmp C.hu ha hb (nm_mark h0), dt_cmp C.hu ha hb (nm_mark h0)⟩
    · cases h
  | .chain op op' a b c, X, E, sc, e, C, es, h => by
    unfold ck at h
    split at h
    · simp only [Bool.and_eq_true, decide_eq_true_eq] at h
      obtain ⟨⟨⟨⟨⟨rfl, rfl⟩, h0⟩, h1⟩, h2⟩, h3⟩ := h
      have ha := (ok_e a C es h1).1
      have hb := (ok_e b C es h2).1
      have hc := (ok_e c C es h3).1
      exact ⟨dv_chain C.hu ha hb hc (nm_mark h0), dt_chain C.hu ha hb hc (nm_mark h0)⟩
    · cases h
  | .not a, X, E, sc, e, C, es, h => by
    unfold ck at h
    split at h
    · obtain ⟨h1, h2⟩ := ok_e a C es h
      exact ⟨dv_not h1, dt_not h2⟩
    · cases h
  | .and a r, X, E, sc, e, C, es, h => by
    unfold ck at h
    split at h
    · rw [Bool.and_eq_true] at h
      obtain ⟨h1, h2⟩ := ok_and r (ok_e a C es h.1) C es h.2
      exact ⟨h1, h2.pt⟩
    · cases h
  | .or a r, X, E, sc, e, C, es, h => by
    unfold ck at h
    split at h
    · rw [Bool.and_eq_true] at h
      obtain ⟨h1, h2⟩ := ok_or r (ok_e a C es h.1) C es h.2
      exact ⟨h1, h2.pt⟩
    · cases h
  | .ite c a b, X, E, sc, e, C, es, h => by
    unfold ck at h
    split at h
    · simp only [Bool.and_eq_true] at h
      obtain ⟨⟨h0, h1⟩, h2⟩ := h
      have hc := ok_e c C es h0
      have ha := ok_e a C es h1
      have hb := ok_e b C es h2
      exact ⟨dv_if hc.2 ha.1 hb.1, dt_ite hc.2 ha.2 hb.2⟩
    · cases h
  | .tup es', X, E, sc, e, C, es, h => by
    unfold ck at h
    split at h
    · rw [Bool.and_eq_true] at h
      exact both (dv_tup (ok_s es' C es h.1 h.2)) rfl
    · cases h
  | .lst m es', X, E, sc, e, C, es, h => by
    unfold ck at h
    split at h
    · rw [Bool.and_eq_true] at h
      exact both (dv_lst C.good.sys (ok_s es' C es h.1 h.2)) rfl
    · cases h
  | .idx a b, X, E, sc, e, C, es, h => by
    unfold ck at h
    split at h
    · simp only [Bool.and_eq_true] at h
      exact both (dv_idx C.hu1 (ok_e a C es h.1.2).1 (ok_e b C es h.2).1 (ix_plain h.1.1)) rfl
    · cases h
  | .sli m a lo hi, X, E, sc, e, C, es, h => by
    unfold ck at h
    split at h
    · simp only [Bool.and_eq_true] at h
      exact both (dv_sli C.good.sys (ok_e a C es h.1.1).1 (ok_o lo C es h.1.2) (ok_o hi C es h.2)) rfl
    · cases h
  | .rev m a, X, E, sc, e, C, es, h => by
    unfold ck at h
    split at h
    · exact both (dv_rev C.good.sys (ok_e a C es h).1) rfl
    · cases h
  | .fld f a, X, E, sc, e, C, es, h => by
    unfold ck at h
    split at h
    · simp only [Bool.and_eq_true, decide_eq_true_eq] at h
      obtain ⟨⟨rfl, h1⟩, h2⟩ := h
      exact both (dv_fld (ok_e a C es h2).1 h1) rfl
    · cases h
  | .bn m f es', X, E, sc, e, C, es, h => by
    unfold ck at h
    split at h
    · simp only [Bool.and_eq_true, decide_eq_true_eq] at h
      obtain ⟨⟨⟨⟨h1, h2⟩, h3⟩, h4⟩, h5⟩ := h
      obtain ⟨g1, g2⟩ := blt_ok C es h2
      rename_i x _ l _
      cases l with
      | nil => cases h4
      | cons x l => exact both (dv_bn C.good f h1 g1 g2 (ok_s es' C es h3 h5) h3) rfl
    · cases h
  | .isi Ti a, X, E, sc, e, C, es, h => by
    unfold ck at h
    split at h
    · simp only [Bool.and_eq_true, decide_eq_true_eq] at h
      obtain ⟨⟨⟨⟨⟨⟨h0, h1⟩, h2⟩, h3⟩, h4⟩, h5⟩, h6⟩ := h
      obtain ⟨g1, g2⟩ := blt_ok C es h2
      obtain ⟨g3, g4⟩ := blt_ok C es h4
      exact both (dv_isi h0 h1 h3 g1 g2 g3 g4 (ok_e a C es h6).1 h5) rfl
    · cases h
  | .mt m f o es', X, E, sc, e, C, es, h => by
    unfold ck at h
    split at h
    · simp only [Bool.and_eq_true, decide_eq_true_eq] at h
      obtain ⟨⟨⟨⟨⟨⟨h0, h1⟩, h2⟩, h3⟩, h4⟩, h5⟩, h6⟩ := h
      have ho := (ok_e o C es h5).1
      rename_i l x ap q cp
      cases q with
      | nil =>
        cases es' with
        | nil => exact both (dv_mt0 C.good f h0 ho h1 h2) rfl
        | cons _ _ => unfold cks at h6; cases h6
      | cons y q => exact both (dv_mt C.good f h0 ho (ok_s es' C es h3 h6) h1 h3 h4 h2) rfl
    · cases h
  | .call f arr es' ks, X, E, sc, e, C, es, h => by
    unfold ck at h
    split at h
    · simp only [Bool.and_eq_true, decide_eq_true_eq] at h
      obtain ⟨⟨⟨⟨⟨h0, h1⟩, h2⟩, h3⟩, h4⟩, h5⟩ := h
      subst h0
      split at h5
      · rename_i kn hk
        rw [List.any_eq_true] at h5
        obtain ⟨q, hq, h5⟩ := h5
        simp only [Bool.and_eq_true, decide_eq_true_eq] at h5
        obtain ⟨⟨⟨e1, e2⟩, e3⟩, e4⟩ := h5
        have e4 := arrEq_ok e4
        obtain ⟨g1, g2⟩ := glb_ok es h1
        obtain ⟨fa, fdt, ps, F, m1, m2, m3⟩ := (C.fns q hq).ex
        rw [e1] at F m1
        rw [e2, e3, e4] at m3
        have l1 := cks_len h3
        have l2 := ckk_len h4
        have l3 := kwN_len hk
        have hG : ev G (.call q.1 arr es' ks) = Rd.of (fCall (G q.1) es'.len ks.len arr (evs G es') (evs G ks)) := by unfold ev; rfl
        rw [← e1, hG, ← l1, ← l2, l3, e1]
        refine both (dv_call F (C.room.mono (by omega)) C.good.gd g1 m1 m2 m3 C.pas g2 (ok_s es' C es h2 h3) (ok_k ks C es h4) h2 hk fun z => ?_) rfl
        subst z
        cases es' with
        | nil => rfl
        | cons _ _ => unfold cks at h3; cases h3
      · cases h5
    · cases h
  | .lc m src t own tst elt, X, E, sc, e, C, es, h => by
    unfold ck at h
    split at h
    · simp only [Bool.and_eq_true, decide_eq_true_eq] at h
      obtain ⟨⟨⟨⟨⟨⟨⟨h0, h1⟩, h2⟩, h3⟩, h4⟩, h5⟩, h6⟩, h7⟩ := h
      subst h0
      subst es
      rename_i x tg it ifs sc2 p
      refine both (dv_lc (m := m) C.good.sys C.good.calm (by rw [C.eN]; exact C.nd) (ok_r src tg C rfl h4) (by rw [C.eN]; exact blkOk_by h1) h2 ?_ ?_ ?_ (no_fold h7)) rfl
      · exact fun s H c cl fp => pg_tg (X := X.blk s H sc2 (compEnvC sc2 cl c X.env) fp) C.nd C.eN C.good.calm rfl (fun y z => z) h3
      · exact fun s H c cl fp => ok_t tst (C.blk s H sc2 (compEnvC sc2 cl c X.env) fp rfl rfl) rfl h5
      · exact fun s H c cl fp => (ok_e elt (C.blk s H sc2 (compEnvC sc2 cl c X.env) fp rfl rfl) rfl h6).1
    · cases h
  | .dct kvs, X, E, sc, e, C, es, h => by
    unfold ck at h
    split at h
    · simp only [Bool.and_eq_true, decide_eq_true_eq] at h
      obtain ⟨⟨h0, h1⟩, h2⟩ := h
      rename_i ks vs p
      cases kvs with
      | nil =>
        unfold ckp at h2
        rw [Bool.and_eq_true] at h2
        cases ks with
        | cons _ _ => cases h2.1
        | nil =>
          cases vs with
          | cons _ _ => cases h2.2
          | nil => exact both dv_dct0 rfl
      | cons a b r =>
        have hp := ok_p (.cons a b r) C es h2 p
        refine both (dv_dct (fs := ((ev G a).v, (ev G b).v) :: evp G r) hp (ckp_some h2) h0 (fun z => ?_) h1) rfl
        subst z
        unfold ckp at h2
        cases h2
    · cases h
  | .make cn fn arr es', X, E, sc, e, C, es, h => by
    unfold ck at h
    split at h
    · simp only [Bool.and_eq_true, decide_eq_true_eq] at h
      obtain ⟨⟨⟨⟨⟨h0, h1⟩, h2⟩, h3⟩, h4⟩, h5⟩ := h
      subst h0
      rename_i x p l pos
      rw [List.any_eq_true] at h5
      obtain ⟨q, hq, h5⟩ := h5
      simp only [Bool.and_eq_true, decide_eq_true_eq] at h5
      obtain ⟨⟨⟨e1, e2⟩, e3⟩, e4⟩ := h5
      have e4 := arrEq_ok e4
      obtain ⟨g1, g2⟩ := glb_ok es h1
      obtain ⟨Ca, fa, fdt, ps, F, m1, m2, m3, m4⟩ := (C.mks q hq).ex
      rw [e1] at m1
      rw [e2] at F
      rw [e3, e4] at m4
      have l1 := cks_len h4
      have hG : ev G (.make x fn arr es') = Rd.of (fMake x (G fn) es'.len arr (evs G es')) := by unfold ev; rfl
      rw [hG, ← l1]
      cases l with
      | nil => cases h3
      | cons y l => exact both (dv_make m2 m3 F C.room1 C.good.gd g1 m1 m4 C.pas g2 (ok_s es' C es h2 h4) h2) rfl
    · cases h
  | .meth cn m fn arr o es', X, E, sc, e, C, es, h => by
    unfold ck at h
    split at h
    · simp only [Bool.and_eq_true, decide_eq_true_eq] at h
      obtain ⟨⟨⟨⟨⟨⟨⟨⟨h0, h1⟩, h2⟩, h3⟩, h4⟩, h5⟩, h6⟩, h7⟩, h8⟩ := h
      subst h0
      rename_i l x ap q cp
      rw [List.any_eq_true] at h8
      obtain ⟨t, ht, h8⟩ := h8
      simp only [Bool.and_eq_true, decide_eq_true_eq] at h8
      obtain ⟨⟨⟨⟨e1, e2⟩, e3⟩, e4⟩, e5⟩ := h8
      have e5 := arrEq_ok e5
      obtain ⟨Ca, fa, fdt, ps, F, m1, m2, m3, m4⟩ := (C.mth t ht).ex
      rw [e1] at m1
      rw [e2] at m3
      rw [e3] at F
      rw [e4, e5] at m4
      have l1 := cks_len h7
      have hG : ev G (.meth cn x fn arr o es') = Rd.of (fMeth cn x (G fn) es'.len arr (ev G o).v (evs G es')) := by
        conv => lhs; unfold ev
      rw [hG, ← l1]
      cases q with
      | nil => cases h5
      | cons y q => exact both (dv_meth (ok_e o C es h6).1 m1 m2 m3 F (C.room.mono (by omega)) C.good.gd m4 C.pas (ok_s es' C es h3 h7) h3 h4 h1 h2) rfl
    · cases h
  | .litems a, X, E, sc, e, C, es, h => by
    unfold ck at h
    split at h
    · simp only [Bool.and_eq_true, decide_eq_true_eq] at h
      obtain ⟨⟨⟨⟨⟨rfl, h1⟩, rfl⟩, h3⟩, h4⟩, h5⟩ := h
      obtain ⟨g1, g2⟩ := blt_ok C es h1
      exact both (dv_litems C.good.calm (ok_e a C es h5).1 g1 g2 (base_of h3) h4) rfl
    · cases h
  | .lock g a, X, E, sc, e, C, es, h => by
    unfold ck at h
    rw [Bool.and_eq_true] at h
    exact both (dv_lock (ok_e a C es h.2).1) h.1
  | .sset m a, X, E, sc, e, C, es, h => by
    unfold ck at h
    split at h
    · simp only [Bool.and_eq_true, decide_eq_true_eq] at h
      obtain ⟨⟨⟨⟨⟨rfl, h1⟩, rfl⟩, h3⟩, h4⟩, h5⟩ := h
      obtain ⟨g1, g2⟩ := blt_ok C es h1
      obtain ⟨g3, g4⟩ := blt_ok C es h3
      exact both (dv_sset C.good g1 g2 g3 g4 (ok_e a C es h5).1 h4) rfl
    · cases h
  | .lrg m a, X, E, sc, e, C, es, h => by
    unfold ck at h
    split at h
    · simp only [Bool.and_eq_true, decide_eq_true_eq] at h
      obtain ⟨⟨⟨⟨⟨rfl, h1⟩, rfl⟩, h3⟩, h4⟩, h5⟩ := h
      obtain ⟨g1, g2⟩ := blt_ok C es h1
      obtain ⟨g3, g4⟩ := blt_ok C es h3
      exact both (dv_lrg C.good g1 g2 g3 g4 (ok_e a C es h5).1 h4) rfl
    · cases h
  | .frz a, X, E, sc, e, C, es, h => by
    unfold ck at h
    rw [Bool.and_eq_true] at h
    exact both (dv_frz C.good (ok_e a C es h.2).1) h.1
  | .rsd g f arr is ks, X, E, sc, e, C, es, h => by
    unfold ck at h
    split at h
    · rename_i x px y py l q p0 scope p1 p2
      simp only [Bool.and_eq_true, decide_eq_true_eq] at h
      obtain ⟨⟨⟨⟨⟨⟨⟨⟨⟨⟨h0, h1⟩, h2⟩, h3⟩, h4⟩, h5⟩, h6⟩, h7⟩, h8⟩, h9⟩, h10⟩ := h
      subst h0 h5
      split at h10
      · rename_i kn hk
        rw [List.any_eq_true] at h10
        obtain ⟨q', hq, h10⟩ := h10
        simp only [Bool.and_eq_true, decide_eq_true_eq] at h10
        obtain ⟨⟨⟨e1, e2⟩, e3⟩, e4⟩ := h10
        have e4 := arrEq_ok e4
        obtain ⟨g1, g2⟩ := glb_ok es h1
        obtain ⟨fa, fdt, ps, F, m1, m2, m3⟩ := (C.fns q' hq).ex
        rw [e1] at F m1
        rw [e2, e3, e4] at m3
        obtain ⟨LO, eCX, hk1⟩ := C.lam h3
        subst eCX
        have h6' := h6
        unfold glb at h6'
        simp only [Bool.and_eq_true, Bool.not_eq_true', decide_eq_true_eq] at h6'
        have l1 := (vars_ok (X := X.withSc scope) (fd := fd) (E := E) C.eN rfl h7 h8).2
        have l2 := (varsk_ok (X := X.withSc scope) (fd := fd) (E := E) C.eN rfl h9).2
        have l3 := kwN_len hk
        have hG : ev G (.rsd x y arr is ks) = Rd.of (fRsd G x y is.length ks.length arr is ks) := by unfold ev; rfl
        rw [hG, ← l1, ← l2, l3]
        refine both (dv_rsd (C.cat _ h2) LO C.room hk1 C.good.gd C.good.sys g1 g2 (by subst es; exact LamX.lamS_by h4) F m1 m2 h6'.1 h6'.2 m3 (fun X' E' eN' es' => ⟨(vars_ok (eN'.trans C.eN) es' h7 h8).1, (varsk_ok (eN'.trans C.eN) es' h9).1⟩) h7 hk fun z => ?_) rfl
        subst z
        cases is with
        | nil => rfl
        | cons _ _ => cases l1
      · cases h10
    · cases h
theorem ok_and : ∀ (r : Exs) {a : Rd} {X : Cx} {E : XK} {sc : Scope} {e : Expr} {es : List Expr} {pos : Pos}, Says fd E X e a → Cxt T N fd CX k G X E → X.env.scope = sc → cks T N sc r es = true →
    PE X (.BoolOp .And (e :: es) pos) (dE (nm X fd) E (evAnd G a r).v) ∧ PW X (.BoolOp .And (e :: es) pos) (dT (nm X fd) E (evAnd G a r).t)
  | .nil, a, X, E, sc, e, es, pos, ha, C, se, h => by
    unfold cks at h
    cases es with
    | nil => exact ⟨pe_bool1 ha.1, pw_and1 ha.2⟩
    | cons _ _ => cases h
  | .cons b r, a, X, E, sc, e, es, pos, ha, C, se, h => by
    unfold cks at h
    split at h
    · rw [Bool.and_eq_true] at h
      obtain ⟨h1, h2⟩ := ok_and r (pos := pos) (ok_e b C se h.1) C se h.2
      exact ⟨dv_and ha.1 h1, dt_and ha.2 h2⟩
    · cases h
theorem ok_or : ∀ (r : Exs) {a : Rd} {X : Cx} {E : XK} {sc : Scope} {e : Expr} {es : List Expr} {pos : Pos}, Says fd E X e a → Cxt T N fd CX k G X E → X.env.scope = sc → cks T N sc r es = true →
    PE X (.BoolOp .Or (e :: es) pos) (dE (nm X fd) E (evOr G a r).v) ∧ PW X (.BoolOp .Or (e :: es) pos) (dT (nm X fd) E (evOr G a r).t)
  | .nil, a, X, E, sc, e, es, pos, ha, C, se, h => by
    unfold cks at h
    cases es with
    | nil => exact ⟨pe_bool1 ha.1, pw_or1 ha.2⟩
    | cons _ _ => cases h
  | .cons b r, a, X, E, sc, e, es, pos, ha, C, se, h => by
    unfold cks at h
    split at h
    · rw [Bool.and_eq_true] at h
      obtain ⟨h1, h2⟩ := ok_or r (pos := pos) (ok_e b C se h.1) C se h.2
      exact ⟨dv_or ha.1 h1, dt_or ha.2 h2⟩
    · cases h
theorem ok_s : ∀ (r : Exs) {X : Cx} {E : XK} {sc : Scope} {es : List Expr}, Cxt T N fd CX k G X E → X.env.scope = sc → es.all nsE = true → cks T N sc r es = true → PA X es (dA (nm X fd) E (evs G r))
  | .nil, X, E, sc, es, C, se, hn, h => by
    unfold cks at h
    cases es with
    | nil => exact da_nil
    | cons _ _ => cases h
  | .cons a r, X, E, sc, es, C, se, hn, h => by
    unfold cks at h
    split at h
    · rw [Bool.and_eq_true] at h
      simp only [List.all_cons, Bool.and_eq_true] at hn
      exact da_cons (ok_e a C se h.1).1 (ok_s r C se hn.2 h.2) hn.1
    · cases h
theorem ok_o : ∀ (r : Exo) {X : Cx} {E : XK} {sc : Scope} {o : Option Expr}, Cxt T N fd CX k G X E → X.env.scope = sc → cko T N sc r o = true → PO X o (dO (nm X fd) E (part (evo G r)))
  | .no, X, E, sc, o, C, se, h => by
    unfold cko at h
    cases o with
    | none => exact do_none
    | some _ => cases h
  | .so a, X, E, sc, o, C, se, h => by
    unfold cko at h
    split at h
    · exact do_some (ok_e a C se h).1
    · cases h
theorem ok_t : ∀ (r : Exo) {X : Cx} {E : XK} {sc : Scope} {o : List Expr}, Cxt T N fd CX k G X E → X.env.scope = sc → ckt T N sc r o = true → PTs X o (dT (nm X fd) E (evt G r))
  | .no, X, E, sc, o, C, se, h => by
    unfold ckt at h
    cases o with
    | nil => exact dts_nil
    | cons _ _ => cases h
  | .so a, X, E, sc, o, C, se, h => by
    unfold ckt at h
    split at h
    · exact dts_one (ok_e a C se h).2
    · cases h
theorem ok_k : ∀ (r : Exs) {X : Cx} {E : XK} {sc : Scope} {es : List Keyword}, Cxt T N fd CX k G X E → X.env.scope = sc → ckk T N sc r es = true → PK X es (dA (nm X fd) E (evs G r))
  | .nil, X, E, sc, es, C, se, h => by
    unfold ckk at h
    cases es with
    | nil => exact dk_nil
    | cons _ _ => cases h
  | .cons a r, X, E, sc, es, C, se, h => by
    unfold ckk at h
    split at h
    · rw [Bool.and_eq_true] at h
      exact dk_cons (ok_e a C se h.1).1 (ok_k r C se h.2)
    · cases h
theorem ok_p : ∀ (r : Exp) {X : Cx} {E : XK} {sc : Scope} {ks : List (Option Expr)} {vs : List Expr}, Cxt T N fd CX k G X E → X.env.scope = sc → ckp T N sc r ks vs = true → ∀ pos, PPs X pos ks vs ((evp G r).map fun f => (dE (nm X fd) E f.1, dE (nm X fd) E f.2))
  | .nil, X, E, sc, ks, vs, C, se, h, pos => by
    unfold ckp at h
    rw [Bool.and_eq_true] at h
    cases ks with
    | cons _ _ => cases h.1
    | nil =>
      cases vs with
      | cons _ _ => cases h.2
      | nil => exact pps_nil
  | .cons a b r, X, E, sc, ks, vs, C, se, h, pos => by
    unfold ckp at h
    split at h
    · simp only [Bool.and_eq_true] at h
      exact pps_cons (ok_e a C se h.1.1).1 (ok_e b C se h.1.2).1 (ok_p r C se h.2 pos)
    · cases h
theorem ok_r : ∀ (r : Sr) (tg : Expr) {X : Cx} {E : XK} {sc : Scope} {e : Expr}, Cxt T N fd CX k G X E → X.env.scope = sc → ckr T N sc r tg e = true → PI X tg e (dI (nm X fd) E (evr G r))
  | .seq a, tg, X, E, sc, e, C, se, h => by
    unfold ckr at h
    exact di_seq (ok_e a C se h).1
  | .r1 a, tg, X, E, sc, e, C, se, h => by
    unfold ckr at h
    split at h
    · simp only [Bool.and_eq_true, decide_eq_true_eq] at h
      obtain ⟨⟨⟨rfl, h1⟩, h2⟩, h3⟩ := h
      obtain ⟨g1, g2⟩ := blt_ok C se h1
      exact di_rng1 g1 g2 (ok_e a C se h3).1 h2
    · cases h
  | .r2 a b, tg, X, E, sc, e, C, se, h => by
    unfold ckr at h
    split at h
    · simp only [Bool.and_eq_true, decide_eq_true_eq] at h
      obtain ⟨⟨⟨⟨⟨rfl, h1⟩, h2⟩, h3⟩, h4⟩, h5⟩ := h
      obtain ⟨g1, g2⟩ := blt_ok C se h1
      exact di_rng2 g1 g2 (da_cons (ok_e a C se h4).1 (da_cons (ok_e b C se h5).1 da_nil h3) h2) h2 h3
    · cases h
  | .r3 a b c, tg, X, E, sc, e, C, se, h => by
    unfold ckr at h
    split at h
    · simp only [Bool.and_eq_true, decide_eq_true_eq] at h
      obtain ⟨⟨⟨⟨⟨⟨⟨rfl, h1⟩, h2⟩, h3⟩, h4⟩, h5⟩, h6⟩, h7⟩ := h
      obtain ⟨g1, g2⟩ := blt_ok C se h1
      exact di_rng3 g1 g2 (da_cons (ok_e a C se h5).1 (da_cons (ok_e b C se h6).1 (da_cons (ok_e c C se h7).1 da_nil h4) h3) h2) h2 (by simp [h3, h4])
    · cases h
  | .zip a b, tg, X, E, sc, e, C, se, h => by
    unfold ckr at h
    split at h
    · simp only [Bool.and_eq_true, decide_eq_true_eq] at h
      obtain ⟨⟨⟨⟨⟨⟨rfl, h0⟩, h1⟩, h2⟩, h3⟩, h4⟩, h5⟩ := h
      obtain ⟨g1, g2⟩ := blt_ok C se h1
      cases tg <;> first | cases h0 | skip
      exact di_zip g1 g2 (da_cons (ok_e a C se h4).1 (da_cons (ok_e b C se h5).1 da_nil h3) h2) h2 h3
    · cases h
  | .enum a, tg, X, E, sc, e, C, se, h => by
    unfold ckr at h
    split at h
    · simp only [Bool.and_eq_true, decide_eq_true_eq] at h
      obtain ⟨⟨⟨⟨rfl, h0⟩, h1⟩, h2⟩, h3⟩ := h
      obtain ⟨g1, g2⟩ := blt_ok C se h1
      cases tg <;> first | cases h0 | skip
      exact di_enum g1 g2 (ok_e a C se h3).1 h2
    · cases h
  | .items a, tg, X, E, sc, e, C, se, h => by
    unfold ckr at h
    split at h
    · simp only [Bool.and_eq_true, decide_eq_true_eq] at h
      obtain ⟨⟨⟨⟨rfl, h0⟩, h1⟩, h2⟩, h3⟩ := h
      cases tg <;> first | cases h0 | skip
      exact di_items (ok_e a C se h3).1 (base_of h1) h2
    · cases h
end
end
end Dl

set_option linter.all false
set_option maxRecDepth 100000
set_option maxHeartbeats 16000000
/-! Dl22: statements as trees, and their theorem. -/
namespace Dl
open PySem PySem.Spec PyProof.Rows L2
mutual
inductive Tx where
  | nm (i : Nat)
  | tup (ts : Txs)
  | sub (o i : Ex)
  | fld (f : Str) (o : Ex)
inductive Txs where
  | nil
  | cons (t : Tx) (r : Txs)
end
def Txs.len : Txs → Nat
  | .nil => 0
  | .cons _ r => r.len + 1
mutual
inductive Sm where
  | none
  | ret (e : Ex)
  | retN
  | exp (e : Ex)
  | pass
  | brk
  | cont
  | asg (t : Tx) (e : Ex)
  | par (i j : Nat) (es : Exs)
  | par3 (i j l : Nat) (es : Exs)
  | aug (i : Nat) (op : Operator) (e : Ex)
  | ite (c : Ex) (a b : Sms)
  | whl (n : Nat) (c : Ex) (b : Sms)
  | for_ (t : Tx) (src : Sr) (b : Sms)
  | lock (a : Ex) (s : Sm)
  | rais (c : Str) (e : Ex)
inductive Sms where
  | nil
  | cons (s : Sm) (r : Sms)
end
section
variable (G : Fns) (fl : List (Str × Str))
mutual
noncomputable def evx : Tx → FT
  | .nm i => tgNm i
  | .tup ts => tgTup fun ds ρ S => if ds.length = ts.len then evxs ts ds ρ S else .st
  | .sub o i => tgSub (ev G o).v (ev G i).v
  | .fld f o => tgFld fl f (ev G o).v
noncomputable def evxs : Txs → List D → Slots → Sto → Res Slots
  | .nil => tgNil
  | .cons t r => tgCons (evx t) (evxs r)
end
mutual
noncomputable def evS : Sm → Slots → Sto → Out
  | .none => fun _ _ => .st
  | .ret e => sRet (ev G e).v
  | .retN => fun _ S => .rt .n S
  | .exp e => sExp (ev G e).v
  | .pass => sNil
  | .brk => fun ρ S => .bk ρ S
  | .cont => fun ρ S => .ct ρ S
  | .asg t e => sAsg (ev G e).v (evx G fl t)
  | .par i j es => sPar i j (evs G es)
  | .par3 i j l es => sPar3 i j l (evs G es)
  | .aug i op e => sAug i op (ev G e).v
  | .ite c a b => sIf (ev G c).t (evSs a) (evSs b)
  | .whl n c b => whileF (ev G c).t (evSs b) n
  | .for_ t src b => sFor (evr G src) (evx G fl t) (evSs b)
  | .lock a s => sLock (ev G a).v (evS s)
  | .rais c e => sRaise c (ev G e).v
noncomputable def evSs : Sms → Slots → Sto → Out
  | .nil => sNil
  | .cons s r => sSeq (evS s) (evSs r)
end
end
/-! ### texts and trees -/
def isLC : Expr → Bool
  | .ListComp _ _ _ _ => true
  | .SetComp _ _ _ _ => true
  | .DictComp _ _ _ _ _ => true
  | _ => false
/-- does a store of a comprehension change the block's names in place -/
def swC (sc : Scope) (e tg : Expr) (line : Nat) : Option Bool := match e with
  | .ListComp _ _ s p => match tg with
    | .Name t pos => some (sc.names.lookup t == some .local && pos.line == p.line && !(s.names.any fun q => q.1 == t && (q.2 == .local || q.2 == .cell)))
    | _ => some false
  | .SetComp _ _ _ _ => none
  | .DictComp _ _ _ _ _ => none
  | _ => some false
def starred : Expr → Bool
  | .Starred _ _ => true
  | _ => false
def onLine (sc : Scope) (line : Nat) : Expr → Option Str
  | .Name x p => if sc.names.lookup x == some .local && p.line == line then some x else none
  | _ => none
def parC (sc : Scope) (tg e : Expr) : Option (Option (List Str)) := match tg with
  | .Tuple ts _ _ => match e with
    | .Tuple vs _ _ =>
      if !(ts.length == 2 || ts.length == 3) || vs.length != ts.length then some none
      else if vs.any starred then some none
      else if (ts.filterMap (onLine sc ((ts.head?.map (·.pos.line)).getD 0))).length != ts.length || (ts.filterMap (onLine sc ((ts.head?.map (·.pos.line)).getD 0))).eraseDups.length != (ts.filterMap (onLine sc ((ts.head?.map (·.pos.line)).getD 0))).length then some none
      else if vs.all (foldedForSure 8) then some none
      else if vs.all (constantsAlone 8) then none
      else some (some (ts.filterMap (onLine sc ((ts.head?.map (·.pos.line)).getD 0))))
    | _ => some none
  | .List _ _ => none
  | _ => some none
section
variable {env : Env} {sc : Scope}
theorem kind_fn (hk : sc.kind = .function) (e : env.scope = sc) : env.blockKind = .function := by
  unfold Env.blockKind
  rw [e, hk]
  rfl
theorem sw_ok {e tg : Expr} {line : Nat} {b : Bool} (hk : sc.kind = .function) (es : env.scope = sc) (h : swC sc e tg line = some b) : swapsWith e (some tg) line env = pure b := by
  unfold swC at h
  split at h
  · split at h
    · cases h
      unfold swapsWith
      simp only [kind_fn hk es]
      have : ∀ t, env.kindOf t = sc.names.lookup t := fun t => by rw [← es]; rfl
      simp only [this]
      first
        | rfl
        | (congr 1; simp [Expr.pos])
    · cases h
      unfold swapsWith
      split <;> first | rfl | (rename_i z; exact absurd rfl (by assumption)) | simp_all
  · cases h
  · cases h
  · cases h
    rename_i h1 h2 h3
    unfold swapsWith
    cases e <;> first | rfl | exact absurd rfl (h1 _ _ _ _) | exact absurd rfl (h2 _ _ _ _) | exact absurd rfl (h3 _ _ _ _ _)
theorem sw_none {e : Expr} {line : Nat} (h : isLC e = false) (t : Option Expr) : swapsWith e t line env = pure false := by
  cases e <;> first | rfl | cases h
theorem par_ok {tg e : Expr} {r : Option (List Str)} (hk : sc.kind = .function) (es : env.scope = sc) (h : parC sc tg e = some r) : swappedStores [tg] e env = pure r := by
  unfold parC at h
  have kd : ∀ t, env.kindOf t = sc.names.lookup t := fun t => by rw [← es]; rfl
  have kb := kind_fn hk es
  split at h
  · split at h
    · rename_i ts _ _ _ vs _ _
      subst es
      rename_i k1 p1 _ k2 p2
      have main : ∀ L : List Str, ts.filterMap (onLine env.scope ((ts.head?.map (·.pos.line)).getD 0)) = L → swappedStores [.Tuple ts k1 p1] (.Tuple vs k2 p2) env = (
          if (!(ts.length == 2 || ts.length == 3) || vs.length != ts.length || env.blockKind != .function) = true then pure none
          else if vs.any starred = true then pure none
          else if (L.length != ts.length || L.eraseDups.length != L.length) = true then pure none
          else if vs.all (foldedForSure 8) = true then pure none
          else if vs.all (constantsAlone 8) = true then (do unsupported "assign.tuple-of-constant-expressions:order-of-the-stores"; pure (some L))
          else pure (some L)) := fun L e => by subst e; rfl
      rw [main _ rfl, kb]
      have kf : (ScopeKind.function != ScopeKind.function) = false := by decide
      simp only [kf, Bool.or_false]
      split at h
      · rename_i z; cases h; rw [if_pos z]
      · rename_i z
        rw [if_neg z]
        split at h
        · rename_i z2; cases h; rw [if_pos z2]
        · rename_i z2
          rw [if_neg z2]
          split at h
          · rename_i z3; cases h; rw [if_pos z3]
          · rename_i z3
            rw [if_neg z3]
            split at h
            · rename_i z4; cases h; rw [if_pos z4]
            · rename_i z4
              rw [if_neg z4]
              split at h
              · cases h
              · rename_i z5
                cases h
                rw [if_neg z5]
    · cases h
      rename_i h1
      unfold swappedStores
      cases e <;> first | rfl | exact absurd rfl (h1 _ _ _)
  · cases h
  · cases h
    rename_i h1 h2
    unfold swappedStores
    cases tg <;> first | rfl | exact absurd rfl (h1 _ _ _) | exact absurd rfl (h2 _ _)
end
end Dl

set_option linter.all false
set_option maxRecDepth 100000
set_option maxHeartbeats 16000000
/-! Dl23: the statements' theorem. -/
namespace Dl
open PySem PySem.Spec PyProof.Rows L2
section
variable (T : Tab) (N : List Str) (sc : Scope)
mutual
def cx : Tx → Expr → Bool
  | .nm i, e => match e with
    | .Name x _ => storeC N sc (fun _ => true) i x
    | _ => false
  | .tup ts, e => match e with
    | .Tuple es _ _ => es.all nsE && cxs ts es
    | _ => false
  | .sub o i, e => match e with
    | .Subscript l r _ => plainIxC r && ck T N sc o l && ck T N sc i r
    | _ => false
  | .fld f o, e => match e with
    | .Attribute l g _ => decide (g = f) && ck T N sc o l
    | _ => false
def cxs : Txs → List Expr → Bool
  | .nil, es => es.isEmpty
  | .cons t r, es => match es with
    | e :: es => cx t e && cxs r es
    | [] => false
end
mutual
def cS : Sm → Stmt → Bool
  | .none, _ => true
  | .ret e, s => match s with
    | .Return (some v) _ => ck T N sc e v
    | _ => false
  | .retN, s => match s with
    | .Return .none _ => true
    | _ => false
  | .exp e, s => match s with
    | .Expr v _ => !isLC v && ck T N sc e v
    | _ => false
  | .pass, s => match s with
    | .Pass _ => true
    | _ => false
  | .brk, s => match s with
    | .Break _ => true
    | _ => false
  | .cont, s => match s with
    | .Continue _ => true
    | _ => false
  | .asg t e, s => match s with
    | .Assign [tg] v p => nsE tg && cx T N sc t tg && ck T N sc e v && (match swC sc v tg p.line with
      | some false => (match parC sc tg v with
        | some .none => true
        | _ => false)
      | some true => (match t, e with
        | .nm _, .lc _ _ _ _ _ _ => true
        | _, _ => false)
      | .none => false)
    | _ => false
  | .par i j es, s => match s with
    | .Assign [.Tuple [.Name x px, .Name y py] kt pt] (.Tuple [a, b] k2 pt2) _ => decide (parC sc (.Tuple [.Name x px, .Name y py] kt pt) (.Tuple [a, b] k2 pt2) = some (some [x, y])) && decide (N[i]? = some x) && decide (N[j]? = some y) && decide (i ≠ j) &&
        decide (sc.names.lookup x = some .local) && decide (sc.names.lookup y = some .local) && [a, b].all nsE && cks T N sc es [a, b]
    | _ => false
  | .par3 i j l es, s => match s with
    | .Assign [.Tuple [.Name x px, .Name y py, .Name z pz] kt pt] (.Tuple [a, b, c] k2 pt2) _ => decide (parC sc (.Tuple [.Name x px, .Name y py, .Name z pz] kt pt) (.Tuple [a, b, c] k2 pt2) = some (some [x, y, z])) &&
        decide (N[i]? = some x) && decide (N[j]? = some y) && decide (N[l]? = some z) && decide (i ≠ j) && decide (i ≠ l) && decide (j ≠ l) &&
        decide (sc.names.lookup x = some .local) && decide (sc.names.lookup y = some .local) && decide (sc.names.lookup z = some .local) && [a, b, c].all nsE && cks T N sc es [a, b, c]
    | _ => false
  | .aug i op e, s => match s with
    | .AugAssign (.Name x _) o v _ => decide (o = op) && (decide (op = .Add) || decide (op = .Sub)) && storeC N sc (fun _ => true) i x && ck T N sc e v
    | _ => false
  | .ite c a b, s => match s with
    | .If t l r _ => ck T N sc c t && cSs a l && cSs b r
    | _ => false
  | .whl n c b, s => match s with
    | .While t l [] _ => ck T N sc c t && cSs b l
    | _ => false
  | .for_ t src b, s => match s with
    | .For tg it l [] _ => cx T N sc t tg && ckr T N sc src tg it && notSet it && cSs b l
    | _ => false
  | .lock _ a, s => cS a s
  | .rais c e, s => match s with
    | .Raise (some (.Call (.Name x _) [a] [] _)) .none _ => decide (x = c) && decide (c ∈ T.exs) && glb sc c && nsE a && ck T N sc e a
    | _ => false
def cSs : Sms → List Stmt → Bool
  | .nil, l => l.isEmpty
  | .cons s r, l => match l with
    | x :: l => cS s x && cSs r l
    | [] => false
end
end
section
variable {T : Tab} {N : List Str} {fd : FdT} {CX : CXT} {k : Nat} {G : Fns} {X : Cx} {E : XK} {sc : Scope}
theorem ps_none {s : Stmt} {F : Slots → Sto → Out} (h : ∀ ρ S, F ρ S = .st) : PS X s (dS (nm X fd) E F) := ⟨fun pins st σ H Dn I ⟨ρ, S, α, r, ok, q⟩ => by rw [h] at q; exact q.elim⟩
theorem cxs_len : ∀ {ts : Txs} {es : List Expr}, cxs T N sc ts es = true → es.length = ts.len
  | .nil, es, h => by unfold cxs at h; cases es <;> first | rfl | cases h
  | .cons t ts, es, h => by
    unfold cxs at h
    split at h
    · rw [Bool.and_eq_true] at h
      exact congrArg Nat.succ (cxs_len h.2)
    · cases h
theorem sub_eq {o i : Expr} {pos : Pos} {env : Env} (h : plainIxC i = true) (v : Value) : assign (.Subscript o i pos) env v = (do
      let ov ← holding [v] (eval o env)
      let iv ← holding [v, ov] (eval i env)
      standAt pos
      holding [v, ov, iv] (setItem ov iv v)
      release [v, ov, iv] []) := by
  cases i <;> first | rfl | cases h
mutual
theorem ok_x (C : Cxt T N fd CX k G X E) (es : X.env.scope = sc) (hf : ∀ y, X.fn y = true) (hF : FldOk X T.fl) : ∀ (t : Tx) {tg : Expr}, cx T N sc t tg = true → PG X tg (dG (nm X fd) E (evx G T.fl t))
  | .nm i, tg, h => by
    unfold cx at h
    split at h
    · obtain ⟨h1, h2, h3⟩ := store_ok' C.eN es (fun y _ => hf y) h
      exact dg_nm (by rw [C.eN]; exact C.nd) h1 h2 h3
    · cases h
  | .tup ts, tg, h => by
    unfold cx at h
    split at h
    · rw [Bool.and_eq_true] at h
      have l := cxs_len h.2
      refine dg_tup C.good.calm (n := ts.len) (PGs.imp (ok_xs C es hf hF ts h.1 h.2) fun vs σ H Q ⟨ρ, S, α, ds, r, ok, rv, q⟩ => ?_) (by rw [asg_len]; exact l) (asg_ns h.1) fun ds ρ S z => if_neg z
      simp only at q
      split at q
      · exact ⟨ρ, S, α, ds, r, ok, rv, q⟩
      · exact q.elim
    · cases h
  | .sub o i, tg, h => by
    unfold cx at h
    split at h
    · simp only [Bool.and_eq_true] at h
      exact dg_sub C.hu1 (ok_e o C es h.1.2).1 (ok_e i C es h.2).1 (sub_eq h.1.1)
    · cases h
  | .fld f o, tg, h => by
    unfold cx at h
    split at h
    · simp only [Bool.and_eq_true, decide_eq_true_eq] at h
      obtain ⟨rfl, h2⟩ := h
      exact dg_fld hF (ok_e o C es h2).1
    · cases h
theorem ok_xs (C : Cxt T N fd CX k G X E) (es : X.env.scope = sc) (hf : ∀ y, X.fn y = true) (hF : FldOk X T.fl) : ∀ (ts : Txs) {tgs : List Expr}, tgs.all nsE = true → cxs T N sc ts tgs = true → PGs X tgs (dGs (nm X fd) E (evxs G T.fl ts))
  | .nil, tgs, hn, h => by
    unfold cxs at h
    cases tgs with
    | nil => exact dgs_nil
    | cons _ _ => cases h
  | .cons t ts, tgs, hn, h => by
    unfold cxs at h
    split at h
    · rw [Bool.and_eq_true] at h
      simp only [List.all_cons, Bool.and_eq_true] at hn
      exact dgs_cons (ok_x C es hf hF t h.1) (ok_xs C es hf hF ts hn.2 h.2) (asg_cons hn.1)
    · cases h
end
/-- what the body of a def is, besides -/
structure Bod (T : Tab) (X : Cx) (sc : Scope) (E : XK) : Prop where
  es : X.env.scope = sc
  kd : sc.kind = .function
  hf : ∀ y, X.fn y = true
  hF : FldOk X T.fl
  own : PassesOwn (model X.prog X.w) X.A X.env X.xe
  tk : T.exs ≠ [] → Takes X fun cls d _ H => E cls d H
mutual
theorem ok_S (C : Cxt T N fd CX k G X E) (B : Bod T X sc E) : ∀ (a : Sm) {s : Stmt}, cS T N sc a s = true → PS X s (dS (nm X fd) E (evS G T.fl a))
  | .none, s, h => ps_none fun _ _ => rfl
  | .ret e, s, h => by
    unfold cS at h
    split at h
    · exact ds_ret (ok_e e C B.es h).1
    · cases h
  | .retN, s, h => by
    unfold cS at h
    split at h
    · exact ds_retN
    · cases h
  | .exp e, s, h => by
    unfold cS at h
    split at h
    · rw [Bool.and_eq_true, Bool.not_eq_true'] at h
      exact ds_expr (ok_e e C B.es h.2).1 (sw_none h.1 _)
    · cases h
  | .pass, s, h => by
    unfold cS at h
    split at h
    · exact ds_pass
    · cases h
  | .brk, s, h => by
    unfold cS at h
    split at h
    · exact ds_break
    · cases h
  | .cont, s, h => by
    unfold cS at h
    split at h
    · exact ds_cont
    · cases h
  | .asg t e, s, h => by
    unfold cS at h
    split at h
    · rename_i tg v p
      simp only [Bool.and_eq_true] at h
      obtain ⟨⟨⟨h0, h1⟩, h2⟩, h3⟩ := h
      split at h3
      · rename_i hw
        split at h3
        · rename_i hp
          exact ds_asg (ok_e e C B.es h2).1 (ok_x C B.es B.hf B.hF t h1) (sw_ok B.kd B.es hw) (par_ok B.kd B.es hp) (asg_cons h0)
        · cases h3
      · rename_i hw
        split at h3
        · rename_i i m src t own tst elt
          -- a comprehension's list, stored in place
          unfold cx at h1
          split at h1
          · rename_i y py
            unfold ck at h2
            split at h2
            · rename_i x tg it ifs kk sc2 p2
              simp only [Bool.and_eq_true, decide_eq_true_eq] at h2
              obtain ⟨⟨⟨⟨⟨⟨⟨g0, g1⟩, g2⟩, g3⟩, g4⟩, g5⟩, g6⟩, g7⟩ := h2
              subst g0
              obtain ⟨s1, s2, s3⟩ := store_ok' (X := X) C.eN B.es (fun y _ => B.hf y) h1
              have hl : X.env.scope.names.lookup y = some .local := by
                unfold swC at hw
                simp only [Option.some.injEq, Bool.and_eq_true, beq_iff_eq] at hw
                rw [B.es]
                exact hw.1.1
              have es := B.es
              have hsw := sw_ok B.kd B.es hw
              subst es
              have big := ds_setLc (m := m) (pos := p) (py := py) (cpos := p2) C.good.sys C.good.calm (by rw [C.eN]; exact C.nd) s1 hl hsw (ok_r src tg C rfl g4) (by rw [C.eN]; exact blkOk_by g1) g2
                (fun s H c cl fp => pg_tg (X := X.blk s H sc2 (compEnvC sc2 cl c X.env) fp) C.nd C.eN C.good.calm rfl (fun y z => z) g3)
                (fun s H c cl fp => ok_t tst (C.blk s H sc2 (compEnvC sc2 cl c X.env) fp rfl rfl) rfl g5) (fun s H c cl fp => (ok_e elt (C.blk s H sc2 (compEnvC sc2 cl c X.env) fp rfl rfl) rfl g6).1) (no_fold g7)
              exact big
            · cases h2
          · cases h1
        · cases h3
      · cases h3
    · cases h
  | .par i j es, s, h => by
    unfold cS at h
    split at h
    · simp only [Bool.and_eq_true, decide_eq_true_eq] at h
      obtain ⟨⟨⟨⟨⟨⟨⟨h0, h1⟩, h2⟩, h3⟩, h4⟩, h5⟩, h6⟩, h7⟩ := h
      exact ds_par C.good.calm (by rw [C.eN]; exact C.nd) (by rw [C.eN]; exact h1) (by rw [C.eN]; exact h2) h3 (by rw [B.es]; exact h4) (by rw [B.es]; exact h5) (ok_s es C B.es h6 h7) (par_ok B.kd B.es h0)
    · cases h
  | .par3 i j l es, s, h => by
    unfold cS at h
    split at h
    · simp only [Bool.and_eq_true, decide_eq_true_eq] at h
      obtain ⟨⟨⟨⟨⟨⟨⟨⟨⟨⟨⟨h0, h1⟩, h2⟩, h3⟩, h4⟩, h5⟩, h6⟩, h7⟩, h8⟩, h9⟩, h10⟩, h11⟩ := h
      exact ds_par3 C.good.calm (by rw [C.eN]; exact C.nd) (by rw [C.eN]; exact h1) (by rw [C.eN]; exact h2) (by rw [C.eN]; exact h3) h4 h5 h6 (by rw [B.es]; exact h7) (by rw [B.es]; exact h8) (by rw [B.es]; exact h9) (ok_s es C B.es h10 h11) (par_ok B.kd B.es h0)
    · cases h
  | .aug i op e, s, h => by
    unfold cS at h
    split at h
    · simp only [Bool.and_eq_true, Bool.or_eq_true, decide_eq_true_eq] at h
      obtain ⟨⟨⟨rfl, h1⟩, h2⟩, h3⟩ := h
      obtain ⟨s1, s2, s3⟩ := store_ok' (X := X) C.eN B.es (fun y _ => B.hf y) h2
      exact ds_aug (by rw [C.eN]; exact C.nd) s1 s2 (ok_e e C B.es h3).1 s3 h1
    · cases h
  | .ite c a b, s, h => by
    unfold cS at h
    split at h
    · simp only [Bool.and_eq_true] at h
      exact ds_if (ok_e c C B.es h.1.1).2 (ok_Ss C B a h.1.2) (ok_Ss C B b h.2)
    · cases h
  | .whl n c b, s, h => by
    unfold cS at h
    split at h
    · simp only [Bool.and_eq_true] at h
      exact ds_while B.own (ok_e c C B.es h.1).2 (ok_Ss C B b h.2) n
    · cases h
  | .for_ t src b, s, h => by
    unfold cS at h
    split at h
    · simp only [Bool.and_eq_true] at h
      exact ds_for B.own C.good.calm (ok_r src _ C B.es h.1.1.2) (ok_x C B.es B.hf B.hF t h.1.1.1) (ok_Ss C B b h.2) (no_fold h.1.2)
    · cases h
  | .lock g a, s, h => by
    unfold cS at h
    exact ds_lock (ok_S C B a h)
  | .rais c e, s, h => by
    unfold cS at h
    split at h
    · rename_i x px a pc pr
      simp only [Bool.and_eq_true, decide_eq_true_eq] at h
      obtain ⟨⟨⟨⟨rfl, h1⟩, h2⟩, h3⟩, h4⟩ := h
      obtain ⟨g1, g2⟩ := glb_ok B.es h2
      exact ds_raise (C.exs _ h1) C.room1 (fun pins σ H s e s' I z => (C.pas0 _ _ _ _ _ z).elim) C.good.calm (B.tk fun z => by rw [z] at h1; cases h1) g1 g2 (ok_e e C B.es h4).1 (starEach_ns h3) rfl
    · cases h
theorem ok_Ss (C : Cxt T N fd CX k G X E) (B : Bod T X sc E) : ∀ (a : Sms) {s : List Stmt}, cSs T N sc a s = true → PSs X s (dS (nm X fd) E (evSs G T.fl a))
  | .nil, s, h => by
    unfold cSs at h
    cases s with
    | nil => exact dss_nil
    | cons _ _ => cases h
  | .cons a r, s, h => by
    unfold cSs at h
    split at h
    · rw [Bool.and_eq_true] at h
      exact dss_cons (ok_S C B a h.1) (ok_Ss C B r h.2)
    · cases h
end
end
end Dl

set_option linter.all false
set_option maxRecDepth 100000
set_option maxHeartbeats 16000000
/-! Dx9: the def that gets a lambda, calls it in a try and catches its errors: trees, what they tell, the theorem. -/
namespace Dl
open PySem PySem.Spec PyProof.Rows L2
/-! ### small expressions of an except suite -/
mutual
inductive Xe where
  | c (d : PyData)
  | var (i : Nat)
  | th (f : Str)
  | isi (k : Str)
  | or (a b : Xe)
  | ite (c a b : Xe)
  | add (a b : Xe)
  | tup (es : Xes)
  | lst (es : Xes)
inductive Xes where
  | nil
  | cons (a : Xe) (r : Xes)
end
section
variable (sub : List (Str × Str)) (fld : Str → Str) (k : Str) (v : D) (ρ : Slots)
mutual
def xev : Xe → Option D
  | .c d => some (.p d)
  | .var i => ρ[i]?.join
  | .th f => if fld k = f then some v else none
  | .isi c => some (.b (decide ((k, c) ∈ sub)))
  | .or a b => match xev a, xev b with
    | some (.p (.bool x)), some (.p (.bool y)) => some (.b (x || y))
    | _, _ => none
  | .ite c a b => match xev c with
    | some (.p (.bool true)) => xev a
    | some (.p (.bool false)) => xev b
    | _ => none
  | .add a b => match xev a, xev b with
    | some (.p (.list x)), some (.p (.list y)) => if x.length + y.length ≤ sizeLine then some (.p (.list (x ++ y))) else none
    | _, _ => none
  | .tup es => match xevs es with
    | some ds => if ds.length ≤ sizeLine then some (mkT ds) else none
    | none => none
  | .lst es => match (xevs es).bind allP with
    | some ds => if ds.length ≤ sizeLine then some (.p (.list ds)) else none
    | none => none
def xevs : Xes → Option (List D)
  | .nil => some []
  | .cons a r => match xev a, xevs r with
    | some d, some ds => some (d :: ds)
    | _, _ => none
end
end
inductive Xst where
  | ret (e : Xe)
  | asg (i : Nat) (e : Xe)
def xSs (sub : List (Str × Str)) (fld : Str → Str) (k : Str) (v : D) : List Xst → Slots → Sto → Out
  | [], ρ, S => .nx ρ S
  | .ret e :: _, ρ, S => match xev sub fld k v ρ e with
    | some d => .rt d S
    | none => .st
  | .asg i e :: r, ρ, S => match xev sub fld k v ρ e with
    | some d => xSs sub fld k v r (ρ.set i (some d)) S
    | none => .st
/-- an except clause -/
structure XCl where
  k : Str
  n : Option Nat
  body : List Xst
inductive Fst where
  | ex
  | st (i : Nat)
  | tp (i : Nat) (s : Str)
def Fst.go (f : Fst) (v : D) (ρ : Slots) : Slots := match f with
  | .ex => ρ
  | .st i => ρ.set i (some v)
  | .tp i s => ρ.set i (some (mkT [.s s, v]))
structure Ctr where
  name : Str
  st : Stmt
  N : List Str
  fst : Fst
  tb : Sms
  cls : List XCl
  rest : Sms
/-- behind a suite with a name its slot is empty -/
def offO (o : Option Nat) : Out → Out
  | .nx ρ S => match o with
    | none => .nx ρ S
    | some i => .nx (ρ.set i none) S
  | .rt d S => .rt d S
  | _ => .st
def oThen (o : Out) (F : Slots → Sto → Out) : Out := match o with
  | .nx ρ S => F ρ S
  | .rt d S => .rt d S
  | _ => .st
def noXO : Out → Out
  | .nx ρ S => .nx ρ S
  | .rt d S => .rt d S
  | _ => .st
section
variable (T : Tab) (G : Fns) (c : Ctr)
noncomputable def Ctr.ok (v : D) (S : Sto) : Res D := fin S (oThen (evSs G T.fl c.tb (c.fst.go v (List.replicate c.N.length none)) S) (evSs G T.fl c.rest))
noncomputable def Ctr.ex (k : Str) (v : D) (S : Sto) : Res D := if k ∈ T.exs then (match c.cls.find? (fun q => decide ((k, q.k) ∈ T.sub)) with
    | some q => fin S (oThen (offO q.n (xSs T.sub T.fld k v q.body (List.replicate c.N.length none) S)) (evSs G T.fl c.rest))
    | none => .st)
  else .st
end
/-- other names: the defs that catch -/
noncomputable def spC (T : Tab) (cs : List Ctr) : Fns → Fns := fun G f ds S => match cs.find? (fun c => decide (c.name = f)) with
  | some c => (match ds with
    | [v] => c.ok T G v S
    | [.p (.str k), v] => c.ex T G k v S
    | _ => .st)
  | none => .st
/-! ### whether they are a text's -/
section
variable (T : Tab) (N : List Str) (sc : Scope)
section
variable (n : Option Nat)
/-- the caught error's name -/
def errC (e : Expr) : Bool := match n with
  | some i => varC N sc i e
  | none => false
mutual
def cXe : Xe → Expr → Bool
  | .c d, e => match e with
    | .Constant q _ _ => constC q d
    | _ => false
  | .var i, e => varC N sc i e
  | .th f, e => match e with
    | .Attribute y g _ => decide (g = f) && errC N sc n y
    | _ => false
  | .isi k, e => match e with
    | .Call (.Name x _) [y, .Name z _] [] _ => decide (x = "isinstance") && bltC T sc x && errC N sc n y && decide (z = k) && decide (k ∈ T.knm) && glb sc z
    | _ => false
  | .or a b, e => match e with
    | .BoolOp .Or [l, r] _ => cXe a l && cXe b r
    | _ => false
  | .ite c a b, e => match e with
    | .IfExp t l r _ => plainTC t && cXe c t && cXe a l && cXe b r
    | _ => false
  | .add a b, e => match e with
    | .BinOp l .Add r _ => cXe a l && cXe b r
    | _ => false
  | .tup es, e => match e with
    | .Tuple l _ _ => l.all nsE && cXes es l
    | _ => false
  | .lst es, e => match e with
    | .List l _ => l.all nsE && cXes es l
    | _ => false
def cXes : Xes → List Expr → Bool
  | .nil, l => l.isEmpty
  | .cons a r, l => match l with
    | e :: l => cXe a e && cXes r l
    | [] => false
end
def cXs : List Xst → List Stmt → Bool
  | [], l => l.isEmpty
  | .ret e :: r, l => match l with
    | .Return (some v) _ :: l => cXe T N sc n e v && cXs r l
    | _ => false
  | .asg i e :: r, l => match l with
    | .Assign [.Name x px] v p :: l => decide (n ≠ some i) && storeC N sc (fun _ => true) i x && cXe T N sc n e v && (match swC sc v (.Name x px) p.line with
      | some false => true
      | _ => false) && cXs r l
    | _ => false
end
def cNm : Option Nat → Option Str → Bool
  | none, none => true
  | some i, some x => decide (N[i]? = some x) && decide (sc.names.lookup x = some .local)
  | _, _ => false
def cCl (q : XCl) (h : ExceptHandler) : Bool := match h with
  | .ExceptHandler (some (.Name x _)) n (b :: bs) _ => decide (x = q.k) && decide (q.k ∈ T.knm) && glb sc x && cNm N sc q.n n && cXs T N sc q.n q.body (b :: bs)
  | _ => false
def cCls : List XCl → List ExceptHandler → Bool
  | [], l => l.isEmpty
  | q :: r, l => match l with
    | h :: l => cCl T N sc q h && cCls r l
    | [] => false
def thkC (a : Str) (e : Expr) : Bool := match e with
  | .Call (.Name x _) [] [] _ => decide (x = a)
  | _ => false
def cFst (a : Str) (f : Fst) (s : Stmt) : Bool := match f with
  | .ex => (match s with
    | .Expr v _ => thkC a v
    | _ => false)
  | .st i => (match s with
    | .Assign [.Name x px] v p => storeC N sc (fun _ => true) i x && decide (i ≠ 0) && thkC a v && (match swC sc v (.Name x px) p.line with
      | some false => true
      | _ => false)
    | _ => false)
  | .tp i t => (match s with
    | .Assign [.Name x px] (.Tuple [.Constant (.str u) _ _, v] _ _) p => storeC N sc (fun _ => true) i x && decide (i ≠ 0) && decide (u = t) && nsE v && thkC a v
    | _ => false)
end
def scopeC (N ps : List Str) (sc : Scope) : Bool :=
  (match sc.kind with | .function => true | _ => false) && !sc.isCoroutine && !sc.isGenerator && decide N.Nodup && decide (N.take ps.length = ps) && ps.all (fun x => decide (sc.names.lookup x = some .local) || decide (sc.names.lookup x = some .cell)) &&
    sc.names.all fun y => match y.2 with
      | .free => false
      | _ => true
theorem scope_ok {N ps : List Str} {sc : Scope} (h : scopeC N ps sc = true) : FnScope N ps sc := by
  unfold scopeC at h
  simp only [Bool.and_eq_true, Bool.not_eq_true', decide_eq_true_eq, List.all_eq_true, Bool.or_eq_true] at h
  obtain ⟨⟨⟨⟨⟨⟨h1, h2⟩, h3⟩, h4⟩, h5⟩, h6⟩, h7⟩ := h
  refine ⟨?_, h2, h3, h4, h5, h6, fun y hy e => ?_⟩
  · split at h1
    · assumption
    · cases h1
  · have := h7 y hy
    rw [e] at this
    cases this
def Ctr.ck (T : Tab) (c : Ctr) : Bool := match c.N with
  | [] => false
  | a :: _ => scopeC c.N [a] (defScope c.st) && visC (defScope c.st) a && (match defBody c.st with
    | .Try (s :: b) (h :: hs) [] [] _ :: r => cFst c.N (defScope c.st) a c.fst s && cSs T.still c.N (defScope c.st) c.tb b && cCls T c.N (defScope c.st) c.cls (h :: hs) && cSs T.still c.N (defScope c.st) c.rest r
    | _ => false)
/-! ### the theorem -/
/-- a class that is raised: its field, what stands above it -/
structure XFx (K : PySem.W.Frag) (mg : Str → Option Value) (fd : FdT) (T : Tab) (k : Str) : Prop where
  ex : ∃ C : Addr, mg k = some (.ref C) ∧ XfC K C ∧ ExcC K C ∧ PySem.W.findIn K (.ref C) (fd k) = some none ∧ ∀ q ∈ T.knm, ∃ Ka : Addr, mg q = some (.ref Ka) ∧ PySem.W.kitOne K (.ref C) (.ref Ka) = some (decide ((k, q) ∈ T.sub)) ∧ PySem.W.exmOne K (.ref C) (.ref Ka) = some (decide ((k, q) ∈ T.sub))
theorem var_at {X : Cx} {N : List Str} {sc : Scope} {i : Nat} {e : Expr} (eN : X.N = N) (es : X.env.scope = sc) (h : varC N sc i e = true) : ∃ x p, e = .Name x p ∧ X.N[i]? = some x ∧ Vis X.env.scope x ∧ (x == ("__debug__" : Str)) = false ∧ (x == ("__classdict__" : Str)) = false := by
  unfold varC at h
  split at h
  · rename_i x p
    rw [Bool.and_eq_true, decide_eq_true_eq] at h
    exact ⟨x, p, rfl, by rw [eN]; exact h.1, vis_ok es h.2⟩
  · cases h
section
variable {T : Tab} {N : List Str} {sc : Scope} {X : Cx} {fd : FdT} {n : Option Nat} {a C dd : Addr} {k : Str} {v : D} {oe : Obj} {pn : List (Addr × Obj)}
/-- where a suite runs -/
structure Sui (T : Tab) (N : List Str) (sc : Scope) (X : Cx) (fd : FdT) (C dd : Addr) (k : Str) (oe : Obj) : Prop where
  eN : X.N = N
  nd : N.Nodup
  es : X.env.scope = sc
  kd : sc.kind = .function
  hf : ∀ y, X.fn y = true
  sys : SysIn X
  blt : ∀ x ∈ T.blt, X.mg x = none
  ef : ∀ x, fd x = T.fld x
  xf : XfC X.K C
  xc : ExcC X.K C
  no : PySem.W.findIn X.K (.ref C) (fd k) = some none
  up : ∀ q ∈ T.knm, ∃ Ka : Addr, X.mg q = some (.ref Ka) ∧ PySem.W.kitOne X.K (.ref C) (.ref Ka) = some (decide ((k, q) ∈ T.sub)) ∧ PySem.W.exmOne X.K (.ref C) (.ref Ka) = some (decide ((k, q) ∈ T.sub))
  zc : Zc (.ref C) (some dd) oe
  dt : ∃ vs, oe.data = .fields vs
mutual
theorem ok_xe (U : Sui T N sc X fd C dd k oe) {ρ : Slots} : ∀ (t : Xe) {e : Expr} {d : D}, cXe T N sc n t e = true → xev T.sub T.fld k v ρ t = some d → PE (X.suite a ((a, oe) :: pn)) e (xR (nm X fd) n a dd (fd k) v ρ d)
  | .c q, e, d, h, hd => by
    unfold xev at hd
    cases hd
    unfold cXe at h
    split at h
    · unfold constC at h
      split at h
      · rw [← of_decide_eq_true h]; exact x_c (X := X.suite a ((a, oe) :: pn)) pe_int fun H => .int _
      · rw [← of_decide_eq_true h]; exact x_c (X := X.suite a ((a, oe) :: pn)) pe_bl fun H => .bl _
      · rw [← of_decide_eq_true h]; exact x_c (X := X.suite a ((a, oe) :: pn)) pe_str fun H => .str _
      · exact x_c (X := X.suite a ((a, oe) :: pn)) pe_non fun H => .non
      · cases h
    · cases h
  | .var i, e, d, h, hd => by
    unfold xev at hd
    unfold cXe at h
    obtain ⟨x, p, rfl, h1, h2, h3, h4⟩ := var_at U.eN U.es h
    refine x_var (X := X.suite a ((a, oe) :: pn)) h1 h2 h3 h4 ?_
    cases q : ρ[i]? with
    | none => rw [q] at hd; cases hd
    | some z => rw [q] at hd; exact congrArg some hd
  | .th f, e, d, h, hd => by
    unfold xev at hd
    unfold cXe at h
    split at h
    · simp only [Bool.and_eq_true, decide_eq_true_eq] at h
      obtain ⟨rfl, h1⟩ := h
      split at hd
      · rename_i ef
        cases hd
        unfold errC at h1
        cases n with
        | none => cases h1
        | some i =>
          obtain ⟨x, p, rfl, g1, g2, g3, g4⟩ := var_at U.eN U.es h1
          have ef' : fd k = _ := (U.ef k).trans ef
          rw [← ef']
          exact x_thing U.xf U.no U.zc U.dt g1 g2 g3 g4
      · cases hd
    · cases h
  | .isi q, e, d, h, hd => by
    unfold xev at hd
    cases hd
    unfold cXe at h
    split at h
    · simp only [Bool.and_eq_true, decide_eq_true_eq] at h
      obtain ⟨⟨⟨⟨⟨rfl, h1⟩, h2⟩, rfl⟩, h4⟩, h5⟩ := h
      unfold errC at h2
      cases n with
      | none => cases h2
      | some i =>
        obtain ⟨x, p, rfl, g1, g2, g3, g4⟩ := var_at U.eN U.es h2
        obtain ⟨w1, w2⟩ := glb_ok U.es h5
        obtain ⟨Ka, m1, m2, m3⟩ := U.up _ h4
        unfold bltC at h1
        simp only [Bool.and_eq_true, decide_eq_true_eq] at h1
        have b1 : Gl X "isinstance" := by show X.env.scope.names.lookup _ = _; rw [U.es]; exact h1.1
        exact x_isi U.xc U.zc U.dt b1 (U.blt _ h1.2) w1 m1 w2 m2 g1 g2 g3 g4
    · cases h
  | .or p q, e, d, h, hd => by
    unfold xev at hd
    unfold cXe at h
    split at h
    · rw [Bool.and_eq_true] at h
      split at hd
      · rename_i x y e1 e2
        cases hd
        exact x_or (X := X.suite a ((a, oe) :: pn)) (ok_xe U p h.1 e1) (x_or1 (ok_xe U q h.2 e2))
      · cases hd
    · cases h
  | .ite c p q, e, d, h, hd => by
    unfold xev at hd
    unfold cXe at h
    split at h
    · simp only [Bool.and_eq_true] at h
      obtain ⟨⟨⟨h0, h1⟩, h2⟩, h3⟩ := h
      split at hd
      · rename_i e1
        exact x_ite (X := X.suite a ((a, oe) :: pn)) (x_test (ok_xe U c h1 e1) (plain_t h0)) (fun _ => ok_xe U p h2 hd) (fun z => nomatch z)
      · rename_i e1
        exact x_ite (X := X.suite a ((a, oe) :: pn)) (x_test (ok_xe U c h1 e1) (plain_t h0)) (fun z => nomatch z) (fun _ => ok_xe U q h3 hd)
      · cases hd
    · cases h
  | .add p q, e, d, h, hd => by
    unfold xev at hd
    unfold cXe at h
    split at h
    · rw [Bool.and_eq_true] at h
      split at hd
      · rename_i x y e1 e2
        split at hd
        · rename_i hz
          cases hd
          refine x_bin (X := X.suite a ((a, oe) :: pn)) U.sys (ok_xe U p h.1 e1) (ok_xe U q h.2 e2) fun S => ?_
          show opAdd false (.p (.list x)) (.p (.list y)) S = _
          simp only [opAdd, tupOf_list, lstOf_list]
          rw [if_pos (by simpa using hz), ← List.map_append, mkL_map]
        · cases hd
      · cases hd
    · cases h
  | .tup es, e, d, h, hd => by
    unfold xev at hd
    unfold cXe at h
    split at h
    · rw [Bool.and_eq_true] at h
      split at hd
      · rename_i ds e1
        split at hd
        · rename_i hz
          cases hd
          exact x_tup (X := X.suite a ((a, oe) :: pn)) (ok_xes U es h.1 h.2 e1) hz
        · cases hd
      · cases hd
    · cases h
  | .lst es, e, d, h, hd => by
    unfold xev at hd
    unfold cXe at h
    split at h
    · rw [Bool.and_eq_true] at h
      split at hd
      · rename_i ds e1
        split at hd
        · rename_i hz
          cases hd
          obtain ⟨us, e2, e3⟩ := Option.bind_eq_some_iff.mp e1
          have e4 := allP_eq e3
          subst e4
          exact x_lst (X := X.suite a ((a, oe) :: pn)) U.sys (ok_xes U es h.1 h.2 e2) hz
        · cases hd
      · cases hd
    · cases h
theorem ok_xes (U : Sui T N sc X fd C dd k oe) {ρ : Slots} : ∀ (t : Xes) {es : List Expr} {ds : List D}, es.all nsE = true → cXes T N sc n t es = true → xevs T.sub T.fld k v ρ t = some ds → PA (X.suite a ((a, oe) :: pn)) es (xA (nm X fd) n a dd (fd k) v ρ ds)
  | .nil, es, ds, hn, h, hd => by
    unfold xevs at hd
    cases hd
    unfold cXes at h
    cases es with
    | nil => exact x_nil (X := X.suite a ((a, oe) :: pn))
    | cons _ _ => cases h
  | .cons p r, es, ds, hn, h, hd => by
    unfold xevs at hd
    unfold cXes at h
    split at h
    · rw [Bool.and_eq_true] at h
      simp only [List.all_cons, Bool.and_eq_true] at hn
      split at hd
      · rename_i d' ds' e1 e2
        cases hd
        exact x_cons (X := X.suite a ((a, oe) :: pn)) (ok_xe U p h.1 e1) (ok_xes U r hn.2 h.2 e2) hn.1
      · cases hd
    · cases h
end
/-- a suite's rows -/
def xD (N : Nm) (o : Option Nat) (a dd : Addr) (f : Str) (sub : List (Str × Str)) (fld : Str → Str) (k : Str) (v : D) (l : List Xst) : TS := fun Dn σ H => ∃ ρ α S, XS N o a dd f v ρ σ H α S ∧ dOut N E0 α S H (xSs sub fld k v l ρ S) Dn
theorem ok_xss (U : Sui T N sc X fd C dd k oe) : ∀ (l : List Xst) {ss : List Stmt}, cXs T N sc n l ss = true → PSs (X.suite a ((a, oe) :: pn)) ss (xD (nm X fd) n a dd (fd k) T.sub T.fld k v l)
  | [], ss, h => by
    unfold cXs at h
    cases ss with
    | nil => exact PSs.imp pss_nil fun Dn σ H ⟨ρ, α, S, x, q⟩ => q σ H α .refl x.ok x.1
    | cons _ _ => cases h
  | .ret e :: r, ss, h => by
    unfold cXs at h
    split at h
    · rename_i y py l
      rw [Bool.and_eq_true] at h
      refine ⟨fun pins s σ H Dn I ⟨ρ, α, S, x, q⟩ => ?_⟩
      unfold xSs at q
      split at q
      · rename_i d hd
        refine (pss_cons (u := fun _ _ _ => False) (ps_ret (ok_xe U e h.1 hd)) ⟨fun _ _ _ _ _ _ z => z.elim⟩).run pins s σ H Dn I ⟨α, S, x, q⟩
      · exact q.elim
    · cases h
  | .asg i e :: r, ss, h => by
    unfold cXs at h
    split at h
    · rename_i y px w p l
      simp only [Bool.and_eq_true, decide_eq_true_eq] at h
      obtain ⟨⟨⟨⟨h0, h1⟩, h2⟩, h3⟩, h4⟩ := h
      split at h3
      · rename_i hw
        refine ⟨fun pins s σ H Dn I ⟨ρ, α, S, x, q⟩ => ?_⟩
        unfold xSs at q
        split at q
        · rename_i d hd
          obtain ⟨s1, s2, s3⟩ := store_ok' (X := X) U.eN U.es (fun z _ => U.hf z) h1
          refine (pss_cons (ps_set (X := X.suite a ((a, oe) :: pn)) (i := i) (by rw [← U.eN] at *; exact U.nd) s1 s2 (ok_xe U e h2 hd) (sw_ok U.kd U.es hw) s3) (ok_xss U r h4)).run pins s σ H Dn I ?_
          exact ⟨α, S, x, fun u H1 α1 st ok1 ru => ⟨ρ.set i (some d), α1, S, (x.go st ok1).put h0 ru, dOut.shift x.ok st q⟩⟩
        · exact q.elim
      · cases h3
    · cases h
end
/-! ### clauses -/
section
variable {T : Tab} {N : List Str} {sc : Scope} {X : Cx} {fd : FdT}
def tsC (N : Nm) (T : Tab) (q : XCl) : Addr → Value → Option Addr → TS := fun a cls d Dn σ H => ∃ (k : Str) (v : D) (C dd : Addr), cls = .ref C ∧ d = some dd ∧ k ∈ T.exs ∧ N.mg k = some (.ref C) ∧ xD N q.n a dd (N.fd k) T.sub T.fld k v q.body Dn σ H
/-- what stands around the suites -/
structure Sur (T : Tab) (N : List Str) (sc : Scope) (X : Cx) (fd : FdT) : Prop where
  eN : X.N = N
  nd : N.Nodup
  es : X.env.scope = sc
  kd : sc.kind = .function
  hf : ∀ y, X.fn y = true
  sys : SysIn X
  blt : ∀ x ∈ T.blt, X.mg x = none
  ef : ∀ x, fd x = T.fld x
  xs : ∀ k ∈ T.exs, XFx X.K X.mg fd T k
  kn : ∀ q ∈ T.knm, ∃ Ka : Addr, X.mg q = some (.ref Ka)
def PairC (T : Tab) (N : List Str) (X : Cx) (fd : FdT) (q : XCl) (cl : Cl) : Prop := ∃ Ka : Addr, X.mg q.k = some (.ref Ka) ∧ q.k ∈ T.knm ∧ (∀ i, q.n = some i → i < N.length) ∧ cl = (.ref Ka, q.n, tsC (nm X fd) T q)
theorem hdx_ok (U : Sur T N sc X fd) : ∀ (cls : List XCl) {hds : List ExceptHandler}, cCls T N sc cls hds = true → ∃ l, HdX X hds l ∧ Paired (PairC T N X fd) cls l
  | [], hds, h => by
    unfold cCls at h
    cases hds with
    | nil => exact ⟨[], .nil, .nil⟩
    | cons _ _ => cases h
  | q :: r, hds, h => by
    unfold cCls at h
    split at h
    · rename_i e l
      rw [Bool.and_eq_true] at h
      obtain ⟨l', h1, h2⟩ := hdx_ok U r h.2
      have h3 := h.1
      unfold cCl at h3
      split at h3
      · rename_i x p n b bs p'
        simp only [Bool.and_eq_true, decide_eq_true_eq] at h3
        obtain ⟨⟨⟨⟨rfl, g1⟩, g2⟩, g3⟩, g4⟩ := h3
        obtain ⟨Ka, mk⟩ := U.kn _ g1
        obtain ⟨w1, w2⟩ := glb_ok U.es g2
        have nmx : NmX X n q.n ∧ ∀ i, q.n = some i → i < N.length := by
          unfold cNm at g3
          split at g3
          · rename_i e1
            rw [e1]
            exact ⟨trivial, fun i z => nomatch z⟩
          · rename_i i y e1
            rw [Bool.and_eq_true, decide_eq_true_eq, decide_eq_true_eq] at g3
            rw [e1]
            refine ⟨⟨by rw [U.eN]; exact g3.1, by show X.env.scope.names.lookup y = _; rw [U.es]; exact g3.2⟩, fun j z => ?_⟩
            cases z
            exact (List.getElem?_eq_some_iff.mp g3.1).1
          · cases g3
        refine ⟨(.ref Ka, q.n, tsC (nm X fd) T q) :: l', .cons ⟨w1, w2, .inl mk⟩ nmx.1 (fun a oe cls d pn hz hd => ?_) h1, .cons ⟨Ka, mk, g1, nmx.2, rfl⟩ h2⟩
        refine ⟨fun pins s σ H Dn I ⟨k, v, C, dd, e1, e2, hk, mC, want⟩ => ?_⟩
        subst e1 e2
        obtain ⟨C', m1, xf, xc, no, up⟩ := (U.xs k hk).ex
        have m1 := m1.symm.trans mC
        injection m1 with m1
        injection m1 with m1
        subst m1
        exact (ok_xss (k := k) (v := v) (a := a) (pn := pn) (n := q.n) ⟨U.eN, U.nd, U.es, U.kd, U.hf, U.sys, U.blt, U.ef, xf, xc, no, up, hz, hd⟩ q.body g4).run pins s σ H Dn I want
      · cases h3
    · cases h
theorem Rho.setN {N : Nm} {H : Hp} {α : List Addr} {σ : L2.St} {ρ : Slots} (r : Rho N H α σ ρ) (i : Nat) : Rho N H α (σ.set i none) (ρ.set i none) := by
  refine ⟨by simp [r.len], fun j d e => ?_⟩
  by_cases z : i = j
  · subst z
    by_cases hl : i < ρ.length
    · rw [List.getElem?_set_self hl] at e; cases e
    · rw [List.getElem?_eq_none (by simpa using hl)] at e; cases e
  · rw [List.getElem?_set_ne z] at e ⊢
    exact r.at_ j d e
theorem off_out {N : Nm} {α : List Addr} {S : Sto} {H : Hp} {o : Option Nat} {out : Out} {Dn : Ends} (h : dOut N E0 α S H (offO o out) Dn) : dOut N E0 α S H out (offD o Dn) := by
  cases out with
  | nx ρ S' =>
    cases o with
    | none => exact h
    | some i => exact fun σ H' α' st ok r => h _ H' α' st ok (r.setN i)
  | rt d S' => cases o <;> exact h
  | bk ρ S' => exact h.elim
  | ct ρ S' => exact h.elim
  | ex c v S' => exact h.elim
  | st => exact h.elim
/-- no slot is known -/
theorem rho_none {N : Nm} {H : Hp} {α : List Addr} {σ : L2.St} {m : Nat} (h : σ.length = m) : Rho N H α σ (List.replicate m none) := by
  refine ⟨by simpa using h, fun i d e => ?_⟩
  rw [List.getElem?_replicate] at e
  split at e <;> cases e
theorem wx_ok (U : Sur T N sc X fd) {k : Str} {v : D} {C dd : Addr} {w : V} {α : List Addr} {S : Sto} {H : Hp} {Dn : Ends} {σ : L2.St} (hk : k ∈ T.exs) (mC : X.mg k = some (.ref C)) (ok : StoOk (nm X fd) H α S) (ed : H dd = some (.xd [(fd k, w)])) (rw_ : Rp (nm X fd) H α w v) (len : σ.length = N.length) :
    ∀ (cls : List XCl) {l : List Cl}, Paired (PairC T N X fd) cls l → (∀ q, cls.find? (fun q => decide ((k, q.k) ∈ T.sub)) = some q → dOut (nm X fd) E0 α S H (offO q.n (xSs T.sub T.fld k v q.body (List.replicate N.length none) S)) Dn) →
      (cls.find? (fun q => decide ((k, q.k) ∈ T.sub))).isSome = true → wX X.K (fun _ _ _ _ => False) Dn l (.ref C) (some dd) σ H
  | [], _, .nil, _, z => by cases z
  | q :: r, _, .cons (b := cl) h1 t, want, some_ => by
    obtain ⟨Ka, mk, kn, lt, rfl⟩ := h1
    obtain ⟨C', m1, xf, xc, no, up⟩ := (U.xs k hk).ex
    have m1 := m1.symm.trans mC
    injection m1 with m1
    injection m1 with m1
    subst m1
    obtain ⟨Kb, m2, _, m3⟩ := up _ kn
    have m2 := m2.symm.trans mk
    injection m2 with m2
    injection m2 with m2
    subst m2
    refine ⟨_, m3, fun z a na => ?_, fun z => ?_⟩
    · have here : (q :: r).find? (fun q => decide ((k, q.k) ∈ T.sub)) = some q := by rw [List.find?_cons, z]
      refine ⟨k, v, C', dd, rfl, rfl, hk, mC, List.replicate N.length none, α, S, ⟨?_, ok, fun i e => ?_, w, ed, rw_⟩, off_out (want q here)⟩
      · refine rho_none ?_
        unfold onS
        split
        · exact len
        · rw [List.length_set]; exact len
      · rw [e]
        show (σ.set i (some (V.ref a)))[i]? = _
        rw [List.getElem?_set_self (by rw [len]; exact lt i e)]
    · have step : (q :: r).find? (fun q => decide ((k, q.k) ∈ T.sub)) = r.find? (fun q => decide ((k, q.k) ∈ T.sub)) := by rw [List.find?_cons, z]
      exact wx_ok U hk mC ok ed rw_ len r t (fun q' e => want q' (step.trans e)) (by rw [← step]; exact some_)
end
/-! ### the def that catches -/
theorem takes_len {X : Cx} {W : WX} (t : Takes X W) : Takes X (fun cls d σ H => σ.length = X.N.length → W cls d σ H) := fun u s' ⟨a, B, sI, pins, σ, H, cls, d, e, I, nb, up, sky, na, os, ag, w⟩ => t u s' ⟨a, B, sI, pins, σ, H, cls, d, e, I, nb, up, sky, na, os, ag, w I.len⟩
/-- what the first row does with the lambda's value -/
def fstQ (f : Fst) (Dn : Ends) (σ : L2.St) : VK := match f with
  | .ex => fun _ H => Dn.nx σ H
  | .st i => fun u H => Dn.nx (σ.set i (some u)) H
  | .tp i s => fun u H => ∀ p, H p = none → Dn.nx (σ.set i (some (.ref p))) (upd H p (.tup [.str s, u]))
theorem thk_ok {a : Str} {e : Expr} (h : thkC a e = true) : ∃ p1 p2, e = .Call (.Name a p1) [] [] p2 := by
  unfold thkC at h
  split at h
  · rw [of_decide_eq_true h]
    exact ⟨_, _, rfl⟩
  · cases h
section
variable {N : List Str} {sc : Scope} {X : Cx} {a : Str} {te : TE}
theorem fst_ok (eN : X.N = N) (nd : N.Nodup) (es : X.env.scope = sc) (kd : sc.kind = .function) (hf : ∀ y, X.fn y = true) (act : ∀ p1 p2, PE X (.Call (.Name a p1) [] [] p2) te) (mono : ∀ σ H Q Q', (∀ u H, Q u H → Q' u H) → te σ H Q → te σ H Q') :
    ∀ (f : Fst) {s : Stmt}, cFst N sc a f s = true → PS X s (fun Dn σ H => te σ H (fstQ f Dn σ))
  | .ex, s, h => by
    dsimp only [cFst] at h
    split at h
    · obtain ⟨p1, p2, rfl⟩ := thk_ok h
      exact ps_expr (act _ _)
    · cases h
  | .st i, s, h => by
    dsimp only [cFst] at h
    split at h
    · simp only [Bool.and_eq_true, decide_eq_true_eq] at h
      obtain ⟨⟨⟨h1, h0⟩, h2⟩, h3⟩ := h
      split at h3
      · rename_i hw
        obtain ⟨s1, s2, s3⟩ := store_ok' (X := X) eN es (fun z _ => hf z) h1
        obtain ⟨p1, p2, rfl⟩ := thk_ok h2
        exact ps_set (i := i) (by rw [eN]; exact nd) s1 s2 (act _ _) (sw_ok kd es hw) s3
      · cases h3
    · cases h
  | .tp i t, s, h => by
    dsimp only [cFst] at h
    split at h
    · simp only [Bool.and_eq_true, decide_eq_true_eq] at h
      obtain ⟨⟨⟨⟨h1, h0⟩, h2⟩, h3⟩, h4⟩ := h
      subst h2
      obtain ⟨s1, s2, s3⟩ := store_ok' (X := X) eN es (fun z _ => hf z) h1
      obtain ⟨p1, p2, rfl⟩ := thk_ok h4
      refine ⟨fun pins st σ H Dn I q => (ps_set (i := i) (by rw [eN]; exact nd) s1 s2 (pe_tup (pa_cons pe_str (pa_cons (act _ _) pa_nil (starEach_ns h3)))) rfl s3).run pins st σ H Dn I ?_⟩
      exact mono _ _ _ _ (fun u H' z => ⟨by show 2 ≤ sizeLine; decide, z⟩) q
    · cases h
end
theorem then_out {N : Nm} {α : List Addr} {S : Sto} {H : Hp} {o : Out} {F : Slots → Sto → Out} {Dn : Ends} (h : dOut N E0 α S H (oThen o F) Dn) (ok : StoOk N H α S) : dOut N E0 α S H o { Dn with nx := dS N E0 F Dn } := by
  cases o with
  | nx ρ S' => exact fun σ H' α' st ok' r => ⟨ρ, S', α', r, ok', dOut.shift ok st h⟩
  | rt d S' => exact h
  | bk ρ S' => exact h.elim
  | ct ρ S' => exact h.elim
  | ex c v S' => exact h.elim
  | st => exact h.elim
theorem noEx_le {N : Nm} {E : XK} {α : List Addr} {S : Sto} {H : Hp} {r : Res D} {Q : VK} (h : dRes N E α S H (noEx r) Q) : dRes N E α S H r Q := by
  cases r with
  | ok v S' => exact h
  | ex c v S' => exact h.elim
  | st => exact h.elim
theorem fstQ_ok {N : Nm} {α : List Addr} {S : Sto} {H : Hp} {σ : L2.St} {ρ : Slots} {u : V} {v : D} {F : Slots → Sto → Out} {Dn : Ends} (f : Fst) (ok : StoOk N H α S) (r : Rho N H α σ ρ) (ru : Rp N H α u v) (h : dOut N E0 α S H (F (f.go v ρ) S) Dn) : fstQ f { Dn with nx := dS N E0 F Dn } σ u H := by
  cases f with
  | ex => exact ⟨ρ, S, α, r, ok, h⟩
  | st i => exact ⟨_, S, α, r.set i ru, ok, h⟩
  | tp i s =>
    intro p hp
    have st : Stp α S H α S (upd H p (.tup [.str s, u])) := step_new ok hp
    refine ⟨_, S, α, (r.step ok st).set i (rp_mkT (xs := [.s s, v]) (.inl (.inl upd_same)) (.cons (.p (.str s)) (.cons (st.rp ok ru) .nil))), sto_new ok hp, dOut.shift ok st h⟩
/-- what is asked of the text around -/
structure CatAt (P : Program) (w : World) (K : PySem.W.Frag) (mg : Str → Option Value) (base : Heap) (fd : FdT) (T : Tab) (c : Ctr) : Prop where
  blt : ∀ x ∈ T.blt, mg x = none
  cst : ∀ x d, T.cst.lookup x = some d → ∃ v u, mg x = some u ∧ RelV v u ∧ ∀ H, Pd ⟨K, mg, fd⟩ H v d
  fl : ∀ C f, (C, f) ∈ T.fl → ∀ Ca, mg C = some (.ref Ca) → NoAttr K Ca f
  ef : ∀ x, fd x = T.fld x
  xs : ∀ k ∈ T.exs, XFx K mg fd T k
  kn : ∀ q ∈ T.knm, ∃ Ka : Addr, mg q = some (.ref Ka)
  ck : c.ck T = true
theorem cat_gives {P : Program} {w : World} {K : PySem.W.Frag} {mg : Str → Option Value} {base : Heap} {fd : FdT} {T : Tab} {c : Ctr} {G G' : Fns} {ga : Addr} {cdv : Value} {A : Around} {outer : List Env} {s : Shared} {H : Hp} {f : Addr} {th : Res D} {α : List Addr} {S : Sto} {Q : VK} {a : Str}
    (C : CatAt P w K mg base fd T c) (ha : c.N[0]? = some a) (h1 : ∀ v S, G c.name [v] S = c.ok T G' v S) (h2 : ∀ k v S, G c.name [.s k, v] S = c.ex T G' k v S) (ok : StoOk ⟨K, mg, fd⟩ H α S)
    (act : ∀ (W : WX) (pn : List (Addr × Obj)) (xe : Value → Shared → Prop) (E : XK) (p1 p2 : Pos), Takes ((cxOf C8.CX0 P w K mg base c.N c.name (defScope c.st) ga cdv A outer s H C8.E0).tr pn xe) W → (∀ cls d σ' H', E cls d H' → W cls d σ' H') →
        PE ((cxOf C8.CX0 P w K mg base c.N c.name (defScope c.st) ga cdv A outer s H C8.E0).tr pn xe) (.Call (.Name a p1) [] [] p2) (fun σZ HZ Q => σZ[0]? = some (some (.ref f)) ∧ HZ = H ∧ dRes ⟨K, mg, fd⟩ E α S H th Q))
    (room : Room 2 (A.deeper (envOfC c.name (defScope c.st) s.heap.objs.size ga cdv))) (gd : (A.deeper (envOfC c.name (defScope c.st) s.heap.objs.size ga cdv)).guards = some []) (sys : ∃ o, base.get? sysModules = some o)
    (want : dRes ⟨K, mg, fd⟩ C8.E0 α S H (rsdK G c.name th) Q) :
    ∃ t, PSs (cxOf C8.CX0 P w K mg base c.N c.name (defScope c.st) ga cdv A outer s H C8.E0).nox (defBody c.st) t ∧ t { nx := fun _ H' => Q .non H', rt := Q } (L2.start c.N [.ref f]) H := by
  have hck := C.ck
  unfold Ctr.ck at hck
  split at hck
  · cases hck
  rename_i a' N' eN
  rw [eN] at ha
  obtain rfl : a' = a := Option.some.inj ha
  simp only [Bool.and_eq_true] at hck
  obtain ⟨⟨g1, g2⟩, g3⟩ := hck
  have SC := scope_ok g1
  split at g3
  · rename_i s0 b hd0 hds pt r eb
    simp only [Bool.and_eq_true] at g3
    obtain ⟨⟨⟨k1, k2⟩, k3⟩, k4⟩ := g3
    rw [eb]
    have len0 : (L2.start c.N [V.ref f]).length = c.N.length := by
      unfold L2.start
      rw [eN]
      simp
    -- the contexts
    have cxt : ∀ (pn : List (Addr × Obj)) (xe : Value → Shared → Prop), Cxt T.still c.N fd C8.CX0 0 G' ((cxOf C8.CX0 P w K mg base c.N c.name (defScope c.st) ga cdv A outer s H C8.E0).tr pn xe) C8.E0 := fun pn xe =>
      ⟨⟨rfl, gd, by have := room.un; show (A.deeper (envOfC c.name (defScope c.st) s.heap.objs.size ga cdv)).units + 200 < _; omega, sys⟩, room, rfl, SC.nd, C.blt, C.cst, (fun q hq => (List.not_mem_nil hq).elim), (fun q hq => (List.not_mem_nil hq).elim), (fun q hq => (List.not_mem_nil hq).elim), (fun q hq => (List.not_mem_nil hq).elim), (fun q hq => (List.not_mem_nil hq).elim),
        (fun z => absurd (show false = true from z) Bool.false_ne_true), fun _ _ _ _ _ _ _ z => z.elim, fun _ _ _ _ _ z => z⟩
    have bod : ∀ (pn : List (Addr × Obj)) (xe : Value → Shared → Prop), PassesOwn (model P w) (A.deeper (envOfC c.name (defScope c.st) s.heap.objs.size ga cdv)) (envOfC c.name (defScope c.st) s.heap.objs.size ga cdv) xe →
        Bod T.still ((cxOf C8.CX0 P w K mg base c.N c.name (defScope c.st) ga cdv A outer s H C8.E0).tr pn xe) (defScope c.st) C8.E0 := fun pn xe own => ⟨rfl, SC.kind, fun _ => rfl, C.fl, own, fun z => absurd rfl z⟩
    have sur : Sur T c.N (defScope c.st) (cxOf C8.CX0 P w K mg base c.N c.name (defScope c.st) ga cdv A outer s H C8.E0).nox fd := ⟨rfl, SC.nd, rfl, SC.kind, fun _ => rfl, sys, C.blt, C.ef, C.xs, C.kn⟩
    obtain ⟨l, hk, pr⟩ := hdx_ok sur c.cls k3
    have rest := ok_Ss (cxt [] (fun _ _ => False)) (bod [] (fun _ _ => False) PassesOwn.never) c.rest k4
    have try_ := ps_try_x (X := (cxOf C8.CX0 P w K mg base c.N c.name (defScope c.st) ga cdv A outer s H C8.E0).nox) (body := s0 :: b) (pos := pt) (Wo := fun _ _ _ _ => False)
      (tb := fun W Dn σ H1 => σ[0]? = some (some (V.ref f)) ∧ H1 = H ∧ dRes ⟨K, mg, fd⟩ (fun cls d H' => ∀ σ' : L2.St, σ'.length = c.N.length → W cls d σ' H') α S H th (fstQ c.fst { Dn with nx := dS ⟨K, mg, fd⟩ E0 (evSs G' T.fl c.tb) Dn } σ))
      rfl rfl SC.nd LamX.takes0 (fun W pn xe tk own => ?_) hk
    · refine ⟨_, pss_cons try_ rest, ?_⟩
      refine ⟨by unfold L2.start; rw [eN]; rfl, rfl, ?_⟩
      cases th with
      | st => exact want.elim
      | ok v S1 =>
        intro u H1 α1 st ok1 ru
        have w1 := fin_out ok1 (dRes.shift ok st (noEx_le (r := G c.name [v] S1) want |> fun z => by rw [h1] at z; exact z))
        exact fstQ_ok c.fst ok1 (rho_none len0) ru (then_out w1 ok1)
      | ex k v S1 =>
        intro cls dx H1 α1 st ok1 x σ' hl
        obtain ⟨Ca, dd, w', rfl, rfl, mC, ed, rw_⟩ := x
        have w0 := noEx_le want
        rw [h2] at w0
        unfold Ctr.ex at w0
        split at w0
        · rename_i hk1
          split at w0
          · rename_i q hq
            have w1 := fin_out ok1 (dRes.shift ok st w0)
            refine wx_ok sur hk1 mC ok1 ed rw_ hl c.cls pr (fun q' e => ?_) (by rw [hq]; rfl)
            rw [hq] at e
            cases e
            exact then_out w1 ok1
          · exact w0.elim
        · exact w0.elim
    · have tb := ok_Ss (cxt pn xe) (bod pn xe own) c.tb k2
      have one := fst_ok (X := (cxOf C8.CX0 P w K mg base c.N c.name (defScope c.st) ga cdv A outer s H C8.E0).tr pn xe) (a := a') rfl SC.nd rfl SC.kind (fun _ => rfl) (act _ pn xe (fun cls d H' => ∀ σ' : L2.St, σ'.length = c.N.length → W cls d σ' H') · · (takes_len tk) (fun cls d σ' H' z hl => z σ' hl))
        (fun σ1 H1 Q1 Q2 i z => ⟨z.1, z.2.1, ?_⟩) c.fst k1
      · exact pss_cons one tb
      · have z3 := z.2.2
        cases th with
        | ok v S1 => exact fun u H2 α2 st ok2 ru => i _ _ (z3 u H2 α2 st ok2 ru)
        | ex k v S1 => exact z3
        | st => exact z3
  · cases g3
end Dl

set_option linter.all false
set_option maxRecDepth 100000
set_option maxHeartbeats 16000000
/-! Dl24: a whole text of defs: what each computes, by fuel. -/
namespace Dl
open PySem PySem.Spec PyProof.Rows L2
structure Df where
  name : Str
  st : Stmt
  ps : List Str
  N : List Str
  body : Sms
  short : Str
/-- a def by fuel; other names: as sp says -/
noncomputable def evF (defs : List Df) (fl : List (Str × Str)) (sp : Fns → Fns) : Nat → Fns
  | 0 => fun _ _ _ => .st
  | n + 1 => fun f ds S => match defs.find? (fun d => decide (d.name = f)) with
    | some d => if ds.length = d.ps.length then fin S (evSs (evF defs fl sp n) fl d.body (ds.map some ++ List.replicate (d.N.length - ds.length) none) S) else .st
    | none => sp (evF defs fl sp n) f ds S
def dfC (T : Tab) (d : Df) : Bool := scopeC d.N d.ps (defScope d.st) && cSs (T.at_ d.name) d.N (defScope d.st) d.body (defBody d.st)
/-! ### how a def stands behind the top -/
def DflOk (K : PySem.W.Frag) (mg : Str → Option Value) (fd : FdT) (dV : Value) (dfl : List PyData) : Prop := (dfl = [] ∧ dV = .none) ∨ dfl ≠ [] ∧
  ∃ (Tt : Addr) (o : Obj) (its : List Value) (n : Nat), dV = .ref Tt ∧ K.lookup Tt = some o ∧ o.data = .seq its.toArray n ∧ Paired (fun c z => ∃ v, RelV v z ∧ ∀ H, Pd ⟨K, mg, fd⟩ H v c) dfl its
structure FnAt (K : PySem.W.Frag) (mg : Str → Option Value) (fd : FdT) (d : Df) (dfl : List PyData) (f : Addr) (fdt : FuncData) : Prop where
  mgf : d.short = d.name → mg d.name = some (.ref f)
  kp : PySem.W.keepIn K (.ref f) = true
  ex : ∃ (oc : Value) (od : Option Addr) (dV kV doc pm : Value) (an : Option Addr) (cdv ct : Value) (osl : Array (Option Value)),
    fdt = PySem.W.fnOf d.short d.name (defArgs d.st) (defBody d.st) (defScope d.st) dV kV doc pm an cdv ct ∧ K.lookup f = some ⟨oc, od, .func fdt, osl⟩ ∧ PySem.W.codeIn K cdv d.name = true ∧ DflOk K mg fd dV dfl
section
variable {K : PySem.W.Frag} {mg : Str → Option Value} {fd : FdT} {d : Df} {dfl : List PyData} {f : Addr} {fdt : FuncData} {n : Nat} {ks : List Str} {arr : Arr}
/-- a def without defaults -/
theorem FnAt.bnd0 (F : FnAt K mg fd d [] f fdt) (h : ∀ (kV doc pm : Value) (an : Option Addr) (cdv ct : Value) (us ws : List Value), us.length = n → ws.length = ks.length →
    ∃ zs, bindArgs (PySem.W.fnOf d.short d.name (defArgs d.st) (defBody d.st) (defScope d.st) .none kV doc pm an cdv ct) ⟨us, ks.zip ws⟩ = pure (d.ps.zip zs) ∧ zs.length = d.ps.length ∧ Paired (OneArg K mg fd (us ++ ws)) arr zs) :
    BndOk K mg fd fdt d.ps n ks arr := by
  intro s us ws X h1 h2
  obtain ⟨oc, od, dV, kV, doc, pm, an, cdv, ct, osl, rfl, lk, hcd, hD⟩ := F.ex
  rcases hD with ⟨_, rfl⟩ | ⟨z, _⟩
  · obtain ⟨zs, e1, e2, e3⟩ := h kV doc pm an cdv ct us ws h1 h2
    exact ⟨zs, .of_eq e1, e2, e3⟩
  · exact absurd rfl z
/-- one parameter's value, defaults by their places -/
def OneArgD (dfl : List PyData) (its written : List Value) (a : Nat ⊕ PyData) (z : Value) : Prop := match a with
  | .inl k => written[k]? = some z
  | .inr c => ∃ j : Nat, dfl[j]? = some c ∧ its[j]? = some z
theorem paired_at {A B : Type} {R : A → B → Prop} : ∀ {xs : List A} {ys : List B} {j : Nat} {x : A} {y : B}, Paired R xs ys → xs[j]? = some x → ys[j]? = some y → R x y
  | _, _, 0, _, _, .cons r _, e1, e2 => by cases e1; cases e2; exact r
  | _, _, j + 1, _, _, .cons _ t, e1, e2 => paired_at t (by simpa using e1) (by simpa using e2)
theorem paired_imp {A B : Type} {R R' : A → B → Prop} (i : ∀ a b, R a b → R' a b) : ∀ {xs : List A} {ys : List B}, Paired R xs ys → Paired R' xs ys
  | _, _, .nil => .nil
  | _, _, .cons r t => .cons (i _ _ r) (paired_imp i t)
/-- a def with defaults -/
theorem FnAt.bndD (F : FnAt K mg fd d dfl f fdt) (hd : dfl ≠ []) (h : ∀ (Tt : Addr) (kV doc pm : Value) (an : Option Addr) (cdv ct : Value) (us ws its : List Value), us.length = n → ws.length = ks.length → its.length = dfl.length →
    ∃ zs k, bindArgs (PySem.W.fnOf d.short d.name (defArgs d.st) (defBody d.st) (defScope d.st) (.ref Tt) kV doc pm an cdv ct) ⟨us, ks.zip ws⟩ = seqItems? (.ref Tt) >>= k ∧ k (some its.toArray) = pure (d.ps.zip zs) ∧ zs.length = d.ps.length ∧ Paired (OneArgD dfl its (us ++ ws)) arr zs) :
    BndOk K mg fd fdt d.ps n ks arr := by
  intro s us ws X h1 h2
  obtain ⟨oc, od, dV, kV, doc, pm, an, cdv, ct, osl, rfl, lk, hcd, hD⟩ := F.ex
  rcases hD with ⟨z, _⟩ | ⟨_, Tt, o, its, m, rfl, lT, oT, pr⟩
  · exact absurd z hd
  · obtain ⟨zs, q, e1, e2, e3, e4⟩ := h Tt kV doc pm an cdv ct us ws its h1 h2 (paired_len pr).symm
    refine ⟨zs, BindsTo.of_looks fun M => ?_, e3, paired_imp (fun a z r => ?_) e4⟩
    · rw [e1]
      exact looks_items X lT oT (.of_pure e2)
    · cases a with
      | inl k => exact r
      | inr c =>
        obtain ⟨j, r1, r2⟩ := r
        have := paired_at pr r1 r2
        exact this
end
/-! ### the theorem -/
theorem find_name {defs : List Df} (nd : (defs.map (·.name)).Nodup) {d : Df} (h : d ∈ defs) : defs.find? (fun e => decide (e.name = d.name)) = some d := by
  induction defs with
  | nil => cases h
  | cons e defs ih =>
    simp only [List.map_cons, List.nodup_cons] at nd
    rw [List.find?_cons]
    rcases List.mem_cons.mp h with z | z
    · subst z
      simp
    · have ne : e.name ≠ d.name := fun q => nd.1 (by rw [q]; exact List.mem_map_of_mem z)
      simp only [ne, decide_false]
      exact ih nd.2 z
theorem rho_start {N : Nm} {H : Hp} {α : List Addr} {Ns : List Str} {vs : List V} {ds : List D} (r : RpAll N H α vs ds) : Rho N H α (L2.start Ns vs) (ds.map some ++ List.replicate (Ns.length - ds.length) none) := by
  have hl := r.length
  refine ⟨by unfold L2.start; simp [hl], fun i d e => ?_⟩
  unfold L2.start
  by_cases hi : i < ds.length
  · rw [List.getElem?_append_left (by simpa using hi), List.getElem?_map] at e
    rw [List.getElem?_append_left (by simpa [hl] using hi), List.getElem?_map]
    cases q : ds[i]? with
    | none => rw [q] at e; cases e
    | some d' =>
      rw [q] at e
      cases e
      obtain ⟨v, e1, rv⟩ := r.get q
      exact ⟨v, by rw [e1]; rfl, rv⟩
  · rw [List.getElem?_append_right (by simpa using hi), List.getElem?_replicate] at e
    split at e <;> cases e
/-- the text of defs and what stands around it -/
structure Pro (defs : List Df) (T : Tab) (sp : Fns → Fns) (P : Program) (w : World) (K : PySem.W.Frag) (mg : Str → Option Value) (base : Heap) (fd : FdT) (CX : CXT) : Prop where
  nd : (defs.map (·.name)).Nodup
  ck : ∀ d ∈ defs, dfC T d = true
  at_ : ∀ d ∈ defs, ∃ (f : Addr) (fdt : FuncData) (dfl : List PyData), FnAt K mg fd d dfl f fdt ∧ ∀ q ∈ T.shp, q.1 = d.name → d.short = d.name ∧ BndOk K mg fd fdt d.ps q.2.1 q.2.2.1 q.2.2.2
  shp : ∀ q ∈ T.shp, ∃ d ∈ defs, d.name = q.1
  mks : ∀ q ∈ T.mks, ∃ d ∈ defs, d.name = q.2.1 ∧ ∃ (f : Addr) (fdt : FuncData) (dfl : List PyData) (C : Addr), FnAt K mg fd d dfl f fdt ∧ mg q.1 = some (.ref C) ∧ Mk K C f ∧ Cls K C ∧ BndOk K mg fd fdt d.ps (q.2.2.1 + 1) [] q.2.2.2
  mth : ∀ q ∈ T.mth, ∃ d ∈ defs, d.name = q.2.2.1 ∧ ∃ (f : Addr) (fdt : FuncData) (dfl : List PyData) (C : Addr), FnAt K mg fd d dfl f fdt ∧ mg q.1 = some (.ref C) ∧ Cls K C ∧ Meth K C q.2.1 f ∧ BndOk K mg fd fdt d.ps (q.2.2.2.1 + 1) [] q.2.2.2.2
  blt : ∀ x ∈ T.blt, mg x = none
  cst : ∀ x d, T.cst.lookup x = some d → ∃ v u, mg x = some u ∧ RelV v u ∧ ∀ H, Pd ⟨K, mg, fd⟩ H v d
  fl : ∀ C f, (C, f) ∈ T.fl → ∀ Ca, mg C = some (.ref Ca) → NoAttr K Ca f
  sys : ∃ o, base.get? sysModules = some o
  exs : ∀ c ∈ T.exs, ∃ (C fI : Addr) (fdI : FuncData) (ps : List Str), mg c = some (.ref C) ∧ XCls K C ∧ PySem.W.findIn K (.ref C) (fd c) = some none ∧ PySem.W.findIn K (.ref C) "__init__" = some (some (.ref fI)) ∧ PySem.W.typeIn K (.ref fI) = some (.type "function") ∧
    FnOk P w K mg base CX 1 fI fdI ps (spI K (fd c)) ∧ Binds K fdI ps []
  tks : T.exs ≠ [] → ∀ (N : List Str) (qual : Str) (scope : Scope) (f : Addr) (cd : Value) (A : Around) (outer : List Env) (s : Shared) (H : Hp) (E : XK), Takes (cxOf CX P w K mg base N qual scope f cd A outer s H E) fun cls d _ H' => E cls d H'
  pas : ∀ (N : List Str) (qual : Str) (scope : Scope) (f : Addr) (cd : Value) (A : Around) (outer : List Env) (s : Shared) (H : Hp) (E : XK), Passes CX (cxOf CX P w K mg base N qual scope f cd A outer s H E) E
  pas0 : ∀ l H s e s', CX l H s E0 e s' → False
  cat : ∀ g ∈ T.cats, ∃ (c : Ctr) (a : Str) (f : Addr) (fdt : FuncData), c.name = g ∧ CatAt P w K mg base fd T c ∧ c.N[0]? = some a ∧ FnAt K mg fd ⟨c.name, c.st, [a], c.N, .nil, c.name⟩ [] f fdt ∧ L2.Binds K fdt [a] [] ∧ (∀ d ∈ defs, d.name ≠ g) ∧
    (∀ G v S, sp G g [v] S = c.ok T G v S) ∧ ∀ G k v S, sp G g [.s k, v] S = c.ex T G k v S
  lam : ∀ d ∈ defs, d.name ∈ T.lmk → ∀ (f : Addr) (fdt : FuncData) (dfl : List PyData), FnAt K mg fd d dfl f fdt → CX = L2.CX P w ∧ ∃ c Pt : Addr, fdt.code = .ref c ∧ LamX.TabB base mg c Pt ∧ (Pt, d.name ++ ".<locals>." ++ "<lambda>") ∈ fd.T ∧ ∀ p ∈ fd.T, p.1 = Pt → p.2 = d.name ++ ".<locals>." ++ "<lambda>"
section
variable {defs : List Df} {T : Tab} {sp : Fns → Fns} {P : Program} {w : World} {K : PySem.W.Frag} {mg : Str → Option Value} {base : Heap} {fd : FdT} {CX : CXT}
/-- so much room for so deep calls -/
def rm (n : Nat) : Nat := 3 * n + 1
/-- each def of the text keeps its promise, n calls deep -/
def Lv (defs : List Df) (P : Program) (w : World) (K : PySem.W.Frag) (mg : Str → Option Value) (base : Heap) (fd : FdT) (CX : CXT) (n : Nat) (G : Fns) : Prop :=
  ∀ d ∈ defs, ∀ (f : Addr) (fdt : FuncData) (dfl : List PyData), FnAt K mg fd d dfl f fdt → FnG P w K mg base CX (rm n) f fdt d.ps (spD ⟨K, mg, fd⟩ d.ps.length (G d.name))
theorem lv_calls (B : Pro defs T sp P w K mg base fd CX) {n : Nat} {G : Fns} (L : Lv defs P w K mg base fd CX n G) {X : Cx} (h1 : X.prog = P) (h2 : X.w = w) (h3 : X.K = K) (h4 : X.mg = mg) (h5 : X.base = base) :
    (∀ q ∈ T.shp, CallOk X fd CX (rm n) G q) ∧ (∀ q ∈ T.mks, MkOk X fd CX (rm n) G q) ∧ (∀ q ∈ T.mth, MtOk X fd CX (rm n) G q) := by
  subst h1 h2 h3 h4 h5
  refine ⟨fun q hq => ?_, fun q hq => ?_, fun q hq => ?_⟩
  · obtain ⟨d, hd, en⟩ := B.shp q hq
    obtain ⟨f, fdt, dfl, A, b⟩ := B.at_ d hd
    obtain ⟨b1, b2⟩ := b q hq en.symm
    have := L d hd f fdt dfl A
    rw [en] at this
    refine ⟨f, fdt, d.ps, this, ?_, A.kp, b2⟩
    rw [← en]
    exact A.mgf b1
  · obtain ⟨d, hd, en, f, fdt, dfl, C, A, m1, m2, m3, m4⟩ := B.mks q hq
    have := L d hd f fdt dfl A
    rw [en] at this
    exact ⟨C, f, fdt, d.ps, this, m1, m2, m3, m4⟩
  · obtain ⟨d, hd, en, f, fdt, dfl, C, A, m1, m2, m3, m4⟩ := B.mth q hq
    have := L d hd f fdt dfl A
    rw [en] at this
    exact ⟨C, f, fdt, d.ps, this, m1, m2, m3, m4⟩
theorem lv_0 : Lv defs P w K mg base fd CX 0 (evF defs T.fl sp 0) := fun d hd f fdt dfl A => ⟨fun A outer s H args us vs Q E hr e0 hb rv ⟨len, S, α, ds, ok, r, h⟩ => h.elim⟩
/-- the defs that catch, at each level -/
theorem cat_ok (B : Pro defs T sp P w K mg base fd CX) (n : Nat) : ∀ g ∈ T.cats, CatOk P w K mg base fd (evF defs T.fl sp n) g := by
  intro g hg
  obtain ⟨c, a, f, fdt, rfl, C, ha, A, hb, no, s1, s2⟩ := B.cat g hg
  obtain ⟨oc, od, dV, kV, doc, pm, an, cdv, ct, osl, rfl, lk, hcd, hD⟩ := A.ex
  have hck := C.ck
  unfold Ctr.ck at hck
  split at hck
  · cases hck
  rename_i a' N' eN
  have ha' := ha
  rw [eN] at ha'
  obtain rfl : a' = a := Option.some.inj ha'
  simp only [Bool.and_eq_true] at hck
  have SC := scope_ok hck.1.1
  obtain ⟨v1, v2, v3⟩ := vis_ok0 hck.1.2
  refine ⟨f, a', c.N, _, _, defScope c.st, dV, kV, doc, pm, cdv, ct, oc, an, od, osl, A.mgf rfl, A.kp, lk, hcd, hb, SC, ⟨ha, v1, v2, v3⟩, fun A outer s H lf th α S Q ok act room gd sys want => ?_⟩
  cases n with
  | zero =>
    cases th with
    | ok v S' => exact want.elim
    | ex k v S' => exact want.elim
    | st => exact want.elim
  | succ m =>
    have non : defs.find? (fun d => decide (d.name = c.name)) = none := by
      rw [List.find?_eq_none]
      intro d hd
      simpa using no d hd
    have eq : ∀ ds S, evF defs T.fl sp (m + 1) c.name ds S = sp (evF defs T.fl sp m) c.name ds S := fun ds S => by
      show (match defs.find? (fun d => decide (d.name = c.name)) with
        | some d => _
        | none => _) = _
      rw [non]
    exact cat_gives C ha (fun v S => (eq _ _).trans (s1 _ v S)) (fun k v S => (eq _ _).trans (s2 _ k v S)) ok act room gd sys want
/-- one more level of calls -/
theorem lv_step (B : Pro defs T sp P w K mg base fd CX) {n : Nat} (L : Lv defs P w K mg base fd CX n (evF defs T.fl sp n)) : Lv defs P w K mg base fd CX (n + 1) (evF defs T.fl sp (n + 1)) := by
  intro d hd f fdt dfl FA
  obtain ⟨oc, od, dV, kV, doc, pm, an, cdv, ct, osl, rfl, lk, hcd, hD⟩ := FA.ex
  have hc := B.ck d hd
  unfold dfC at hc
  rw [Bool.and_eq_true] at hc
  have S := scope_ok hc.1
  show FnG P w K mg base CX (rm n + 2 + 1) f _ d.ps _
  refine fn_g lk hcd S fun A outer s H vs Q E room gd len ⟨Sto, α, ds, ⟨ok, _⟩, r, h⟩ => ?_
  obtain ⟨k1, k2, k3⟩ := lv_calls B L (X := cxOf CX P w K mg base d.N d.name (defScope d.st) f cdv A outer s H E) rfl rfl rfl rfl rfl
  have C : Cxt (T.at_ d.name) d.N fd CX (rm n) (evF defs T.fl sp n) (cxOf CX P w K mg base d.N d.name (defScope d.st) f cdv A outer s H E) E :=
    ⟨⟨rfl, gd, by have := room.un; show (A.deeper (envOfC d.name (defScope d.st) s.heap.objs.size f cdv)).units + 200 < _; omega, B.sys⟩, room, rfl, S.nd, B.blt, B.cst, k1, k2, k3, fun c hc => let ⟨C, fI, fdI, ps, e1, e2, e3, e4, e5, e6, e7⟩ := B.exs c hc; ⟨C, fI, fdI, ps, e1, e2, e3, e4, e5, e6.mono (by unfold rm; omega), e7⟩, fun g hg => cat_ok B n g hg, fun z => ⟨⟨by
      obtain ⟨_, c, Pt, l1, l2, l3⟩ := B.lam d hd (of_decide_eq_true z) f _ dfl FA
      exact ⟨c, Pt, l2, l1, l3⟩⟩, (B.lam d hd (of_decide_eq_true z) f _ dfl FA).1, by unfold rm; omega⟩, B.pas _ _ _ _ _ _ _ _ _ _, B.pas0⟩
  have Bd : Bod (T.at_ d.name) (cxOf CX P w K mg base d.N d.name (defScope d.st) f cdv A outer s H E) (defScope d.st) E := ⟨rfl, S.kind, fun _ => rfl, B.fl, passes_of rfl, fun z => B.tks z _ _ _ _ _ _ _ _ _ _⟩
  refine ⟨_, ok_Ss C Bd d.body hc.2, ?_⟩
  refine ⟨_, Sto, α, rho_start r, ok, ?_⟩
  refine fin_out ok ?_
  have e : evF defs T.fl sp (n + 1) d.name ds Sto = fin Sto (evSs (evF defs T.fl sp n) T.fl d.body (ds.map some ++ List.replicate (d.N.length - ds.length) none) Sto) := by
    show (match defs.find? (fun e => decide (e.name = d.name)) with
      | some d => _
      | none => _) = _
    rw [find_name B.nd hd]
    exact if_pos (by rw [← r.length, len])
  rw [e] at h
  exact h
theorem lv_all (B : Pro defs T sp P w K mg base fd CX) : ∀ n : Nat, Lv defs P w K mg base fd CX n (evF defs T.fl sp n)
  | 0 => lv_0
  | n + 1 => lv_step B (lv_all B n)
/-- what a def of the text computes -/
theorem pro_fn (B : Pro defs T sp P w K mg base fd CX) (n : Nat) {d : Df} (hd : d ∈ defs) {f : Addr} {fdt : FuncData} {dfl : List PyData} (A : FnAt K mg fd d dfl f fdt) : FnG P w K mg base CX (rm n) f fdt d.ps (spD ⟨K, mg, fd⟩ d.ps.length (evF defs T.fl sp n d.name)) :=
  lv_all B n d hd f fdt dfl A
end
end Dl

set_option linter.all false
set_option maxRecDepth 100000
set_option maxHeartbeats 4000000
/-! Dl25: the law is called. -/
namespace Dl
open PySem PySem.Spec PyProof.Rows L2
/-- the list of some ints -/
abbrev scr (ns : List Int) : D := .p (.list (ns.map PyData.int))
theorem rp_ints {N : Nm} {H : Hp} : ∀ ns : List Int, PdAll N H (ns.map V.int) (ns.map PyData.int)
  | [] => .nil
  | n :: ns => .cons (.int n) (rp_ints ns)
section
variable {P : Program} {w : World} {K : PySem.W.Frag} {mg mb : Str → Option Value} {fd : FdT} {CX : CXT} {k : Nat} {fa a : Addr} {fdt : FuncData} {x : Str} {g : List D → Sto → Res D} {s₁ : Shared} {vs : List Value} {ns : List Int}
/-- from the abstract heap H in which the script is, and nothing besides it -/
theorem law_from {H : Hp} (inK : K.In s₁.heap) (nsG : s₁.heap.Ns mainGlobals mg) (nsB : s₁.heap.Ns builtinsNs mb) (bb : ∀ x : Str, x ≠ "__name__" → mb x = bootBuiltins x) (noL : s₁.heap.NoLimit) (see : s₁.heap.NoSeer) (gens : s₁.gens = #[])
    (at_ : s₁.heap.get? a = some { cls := .type "list", data := .seq vs.toArray }) (low : a ≠ sysModules) (room : Room k callerA)
    (F : ∀ base : Heap, K.In base → base.Ns mainGlobals mg → (∃ o, base.get? sysModules = some o) → FnG P w K mg base CX k fa fdt [x] (spD ⟨K, mg, fd⟩ 1 g)) (bnd : ∀ (s : Shared) (u : Value), BindsTo s fdt ⟨[u], []⟩ [(x, u)])
    (hg : ∃ S', g [scr ns] [] = .ok (.b true) S') (no : ∀ H e s', CX [] H s₁ E0 e s' → False)
    (tbs : LamX.Tabs fd.T H) (hL : FzL K H a (ns.map V.int)) (hok : HOk P w H s₁.heap) (only : ∀ b, H b ≠ none → b = a ∧ ∃ o, H b = some (.frz o (.lst (ns.map V.int)))) (out : H a ≠ none → K.lookup a = none) :
    codeAny (model P w) callerA (.call (.ref fa) ⟨[.ref a], []⟩) (fun r s' => r = .ok (.ret (.bool true)) ∧ OldK s₁.heap s'.heap ∧ s'.os = s₁.os ∧ AllBare s'.gens) s₁ := by
  have free : ∀ {b : Addr}, b ≠ a → H b = none := fun {b} nb => by
    cases q : H b with
    | none => rfl
    | some u => exact absurd (only b (by rw [q]; exact fun z => nomatch z)).1 nb
  have isDict : ∀ {b : Addr} {o : Obj} {es : Array DictEntry} {ep : Nat}, s₁.heap.get? b = some o → o.data = .dict es ep → H b = none := fun {b o es ep} e d => free fun z => by
    subst z
    rw [at_] at e
    cases e
    cases d
  have ns' : ∀ {b : Addr} {m : Str → Option Value}, s₁.heap.Ns b m → (hidT s₁.heap H).Ns b m := fun {b m} ⟨o, es, ep, e, d, r⟩ => ⟨o, es, ep, hidT_get e (isDict e d), d, r⟩
  have inB : K.In (hidT s₁.heap H) := fun b o e => hidT_get (inK b o e) (by
    by_cases nb : b = a
    · subst nb
      cases q : H b with
      | none => rfl
      | some u => rw [out (by rw [q]; exact fun z => nomatch z)] at e; cases e
    · exact free nb)
  have mod : Mod K mg (hidT s₁.heap H) := ⟨inB, ns' nsG, ⟨mb, ns' nsB, bb⟩, let ⟨mc, h1, h2⟩ := noL; ⟨mc, ns' h1, h2⟩⟩
  have e0 : Env0 P w K mg (hidT s₁.heap H) callerA [] s₁ H :=
    ⟨rfl, mod, fun b o e => of_hidT e, Nat.le_of_eq (hidT_size _ _), trivial, fun b hb => absurd (show b ∈ ([] : List Addr) from hb) (by simp), hok, .of_eq gens⟩
  have sys : ∃ o, (hidT s₁.heap H).get? sysModules = some o := by
    obtain ⟨mm, ⟨o, es, ep, e, d, _⟩, _⟩ := see.mods
    exact ⟨o, hidT_get e (isDict e d)⟩
  obtain ⟨S', hg⟩ := hg
  have rd : spD ⟨K, mg, fd⟩ 1 g [V.ref a] H (fun v _ => v = .bl true) E0 := by
    refine ⟨[], [], [scr ns], ⟨⟨rfl, List.nodup_nil, fun l a c h1 _ => by simp at h1, tbs⟩, rfl⟩, .cons (.p (.lst hL low (rp_ints ns))) .nil, ?_⟩
    rw [hg]
    exact fun v H' α' st ok rv => rv.bool_inv
  refine codeAny_mono ((F _ inB (ns' nsG) sys).go callerA [] s₁ H ⟨[.ref a], []⟩ [.ref a] [.ref a] _ _ ⟨room, rfl⟩ e0 (bnd s₁ (.ref a)) (.cons rfl .nil) ⟨rfl, rd⟩) fun r s' h => ?_
  cases r with
  | error e => exact (no H e s' h).elim
  | ok fl =>
    cases fl with
    | ret u =>
      obtain ⟨v, H', os, bare, un, hok', rv, q⟩ := h
      have q' : v = .bl true := q
      subst q'
      cases (show u = Value.bool true from rv)
      refine ⟨rfl, OldK.of_keep fun b o e => ?_, os, bare⟩
      cases q : H b with
      | none => exact un.keep b o e q (by intro z; exact absurd (show b ∈ ([] : List Addr) from z) (by simp)) (by simp)
      | some u =>
        obtain ⟨_, ob, z⟩ := only b (by rw [q]; exact fun z => nomatch z)
        obtain ⟨e1, _⟩ := hok b _ z
        obtain ⟨e2, _⟩ := hok' b _ (un.frzs b ob _ z)
        rw [e] at e1
        cases e1
        exact e2
    | next => exact False.elim h
    | brk => exact False.elim h
    | cont => exact False.elim h
/-- the script tracked, or the written part's own -/
theorem law_run (noT : fd.T = []) (inK : K.In s₁.heap) (nsG : s₁.heap.Ns mainGlobals mg) (nsB : s₁.heap.Ns builtinsNs mb) (bb : ∀ x : Str, x ≠ "__name__" → mb x = bootBuiltins x) (noL : s₁.heap.NoLimit) (see : s₁.heap.NoSeer) (gens : s₁.gens = #[])
    (at_ : s₁.heap.get? a = some { cls := .type "list", data := .seq vs.toArray }) (hi : IntsAre vs ns) (hl : ns.length ≤ sizeLine) (low : a ≠ sysModules) (room : Room k callerA)
    (F : ∀ base : Heap, K.In base → base.Ns mainGlobals mg → (∃ o, base.get? sysModules = some o) → FnG P w K mg base CX k fa fdt [x] (spD ⟨K, mg, fd⟩ 1 g)) (bnd : ∀ (s : Shared) (u : Value), BindsTo s fdt ⟨[u], []⟩ [(x, u)])
    (hg : ∃ S', g [scr ns] [] = .ok (.b true) S') (no : ∀ H e s', CX [] H s₁ E0 e s' → False) :
    codeAny (model P w) callerA (.call (.ref fa) ⟨[.ref a], []⟩) (fun r s' => r = .ok (.ret (.bool true)) ∧ OldK s₁.heap s'.heap ∧ s'.os = s₁.os ∧ AllBare s'.gens) s₁ := by
  have rv := vals_ints hi
  cases q : K.lookup a with
  | some o =>
    have e := inK a o q
    rw [at_] at e
    cases e
    exact law_from (H := fun _ => none) inK nsG nsB bb noL see gens at_ low room F bnd hg no (by rw [noT]; exact fun p hp => absurd hp (by simp)) (.inr ⟨vs, _, q, by rw [List.length_map]; exact hl, rv⟩) (fun b u z => nomatch z) (fun b z => absurd rfl z) fun z => absurd rfl z
  | none =>
    have one : ∀ b u, (if b = a then some (HO.frz { cls := .type "list", data := .seq vs.toArray } (.lst (ns.map V.int))) else none) = some u → b = a ∧ u = HO.frz { cls := .type "list", data := .seq vs.toArray } (.lst (ns.map V.int)) := fun b u z => by
      by_cases nb : b = a
      · rw [if_pos nb] at z
        exact ⟨nb, (Option.some.inj z).symm⟩
      · rw [if_neg nb] at z
        cases z
    refine law_from (H := fun b => if b = a then some (.frz { cls := .type "list", data := .seq vs.toArray } (.lst (ns.map V.int))) else none) inK nsG nsB bb noL see gens at_ low room F bnd hg no (by rw [noT]; exact fun p hp => absurd hp (by simp)) (.inl ⟨_, if_pos rfl⟩) (fun b u z => ?_) (fun b z => ?_) fun _ => q
    · obtain ⟨rfl, rfl⟩ := one b u z
      exact ⟨at_, by rw [List.length_map]; exact hl, vs, _, rv, at_⟩
    · cases q2 : (if b = a then some (HO.frz { cls := .type "list", data := .seq vs.toArray } (.lst (ns.map V.int))) else none) with
      | none => exact absurd q2 z
      | some u =>
        obtain ⟨h1, h2⟩ := one b u q2
        exact ⟨h1, { cls := .type "list", data := .seq vs.toArray }, by simp only [q2, h2]⟩
end
open PySem.W in
/-- the goal that the head leaves -/
theorem walk_g {l : OpenLaw} {n k : Nat} {q : Program} {loose : List Str} {XP : (Str → Option Value) → Heap → Prop} {YP : World → Heap → Prop} {d : DefRec} {K : Params → Frag} {CX : World → CXT} {x : Str} {fd : FdT} {g : List D → Sto → Res D}
    (noT : fd.T = []) (hn : l.most = some n) (hn2 : n ≤ sizeLine) (hdf : d.params.defaults = []) (hr : Room k callerA) (hi : importsNone q = true)
    (hY : ∀ (w : World) (h : Heap), YP w h → (K w.params).In h)
    (F : ∀ (w : World) (mg : Str → Option Value) (fa : Addr) (h : Heap), (K w.params).In h → h.Ns mainGlobals mg → mg d.name = some (.ref fa) →
      ∃ fdt : FuncData, (∀ (s : Shared) (u : Value), BindsTo s fdt ⟨[u], []⟩ [(x, u)]) ∧ ∀ base : Heap, (K w.params).In base → base.Ns mainGlobals mg → (∃ o, base.get? sysModules = some o) → FnG l.prog w (K w.params) mg base (CX w) k fa fdt [x] (spD ⟨K w.params, mg, fd⟩ 1 g))
    (hg : ∀ ns : List Int, ns.length ≤ n → ∃ S', g [scr ns] [] = .ok (.b true) S') (no : ∀ w H s e s', CX w [] H s E0 e s' → False) :
    WalkO q loose XP YP l.row.toRowW d [] (fun f vs => PySem.call f vs) := by
  intro w s₀ s₁ mg mb G Y fa o pm cd doc dV kV ho hd hcd hD hmg hgn args vals as hpre hlay hrd hwl hlo
  cases Dflts.none hD hdf
  cases Dflts.noKw hD
  obtain ⟨a, vs, ns, rfl, rfl, hobj, hints, hlen⟩ := Att.script_of hn hpre hwl
  have low : a ≠ sysModules := by
    cases hrd with
    | cons r1 r2 =>
      cases r1 with
      | list g1 g2 g3 g4 => exact fun z => by have := hlo a (by simp); rw [z] at this; simp at this
  obtain ⟨fdt, bnd, hF⟩ := F w mg fa _ (hY w _ Y) G.T.g hmg
  refine enter_call (codeAny_mono (law_run noT (hY w _ Y) G.T.g G.T.b G.T.builtins G.T.nolimit (G.T.seer hi) hgn hobj hints (Nat.le_trans hlen hn2) low hr hF bnd (hg ns hlen) (no w · s₁)) fun r s' hq => ?_)
  obtain ⟨rfl, h2, h3, h4⟩ := hq
  exact ⟨.inl ⟨.bool true, .bool true, [], rfl, fun _ => rfl, .bool true, Att.post_true l _, fun _ => ⟨List.Pairwise.nil, fun _ z => nomatch z⟩⟩, h2, h3, h4⟩
end Dl

set_option linter.all false
set_option maxRecDepth 100000
set_option maxHeartbeats 4000000
/-! Dl26: what the top has written, in the form the glue of a law wants. -/
namespace Dl
open PySem PySem.Spec PyProof.Rows L2
/-- exception classes' fields: none is used where no exception is caught -/
def fdN : FdT := ⟨fun _ => "thing", []⟩
def noSp : Fns → Fns := fun _ _ _ _ => .st
abbrev Item (K : PySem.W.Frag) (mg : Str → Option Value) (fd : FdT) (c : PyData) (z : Value) : Prop := ∃ v, RelV v z ∧ ∀ H, Pd ⟨K, mg, fd⟩ H v c
/-- a def among the written part -/
structure Raw (K : PySem.W.Frag) (d : Df) (dfl : List PyData) : Prop where
  ex : ∃ (f : Addr) (oc : Value) (od : Option Addr) (dV kV doc pm : Value) (an : Option Addr) (cdv ct : Value) (osl : Array (Option Value)), PySem.W.nsIn K mainGlobals d.name = some (some (.ref f)) ∧
    K.lookup f = some ⟨oc, od, .func (PySem.W.fnOf d.short d.name (defArgs d.st) (defBody d.st) (defScope d.st) dV kV doc pm an cdv ct), osl⟩ ∧ PySem.W.codeIn K cdv d.name = true ∧ PySem.W.keepIn K (.ref f) = true ∧ ∀ mg fd, DflOk K mg fd dV dfl
section
variable {K : PySem.W.Frag} {d : Df} {dfl : List PyData} {h : Heap} {mg : Str → Option Value} {fd : FdT} {f : Addr} {fdt : FuncData}
theorem raw_mk {oc kV doc pm cdv ct : Value} {od an : Option Addr} {osl : Array (Option Value)} (a : PySem.W.nsIn K mainGlobals d.name = some (some (.ref f)))
    (l : K.lookup f = some ⟨oc, od, .func (PySem.W.fnOf d.short d.name (defArgs d.st) (defBody d.st) (defScope d.st) .none kV doc pm an cdv ct), osl⟩) (c : PySem.W.codeIn K cdv d.name = true) (k : PySem.W.keepIn K (.ref f) = true) : Raw K d [] :=
  ⟨f, oc, od, .none, kV, doc, pm, an, cdv, ct, osl, a, l, c, k, fun _ _ => .inl ⟨rfl, rfl⟩⟩
theorem raw_mkD {oc kV doc pm cdv ct o2 : Value} {od an d2 : Option Addr} {osl s2 : Array (Option Value)} {Tt : Addr} {its : List Value} {n : Nat} {c0 : PyData} (a : PySem.W.nsIn K mainGlobals d.name = some (some (.ref f)))
    (l : K.lookup f = some ⟨oc, od, .func (PySem.W.fnOf d.short d.name (defArgs d.st) (defBody d.st) (defScope d.st) (.ref Tt) kV doc pm an cdv ct), osl⟩) (t : K.lookup Tt = some ⟨o2, d2, .seq its.toArray n, s2⟩)
    (p : ∀ {mg fd}, Paired (Item K mg fd) (c0 :: dfl) its) (c : PySem.W.codeIn K cdv d.name = true) (k : PySem.W.keepIn K (.ref f) = true) : Raw K d (c0 :: dfl) :=
  ⟨f, oc, od, .ref Tt, kV, doc, pm, an, cdv, ct, osl, a, l, c, k, fun _ _ => .inr ⟨by simp, Tt, _, its, n, rfl, t, rfl, p⟩⟩
theorem Raw.at_ (r : Raw K d dfl) (X : K.In h) (G : h.Ns mainGlobals mg) : ∃ f fdt, FnAt K mg fd d dfl f fdt := by
  obtain ⟨f, oc, od, dV, kV, doc, pm, an, cdv, ct, osl, a, l, c, k, e⟩ := r.ex
  exact ⟨f, _, fun _ => PySem.W.mg_of X G a, k, oc, od, dV, kV, doc, pm, an, cdv, ct, osl, rfl, l, c, e _ _⟩
/-! ### classes and methods -/
/-- a statement in a class's body -/
def inCls : Stmt → Nat → Stmt
  | .ClassDef _ _ _ body _ _ _ _ _ _ _, j => body.getD j (.Pass ⟨0, 0, 0, 0⟩)
  | _, _ => .Pass ⟨0, 0, 0, 0⟩
structure RawCls (K : PySem.W.Frag) (cn : Str) (C : Addr) : Prop where
  at_ : PySem.W.nsIn K mainGlobals cn = some (some (.ref C))
  cl : Cls K C
  makes : PySem.W.makesIn K C = true
  kp : PySem.W.keepIn K (.ref C) = true
structure RawM (K : PySem.W.Frag) (d : Df) (dfl : List PyData) (C : Addr) (m : Str) : Prop where
  ex : ∃ (f : Addr) (oc : Value) (od : Option Addr) (dV kV doc pm : Value) (an : Option Addr) (cdv ct : Value) (osl : Array (Option Value)),
    K.lookup f = some ⟨oc, od, .func (PySem.W.fnOf d.short d.name (defArgs d.st) (defBody d.st) (defScope d.st) dV kV doc pm an cdv ct), osl⟩ ∧ PySem.W.codeIn K cdv d.name = true ∧ Meth K C m f ∧ ∀ mg fd, DflOk K mg fd dV dfl
theorem rawm_mk {C : Addr} {m : Str} {oc kV doc pm cdv ct : Value} {od an : Option Addr} {osl : Array (Option Value)} (a : PySem.W.findIn K (.ref C) m = some (some (.ref f)))
    (l : K.lookup f = some ⟨oc, od, .func (PySem.W.fnOf d.short d.name (defArgs d.st) (defBody d.st) (defScope d.st) .none kV doc pm an cdv ct), osl⟩) (c : PySem.W.codeIn K cdv d.name = true) (k : PySem.W.keepIn K (.ref f) = true) (q : PySem.W.isFn K (.ref f) = true) : RawM K d [] C m :=
  ⟨f, oc, od, .none, kV, doc, pm, an, cdv, ct, osl, l, c, ⟨a, q, k⟩, fun _ _ => .inl ⟨rfl, rfl⟩⟩
theorem rawm_mkD {C : Addr} {m : Str} {oc kV doc pm cdv ct o2 : Value} {od an d2 : Option Addr} {osl s2 : Array (Option Value)} {Tt : Addr} {its : List Value} {n : Nat} {c0 : PyData} (a : PySem.W.findIn K (.ref C) m = some (some (.ref f)))
    (l : K.lookup f = some ⟨oc, od, .func (PySem.W.fnOf d.short d.name (defArgs d.st) (defBody d.st) (defScope d.st) (.ref Tt) kV doc pm an cdv ct), osl⟩) (t : K.lookup Tt = some ⟨o2, d2, .seq its.toArray n, s2⟩)
    (p : ∀ {mg fd}, Paired (Item K mg fd) (c0 :: dfl) its) (c : PySem.W.codeIn K cdv d.name = true) (k : PySem.W.keepIn K (.ref f) = true) (q : PySem.W.isFn K (.ref f) = true) : RawM K d (c0 :: dfl) C m :=
  ⟨f, oc, od, .ref Tt, kV, doc, pm, an, cdv, ct, osl, l, c, ⟨a, q, k⟩, fun _ _ => .inr ⟨by simp, Tt, _, its, n, rfl, t, rfl, p⟩⟩
theorem RawM.at_ {C : Addr} {m : Str} (r : RawM K d dfl C m) (ne : d.short ≠ d.name) : ∃ f fdt, FnAt K mg fd d dfl f fdt ∧ Meth K C m f := by
  obtain ⟨f, oc, od, dV, kV, doc, pm, an, cdv, ct, osl, l, c, k, e⟩ := r.ex
  exact ⟨f, _, ⟨fun z => absurd z ne, k.kp, oc, od, dV, kV, doc, pm, an, cdv, ct, osl, rfl, l, c, e _ _⟩, k⟩
theorem RawCls.mk_ {C f : Addr} {cn : Str} (r : RawCls K cn C) (m : Meth K C "__init__" f) : Mk K C f := ⟨r.makes, m.at_, m.fn, r.kp⟩
theorem RawCls.mg_ {C : Addr} {cn : Str} (r : RawCls K cn C) (X : K.In h) (G : h.Ns mainGlobals mg) : mg cn = some (.ref C) := PySem.W.mg_of X G r.at_
/-- the constant () -/
theorem item_unit {T : Addr} {d2 : Option Addr} {s2 : Array (Option Value)} {n : Nat} (t : K.lookup T = some ⟨.type "tuple", d2, .seq #[] n, s2⟩) : Item K mg fd (.tuple []) (.ref T) :=
  ⟨.ref T, rfl, fun _ => .tup (.inr ⟨_, #[], n, t, rfl, rfl, Nat.zero_le _, .nil⟩) .nil⟩
theorem bind_one {x : Str} (F : FnAt K mg fd d [] f fdt) (hb : ∀ (kV doc pm : Value) (an : Option Addr) (cdv ct : Value) (u : Value), bindArgs (PySem.W.fnOf d.short d.name (defArgs d.st) (defBody d.st) (defScope d.st) .none kV doc pm an cdv ct) ⟨[u], []⟩ = pure [(x, u)]) :
    ∀ (s : Shared) (u : Value), BindsTo s fdt ⟨[u], []⟩ [(x, u)] := fun s u => by
  obtain ⟨oc, od, dV, kV, doc, pm, an, cdv, ct, osl, rfl, lk, hcd, hD⟩ := F.ex
  rcases hD with ⟨_, rfl⟩ | ⟨z, _⟩
  · exact .of_eq (hb kV doc pm an cdv ct u)
  · exact absurd rfl z
/-- the shapes of a def's calls, one behind another -/
inductive ShpL (R : Str × Nat × List Str × Arr → Prop) (x : Str) : List (Str × Nat × List Str × Arr) → Prop where
  | nil : ShpL R x []
  | cons_no {q : Str × Nat × List Str × Arr} {l : List (Str × Nat × List Str × Arr)} (h : decide (q.1 = x) = false) (t : ShpL R x l) : ShpL R x (q :: l)
  | cons_yes {q : Str × Nat × List Str × Arr} {l : List (Str × Nat × List Str × Arr)} (h : R q) (t : ShpL R x l) : ShpL R x (q :: l)
theorem shp_of {R : Str × Nat × List Str × Arr → Prop} {x : Str} : ∀ (l : List (Str × Nat × List Str × Arr)), ShpL R x l → ∀ q ∈ l, q.1 = x → R q
  | _, .nil, q, hq, _ => by cases hq
  | _, .cons_no h t, q, hq, e => by
    rcases List.mem_cons.mp hq with z | z
    · subst z; exact absurd e (of_decide_eq_false h)
    · exact shp_of _ t q z e
  | _, .cons_yes h t, q, hq, e => by
    rcases List.mem_cons.mp hq with z | z
    · subst z; exact h
    · exact shp_of _ t q z e
/-! ### constants -/
structure RawC (K : PySem.W.Frag) (x : Str) (c : PyData) : Prop where
  ex : ∃ u, PySem.W.nsIn K mainGlobals x = some (some u) ∧ ∀ mg fd, Item K mg fd c u
theorem RawC.at_ {x : Str} {c : PyData} (r : RawC K x c) (X : K.In h) (G : h.Ns mainGlobals mg) : ∃ v u, mg x = some u ∧ RelV v u ∧ ∀ H, Pd ⟨K, mg, fd⟩ H v c := by
  obtain ⟨u, a, i⟩ := r.ex
  obtain ⟨v, h1, h2⟩ := i mg fd
  exact ⟨v, u, PySem.W.mg_of X G a, h1, h2⟩
theorem rawc_int {x : Str} {i : Int} {t : Tok} (a : PySem.W.nsIn K mainGlobals x = some (some (.int i t))) : RawC K x (.int i) := ⟨_, a, fun _ _ => ⟨.int i, ⟨t, rfl⟩, fun _ => .int i⟩⟩
theorem rawc_str {x : Str} {i : Str} {t : Tok} (a : PySem.W.nsIn K mainGlobals x = some (some (.str i t))) : RawC K x (.str i) := ⟨_, a, fun _ _ => ⟨.str i, ⟨t, rfl⟩, fun _ => .str i⟩⟩
theorem pd_items {mg : Str → Option Value} {fd : FdT} : ∀ {cs : List PyData} {its : List Value}, Paired (Item K mg fd) cs its → ∃ vs, Vals vs its ∧ ∀ H, PdAll ⟨K, mg, fd⟩ H vs cs
  | _, _, .nil => ⟨[], .nil, fun _ => .nil⟩
  | _, _, .cons ⟨v, h1, h2⟩ t => by
    obtain ⟨vs, e1, e2⟩ := pd_items t
    exact ⟨v :: vs, .cons h1 e1, fun H => .cons (h2 H) (e2 H)⟩
theorem rawc_tup {x : Str} {Tt : Addr} {d2 : Option Addr} {s2 : Array (Option Value)} {its : List Value} {n : Nat} {cs : List PyData} (a : PySem.W.nsIn K mainGlobals x = some (some (.ref Tt))) (t : K.lookup Tt = some ⟨.type "tuple", d2, .seq its.toArray n, s2⟩)
    (p : ∀ {mg fd}, Paired (Item K mg fd) cs its) (hz : its.length ≤ sizeLine := by decide) : RawC K x (.tuple cs) := ⟨_, a, fun mg fd => by
  obtain ⟨vs, e1, e2⟩ := pd_items (p (mg := mg) (fd := fd))
  exact ⟨.ref Tt, rfl, fun H => .tup (.inr ⟨_, its.toArray, n, t, rfl, rfl, by simpa using hz, by simpa using e1⟩) (e2 H)⟩⟩
inductive CstL (R : Str → PyData → Prop) : List (Str × PyData) → Prop where
  | nil : CstL R []
  | cons {x : Str} {d : PyData} {l : List (Str × PyData)} (h : R x d) (t : CstL R l) : CstL R ((x, d) :: l)
theorem cst_of {R : Str → PyData → Prop} : ∀ (l : List (Str × PyData)), CstL R l → ∀ x d, l.lookup x = some d → R x d
  | _, .nil, x, d, e => by cases e
  | _, .cons (x := y) h t, x, d, e => by
    rw [List.lookup_cons] at e
    by_cases z : x = y
    · subst z
      simp only [beq_self_eq_true] at e
      cases e
      exact h
    · have : (x == y) = false := by simpa using z
      rw [this] at e
      exact cst_of _ t x d e
end
end Dl

set_option linter.all false
set_option maxRecDepth 100000
set_option maxHeartbeats 4000000
/-! Dx10: the law is called, where its text makes lambdas: the tables of code objects are tracked, empty at first. -/
namespace Dl
open PySem PySem.Spec PyProof.Rows L2
/-- code objects and their tables, as the top leaves them -/
structure TbAt (h : Heap) (K : PySem.W.Frag) (cs : List (Addr × Addr)) : Prop where
  tab : ∀ p ∈ cs, h.get? p.2 = some { cls := .none, data := .fields #[] }
  out : ∀ p ∈ cs, K.lookup p.2 = none
  cd : ∀ p ∈ cs, PySem.W.CodeHd h p.1 p.2
section
variable {P : Program} {w : World} {K : PySem.W.Frag} {mg mb : Str → Option Value} {fd : FdT} {CX : CXT} {k : Nat} {fa a : Addr} {fdt : FuncData} {x : Str} {g : List D → Sto → Res D} {s₁ : Shared} {vs : List Value} {ns : List Int} {cs : List (Addr × Addr)}
/-- what stands around the call -/
structure Gnd (K : PySem.W.Frag) (mg mb : Str → Option Value) (cs : List (Addr × Addr)) (a : Addr) (vs : List Value) (s₁ : Shared) : Prop where
  inK : K.In s₁.heap
  nsG : s₁.heap.Ns mainGlobals mg
  nsB : s₁.heap.Ns builtinsNs mb
  bb : ∀ x : Str, x ≠ "__name__" → mb x = bootBuiltins x
  noL : s₁.heap.NoLimit
  see : s₁.heap.NoSeer
  gens : s₁.gens = #[]
  at_ : s₁.heap.get? a = some { cls := .type "list", data := .seq vs.toArray }
  low : a ≠ sysModules
  tbs : TbAt s₁.heap K cs
  bm : ∃ (bm : Addr) (ob : Obj), mg "__builtins__" = some (.ref bm) ∧ bm ≠ builtinsNs ∧ s₁.heap.get? bm = some ob ∧ ob.cls = .type "module" ∧ ob.dict = some builtinsNs ∧ ob.data = .plain
/-- what is tracked at the start -/
def OnlyT (cs : List (Addr × Addr)) (a : Addr) (ns : List Int) (H : Hp) : Prop := ∀ b u, H b = some u → (b = a ∧ ∃ o, u = .frz o (.lst (ns.map V.int))) ∨ (b ∈ cs.map (·.2) ∧ u = .tbl #[])
theorem Gnd.tabAt (G : Gnd K mg mb cs a vs s₁) {b : Addr} (h : b ∈ cs.map (·.2)) : s₁.heap.get? b = some { cls := .none, data := .fields #[] } := by
  obtain ⟨p, hp, rfl⟩ := List.mem_map.mp h
  exact G.tbs.tab p hp
/-- neither the script nor a table: not tracked -/
theorem Gnd.off (G : Gnd K mg mb cs a vs s₁) {H : Hp} (only : OnlyT cs a ns H) {b : Addr} {o : Obj} (e : s₁.heap.get? b = some o) (h1 : o.data ≠ .seq vs.toArray) (h2 : o.data ≠ .fields #[]) : H b = none := by
  cases q : H b with
  | none => rfl
  | some u =>
    rcases only b u q with ⟨rfl, _⟩ | ⟨m, _⟩
    · rw [G.at_] at e
      cases e
      exact (h1 rfl).elim
    · rw [G.tabAt m] at e
      cases e
      exact (h2 rfl).elim
theorem law_fromT {H : Hp} (G : Gnd K mg mb cs a vs s₁) (room : Room k callerA)
    (F : ∀ base : Heap, K.In base → base.Ns mainGlobals mg → (∃ o, base.get? sysModules = some o) → (∀ p ∈ cs, LamX.TabB base mg p.1 p.2) → FnG P w K mg base CX k fa fdt [x] (spD ⟨K, mg, fd⟩ 1 g)) (bnd : ∀ (s : Shared) (u : Value), BindsTo s fdt ⟨[u], []⟩ [(x, u)])
    (hg : ∃ S', g [scr ns] [] = .ok (.b true) S') (no : ∀ H e s', CX [] H s₁ E0 e s' → False)
    (fdT : ∀ p ∈ fd.T, p.1 ∈ cs.map (·.2)) (hT : ∀ b ∈ cs.map (·.2), H b = some (.tbl #[])) (hL : FzL K H a (ns.map V.int)) (hok : HOk P w H s₁.heap) (only : OnlyT cs a ns H) (out : H a ≠ none → K.lookup a = none) :
    codeAny (model P w) callerA (.call (.ref fa) ⟨[.ref a], []⟩) (fun r s' => r = .ok (.ret (.bool true)) ∧ OldK s₁.heap s'.heap ∧ s'.os = s₁.os ∧ AllBare s'.gens) s₁ := by
  have dictOff : ∀ {b : Addr} {o : Obj} {es : Array DictEntry} {ep : Nat}, s₁.heap.get? b = some o → o.data = .dict es ep → H b = none := fun {b o es ep} e d =>
    G.off only e (fun z => by rw [d] at z; cases z) fun z => by rw [d] at z; cases z
  have keepN : ∀ {b : Addr} {m : Str → Option Value}, s₁.heap.Ns b m → (hidT s₁.heap H).Ns b m := fun {b m} ⟨o, es, ep, e, d, r⟩ => ⟨o, es, ep, hidT_get e (dictOff e d), d, r⟩
  have inB : K.In (hidT s₁.heap H) := fun b o e => hidT_get (G.inK b o e) (by
    cases q : H b with
    | none => rfl
    | some u =>
      rcases only b u q with ⟨rfl, _⟩ | ⟨m, _⟩
      · rw [out (by rw [q]; exact fun z => nomatch z)] at e; cases e
      · obtain ⟨p, hp, rfl⟩ := List.mem_map.mp m
        rw [G.tbs.out p hp] at e; cases e)
  have mod : Mod K mg (hidT s₁.heap H) := ⟨inB, keepN G.nsG, ⟨mb, keepN G.nsB, G.bb⟩, let ⟨mc, h1, h2⟩ := G.noL; ⟨mc, keepN h1, h2⟩⟩
  have e0 : Env0 P w K mg (hidT s₁.heap H) callerA [] s₁ H :=
    ⟨rfl, mod, fun b o e => of_hidT e, Nat.le_of_eq (hidT_size _ _), trivial, fun b hb => absurd (show b ∈ ([] : List Addr) from hb) (by simp), hok, .of_eq G.gens⟩
  have sys : ∃ o, (hidT s₁.heap H).get? sysModules = some o := by
    obtain ⟨mm, ⟨o, es, ep, e, d, _⟩, _⟩ := G.see.mods
    exact ⟨o, hidT_get e (dictOff e d)⟩
  have tbB : ∀ p ∈ cs, LamX.TabB (hidT s₁.heap H) mg p.1 p.2 := fun p hp => by
    have tp := G.tbs.tab p hp
    refine ⟨?_, ?_, fun z => ?_⟩
    · obtain ⟨o, us, file, tf, flags, tg, inF, text, tt, e1, c1, c2, c3, c4⟩ := G.tbs.cd p hp
      refine ⟨o, us, file, tf, flags, tg, inF, text, tt, hidT_get e1 (G.off only e1 (fun z => by rw [c2] at z; cases z) fun z => ?_), c1, c2, c3, c4⟩
      rw [c2] at z
      cases z
      simp at c3
    · obtain ⟨bm, ob, b1, b2, b3, b4, b5, b6⟩ := G.bm
      refine ⟨bm, ob, b1, b2, fun q => ?_, fun q => ?_, hidT_get b3 (G.off only b3 (fun z => by rw [b6] at z; cases z) fun z => by rw [b6] at z; cases z), b4, b5, b6⟩
      · obtain ⟨o, es, ep, e, d, _⟩ := G.nsG
        rw [q, e] at b3
        cases b3
        rw [d] at b6
        cases b6
      · rw [q, tp] at b3
        cases b3
        cases b6
    · obtain ⟨o, es, ep, e, d, _⟩ := G.nsG
      rw [z, tp] at e
      cases e
      cases d
  obtain ⟨S', hg⟩ := hg
  have tbs : LamX.Tabs fd.T H := fun p hp => .nil (hT _ (fdT p hp))
  have rd : spD ⟨K, mg, fd⟩ 1 g [V.ref a] H (fun v _ => v = .bl true) E0 := by
    refine ⟨[], [], [scr ns], ⟨⟨rfl, List.nodup_nil, fun l a c h1 _ => by simp at h1, tbs⟩, rfl⟩, .cons (.p (.lst hL G.low (rp_ints ns))) .nil, ?_⟩
    rw [hg]
    exact fun v H' α' st ok rv => rv.bool_inv
  refine codeAny_mono ((F _ inB (keepN G.nsG) sys tbB).go callerA [] s₁ H ⟨[.ref a], []⟩ [.ref a] [.ref a] _ _ ⟨room, rfl⟩ e0 (bnd s₁ (.ref a)) (.cons rfl .nil) ⟨rfl, rd⟩) fun r s' h => ?_
  cases r with
  | error e => exact (no H e s' h).elim
  | ok fl =>
    cases fl with
    | ret u =>
      obtain ⟨v, H', os, bare, un, hok', rv, q⟩ := h
      have q' : v = .bl true := q
      subst q'
      cases (show u = Value.bool true from rv)
      have more : ∀ b ∈ cs.map (·.2), ∃ qs : Array Value, s'.heap.get? b = some { cls := .none, data := .fields qs } := fun b hb => by
        obtain ⟨qs, e⟩ := un.tbls b #[] (hT b hb)
        exact ⟨_, hok' b _ e⟩
      have kept : ∀ b o, b ∉ cs.map (·.2) → s₁.heap.get? b = some o → s'.heap.get? b = some o := fun b o nb e => by
        cases q : H b with
        | none => exact un.keep b o e q (by intro z; exact absurd (show b ∈ ([] : List Addr) from z) (by simp)) (by simp)
        | some u =>
          rcases only b u q with ⟨rfl, ob, rfl⟩ | ⟨m, _⟩
          · obtain ⟨e1, _⟩ := hok b _ q
            obtain ⟨e2, _⟩ := hok' b _ (un.frzs b ob _ q)
            rw [e] at e1
            cases e1
            exact e2
          · exact absurd m nb
      refine ⟨rfl, ⟨fun b o e => ?_, fun b o e => ?_⟩, os, bare⟩
      · by_cases m : b ∈ cs.map (·.2)
        · obtain ⟨qs, e2⟩ := more b m
          have e1 := G.tabAt m
          rw [e] at e1
          cases e1
          obtain ⟨p, hp, rfl⟩ := List.mem_map.mp m
          exact .inr (.inl ⟨((G.tbs.cd p hp).tab (G.tbs.tab p hp)).isCodeTable, rfl, #[], qs, rfl, by rw [Array.empty_append]; exact e2⟩)
        · exact .inl (kept b o m e)
      · by_cases m : b ∈ cs.map (·.2)
        · obtain ⟨qs, e2⟩ := more b m
          exact ⟨_, e2⟩
        · exact ⟨o, kept b o m e⟩
    | next => exact False.elim h
    | brk => exact False.elim h
    | cont => exact False.elim h
/-- the script tracked, or the written part's own -/
theorem law_runT (G : Gnd K mg mb cs a vs s₁) (hi : IntsAre vs ns) (hl : ns.length ≤ sizeLine) (room : Room k callerA)
    (F : ∀ base : Heap, K.In base → base.Ns mainGlobals mg → (∃ o, base.get? sysModules = some o) → (∀ p ∈ cs, LamX.TabB base mg p.1 p.2) → FnG P w K mg base CX k fa fdt [x] (spD ⟨K, mg, fd⟩ 1 g)) (bnd : ∀ (s : Shared) (u : Value), BindsTo s fdt ⟨[u], []⟩ [(x, u)])
    (hg : ∃ S', g [scr ns] [] = .ok (.b true) S') (no : ∀ H e s', CX [] H s₁ E0 e s' → False) (fdT : ∀ p ∈ fd.T, p.1 ∈ cs.map (·.2)) :
    codeAny (model P w) callerA (.call (.ref fa) ⟨[.ref a], []⟩) (fun r s' => r = .ok (.ret (.bool true)) ∧ OldK s₁.heap s'.heap ∧ s'.os = s₁.os ∧ AllBare s'.gens) s₁ := by
  have rv := vals_ints hi
  have na : a ∉ cs.map (·.2) := fun z => by
    have q := G.tabAt z
    rw [G.at_] at q
    cases q
  cases q : K.lookup a with
  | some o =>
    have e := G.inK a o q
    rw [G.at_] at e
    cases e
    have on : ∀ b u, (if b ∈ cs.map (·.2) then some (HO.tbl #[]) else none) = some u → b ∈ cs.map (·.2) ∧ u = HO.tbl #[] := fun b u z => by
      by_cases m : b ∈ cs.map (·.2)
      · rw [if_pos m] at z
        exact ⟨m, (Option.some.inj z).symm⟩
      · rw [if_neg m] at z
        cases z
    refine law_fromT (H := fun b => if b ∈ cs.map (·.2) then some (.tbl #[]) else none) G room F bnd hg no fdT (fun b hb => if_pos hb) (.inr ⟨vs, _, q, by rw [List.length_map]; exact hl, rv⟩) (fun b u z => ?_) (fun b u z => .inr (on b u z)) fun z => absurd (if_neg na) z
    obtain ⟨m, rfl⟩ := on b u z
    exact G.tabAt m
  | none =>
    have on : ∀ b u, (if b = a then some (HO.frz { cls := .type "list", data := .seq vs.toArray } (.lst (ns.map V.int))) else if b ∈ cs.map (·.2) then some (HO.tbl #[]) else none) = some u →
        (b = a ∧ u = HO.frz { cls := .type "list", data := .seq vs.toArray } (.lst (ns.map V.int))) ∨ (b ∈ cs.map (·.2) ∧ u = HO.tbl #[]) := fun b u z => by
      by_cases nb : b = a
      · rw [if_pos nb] at z
        exact .inl ⟨nb, (Option.some.inj z).symm⟩
      · rw [if_neg nb] at z
        by_cases m : b ∈ cs.map (·.2)
        · rw [if_pos m] at z
          exact .inr ⟨m, (Option.some.inj z).symm⟩
        · rw [if_neg m] at z
          cases z
    refine law_fromT (H := fun b => if b = a then some (.frz { cls := .type "list", data := .seq vs.toArray } (.lst (ns.map V.int))) else if b ∈ cs.map (·.2) then some (.tbl #[]) else none) G room F bnd hg no fdT
      (fun b hb => (if_neg (fun z => na (by rw [← z]; exact hb))).trans (if_pos hb)) (.inl ⟨_, if_pos rfl⟩) (fun b u z => ?_) (fun b u z => ?_) fun _ => q
    · rcases on b u z with ⟨rfl, rfl⟩ | ⟨m, rfl⟩
      · exact ⟨G.at_, by rw [List.length_map]; exact hl, vs, _, rv, G.at_⟩
      · exact G.tabAt m
    · rcases on b u z with ⟨h1, h2⟩ | h
      · exact .inl ⟨h1, _, h2⟩
      · exact .inr h
end
open PySem.W in
/-- the goal that the head leaves -/
theorem walk_gT {l : OpenLaw} {n k : Nat} {q : Program} {loose : List Str} {XP : (Str → Option Value) → Heap → Prop} {YP : World → Heap → Prop} {d : DefRec} {K : Params → Frag} {CX : World → CXT} {x : Str} {fd : FdT} {g : List D → Sto → Res D}
    (cs : List (Addr × Addr)) (fdT : ∀ p ∈ fd.T, p.1 ∈ cs.map (·.2)) (hn : l.most = some n) (hn2 : n ≤ sizeLine) (hdf : d.params.defaults = []) (hr : Room k callerA) (hi : importsNone q = true)
    (hY : ∀ (w : World) (h : Heap), YP w h → (K w.params).In h) (hT : ∀ (w : World) (h : Heap), YP w h → TbAt h (K w.params) cs)
    (F : ∀ (w : World) (mg : Str → Option Value) (fa : Addr) (h : Heap), (K w.params).In h → h.Ns mainGlobals mg → mg d.name = some (.ref fa) →
      ∃ fdt : FuncData, (∀ (s : Shared) (u : Value), BindsTo s fdt ⟨[u], []⟩ [(x, u)]) ∧ ∀ base : Heap, (K w.params).In base → base.Ns mainGlobals mg → (∃ o, base.get? sysModules = some o) → (∀ p ∈ cs, LamX.TabB base mg p.1 p.2) → FnG l.prog w (K w.params) mg base (CX w) k fa fdt [x] (spD ⟨K w.params, mg, fd⟩ 1 g))
    (hg : ∀ ns : List Int, ns.length ≤ n → ∃ S', g [scr ns] [] = .ok (.b true) S') (no : ∀ w H s e s', CX w [] H s E0 e s' → False) :
    WalkO q loose XP YP l.row.toRowW d [] (fun f vs => PySem.call f vs) := by
  intro w s₀ s₁ mg mb G Y fa o pm cd doc dV kV ho hd hcd hD hmg hgn args vals as hpre hlay hrd hwl hlo
  cases Dflts.none hD hdf
  cases Dflts.noKw hD
  obtain ⟨a, vs, ns, rfl, rfl, hobj, hints, hlen⟩ := Att.script_of hn hpre hwl
  have low : a ≠ sysModules := by
    cases hrd with
    | cons r1 r2 =>
      cases r1 with
      | list g1 g2 g3 g4 => exact fun z => by have := hlo a (by simp); rw [z] at this; simp at this
  obtain ⟨fdt, bnd, hF⟩ := F w mg fa _ (hY w _ Y) G.T.g hmg
  refine enter_call (codeAny_mono (law_runT ⟨hY w _ Y, G.T.g, G.T.b, G.T.builtins, G.T.nolimit, G.T.seer hi, hgn, hobj, low, hT w _ Y, G.T.bmain⟩ hints (Nat.le_trans hlen hn2) hr hF bnd (hg ns hlen) (no w · s₁) fdT) fun r s' hq => ?_)
  obtain ⟨rfl, h2, h3, h4⟩ := hq
  exact ⟨.inl ⟨.bool true, .bool true, [], rfl, fun _ => rfl, .bool true, Att.post_true l _, fun _ => ⟨List.Pairwise.nil, fun _ z => nomatch z⟩⟩, h2, h3, h4⟩
end Dl

set_option linter.all false
set_option maxRecDepth 100000
set_option maxHeartbeats 4000000
/-! Dx11: exception classes, catchers and makers of lambdas, as the top has written them. -/
namespace Dl
open PySem PySem.Spec PyProof.Rows L2
/-- a class that is raised, with its own __init__ dI that stores its one argument as f -/
structure RawX (K : PySem.W.Frag) (c f : Str) (C : Addr) : Prop where
  at_ : PySem.W.nsIn K mainGlobals c = some (some (.ref C))
  cls : XCls K C
  no : PySem.W.findIn K (.ref C) f = some none
  xf : XfC K C
  xc : ExcC K C
  ini : ∃ (fI : Addr) (fdI : FuncData) (ps : List Str), PySem.W.findIn K (.ref C) "__init__" = some (some (.ref fI)) ∧ PySem.W.typeIn K (.ref fI) = some (.type "function") ∧ (∀ P w mg base CX, FnOk P w K mg base CX 1 fI fdI ps (spI K f)) ∧ L2.Binds K fdI ps []
/-- the __init__'s text -/
def initC (f : Str) (d : Df) : Bool := match d.ps with
  | [p1, p2] => scopeC [p1, p2] [p1, p2] (defScope d.st) && visC (defScope d.st) p1 && visC (defScope d.st) p2 && (match defBody d.st with
    | [.Assign [.Attribute (.Name a _) g _] (.Name b _) _] => decide (a = p1) && decide (b = p2) && decide (g = f)
    | _ => false)
  | _ => false
section
variable {K : PySem.W.Frag} {c f : Str} {C fI : Addr} {dI : Df}
theorem rawx_mk {nm q : Str} {N : Addr} {bs bm : List Value} {sn : List Str} {sub : List Value} {ab : Bool} {col : Option Bool} {dd : Option Addr} {k0 k1 k2 k3 k5 : Option Value} {oc kV doc pm cdv ct : Value} {od an : Option Addr} {osl : Array (Option Value)}
    (a : PySem.W.nsIn K mainGlobals c = some (some (.ref C))) (o : K.lookup C = some (excClassObj nm q C N bs bm true sn sub ab col dd k0 k1 k2 k3 k5 "Exception.__new__"))
    (sa : PySem.W.findIn K (.ref C) "__setattr__" = some (some (.builtin "object.__setattr__"))) (ib : PySem.W.subIn K (.ref C) (.type "BaseException") = some true) (ty : PySem.W.typeIn K (.ref C) = some (.type "type")) (kp : PySem.W.keepIn K (.ref C) = true)
    (no : PySem.W.findIn K (.ref C) f = some none) (ga : PySem.W.findIn K (.ref C) "__getattribute__" = some (some (.builtin "BaseException.__getattribute__"))) (gg : PySem.W.findIn K (.ref C) "__getattr__" = some none) (hd : PySem.W.hasDictIn K C = true)
    (ha : PySem.W.findIn K (.ref C) "__class__" = some (some (.builtin "object.__class__"))) (hn : PySem.W.specialIn K (.builtin "object.__class__") "__get__" = some (some (.builtin "getset_descriptor.__get__"))) (ht : PySem.W.takesIn K (.builtin "object.__class__") = some true) (hm : PySem.W.mroIn K C (.type "object") = some true)
    (ii : PySem.W.findIn K (.ref C) "__init__" = some (some (.ref fI))) (ti : PySem.W.typeIn K (.ref fI) = some (.type "function"))
    (lI : K.lookup fI = some ⟨oc, od, .func (PySem.W.fnOf dI.short dI.name (defArgs dI.st) (defBody dI.st) (defScope dI.st) .none kV doc pm an cdv ct), osl⟩) (cI : PySem.W.codeIn K cdv dI.name = true)
    (mr : XMro bm) (ck : initC f dI = true) (bn : ∀ (kV doc pm : Value) (an : Option Addr) (cdv ct : Value) (us : List Value), us.length = dI.ps.length → bindArgs (PySem.W.fnOf dI.short dI.name (defArgs dI.st) (defBody dI.st) (defScope dI.st) .none kV doc pm an cdv ct) ⟨us, []⟩ = pure (dI.ps.zip us)) : RawX K c f C := by
  refine ⟨a, ⟨⟨nm, q, N, bs, bm, sn, sub, ab, col, dd, k0, k1, k2, k3, k5, o, mr⟩, sa, ib, ty, kp⟩, no, ⟨ga, gg, ib, hd⟩, ⟨ga, gg, ib, hd, ha, hn, ht, hm⟩, fI, _, dI.ps, ii, ti, fun P w mg base CX => ?_, .all fun us hu => bn kV doc pm an cdv ct us hu⟩
  unfold initC at ck
  split at ck
  · rename_i p1 p2 ep
    simp only [Bool.and_eq_true] at ck
    obtain ⟨⟨⟨c1, c2⟩, c3⟩, c4⟩ := ck
    split at c4
    · rename_i a0 q1 g0 q2 b0 q3 q4 eb
      simp only [Bool.and_eq_true, decide_eq_true_eq] at c4
      obtain ⟨⟨rfl, rfl⟩, rfl⟩ := c4
      rw [ep]
      rw [eb] at lI ⊢
      obtain ⟨v1, n1, m1⟩ := vis_ok0 c2
      obtain ⟨v2, n2, m2⟩ := vis_ok0 c3
      exact init_x (k := 0) lI cI (scope_ok c1) v1 v2 n1 n2 m1 m2
    · cases c4
  · cases ck
/-- the class, its fields and what stands above it -/
theorem RawX.fx {mg : Str → Option Value} {h : Heap} {fd : FdT} {T : Tab} (r : RawX K c f C) (X : K.In h) (G : h.Ns mainGlobals mg) (ef : fd c = f) (up : ∀ q ∈ T.knm, ∃ Ka : Addr, PySem.W.nsIn K mainGlobals q = some (some (.ref Ka)) ∧ PySem.W.kitOne K (.ref C) (.ref Ka) = some (decide ((c, q) ∈ T.sub)) ∧ PySem.W.exmOne K (.ref C) (.ref Ka) = some (decide ((c, q) ∈ T.sub))) :
    XFx K mg fd T c := ⟨C, PySem.W.mg_of X G r.at_, r.xf, r.xc, by rw [ef]; exact r.no, fun q hq => let ⟨Ka, h1, h2, h3⟩ := up q hq; ⟨Ka, PySem.W.mg_of X G h1, h2, h3⟩⟩
end
/-- a maker of lambdas: its code object -/
structure RawL (K : PySem.W.Frag) (d : Df) (c : Addr) : Prop where
  ex : ∃ (f : Addr) (oc : Value) (od : Option Addr) (dV kV doc pm : Value) (an : Option Addr) (ct : Value) (osl : Array (Option Value)), PySem.W.nsIn K mainGlobals d.name = some (some (.ref f)) ∧
    K.lookup f = some ⟨oc, od, .func (PySem.W.fnOf d.short d.name (defArgs d.st) (defBody d.st) (defScope d.st) dV kV doc pm an (.ref c) ct), osl⟩
section
variable {K : PySem.W.Frag} {d : Df} {c f : Addr} {h : Heap} {mg : Str → Option Value} {fd : FdT} {dfl : List PyData} {fdt : FuncData}
theorem rawl_mk {oc dV kV doc pm ct : Value} {od an : Option Addr} {osl : Array (Option Value)} (a : PySem.W.nsIn K mainGlobals d.name = some (some (.ref f)))
    (l : K.lookup f = some ⟨oc, od, .func (PySem.W.fnOf d.short d.name (defArgs d.st) (defBody d.st) (defScope d.st) dV kV doc pm an (.ref c) ct), osl⟩) : RawL K d c := ⟨f, oc, od, dV, kV, doc, pm, an, ct, osl, a, l⟩
theorem RawL.code (r : RawL K d c) (X : K.In h) (G : h.Ns mainGlobals mg) (e : d.short = d.name) (A : FnAt K mg fd d dfl f fdt) : fdt.code = .ref c := by
  obtain ⟨f', oc, od, dV, kV, doc, pm, an, ct, osl, a, l⟩ := r.ex
  have e1 := (PySem.W.mg_of X G a).symm.trans (A.mgf e)
  injection e1 with e1
  injection e1 with e1
  subst e1
  obtain ⟨oc2, od2, dV2, kV2, doc2, pm2, an2, cdv2, ct2, osl2, rfl, l2, _⟩ := A.ex
  rw [l] at l2
  injection l2 with l2
  injection l2 with _ _ l2 _
  injection l2 with l2
  rw [← l2]
/-- the tables, by the makers' names -/
def lamT (cs : List (Addr × Addr)) (ns : List Str) : List (Addr × Str) := (cs.map (·.2)).zip (ns.map fun n => n ++ ".<locals>." ++ "<lambda>")
theorem lamT_fst {cs : List (Addr × Addr)} {ns : List Str} : ∀ p ∈ lamT cs ns, p.1 ∈ cs.map (·.2) := fun p hp => (List.of_mem_zip hp).1
theorem zip_uniq {A B : Type} : ∀ {xs : List A} {ys : List B} {x : A} {y y' : B}, xs.Nodup → (x, y) ∈ xs.zip ys → (x, y') ∈ xs.zip ys → y = y'
  | [], _, _, _, _, _, h, _ => by simp at h
  | _ :: _, [], _, _, _, _, h, _ => by simp at h
  | a :: xs, b :: ys, x, y, y', nd, h, h' => by
    rw [List.zip_cons_cons] at h h'
    have nd' := List.nodup_cons.mp nd
    rcases List.mem_cons.mp h with e | h <;> rcases List.mem_cons.mp h' with e' | h'
    · cases e; cases e'; rfl
    · cases e; exact absurd (List.of_mem_zip h').1 nd'.1
    · cases e'; exact absurd (List.of_mem_zip h).1 nd'.1
    · exact zip_uniq nd'.2 h h'
theorem lamT_one {cs : List (Addr × Addr)} {ns : List Str} (nd : (cs.map (·.2)).Nodup) {Pt : Addr} {q : Str} (h : (Pt, q) ∈ lamT cs ns) : ∀ p ∈ lamT cs ns, p.1 = Pt → p.2 = q := fun p hp e => by
  obtain ⟨a, b⟩ := p
  cases e
  exact zip_uniq nd hp h
/-- what a maker needs -/
theorem lam_at {cs : List (Addr × Addr)} {ns : List Str} {base : Heap} {Pt : Addr} {P : Program} {w : World} {fl : Str → Str} (r : RawL K d c) (X : K.In h) (G : h.Ns mainGlobals mg) (e : d.short = d.name) (A : FnAt K mg fd d dfl f fdt) (nd : (cs.map (·.2)).Nodup) (tb : LamX.TabB base mg c Pt) (mem : (Pt, d.name ++ ".<locals>." ++ "<lambda>") ∈ lamT cs ns) :
    L2.CX P w = L2.CX P w ∧ ∃ c Pt : Addr, fdt.code = .ref c ∧ LamX.TabB base mg c Pt ∧ (Pt, d.name ++ ".<locals>." ++ "<lambda>") ∈ (FdT.mk fl (lamT cs ns)).T ∧ ∀ p ∈ (FdT.mk fl (lamT cs ns)).T, p.1 = Pt → p.2 = d.name ++ ".<locals>." ++ "<lambda>" :=
  ⟨rfl, c, Pt, r.code X G e A, tb, mem, lamT_one nd mem⟩
theorem FnAt.binds {d : Df} (F : FnAt K mg fd d [] f fdt) (h : ∀ (kV doc pm : Value) (an : Option Addr) (cdv ct : Value) (us : List Value), us.length = d.ps.length → bindArgs (PySem.W.fnOf d.short d.name (defArgs d.st) (defBody d.st) (defScope d.st) .none kV doc pm an cdv ct) ⟨us, []⟩ = pure (d.ps.zip us)) : L2.Binds K fdt d.ps [] := by
  obtain ⟨oc, od, dV, kV, doc, pm, an, cdv, ct, osl, rfl, lk, hcd, hD⟩ := F.ex
  rcases hD with ⟨_, rfl⟩ | ⟨z, _⟩
  · exact .all fun us hu => h kV doc pm an cdv ct us hu
  · exact absurd rfl z
end
theorem cx_tks {P : Program} {w : World} {K : PySem.W.Frag} {mg : Str → Option Value} {base : Heap} (N : List Str) (qual : Str) (scope : Scope) (f : Addr) (cd : Value) (A : Around) (outer : List Env) (s : Shared) (H : Hp) (E : XK) : Takes (cxOf (L2.CX P w) P w K mg base N qual scope f cd A outer s H E) fun cls d _ H' => E cls d H' :=
  takes_of rfl rfl rfl rfl
theorem cx_pas {P : Program} {w : World} {K : PySem.W.Frag} {mg : Str → Option Value} {base : Heap} (N : List Str) (qual : Str) (scope : Scope) (f : Addr) (cd : Value) (A : Around) (outer : List Env) (s : Shared) (H : Hp) (E : XK) : Passes (L2.CX P w) (cxOf (L2.CX P w) P w K mg base N qual scope f cd A outer s H E) E :=
  passes_call (cx_tks N qual scope f cd A outer s H E) fun _ _ _ _ z => z
theorem cx_no {P : Program} {w : World} (l : List Env) (H : Hp) (s : Shared) (e : Value) (s' : Shared) (h : L2.CX P w l H s E0 e s') : False := by
  obtain ⟨_, _, _, _, _, _, _, _, _, _, _, _, z⟩ := h
  exact z
theorem tbat_nil {h : Heap} {K : PySem.W.Frag} : TbAt h K [] := ⟨fun p hp => by simp at hp, fun p hp => by simp at hp, fun p hp => by simp at hp⟩
/-- the def named n makes lambdas: its code object at c, the table at P -/
theorem tbat_cons {h : Heap} {K : PySem.W.Frag} {f c P : Addr} {cs : List (Addr × Addr)} {vs : Array Value} {oc : Value} {od od2 : Option Addr} {osl sl2 : Array (Option Value)} {fd : FuncData} (n : Str) (X : K.In h) (a : PySem.W.nsIn K mainGlobals n = some (some (.ref f)))
    (lf : K.lookup f = some ⟨oc, od, .func fd, osl⟩) (cf : fd.code = .ref c) (l : K.lookup c = some ⟨.type "code", od2, .fields vs, sl2⟩) (e : vs[11]? = some (.ref P)) (d : PySem.W.codeHdIn K c P = true) (t : h.get? P = some { cls := .none, data := .fields #[] }) (o : K.lookup P = none) (r : TbAt h K cs) : TbAt h K ((c, P) :: cs) := by
  refine ⟨fun p hp => ?_, fun p hp => ?_, fun p hp => ?_⟩ <;> rcases List.mem_cons.mp hp with z | z
  · rw [z]; exact t
  · exact r.tab p z
  · rw [z]; exact o
  · exact r.out p z
  · rw [z]; exact PySem.W.codeHd_of_K X d
  · exact r.cd p z
end Dl

set_option linter.all false
set_option maxRecDepth 100000
set_option maxHeartbeats 1000000
namespace Lb
open PySem PySem.Spec L2 Dl
/-! LibE: how trees are run by hand. -/
def HasB (defs : List Df) (f : Str) (k N : Nat) (b : Sms) : Prop := ∃ d, defs.find? (fun e => decide (e.name = f)) = some d ∧ d.ps.length = k ∧ d.N.length = N ∧ d.body = b
section
variable {defs : List Df} {fl : List (Str × Str)} {sp : Fns → Fns} {f : Str} {k N : Nat} {b : Sms}
theorem at_ (h : HasB defs f k N b) (n : Nat) {ds : List D} (hl : ds.length = k) (S : Sto) : evF defs fl sp (n + 1) f ds S = fin S (evSs (evF defs fl sp n) fl b (ds.map some ++ List.replicate (N - k) none) S) := by
  obtain ⟨d, h1, h2, h3, h4⟩ := h
  show (match defs.find? (fun e => decide (e.name = f)) with
    | some d => _
    | none => _) = _
  rw [h1]
  subst h4
  show (if ds.length = d.ps.length then _ else _) = _
  rw [if_pos (by omega), hl, h3]
end
section
variable {G : Fns} {fl : List (Str × Str)} {ρ : Slots} {S : Sto} {F Fa Fb Fc : Slots → Sto → Res D} {Ta Tb Tc : Slots → Sto → Res Bool} {Fs Fk : Slots → Sto → Res (List D)} {m : Bool}
@[simp] theorem e_var {i : Nat} : fVar i ρ S = match ρ[i]? with
  | some (some d) => .ok d S
  | _ => .st := rfl
@[simp] theorem e_c {d : PyData} : fC d ρ S = .ok (.p d) S := rfl
@[simp] theorem e_bin {op : Operator} : fBin op m Fa Fb ρ S = (Fa ρ S).bind fun x S1 => (Fb ρ S1).bind fun y S2 => opBin op m x y S2 := rfl
@[simp] theorem e_cmp {op : CmpOp} : fCmp op Fa Fb ρ S = (Fa ρ S).bind fun x S1 => (Fb ρ S1).bind fun y S2 => opCmp op x y S2 := rfl
@[simp] theorem e_idx : fIdx Fa Fb ρ S = (Fa ρ S).bind fun x S1 => (Fb ρ S1).bind fun y S2 => opIdx x y S2 := rfl
@[simp] theorem e_neg : fNeg Fa ρ S = (Fa ρ S).bind fun x S1 => match x with
  | .p (.int i) => .ok (.i (-i)) S1
  | _ => .st := rfl
@[simp] theorem e_tru : fTru Fa ρ S = (Fa ρ S).bind fun x S1 => match tru x S1 with
  | some k => .ok k S1
  | none => .st := rfl
@[simp] theorem e_not : fNot Fa ρ S = (Fa ρ S).bind fun x S1 => match x with
  | .p (.bool k) => .ok (.b (!k)) S1
  | _ => .st := rfl
@[simp] theorem e_and : fAnd Fa Fb ρ S = (Fa ρ S).bind fun x S1 => match x with
  | .p (.bool true) => Fb ρ S1
  | .p (.bool false) => .ok (.b false) S1
  | _ => .st := rfl
@[simp] theorem e_or : fOr Fa Fb ρ S = (Fa ρ S).bind fun x S1 => match x with
  | .p (.bool false) => Fb ρ S1
  | .p (.bool true) => .ok (.b true) S1
  | _ => .st := rfl
@[simp] theorem e_gnot : gNot Ta ρ S = (Ta ρ S).bind fun k S1 => .ok (!k) S1 := rfl
@[simp] theorem e_gand : gAnd Ta Tb ρ S = (Ta ρ S).bind fun k S1 => match k with
  | true => Tb ρ S1
  | false => .ok false S1 := rfl
@[simp] theorem e_gor : gOr Ta Tb ρ S = (Ta ρ S).bind fun k S1 => match k with
  | false => Tb ρ S1
  | true => .ok true S1 := rfl
@[simp] theorem e_if : fIf Tc Fa Fb ρ S = (Tc ρ S).bind fun k S1 => match k with
  | true => Fa ρ S1
  | false => Fb ρ S1 := rfl
@[simp] theorem e_gif : gIf Tc Ta Tb ρ S = (Tc ρ S).bind fun k S1 => match k with
  | true => Ta ρ S1
  | false => Tb ρ S1 := rfl
@[simp] theorem e_nil : fNil ρ S = .ok [] S := rfl
@[simp] theorem e_cons : fCons Fa Fs ρ S = (Fa ρ S).bind fun x S1 => (Fs ρ S1).bind fun xs S2 => .ok (x :: xs) S2 := rfl
@[simp] theorem e_tup : fTup Fs ρ S = (Fs ρ S).bind fun xs S1 => if xs.length ≤ sizeLine then .ok (mkT xs) S1 else .st := rfl
@[simp] theorem e_lst : fLst m Fs ρ S = (Fs ρ S).bind fun xs S1 => if xs.length ≤ sizeLine then mkL m xs S1 else .st := rfl
@[simp] theorem e_bn {f : Bn} : fBn m f Fs ρ S = (Fs ρ S).bind (opBn m f) := rfl
@[simp] theorem e_isi {T : Ty} : fIsi T Fa ρ S = (Fa ρ S).bind (opIsi T) := rfl
@[simp] theorem e_rev : fRev m Fa ρ S = (Fa ρ S).bind (opRev m) := rfl
@[simp] theorem e_fld {f : Str} : fFld f Fa ρ S = (Fa ρ S).bind (opFld f) := rfl
@[simp] theorem e_mt {f : Mt} : fMt m f Fa Fs ρ S = (Fa ρ S).bind fun o S1 => if rcv o S1 = some f.ty then (Fs ρ S1).bind fun xs S2 => opMt m f o xs S2 else .st := rfl
@[simp] theorem e_call {g : List D → Sto → Res D} {n k : Nat} {arr : Arr} : fCall g n k arr Fs Fk ρ S = (Fs ρ S).bind fun ds S1 => (Fk ρ S1).bind fun es S2 => if ds.length = n ∧ es.length = k then g (arrD arr (ds ++ es)) S2 else .st := rfl
@[simp] theorem e_sli {lo hi : Option (Slots → Sto → Res D)} : fSli m Fa lo hi ρ S = (Fa ρ S).bind fun a S1 => (part lo ρ S1).bind fun l S2 => (part hi ρ S2).bind fun u S3 => opSli m a l u S3 := rfl
@[simp] theorem e_part0 : part none ρ S = .ok none S := rfl
@[simp] theorem e_part1 : part (some F) ρ S = (F ρ S).bind fun d S1 => match d with
  | .p (.int i) => .ok (some i) S1
  | _ => .st := rfl
@[simp] theorem e_chain {op op' : CmpOp} : fChain op op' Fa Fb Fc ρ S = (Fa ρ S).bind fun x S1 => (Fb ρ S1).bind fun y S2 => (opCmp op x y S2).bind fun z S3 => match z with
  | .p (.bool true) => (Fc ρ S3).bind fun w S4 => opCmp op' y w S4
  | .p (.bool false) => .ok (.b false) S3
  | _ => .st := rfl
@[simp] theorem s_seq {A B : Slots → Sto → Out} : sSeq A B ρ S = match A ρ S with
  | .nx ρ' S' => B ρ' S'
  | o => o := by unfold sSeq; cases A ρ S <;> rfl
@[simp] theorem s_nil : sNil ρ S = .nx ρ S := rfl
@[simp] theorem s_ret : sRet F ρ S = (F ρ S).out fun d S1 => .rt d S1 := rfl
@[simp] theorem s_exp : sExp F ρ S = (F ρ S).out fun _ S1 => .nx ρ S1 := rfl
@[simp] theorem s_if {A B : Slots → Sto → Out} : sIf Tc A B ρ S = (Tc ρ S).out fun k S1 => match k with
  | true => A ρ S1
  | false => B ρ S1 := rfl
@[simp] theorem s_asg {Gt : FT} : sAsg F Gt ρ S = (F ρ S).out fun d S1 => (Gt d ρ S1).out fun ρ' S2 => .nx ρ' S2 := rfl
@[simp] theorem s_par {i j : Nat} : sPar i j Fs ρ S = (Fs ρ S).out fun ds S1 => match ds with
  | [a, b] => .nx ((ρ.set i (some a)).set j (some b)) S1
  | _ => .st := rfl
@[simp] theorem s_par3 {i j l : Nat} : sPar3 i j l Fs ρ S = (Fs ρ S).out fun ds S1 => match ds with
  | [a, b, c] => .nx (((ρ.set i (some a)).set j (some b)).set l (some c)) S1
  | _ => .st := rfl
@[simp] theorem x_nm {i : Nat} {d : D} : tgNm i d ρ S = .ok (ρ.set i (some d)) S := rfl
@[simp] theorem x_sub {d : D} : tgSub Fa Fb d ρ S = (Fa ρ S).bind fun o S1 => (Fb ρ S1).bind fun i S2 => (opSet o i d S2).bind fun _ S3 => .ok ρ S3 := rfl
@[simp] theorem x_tup {X : List D → Slots → Sto → Res Slots} {d : D} : tgTup X d ρ S = match seqOf d S with
  | some xs => X xs ρ S
  | none => .st := rfl
@[simp] theorem x_nil {ds : List D} : tgNil ds ρ S = match ds with
  | [] => .ok ρ S
  | _ => .st := rfl
@[simp] theorem x_cons {A : FT} {B : List D → Slots → Sto → Res Slots} {ds : List D} : tgCons A B ds ρ S = match ds with
  | d :: ds => (A d ρ S).bind fun ρ' S' => B ds ρ' S'
  | _ => .st := rfl
end
/-! ### one statement after the other -/
section
variable {A B : Slots → Sto → Out} {ρ ρ' : Slots} {S S' : Sto} {r : Out} {Tc : Slots → Sto → Res Bool}
theorem seq_nx (h : A ρ S = .nx ρ' S') (h2 : B ρ' S' = r) : sSeq A B ρ S = r := by
  rw [s_seq, h]
  exact h2
theorem seq_rt {d : D} (h : A ρ S = .rt d S') : sSeq A B ρ S = .rt d S' := by rw [s_seq, h]
theorem if_t (h : Tc ρ S = .ok true S') : sIf Tc A B ρ S = A ρ S' := by
  rw [s_if, h]
  rfl
theorem if_f (h : Tc ρ S = .ok false S') : sIf Tc A B ρ S = B ρ S' := by
  rw [s_if, h]
  rfl
end
end Lb

set_option linter.all false
set_option maxRecDepth 100000
set_option maxHeartbeats 1000000
namespace Lb
open PySem PySem.Spec L2 Dl
/-! LibO: operators and functions at known values. -/
section
variable {S : Sto} {m : Bool} {a b i j : Int}
@[simp] theorem o_add : opBin .Add m (.p (.int a)) (.p (.int b)) S = .ok (.i (a + b)) S := rfl
@[simp] theorem o_sub : opBin .Sub m (.p (.int a)) (.p (.int b)) S = .ok (.i (a - b)) S := rfl
theorem o_mul (h : a.natAbs.log2 + b.natAbs.log2 < 1000000) : opBin .Mult m (.p (.int a)) (.p (.int b)) S = .ok (.i (a * b)) S := if_pos h
theorem lg {n k : Nat} (h : n < 2 ^ k) : n.log2 < k ∨ n = 0 := by
  by_cases z : n = 0
  · exact .inr z
  · exact .inl ((Nat.log2_lt z).mpr h)
theorem lg' {n k : Nat} (h : n < 2 ^ k) : n.log2 ≤ k := by
  rcases lg h with z | z
  · omega
  · subst z; simp
/-- both below 2^400000 -/
theorem o_mulB {k : Nat} (ha : a.natAbs < 2 ^ k) (hb : b.natAbs < 2 ^ k) (hk : k ≤ 400000) : opBin .Mult m (.p (.int a)) (.p (.int b)) S = .ok (.i (a * b)) S :=
  o_mul (by have h1 := lg' ha; have h2 := lg' hb; omega)
theorem o_mul6 (ha : -(2 ^ 64) < a ∧ a < 2 ^ 64) (hb : -(2 ^ 64) < b ∧ b < 2 ^ 64) : opBin .Mult m (.p (.int a)) (.p (.int b)) S = .ok (.i (a * b)) S :=
  o_mulB (k := 64) (by omega) (by omega) (by omega)
theorem o_mod (h : 0 < b) : opBin .Mod m (.p (.int a)) (.p (.int b)) S = .ok (.i (a % b)) S := if_pos h
theorem o_div (h : 0 < b) (h2 : b < 2 ^ 64) : opBin .FloorDiv m (.p (.int a)) (.p (.int b)) S = .ok (.i (a / b)) S := if_pos ⟨h, by
  have : b.natAbs < 2 ^ 64 := by omega
  have := lg' this
  omega⟩
theorem o_pow (h : 0 ≤ b ∧ b ≤ 1000000) (h2 : a.natAbs < 2 ^ 64) : opBin .Pow m (.p (.int a)) (.p (.int b)) S = .ok (.i (a ^ b.toNat)) S := if_pos ⟨h.1, h.2, h2⟩
@[simp] theorem o_lt : opCmp .Lt (.p (.int a)) (.p (.int b)) S = .ok (.b (decide (a < b))) S := rfl
@[simp] theorem o_le : opCmp .LtE (.p (.int a)) (.p (.int b)) S = .ok (.b (decide (a ≤ b))) S := rfl
@[simp] theorem o_gt : opCmp .Gt (.p (.int a)) (.p (.int b)) S = .ok (.b (decide (b < a))) S := rfl
@[simp] theorem o_ge : opCmp .GtE (.p (.int a)) (.p (.int b)) S = .ok (.b (decide (b ≤ a))) S := rfl
theorem o_eqP {x y : PyData} (h1 : SeqAt.shaped x = true) (h2 : SeqAt.shaped y = true) (nx : ∀ s, x ≠ .str s) : opCmp .Eq (.p x) (.p y) S = .ok (.b (PyData.eqv x y)) S := by
  have gen : opEq false (.p x) (.p y) S = .ok (.b (PyData.eqv x y)) S := by
    unfold opEq
    split
    · rename_i e _
      cases e
      exact absurd rfl (nx _)
    · simp [asP, h1, h2]
  show opEqT (.p x) (.p y) S = _
  unfold opEqT
  split
  · rename_i xs e1 e2
    cases x with
    | tuple ds =>
      simp only [tupOf_tuple, Option.some.injEq] at e2
      subst e2
      cases e1
      cases ds <;> simp [PyData.eqv, PyData.eqvAll]
    | _ => cases e2
  · rename_i xs e1 e2
    cases x with
    | list ds =>
      simp only [lstOf_list, Option.some.injEq] at e2
      subst e2
      cases e1
      cases ds <;> simp [PyData.eqv, PyData.eqvAll]
    | _ => cases e2
  · exact gen
theorem o_neP {x y : PyData} (h1 : SeqAt.shaped x = true) (h2 : SeqAt.shaped y = true) (nx : ∀ s, x ≠ .str s) : opCmp .NotEq (.p x) (.p y) S = .ok (.b (!PyData.eqv x y)) S := by
  show opEq true (.p x) (.p y) S = _
  unfold opEq
  split
  · rename_i e _
    cases e
    exact absurd rfl (nx _)
  · simp [asP, h1, h2]
theorem sh_int : SeqAt.shaped (.int a) = true := by simp [SeqAt.shaped, PyData.canLay0, PyData.depth]
@[simp] theorem o_eqI : opCmp .Eq (.p (.int a)) (.p (.int b)) S = .ok (.b (decide (a = b))) S := by
  rw [o_eqP sh_int sh_int (fun s z => nomatch z)]
  simp [PyData.eqv, BEq.beq]
@[simp] theorem o_neI : opCmp .NotEq (.p (.int a)) (.p (.int b)) S = .ok (.b (!decide (a = b))) S := by
  rw [o_neP sh_int sh_int (fun s z => nomatch z)]
  simp [PyData.eqv, BEq.beq]
@[simp] theorem o_eqS {x y : Str} : opCmp .Eq (.p (.str x)) (.p (.str y)) S = .ok (.b (decide (x = y))) S := by simp [opCmp, opEqT, opEq, tupOf]
@[simp] theorem o_neS {x y : Str} : opCmp .NotEq (.p (.str x)) (.p (.str y)) S = .ok (.b (!decide (x = y))) S := by simp [opCmp, opEq]
@[simp] theorem o_isN {x : D} : opCmp .Is x (.p .none) S = .ok (.b (isNoneP x)) S := by simp [opCmp, opIs]
@[simp] theorem o_isnotN {x : D} : opCmp .IsNot x (.p .none) S = .ok (.b (!isNoneP x)) S := by simp [opCmp, opIs]
@[simp] theorem isN_none : isNoneP (.p .none) = true := rfl
@[simp] theorem isN_int : isNoneP (.p (.int a)) = false := rfl
/-! indexing -/
theorem ix_nat {n k : Nat} (h : k < n) : ixN n (k : Int) = some k := by
  unfold ixN
  rw [if_pos (by omega), if_pos (by omega)]
  simp
theorem atI_nat {α : Type} {xs : List α} {k : Nat} (h : k < xs.length) : atI xs (k : Int) = xs[k]? := by
  unfold L2.atI
  rw [ix_nat h]
  rfl
theorem o_idx {x : D} {xs : List D} {k : Nat} {d : D} (h : seqOf x S = some xs) (nd : dctOf x S = none) (e : xs[k]? = some d) : opIdx x (.p (.int (k : Int))) S = .ok d S := by
  have hk : k < xs.length := (List.getElem?_eq_some_iff.mp e).1
  simp [opIdx, nd, h, atI_nat hk, e]
@[simp] theorem dct_p {d : PyData} : dctOf (.p d) S = none := rfl
theorem o_idxT {ds : List PyData} {k : Nat} {d : PyData} (e : ds[k]? = some d) : opIdx (.p (.tuple ds)) (.p (.int (k : Int))) S = .ok (.p d) S :=
  o_idx (xs := ds.map D.p) rfl rfl (by simp [e])
theorem o_idxL {ds : List PyData} {k : Nat} {d : PyData} (e : ds[k]? = some d) : opIdx (.p (.list ds)) (.p (.int (k : Int))) S = .ok (.p d) S :=
  o_idx (xs := ds.map D.p) rfl rfl (by simp [e])
@[simp] theorem o_idx0 {d : PyData} {ds : List PyData} : opIdx (.p (.tuple (d :: ds))) (.p (.int 0)) S = .ok (.p d) S := o_idxT (k := 0) rfl
@[simp] theorem o_idx1 {c d : PyData} {ds : List PyData} : opIdx (.p (.tuple (c :: d :: ds))) (.p (.int 1)) S = .ok (.p d) S := o_idxT (k := 1) rfl
@[simp] theorem o_idxL0 {d : PyData} {ds : List PyData} : opIdx (.p (.list (d :: ds))) (.p (.int 0)) S = .ok (.p d) S := o_idxL (k := 0) rfl
theorem flat_ints : ∀ ns : List Int, (ns.map PyData.int).all flatP = true
  | [] => rfl
  | n :: ns => by simp only [List.map_cons, List.all_cons, flatP, Bool.true_and]; exact flat_ints ns
theorem any_ints (x : Int) : ∀ ns : List Int, ((ns.map PyData.int).any fun z => PyData.eqv z (.int x)) = decide (x ∈ ns)
  | [] => by simp
  | n :: ns => by
    simp only [List.map_cons, List.any_cons, any_ints x ns, PyData.eqv, List.mem_cons]
    by_cases h : n = x
    · subst h; simp
    · have h' : ¬ x = n := fun z => h z.symm
      simp [h, h', BEq.beq]
theorem o_inT {x : Int} (ns : List Int) : opCmp .In (.p (.int x)) (.p (.tuple (ns.map PyData.int))) S = .ok (.b (decide (x ∈ ns))) S := by
  show opIn false (.p (.int x)) (.p (.tuple (ns.map PyData.int))) S = _
  unfold opIn
  simp only [dct_p]
  rw [if_pos ⟨rfl, flat_ints ns⟩, any_ints]
  simp
/-! functions -/
@[simp] theorem b_lenT {ds : List PyData} : opBn m .len [.p (.tuple ds)] S = .ok (.i ds.length) S := by simp [opBn, lenD]
@[simp] theorem b_lenL {ds : List PyData} : opBn m .len [.p (.list ds)] S = .ok (.i ds.length) S := by simp [opBn, lenD]
@[simp] theorem b_int : opBn m .int [.p (.int a)] S = .ok (.i a) S := rfl
@[simp] theorem b_intB {k : Bool} : opBn m .int [.p (.bool k)] S = .ok (.i (if k then 1 else 0)) S := rfl
@[simp] theorem b_max : opBn m .mx [.p (.int a), .p (.int b)] S = .ok (.i (if b > a then b else a)) S := rfl
@[simp] theorem b_tupL {ds : List PyData} : opBn m .tup [.p (.list ds)] S = .ok (.p (.tuple ds)) S := by simp [opBn]
@[simp] theorem b_tupT {ds : List PyData} : opBn m .tup [.p (.tuple ds)] S = .ok (.p (.tuple ds)) S := by simp [opBn]
@[simp] theorem b_lstT {ds : List PyData} : opBn false .lst [.p (.tuple ds)] S = .ok (.p (.list ds)) S := by simp [opBn]
@[simp] theorem b_lstL {ds : List PyData} : opBn false .lst [.p (.list ds)] S = .ok (.p (.list ds)) S := by simp [opBn]
theorem ints_p : ∀ ns : List Int, intsOf ((ns.map PyData.int).map D.p) = some ns
  | [] => rfl
  | n :: ns => by simp only [List.map_cons, intsOf, ints_p ns]; rfl
theorem bools_p : ∀ ns : List Bool, boolsOf ((ns.map PyData.bool).map D.p) = some ns
  | [] => rfl
  | n :: ns => by simp only [List.map_cons, boolsOf, bools_p ns]; rfl
@[simp] theorem b_sum {ns : List Int} : opBn m .sum [.p (.list (ns.map PyData.int))] S = .ok (.i ns.sum) S := by simp only [opBn, lstOf_list, Option.bind_some, ints_p]
@[simp] theorem b_all {ns : List Bool} : opBn m .all [.p (.list (ns.map PyData.bool))] S = .ok (.b (ns.all id)) S := by simp only [opBn, lstOf_list, Option.bind_some, bools_p]
theorem b_repr {x : PyData} (h1 : x.showable = true) (h2 : x.shown.length ≤ sizeLine) (h3 : x.depth ≤ 150) : opBn m .repr [.p x] S = .ok (.s x.shown) S := by simp [opBn, asP, h1, h2, h3]
@[simp] theorem o_isi {T : Ty} {d : PyData} : opIsi T (.p d) S = .ok (.b ((tyP d).sub T)) S := rfl
end
end Lb

set_option linter.all false
set_option maxRecDepth 100000
/-! LibB: bodies of defs, printed by bodies.py (law-specific ones left out). -/
namespace Lb
open PySem Dl
/-- _law_pick(deck, some) 2 names -/
def B__law_pick : Sms := (.cons (.ret (.idx (.var 1) (.call (Str.ofString "_law_draw") [.inl 0, .inl 1] (.cons (.var 0) (.cons (.bn false .len (.cons (.var 1) .nil)) .nil)) .nil))) .nil)
/-- need_table(table) 1 names -/
def B_need_table : Sms := (.cons (.ite (.not (.call (Str.ofString "is_table_value") [.inl 0] (.cons (.var 0) .nil) .nil)) (.cons (.rais (Str.ofString "BadTable") (.var 0)) .nil) .nil) .nil)
/-- need_fellows(one, other) 2 names -/
def B_need_fellows : Sms := (.cons (.exp (.call (Str.ofString "need_table") [.inl 0] (.cons (.var 0) .nil) .nil)) (.cons (.exp (.call (Str.ofString "need_table") [.inl 0] (.cons (.var 1) .nil) .nil)) (.cons (.ite (.not (.call (Str.ofString "is_fellow") [.inl 0, .inl 1] (.cons (.var 0) (.cons (.var 1) .nil)) .nil)) (.cons (.rais (Str.ofString "OtherTable") (.var 1)) .nil) .nil) .nil)))
/-- need_integer(thing, least, most) 3 names -/
def B_need_integer : Sms := (.cons (.ite (.or (.not (.call (Str.ofString "is_integer") [.inl 0] (.cons (.var 0) .nil) .nil)) (.cons (.cmp .Lt (.var 0) (.var 1)) (.cons (.and (.cmp .IsNot (.var 2) (.c .none)) (.cons (.cmp .Gt (.var 0) (.var 2)) .nil)) .nil))) (.cons (.rais (Str.ofString "BadNumber") (.var 0)) .nil) .nil) .nil)
/-- is_row_value(p, many, thing) 4 names -/
def B_is_row_value : Sms := (.cons (.ret (.and (.isi .tup (.var 2)) (.cons (.cmp .Eq (.bn false .len (.cons (.var 2) .nil)) (.var 1)) (.cons (.bn false .all (.cons (.lc false (.seq (.var 2)) (.nm 3) [((Str.ofString "item"), 3)] .no (.call (Str.ofString "is_between") [.inl 0, .inl 1, .inl 2] (.cons (.var 3) (.cons (.c (.int 0)) (.cons (.bin .Sub false (.var 0) (.c (.int 1))) .nil))) .nil)) .nil)) .nil)))) .nil)
/-- need_prime(p) 1 names -/
def B_need_prime : Sms := (.cons (.ite (.not (.call (Str.ofString "is_prime_value") [.inl 0] (.cons (.var 0) .nil) .nil)) (.cons (.rais (Str.ofString "BadPrime") (.var 0)) .nil) .nil) .nil)
/-- is_table_value(thing) 2 names -/
def B_is_table_value : Sms := (.cons (.ite (.or (.not (.isi .tup (.var 0))) (.cons (.cmp .NotEq (.bn false .len (.cons (.var 0) .nil)) (.c (.int 2))) (.cons (.not (.call (Str.ofString "is_prime_value") [.inl 0] (.cons (.idx (.var 0) (.c (.int 0))) .nil) .nil)) .nil))) (.cons (.ret (.c (.bool false))) .nil) .nil) (.cons (.ite (.not (.isi .tup (.idx (.var 0) (.c (.int 1))))) (.cons (.ret (.c (.bool false))) .nil) .nil) (.cons (.ret (.and (.chain .LtE .LtE (.c (.int 1)) (.bn false .len (.cons (.idx (.var 0) (.c (.int 1))) .nil)) (.glob (.int 8))) (.cons (.bn false .all (.cons (.lc false (.seq (.idx (.var 0) (.c (.int 1)))) (.nm 1) [((Str.ofString "row"), 1)] .no (.call (Str.ofString "is_row_value") [.inl 0, .inl 1, .inl 2] (.cons (.idx (.var 0) (.c (.int 0))) (.cons (.bn false .len (.cons (.idx (.var 0) (.c (.int 1))) .nil)) (.cons (.var 1) .nil))) .nil)) .nil)) .nil))) .nil)))
/-- is_fellow(table, thing) 2 names -/
def B_is_fellow : Sms := (.cons (.ret (.and (.call (Str.ofString "is_table_value") [.inl 0] (.cons (.var 1) .nil) .nil) (.cons (.cmp .Eq (.idx (.var 1) (.c (.int 0))) (.idx (.var 0) (.c (.int 0)))) (.cons (.cmp .Eq (.bn false .len (.cons (.idx (.var 1) (.c (.int 1))) .nil)) (.bn false .len (.cons (.idx (.var 0) (.c (.int 1))) .nil))) .nil)))) .nil)
/-- is_integer(thing) 1 names -/
def B_is_integer : Sms := (.cons (.ret (.and (.isi .int (.var 0)) (.cons (.not (.isi .bl (.var 0))) .nil))) .nil)
/-- is_between(thing, least, most) 3 names -/
def B_is_between : Sms := (.cons (.ret (.and (.call (Str.ofString "is_integer") [.inl 0] (.cons (.var 0) .nil) .nil) (.cons (.chain .LtE .LtE (.var 1) (.var 0) (.var 2)) .nil))) .nil)
/-- is_prime_value(thing) 1 names -/
def B_is_prime_value : Sms := (.cons (.ret (.and (.call (Str.ofString "is_integer") [.inl 0] (.cons (.var 0) .nil) .nil) (.cons (.cmp .In (.var 0) (.glob (.tuple [(.int 2), (.int 3), (.int 5), (.int 7)]))) .nil))) .nil)
end Lb

set_option linter.all false
set_option maxRecDepth 100000
set_option maxHeartbeats 1000000
namespace Lb
open PySem PySem.Spec L2 Dl
/-! LibA: the defs about tables: what they compute of well-formed tables. -/
theorem lc_map {β : Type} {t : Tg} {own : List Nat} {ρ : Slots} {Fi : Slots → Sto → Res Src} {Fe : Slots → Sto → Res D} {w : List (Nat × List D)} {S : Sto} {ys : List β} (g : β → D) (f : β → PyData)
    (hi : Fi ρ S = .ok ⟨ys.map g, w⟩ S) (hw : Wat w S) (hz : ys.length ≤ sizeLine) (h : ∀ y ∈ ys, ∃ ρ', setT t (g y) (wipeD ρ own) = some ρ' ∧ Fe ρ' S = .ok (.p (f y)) S) :
    fLc false Fi t own fYes Fe ρ S = .ok (.p (.list (ys.map f))) S := by
  have loop : ∀ (ys : List β) (acc : List PyData), acc.length + ys.length ≤ sizeLine → (∀ y ∈ ys, ∃ ρ', setT t (g y) (wipeD ρ own) = some ρ' ∧ Fe ρ' S = .ok (.p (f y)) S) →
      lcLoop w t (wipeD ρ own) fYes Fe (ys.map g) (acc.map D.p) S = .ok ((acc ++ ys.map f).map D.p) S := by
    intro ys
    induction ys with
    | nil => intro acc _ _; unfold lcLoop; simp only [List.map_nil]; rw [if_pos hw]; simp
    | cons y ys ih =>
      intro acc hz h
      obtain ⟨ρ', e1, e2⟩ := h y (by simp)
      simp only [List.length_cons] at hz
      have := ih (acc ++ [f y]) (by simp; omega) fun z hz => h z (by simp [hz])
      have lt : acc.length < sizeLine := by omega
      rw [List.map_cons]
      unfold lcLoop
      rw [if_pos hw]
      simp only [e1, fYes, Dl.Res.nx, bind_ok, e2, List.length_map, lt, if_true]
      simpa using this
  have := loop ys [] (by simpa using hz) h
  unfold fLc
  rw [hi]
  simp only [bind_ok]
  rw [show ([] : List D) = ([] : List PyData).map D.p from rfl, this]
  rw [bind_ok, mkL_map]
  rfl
section
variable {ρ : Slots} {S : Sto} {F Fa Fb : Slots → Sto → Res D}
theorem i_seqT {ds : List PyData} (h : F ρ S = .ok (.p (.tuple ds)) S) : fSeq F ρ S = .ok ⟨ds.map D.p, []⟩ S := by simp [fSeq, h]
theorem i_seqL {ds : List PyData} (h : F ρ S = .ok (.p (.list ds)) S) : fSeq F ρ S = .ok ⟨ds.map D.p, []⟩ S := by simp [fSeq, h]
theorem big62 {i : Int} (h0 : 0 ≤ i) (h : i ≤ 1000000) : -(2 ^ 62) ≤ i ∧ i < 2 ^ 62 :=
  ⟨Int.le_trans (by decide) h0, Int.lt_of_le_of_lt h (by decide)⟩
theorem i_r1i {j : Int} (h : F ρ S = .ok (.i j) S) (hn : RgB j) : fRng1 F ρ S = .ok ⟨(List.range j.toNat).map fun k => .i (k : Nat), []⟩ S := by
  simp only [fRng1, h, bind_ok]
  rw [if_pos hn]
theorem i_r1 {n : Nat} (h : F ρ S = .ok (.i n) S) (hn : n ≤ 1000000) : fRng1 F ρ S = .ok ⟨(List.range n).map fun k => .i (k : Nat), []⟩ S := by
  have := i_r1i h (big62 (Int.natCast_nonneg n) (by omega))
  rwa [Int.toNat_natCast] at this
def fz : PyData → Option (List PyData)
  | .tuple ds => some ds
  | .list ds => some ds
  | _ => none
theorem sq_fz {x : PyData} {xs : List PyData} (h : fz x = some xs) : sqOf (.p x) S = some ⟨xs.map D.p, []⟩ := by
  unfold fz at h
  split at h <;> first | (cases h; rfl) | cases h
end
/-! ### data -/
def rowP (r : List Int) : PyData := .tuple (r.map PyData.int)
def matP (M : List (List Int)) : PyData := .tuple (M.map rowP)
def tabP (p : Int) (M : List (List Int)) : PyData := .tuple [.int p, matP M]
def Pr (p : Int) : Prop := p ∈ ([2, 3, 5, 7] : List Int)
theorem Pr.pos {p : Int} (h : Pr p) : 2 ≤ p ∧ p ≤ 7 := by
  simp [Pr] at h
  omega
theorem at' {defs : List Df} {fl : List (Str × Str)} {sp : Fns → Fns} {f : Str} {k N : Nat} {b : Sms} (h : HasB defs f k N b) {n : Nat} (hn : 1 ≤ n) {ds : List D} (hl : ds.length = k) (S : Sto) :
    evF defs fl sp n f ds S = fin S (evSs (evF defs fl sp (n - 1)) fl b (ds.map some ++ List.replicate (N - k) none) S) := by
  obtain ⟨m, rfl⟩ : ∃ m, n = m + 1 := ⟨n - 1, by omega⟩
  exact at_ h m hl S
/-- the def's body gives back a frozen value -/
theorem gives {defs : List Df} {fl : List (Str × Str)} {sp : Fns → Fns} {f : Str} {k N : Nat} {b : Sms} (h : HasB defs f k N b) {n : Nat} (hn : 1 ≤ n) {ds : List D} (hl : ds.length = k) {S : Sto} {r : PyData}
    (e : evSs (evF defs fl sp (n - 1)) fl b (ds.map some ++ List.replicate (N - k) none) S = .rt (.p r) S) : evF defs fl sp n f ds S = .ok (.p r) S := by
  rw [at' h hn hl, e, fin_rt0]
theorem ends {defs : List Df} {fl : List (Str × Str)} {sp : Fns → Fns} {f : Str} {k N : Nat} {b : Sms} (h : HasB defs f k N b) {n : Nat} (hn : 1 ≤ n) {ds : List D} (hl : ds.length = k) {S : Sto} {ρ : Slots}
    (e : evSs (evF defs fl sp (n - 1)) fl b (ds.map some ++ List.replicate (N - k) none) S = .nx ρ S) : evF defs fl sp n f ds S = .ok .n S := by
  rw [at' h hn hl, e, fin_nx0]
structure HTab (D : List Df) : Prop where
  is_integer : HasB D (Str.ofString "is_integer") 1 1 B_is_integer
  is_between : HasB D (Str.ofString "is_between") 3 3 B_is_between
  is_prime_value : HasB D (Str.ofString "is_prime_value") 1 1 B_is_prime_value
  is_row_value : HasB D (Str.ofString "is_row_value") 3 4 B_is_row_value
  is_table_value : HasB D (Str.ofString "is_table_value") 1 2 B_is_table_value
  need_table : HasB D (Str.ofString "need_table") 1 1 B_need_table
section
variable {dfs : List Df} {fl : List (Str × Str)} {sp : Fns → Fns} {S : Sto} {n : Nat}
theorem c_is_integer (H : HTab dfs) (hn : 1 ≤ n) {x : D} {T : Ty} (h : tyD x S = some T) : evF dfs fl sp n (Str.ofString "is_integer") [x] S = .ok (.b (decide (T = .int))) S := by
  refine gives H.is_integer hn rfl ?_
  simp [B_is_integer, evSs, evS, ev, evAnd, opIsi, h]
  cases T <;> simp [Ty.sub, opIsi, h]
theorem c_is_integerI (H : HTab dfs) (hn : 1 ≤ n) {x : Int} : evF dfs fl sp n (Str.ofString "is_integer") [.p (.int x)] S = .ok (.b true) S := c_is_integer H hn (T := .int) rfl
theorem c_is_prime_value (H : HTab dfs) (hn : 2 ≤ n) {p : Int} : evF dfs fl sp n (Str.ofString "is_prime_value") [.p (.int p)] S = .ok (.b (decide (p ∈ ([2, 3, 5, 7] : List Int)))) S := by
  refine gives H.is_prime_value (by omega) rfl ?_
  have hi := c_is_integerI (fl := fl) (sp := sp) (n := n - 1) (S := S) (x := p) H (by omega)
  have h2 := o_inT (S := S) (x := p) [2, 3, 5, 7]
  simp only [List.map_cons, List.map_nil] at h2
  simp [B_is_prime_value, evSs, evS, ev, evAnd, evs, Exs.len, arrD, hi, h2]
end
end Lb

set_option linter.all false
namespace Lb
open PySem PySem.Spec L2 Dl
abbrev tgT (n : Nat) (F : List D → Slots → Sto → Res Slots) : FT := tgTup fun ds ρ S => if ds.length = n then F ds ρ S else .st
@[simp] theorem x_tgT {n : Nat} {F : List D → Slots → Sto → Res Slots} {d : D} {ρ : Slots} {S : Sto} : tgT n F d ρ S = match seqOf d S with
  | some xs => if xs.length = n then F xs ρ S else .st
  | none => .st := rfl
end Lb

set_option linter.all false
set_option maxRecDepth 100000
/-! LibS: what the bodies mean, printed by shallow.py. -/
namespace Lb
open PySem PySem.Spec L2 Dl
theorem sh__law_pick (G : Fns) (fl : List (Str × Str)) : evSs G fl B__law_pick = (sSeq (sRet (fIdx (fVar 1) (fCall (G (Str.ofString "_law_draw")) 2 0 [.inl 0, .inl 1] (fCons (fVar 0) (fCons (fBn false .len (fCons (fVar 1) fNil)) fNil)) fNil))) sNil) := by
  simp only [B__law_pick, evSs, evS, ev, evAnd, evOr, evs, evo, evt, evp, evr, evx, evxs, List.map_cons, List.map_nil, Exs.len, Txs.len] <;> rfl
theorem sh_need_integer (G : Fns) (fl : List (Str × Str)) : evSs G fl B_need_integer = (sSeq (sIf (gOr (gNot (fTru (fCall (G (Str.ofString "is_integer")) 1 0 [.inl 0] (fCons (fVar 0) fNil) fNil))) (gOr (fTru (fCmp .Lt (fVar 0) (fVar 1))) (gAnd (fTru (fCmp .IsNot (fVar 2) (fC .none))) (fTru (fCmp .Gt (fVar 0) (fVar 2)))))) (sSeq (sRaise (Str.ofString "BadNumber") (fVar 0)) sNil) sNil) sNil) := by
  simp only [B_need_integer, evSs, evS, ev, evAnd, evOr, evs, evo, evt, evp, evr, evx, evxs, List.map_cons, List.map_nil, Exs.len, Txs.len] <;> rfl
theorem sh_need_prime (G : Fns) (fl : List (Str × Str)) : evSs G fl B_need_prime = (sSeq (sIf (gNot (fTru (fCall (G (Str.ofString "is_prime_value")) 1 0 [.inl 0] (fCons (fVar 0) fNil) fNil))) (sSeq (sRaise (Str.ofString "BadPrime") (fVar 0)) sNil) sNil) sNil) := by
  simp only [B_need_prime, evSs, evS, ev, evAnd, evOr, evs, evo, evt, evp, evr, evx, evxs, List.map_cons, List.map_nil, Exs.len, Txs.len] <;> rfl
theorem sh_is_prime_value (G : Fns) (fl : List (Str × Str)) : evSs G fl B_is_prime_value = (sSeq (sRet (fAnd (fCall (G (Str.ofString "is_integer")) 1 0 [.inl 0] (fCons (fVar 0) fNil) fNil) (fCmp .In (fVar 0) (fC (.tuple [(.int 2), (.int 3), (.int 5), (.int 7)]))))) sNil) := by
  simp only [B_is_prime_value, evSs, evS, ev, evAnd, evOr, evs, evo, evt, evp, evr, evx, evxs, List.map_cons, List.map_nil, Exs.len, Txs.len] <;> rfl
end Lb

set_option linter.all false
set_option maxRecDepth 100000
set_option maxHeartbeats 1000000
namespace Lb
open PySem PySem.Spec L2 Dl
/-! LibC: the defs that reckon with tables. -/
@[simp] theorem s_for {Fi : Slots → Sto → Res Src} {G : FT} {B : Slots → Sto → Out} {ρ : Slots} {S : Sto} : sFor Fi G B ρ S = (Fi ρ S).out fun src S1 => forL src.w G B src.xs ρ S1 := rfl
theorem for_inv {β : Type} {G : FT} {B : Slots → Sto → Out} {w : List (Nat × List D)} {ys : List β} (g : β → D) (P : List β → Slots → Sto → Prop) (hw : ∀ done ρ S, P done ρ S → Wat w S)
    (hs : ∀ done y ρ S, P done ρ S → y ∈ ys → ∃ ρ1 S1 ρ2 S2, G (g y) ρ S = .ok ρ1 S1 ∧ (B ρ1 S1 = .nx ρ2 S2 ∨ B ρ1 S1 = .ct ρ2 S2) ∧ P (done ++ [y]) ρ2 S2) :
    ∀ (rest done : List β) (ρ : Slots) (S : Sto), (∀ y ∈ rest, y ∈ ys) → P done ρ S → ∃ ρ' S', forL w G B (rest.map g) ρ S = .nx ρ' S' ∧ P (done ++ rest) ρ' S' := by
  intro rest
  induction rest with
  | nil =>
    intro done ρ S _ p
    refine ⟨ρ, S, ?_, by simpa using p⟩
    unfold forL
    simp only [List.map_nil]
    rw [if_pos (hw _ _ _ p)]
  | cons y rest ih =>
    intro done ρ S hy p
    obtain ⟨ρ1, S1, ρ2, S2, e1, e2, p2⟩ := hs done y ρ S p (hy y (by simp))
    obtain ⟨ρ', S', e3, p3⟩ := ih (done ++ [y]) ρ2 S2 (fun z hz => hy z (by simp [hz])) p2
    refine ⟨ρ', S', ?_, by simpa using p3⟩
    rw [List.map_cons]
    unfold forL
    rw [if_pos (hw _ _ _ p), e1, out_ok]
    rcases e2 with e2 | e2
    · simp only [e2]; exact e3
    · simp only [e2]; exact e3
theorem szl : (8 : Nat) ≤ sizeLine := by decide
section
variable {dfs : List Df} {fl : List (Str × Str)} {sp : Fns → Fns} {S : Sto} {n : Nat}
end
end Lb

set_option linter.all false
set_option maxRecDepth 100000
set_option maxHeartbeats 1000000
namespace Lb
open PySem PySem.Spec L2 Dl
/-! LibD: tables as functions of two places; the program's defs of whole tables. -/
def sm (n : Nat) (h : Nat → Int) : Int := ((List.range n).map h).sum
def mkR (n : Nat) (f : Nat → Int) : List Int := (List.range n).map f
def mkM (n : Nat) (f : Nat → Nat → Int) : List (List Int) := (List.range n).map fun i => mkR n (f i)
theorem sm0 (h : Nat → Int) : sm 0 h = 0 := rfl
theorem smS (n : Nat) (h : Nat → Int) : sm (n + 1) h = sm n h + h n := by simp [sm, List.range_succ]
theorem mkR_ext {n : Nat} {f g : Nat → Int} (h : ∀ i, i < n → f i = g i) : mkR n f = mkR n g := List.map_congr_left fun i hi => h i (List.mem_range.mp hi)
theorem mkM_ext {n : Nat} {f g : Nat → Nat → Int} (h : ∀ i j, i < n → j < n → f i j = g i j) : mkM n f = mkM n g :=
  List.map_congr_left fun i hi => mkR_ext fun j hj => h i j (List.mem_range.mp hi) hj
def In1 (p : Int) (f : Nat → Int) : Prop := ∀ i, 0 ≤ f i ∧ f i < p
def In2 (p : Int) (f : Nat → Nat → Int) : Prop := ∀ i j, 0 ≤ f i j ∧ f i j < p
theorem mod_in {p x : Int} (hp : 0 < p) : 0 ≤ x % p ∧ x % p < p := ⟨Int.emod_nonneg _ (by omega), Int.emod_lt_of_pos _ hp⟩
structure HWhole (D : List Df) : Prop where
  is_fellow : HasB D (Str.ofString "is_fellow") 2 2 B_is_fellow
  need_fellows : HasB D (Str.ofString "need_fellows") 2 2 B_need_fellows
  need_prime : HasB D (Str.ofString "need_prime") 1 1 B_need_prime
  need_integer : HasB D (Str.ofString "need_integer") 3 3 B_need_integer
section
variable {dfs : List Df} {fl : List (Str × Str)} {sp : Fns → Fns} {S : Sto} {n : Nat}
theorem t0 {p : Int} {M : List (List Int)} : opIdx (.p (tabP p M)) (.p (.int 0)) S = .ok (.p (.int p)) S := by simp [tabP]
theorem t1 {p : Int} {M : List (List Int)} : opIdx (.p (tabP p M)) (.p (.int 1)) S = .ok (.p (matP M)) S := by simp [tabP]
theorem sz2 : 2 ≤ sizeLine := by decide
theorem sz3 : 3 ≤ sizeLine := by decide
theorem sz4 : 4 ≤ sizeLine := by decide
theorem sz6 : 6 ≤ sizeLine := by decide
theorem mk2 {a b : PyData} : mkT [.p a, .p b] = .p (.tuple [a, b]) := rfl
theorem mk4 {a b c d : PyData} : mkT [.p a, .p b, .p c, .p d] = .p (.tuple [a, b, c, d]) := rfl
theorem szk {k : Nat} (hk : k ≤ 8) : k ≤ sizeLine := by have := szl; omega
def unitF (i j : Nat) : Int := if i = j then 1 else 0
end
end Lb

set_option linter.all false
set_option maxRecDepth 100000
set_option maxHeartbeats 1000000
namespace Lb
open PySem PySem.Spec L2 Dl
/-! LibF: comprehensions over ranges and rows; the rest of the program's defs of whole tables; the law's own reckonings. -/
section
variable {S : Sto} {ρ : Slots} {F Fa Fb Fe : Slots → Sto → Res D} {k : Nat} {own : List Nat} {u v : Nat}
end
theorem rowP_mk {k : Nat} {f : Nat → Int} : rowP (mkR k f) = .tuple ((List.range k).map fun i => PyData.int (f i)) := by simp [rowP, mkR, Function.comp_def]
theorem fz_row {k : Nat} {f : Nat → Int} : fz (rowP (mkR k f)) = some ((List.range k).map fun i => PyData.int (f i)) := by rw [rowP_mk]; rfl
section
variable {S : Sto} {m : Bool}
end
theorem Pr.p0 {p : Int} (h : Pr p) : 0 < p := by have := h.pos; omega
section
variable {dfs : List Df} {fl : List (Str × Str)} {sp : Fns → Fns} {S : Sto} {n : Nat} {p : Int} {k : Nat} {f g : Nat → Nat → Int}
theorem c_need_prime (H : HWhole dfs) (H1 : HTab dfs) (hn : 3 ≤ n) (hp : Pr p) : evF dfs fl sp n (Str.ofString "need_prime") [.p (.int p)] S = .ok .n S := by
  refine ends (ρ := [some (.p (.int p))]) H.need_prime (by omega) rfl ?_
  have hq := c_is_prime_value (fl := fl) (sp := sp) (n := n - 1) (S := S) (p := p) H1 (by omega)
  have hp' : decide (p ∈ ([2, 3, 5, 7] : List Int)) = true := by simpa [Pr] using hp
  rw [hp'] at hq
  rw [sh_need_prime]
  exact seq_nx (ρ' := [some (.p (.int p))]) (S' := S) (by simp only [s_if, e_gnot, e_tru, e_call, e_cons, e_var, e_nil, List.getElem?_cons_zero, bind_ok, List.length_cons, List.length_nil, Nat.zero_add, and_self, if_true, List.append_nil, List.map_cons, List.map_nil, arrD, List.getD_cons_zero, List.replicate, Nat.reduceSub, List.nil_append, List.cons_append, hq, tru_b, out_ok, Bool.not_true, s_nil]) rfl
theorem c_need_integer (H : HWhole dfs) (H1 : HTab dfs) (hn : 2 ≤ n) {x a b : Int} (h : a ≤ x ∧ x ≤ b) : evF dfs fl sp n (Str.ofString "need_integer") [.p (.int x), .p (.int a), .p (.int b)] S = .ok .n S := by
  refine ends (ρ := [some (.p (.int x)), some (.p (.int a)), some (.p (.int b))]) H.need_integer (by omega) rfl ?_
  have e := c_is_integerI (fl := fl) (sp := sp) (n := n - 1) (S := S) (x := x) H1 (by omega)
  have h1 : ¬ x < a := by omega
  have h2 : ¬ b < x := by omega
  rw [sh_need_integer]
  exact seq_nx (ρ' := [some (.p (.int x)), some (.p (.int a)), some (.p (.int b))]) (S' := S) (by simp only [s_if, e_gor, e_gand, e_gnot, e_tru, e_call, e_cons, e_var, e_nil, List.getElem?_cons_zero, List.getElem?_cons_succ, bind_ok, List.length_cons, List.length_nil, Nat.zero_add, and_self, if_true, List.append_nil, List.map_cons, List.map_nil, arrD, List.getD_cons_zero, List.replicate, List.nil_append, List.cons_append, e, e_cmp, o_lt, o_gt, o_isnotN, e_c, decide_eq_false h1, decide_eq_false h2, isNoneP, Bool.not_false, tru_b, Nat.reduceSub, out_ok, Bool.not_true, s_nil]) rfl
end
end Lb

set_option linter.all false
set_option maxRecDepth 100000
set_option maxHeartbeats 1000000
namespace Lb
open PySem PySem.Spec L2 Dl
def mulF (p : Int) (k : Nat) (f g : Nat → Nat → Int) (i j : Nat) : Int := (sm k fun l => f i l * g l j) % p
def addF (p c : Int) (f g : Nat → Nat → Int) (i j : Nat) : Int := (f i j + c * g i j) % p
def swF (f : Nat → Nat → Int) (i j : Nat) : Int := f j i
def zerF (_ _ : Nat) : Int := 0
theorem in_mul {p : Int} {k : Nat} {f g : Nat → Nat → Int} (hp : 0 < p) : In2 p (mulF p k f g) := fun _ _ => mod_in hp
theorem in_sw {p : Int} {f : Nat → Nat → Int} (h : In2 p f) : In2 p (swF f) := fun i j => h j i
section
variable {dfs : List Df} {fl : List (Str × Str)} {sp : Fns → Fns} {S : Sto} {n : Nat} {p : Int} {k : Nat} {f g : Nat → Nat → Int}
end
section
variable {dfs : List Df} {fl : List (Str × Str)} {sp : Fns → Fns} {S : Sto} {n : Nat} {p : Int} {k : Nat} {f g : Nat → Nat → Int}
end
end Lb

set_option linter.all false
set_option maxRecDepth 100000
set_option maxHeartbeats 1000000
namespace Lb
open PySem PySem.Spec L2 Dl
/-! LibK: the bodies of the drawing defs, their numbers left open (printed by drawk.py). -/
structure DrK where
  a1 : Int
  a2 : Int
  a3 : Int
  a4 : Int
  a5 : Int
  a6 : Int
  a7 : Int
  a8 : Int
  a9 : Int
  a10 : Int
  b0 : Int
  b1 : Int
  b2 : Int
  b3 : Int
  b4 : Int
def B_draw (k : DrK) : Sms := (.cons (.asg (.sub (.var 0) (.c (.str (Str.ofString "draws")))) (.bin .Add true (.idx (.var 0) (.c (.str (Str.ofString "draws")))) (.c (.int 1)))) (.cons (.asg (.nm 2) (.bin .Add false (.idx (.var 0) (.c (.str (Str.ofString "mixed")))) (.bin .Mult false (.c (.int k.a1)) (.idx (.var 0) (.c (.str (Str.ofString "draws"))))))) (.cons (.ite (.cmp .NotEq (.idx (.var 0) (.c (.str (Str.ofString "cells")))) (.lst false .nil)) (.cons (.asg (.nm 3) (.mt false .pop (.idx (.var 0) (.c (.str (Str.ofString "cells")))) .nil)) (.cons (.ite (.cmp .GtE (.var 3) (.bin .Pow false (.c (.int 10)) (.c (.int 18)))) (.cons (.exp (.mt false .append (.idx (.var 0) (.c (.str (Str.ofString "cells")))) (.cons (.bin .FloorDiv false (.var 3) (.bn false .mx (.cons (.c (.int 2)) (.cons (.var 1) .nil)))) .nil))) (.cons (.ret (.bin .Mod false (.bn false .int (.cons (.var 3) .nil)) (.var 1))) .nil)) .nil) (.cons (.asg (.nm 2) (.bin .Add false (.var 2) (.bin .Mod false (.bn false .int (.cons (.var 3) .nil)) (.c (.int k.a2))))) .nil))) .nil) (.cons (.asg (.nm 2) (.bin .Mod false (.bn false .int (.cons (.bin .Add false (.bin .Mult false (.var 2) (.c (.int k.a3))) (.c (.int k.a4))) .nil)) (.c (.int k.a5)))) (.cons (.asg (.nm 2) (.bin .Mod false (.bn false .int (.cons (.bin .Add false (.bin .Add false (.bin .Mult false (.var 2) (.var 2)) (.bin .Mult false (.c (.int k.a6)) (.idx (.var 0) (.c (.str (Str.ofString "draws")))))) (.c (.int k.a7))) .nil)) (.c (.int k.a8)))) (.cons (.asg (.nm 2) (.bin .Mod false (.bn false .int (.cons (.bin .Mult false (.var 2) (.c (.int k.a9))) .nil)) (.c (.int k.a10)))) (.cons (.ret (.bin .Mod false (.bn false .int (.cons (.bin .FloorDiv false (.var 2) (.c (.int 64))) .nil)) (.var 1))) .nil)))))))
def B_deck (k : DrK) : Sms := (.cons (.asg (.nm 1) (.c (.int k.b0))) (.cons (.for_ (.nm 2) (.seq (.sli false (.var 0) .no (.so (.c (.int 63))))) (.cons (.asg (.nm 1) (.bin .Mod false (.bn false .int (.cons (.bin .Add false (.bin .Add false (.bin .Mult false (.var 1) (.c (.int k.b1))) (.bin .Mod false (.bn false .int (.cons (.var 2) .nil)) (.c (.int k.b2)))) (.c (.int k.b3))) .nil)) (.c (.int k.b4)))) .nil)) (.cons (.ret (.dct (.cons (.c (.str (Str.ofString "cells"))) (.rev true (.bn false .lst (.cons (.sli false (.var 0) .no (.so (.c (.int 63)))) .nil))) (.cons (.c (.str (Str.ofString "mixed"))) (.var 1) (.cons (.c (.str (Str.ofString "draws"))) (.c (.int 0)) .nil))))) .nil)))
theorem sh_draw (k : DrK) (G : Fns) (fl : List (Str × Str)) : evSs G fl (B_draw k) = (sSeq (sAsg (fBin .Add true (fIdx (fVar 0) (fC (.str (Str.ofString "draws")))) (fC (.int 1))) (tgSub (fVar 0) (fC (.str (Str.ofString "draws"))))) (sSeq (sAsg (fBin .Add false (fIdx (fVar 0) (fC (.str (Str.ofString "mixed")))) (fBin .Mult false (fC (.int k.a1)) (fIdx (fVar 0) (fC (.str (Str.ofString "draws")))))) (tgNm 2)) (sSeq (sIf (fTru (fCmp .NotEq (fIdx (fVar 0) (fC (.str (Str.ofString "cells")))) (fLst false fNil))) (sSeq (sAsg (fMt false .pop (fIdx (fVar 0) (fC (.str (Str.ofString "cells")))) fNil) (tgNm 3)) (sSeq (sIf (fTru (fCmp .GtE (fVar 3) (fBin .Pow false (fC (.int 10)) (fC (.int 18))))) (sSeq (sExp (fMt false .append (fIdx (fVar 0) (fC (.str (Str.ofString "cells")))) (fCons (fBin .FloorDiv false (fVar 3) (fBn false .mx (fCons (fC (.int 2)) (fCons (fVar 1) fNil)))) fNil))) (sSeq (sRet (fBin .Mod false (fBn false .int (fCons (fVar 3) fNil)) (fVar 1))) sNil)) sNil) (sSeq (sAsg (fBin .Add false (fVar 2) (fBin .Mod false (fBn false .int (fCons (fVar 3) fNil)) (fC (.int k.a2)))) (tgNm 2)) sNil))) sNil) (sSeq (sAsg (fBin .Mod false (fBn false .int (fCons (fBin .Add false (fBin .Mult false (fVar 2) (fC (.int k.a3))) (fC (.int k.a4))) fNil)) (fC (.int k.a5))) (tgNm 2)) (sSeq (sAsg (fBin .Mod false (fBn false .int (fCons (fBin .Add false (fBin .Add false (fBin .Mult false (fVar 2) (fVar 2)) (fBin .Mult false (fC (.int k.a6)) (fIdx (fVar 0) (fC (.str (Str.ofString "draws")))))) (fC (.int k.a7))) fNil)) (fC (.int k.a8))) (tgNm 2)) (sSeq (sAsg (fBin .Mod false (fBn false .int (fCons (fBin .Mult false (fVar 2) (fC (.int k.a9))) fNil)) (fC (.int k.a10))) (tgNm 2)) (sSeq (sRet (fBin .Mod false (fBn false .int (fCons (fBin .FloorDiv false (fVar 2) (fC (.int 64))) fNil)) (fVar 1))) sNil))))))) := by
  simp only [B_draw, evSs, evS, ev, evAnd, evOr, evs, evo, evt, evp, evr, evx, evxs, List.map_cons, List.map_nil, Exs.len, Txs.len] <;> rfl
theorem sh_deck (k : DrK) (G : Fns) (fl : List (Str × Str)) : evSs G fl (B_deck k) = (sSeq (sAsg (fC (.int k.b0)) (tgNm 1)) (sSeq (sFor (fSeq (fSli false (fVar 0) .none (some (fC (.int 63))))) (tgNm 2) (sSeq (sAsg (fBin .Mod false (fBn false .int (fCons (fBin .Add false (fBin .Add false (fBin .Mult false (fVar 1) (fC (.int k.b1))) (fBin .Mod false (fBn false .int (fCons (fVar 2) fNil)) (fC (.int k.b2)))) (fC (.int k.b3))) fNil)) (fC (.int k.b4))) (tgNm 1)) sNil)) (sSeq (sRet (fDct [((fC (.str (Str.ofString "cells"))), (fRev true (fBn false .lst (fCons (fSli false (fVar 0) .none (some (fC (.int 63)))) fNil)))), ((fC (.str (Str.ofString "mixed"))), (fVar 1)), ((fC (.str (Str.ofString "draws"))), (fC (.int 0)))])) sNil))) := by
  simp only [B_deck, evSs, evS, ev, evAnd, evOr, evs, evo, evt, evp, evr, evx, evxs, List.map_cons, List.map_nil, Exs.len, Txs.len] <;> rfl
end Lb

set_option linter.all false
set_option maxRecDepth 100000
set_option maxHeartbeats 1000000
namespace Lb
open PySem PySem.Spec L2 Dl
/-! LibL: the deck of numbers and the drawing from it. -/
abbrev kC : Key := .inr (Str.ofString "cells")
abbrev kM : Key := .inr (Str.ofString "mixed")
abbrev kD : Key := .inr (Str.ofString "draws")
theorem kCM : ¬ kC = kM := by decide
theorem kCD : ¬ kC = kD := by decide
theorem kMD : ¬ kM = kD := by decide
def dk (c : Nat) (mx dr : Int) : List (Key × D) := [(kC, .loc c), (kM, .i mx), (kD, .i dr)]
theorem val_C {c : Nat} {mx dr : Int} : valD (dk c mx dr) kC = some (.loc c) := by simp [dk, valD]
theorem val_M {c : Nat} {mx dr : Int} : valD (dk c mx dr) kM = some (.i mx) := by
  unfold valD dk
  rw [List.find?_cons_of_neg (by simpa using kCM), List.find?_cons_of_pos (by simp)]
  rfl
theorem val_D {c : Nat} {mx dr : Int} : valD (dk c mx dr) kD = some (.i dr) := by
  unfold valD dk
  rw [List.find?_cons_of_neg (by simpa using kCD), List.find?_cons_of_neg (by simpa using kMD), List.find?_cons_of_pos (by simp)]
  rfl
theorem put_D {c : Nat} {mx dr v : Int} : putKD (dk c mx dr) kD (.i v) = dk c mx v := by
  unfold putKD dk
  rw [if_pos (by simp)]
  simp only [List.map_cons, List.map_nil, if_neg kCD, if_neg kMD, if_true]
/-- the deck: its dict in cell l, its numbers in cell c; N draws may still be made -/
def Dk (l c N : Nat) (S : Sto) : Prop := ∃ (cs : List Int) (mx dr : Int), S[l]? = some (.dK (dk c mx dr)) ∧ S[c]? = some (.lst (cs.map D.i)) ∧ l ≠ c ∧ cs.length ≤ 100 ∧ 0 ≤ mx ∧ mx < 2 ^ 32 ∧ 0 ≤ dr ∧ dr + N < 2 ^ 40
/-- the other cells stay; new ones may have come -/
def Fr (l c : Nat) (S S' : Sto) : Prop := S.length ≤ S'.length ∧ ∀ i, i < S.length → i ≠ l → i ≠ c → S'[i]? = S[i]?
theorem Fr.refl (l c : Nat) (S : Sto) : Fr l c S S := ⟨Nat.le_refl _, fun _ _ _ _ => rfl⟩
theorem Fr.trans {l c : Nat} {S S1 S2 : Sto} (h : Fr l c S S1) (h2 : Fr l c S1 S2) : Fr l c S S2 := ⟨Nat.le_trans h.1 h2.1, fun i hi a b => by
  rw [h2.2 i (by have := h.1; omega) a b, h.2 i hi a b]⟩
theorem Dk.le {l c N M : Nat} {S : Sto} (h : Dk l c N S) (hm : M ≤ N) : Dk l c M S := by
  obtain ⟨cs, mx, dr, h1, h2, h3, h4, h5, h6, h7, h8⟩ := h
  exact ⟨cs, mx, dr, h1, h2, h3, h4, h5, h6, h7, by omega⟩
theorem Dk.lt {l c N : Nat} {S : Sto} (h : Dk l c N S) : l < S.length ∧ c < S.length := by
  obtain ⟨cs, mx, dr, h1, h2, _⟩ := h
  exact ⟨(List.getElem?_eq_some_iff.mp h1).1, (List.getElem?_eq_some_iff.mp h2).1⟩
theorem closed_ints (n : Nat) : ∀ cs : List Int, closedAll n (cs.map D.i) = true
  | [] => rfl
  | x :: cs => by simp only [List.map_cons, closedAll, D.closed, closed_ints n cs, Bool.and_self]
/-- a def that touches only the deck hands back a frozen value -/
theorem fin_dk {l c N : Nat} {S S' : Sto} {d : PyData} (f : Fr l c S S') (h : Dk l c N S') (hl : l < S.length) (hc : c < S.length) :
    fin S (.rt (.p d) S') = .ok (.p d) (S'.take S.length) ∧ Dk l c N (S'.take S.length) ∧ Fr l c S (S'.take S.length) ∧ (S'.take S.length).length = S.length := by
  obtain ⟨cs, mx, dr, h1, h2, h3, h4, h5, h6, h7, h8⟩ := h
  have t : TrimOk S S' := ⟨f.1, fun i x hi hx => by
    by_cases a : i = l
    · subst a
      rw [h1] at hx
      cases hx
      right
      simp [Cell.closed, dk, D.closed, hc]
    · by_cases b : i = c
      · subst b
        rw [h2] at hx
        cases hx
        right
        simpa [Cell.closed] using closed_ints _ cs
      · left
        rw [f.2 i hi a b] at hx
        exact hx⟩
  have len : (S'.take S.length).length = S.length := by
    have := f.1
    simp
    omega
  refine ⟨?_, ⟨cs, mx, dr, ?_, ?_, h3, h4, h5, h6, h7, h8⟩, ⟨by omega, fun i hi a b => ?_⟩, len⟩
  · simp only [fin]
    rw [if_pos ⟨t, by simp [D.closed]⟩]
  · rw [List.getElem?_take, if_pos hl, h1]
  · rw [List.getElem?_take, if_pos hc, h2]
  · rw [List.getElem?_take, if_pos hi, f.2 i hi a b]
structure DrK.Ok (k : DrK) : Prop where
  a1 : 0 ≤ k.a1 ∧ k.a1 < 2 ^ 32
  a2 : 0 < k.a2 ∧ k.a2 < 2 ^ 32
  a3 : 0 ≤ k.a3 ∧ k.a3 < 2 ^ 32
  a4 : 0 ≤ k.a4 ∧ k.a4 < 2 ^ 32
  a5 : 0 < k.a5 ∧ k.a5 < 2 ^ 32
  a6 : 0 ≤ k.a6 ∧ k.a6 < 2 ^ 32
  a7 : 0 ≤ k.a7 ∧ k.a7 < 2 ^ 32
  a8 : 0 < k.a8 ∧ k.a8 < 2 ^ 32
  a9 : 0 ≤ k.a9 ∧ k.a9 < 2 ^ 32
  a10 : 0 < k.a10 ∧ k.a10 < 2 ^ 32
  b0 : 0 ≤ k.b0 ∧ k.b0 < 2 ^ 32
  b1 : 0 ≤ k.b1 ∧ k.b1 < 2 ^ 32
  b2 : 0 < k.b2 ∧ k.b2 < 2 ^ 32
  b3 : 0 ≤ k.b3 ∧ k.b3 < 2 ^ 32
  b4 : 0 < k.b4 ∧ k.b4 < 2 ^ 32
section
variable {S : Sto} {l c : Nat} {mx dr : Int} {cs : List Int}
theorem ix_C (h : S[l]? = some (.dK (dk c mx dr))) : opIdx (.loc l) (.p (.str (Str.ofString "cells"))) S = .ok (.loc c) S := by
  simp only [opIdx, dctOf, h, Dl.keyOf]
  rw [show (Sum.inr (Str.ofString "cells") : Key) = kC from rfl, val_C]
theorem ix_M (h : S[l]? = some (.dK (dk c mx dr))) : opIdx (.loc l) (.p (.str (Str.ofString "mixed"))) S = .ok (.i mx) S := by
  simp only [opIdx, dctOf, h, Dl.keyOf]
  rw [show (Sum.inr (Str.ofString "mixed") : Key) = kM from rfl, val_M]
theorem ix_D (h : S[l]? = some (.dK (dk c mx dr))) : opIdx (.loc l) (.p (.str (Str.ofString "draws"))) S = .ok (.i dr) S := by
  simp only [opIdx, dctOf, h, Dl.keyOf]
  rw [show (Sum.inr (Str.ofString "draws") : Key) = kD from rfl, val_D]
theorem set_D {v : Int} (h : S[l]? = some (.dK (dk c mx dr))) : opSet (.loc l) (.p (.str (Str.ofString "draws"))) (.i v) S = .ok () (S.set l (.dK (dk c mx v))) := by
  have sz : 3 < sizeLine := by decide
  simp only [opSet, h, Dl.keyOf]
  rw [show (Sum.inr (Str.ofString "draws") : Key) = kD from rfl, put_D, if_pos (by simpa [dk] using sz)]
theorem shp_ints : ∀ cs : List Int, PyData.canLayAll0 (cs.map PyData.int) = true ∧ PyData.depthAll (cs.map PyData.int) = 0
  | [] => by simp [PyData.canLayAll0, PyData.depthAll]
  | x :: cs => by simp [PyData.canLayAll0, PyData.depthAll, PyData.canLay0, PyData.depth, shp_ints cs]
theorem ints_D (cs : List Int) : cs.map D.i = (cs.map PyData.int).map D.p := by simp [Function.comp_def]
theorem ne_nil (h : S[c]? = some (.lst (cs.map D.i))) : opCmp .NotEq (.loc c) (.p (.list [])) S = .ok (.b (!decide (cs = []))) S := by
  show opEq true (.loc c) (.p (.list [])) S = _
  have e : asP (.loc c) S = some (.list (cs.map PyData.int)) := by
    simp only [asP, h, ints_D, allP_map, Option.map_some]
  simp only [opEq, e, asP_p]
  rw [if_pos ⟨by simp [SeqAt.shaped, PyData.canLay0, PyData.depth, shp_ints], by simp [SeqAt.shaped, PyData.canLay0, PyData.depth, PyData.canLayAll0, PyData.depthAll]⟩]
  cases cs <;> simp [PyData.eqv, PyData.eqvAll]
theorem pop_c {x : Int} (h : S[c]? = some (.lst ((cs ++ [x]).map D.i))) : opMt false .pop (.loc c) [] S = .ok (.i x) (S.set c (.lst (cs.map D.i))) := by
  simp only [opMt, cellL, h]
  simp
theorem app_c {x : Int} (h : S[c]? = some (.lst (cs.map D.i))) (hz : cs.length ≤ 100) : opMt false .append (.loc c) [.i x] S = .ok .n (S.set c (.lst ((cs ++ [x]).map D.i))) := by
  have sz : 100 < sizeLine := by decide
  simp only [opMt, cellL, h]
  rw [if_pos (by simp; omega)]
  simp
theorem rcv_c (h : S[c]? = some (.lst (cs.map D.i))) : rcv (.loc c) S = some "list" := by simp only [rcv, h]
theorem set_at {i : Nat} {x : Cell} (h : i < S.length) : (S.set i x)[i]? = some x := by simp [h]
theorem set_ne {i j : Nat} {x : Cell} (h : i ≠ j) : (S.set i x)[j]? = S[j]? := by simp [h]
end
section
variable {dfs : List Df} {fl : List (Str × Str)} {sp : Fns → Fns} {S : Sto} {n : Nat} {k : DrK} {l c N : Nat}
theorem o_mul9 {S : Sto} {m : Bool} {a b : Int} (ha : -(2 ^ 128) < a ∧ a < 2 ^ 128) (hb : -(2 ^ 128) < b ∧ b < 2 ^ 128) : opBin .Mult m (.p (.int a)) (.p (.int b)) S = .ok (.i (a * b)) S :=
  o_mulB (k := 128) (by omega) (by omega) (by omega)
theorem mul_32 {a b : Int} (ha : 0 ≤ a ∧ a < 2 ^ 32) (hb : 0 ≤ b ∧ b < 2 ^ 40) : 0 ≤ a * b ∧ a * b < 2 ^ 72 := by
  have h1 := Int.mul_nonneg ha.1 hb.1
  have h2 : a * b ≤ 2 ^ 32 * b := Int.mul_le_mul_of_nonneg_right (by omega) hb.1
  omega
/-- the last part: three mixings and the answer -/
theorem draw_end (K : k.Ok) {mx dr num many : Int} {d3 : Option D} (h : S[l]? = some (.dK (dk c mx dr))) (hd : 0 ≤ dr ∧ dr < 2 ^ 40) (hn : 0 ≤ num ∧ num < 2 ^ 100) (hm : 0 < many) :
    ∃ r, 0 ≤ r ∧ r < many ∧ (sSeq (sAsg (fBin .Mod false (fBn false .int (fCons (fBin .Add false (fBin .Mult false (fVar 2) (fC (.int k.a3))) (fC (.int k.a4))) fNil)) (fC (.int k.a5))) (tgNm 2)) (sSeq (sAsg (fBin .Mod false (fBn false .int (fCons (fBin .Add false (fBin .Add false (fBin .Mult false (fVar 2) (fVar 2)) (fBin .Mult false (fC (.int k.a6)) (fIdx (fVar 0) (fC (.str (Str.ofString "draws")))))) (fC (.int k.a7))) fNil)) (fC (.int k.a8))) (tgNm 2)) (sSeq (sAsg (fBin .Mod false (fBn false .int (fCons (fBin .Mult false (fVar 2) (fC (.int k.a9))) fNil)) (fC (.int k.a10))) (tgNm 2)) (sSeq (sRet (fBin .Mod false (fBn false .int (fCons (fBin .FloorDiv false (fVar 2) (fC (.int 64))) fNil)) (fVar 1))) sNil)))) [some (.loc l), some (.i many), some (.i num), d3] S = .rt (.i r) S := by
  have b3 := K.a3
  have b6 := K.a6
  have b9 := K.a9
  have x1 := mod_in (p := k.a5) (x := num * k.a3 + k.a4) K.a5.1
  have x1' := K.a5.2
  have x2 := mod_in (p := k.a8) (x := (num * k.a3 + k.a4) % k.a5 * ((num * k.a3 + k.a4) % k.a5) + k.a6 * dr + k.a7) K.a8.1
  have x2' := K.a8.2
  refine ⟨((((num * k.a3 + k.a4) % k.a5 * ((num * k.a3 + k.a4) % k.a5) + k.a6 * dr + k.a7) % k.a8) * k.a9 % k.a10) / 64 % many, (mod_in hm).1, (mod_in hm).2, ?_⟩
  simp [o_mul9 (a := num) (b := k.a3) (by omega) (by omega), o_mod K.a5.1, ix_D h]
  rw [o_mul9 (by omega) (by omega)]
  simp [ix_D h, o_mul9 (a := k.a6) (b := dr) (by omega) (by omega), o_mod K.a8.1]
  rw [o_mul9 (by omega) (by omega)]
  simp [o_mod K.a10.1, o_div, o_mod hm]
theorem c_draw (H : HasB dfs (Str.ofString "_law_draw") 2 4 (B_draw k)) (K : k.Ok) (hn : 1 ≤ n) (Hd : Dk l c (N + 1) S) {many : Int} (hm : 0 < many) (hm2 : many < 2 ^ 60) :
    ∃ r S', evF dfs fl sp n (Str.ofString "_law_draw") [.loc l, .p (.int many)] S = .ok (.i r) S' ∧ 0 ≤ r ∧ r < many ∧ Dk l c N S' ∧ Fr l c S S' ∧ S'.length = S.length := by
  obtain ⟨hl, hc⟩ := Hd.lt
  rw [at' H hn rfl]
  suffices h : ∃ r S', evSs (evF dfs fl sp (n - 1)) fl (B_draw k) [some (.loc l), some (.i many), none, none] S = .rt (.i r) S' ∧ 0 ≤ r ∧ r < many ∧ Dk l c N S' ∧ Fr l c S S' by
    obtain ⟨r, S', h1, h2, h3, h4, h5⟩ := h
    obtain ⟨f1, f2, f3, f4⟩ := fin_dk (d := .int r) h5 h4 hl hc
    exact ⟨r, _, by rw [show ([D.loc l, D.p (.int many)].map some ++ List.replicate (4 - 2) none : Slots) = [some (.loc l), some (.i many), none, none] from rfl, h1, f1], h2, h3, f2, f3, f4⟩
  obtain ⟨cs, mx, dr, h1, h2, h3, h4, h5, h6, h7, h8⟩ := Hd
  have e1 : (S.set l (.dK (dk c mx (dr + 1))))[l]? = some (.dK (dk c mx (dr + 1))) := set_at hl
  have e2 : (S.set l (.dK (dk c mx (dr + 1))))[c]? = some (.lst (cs.map D.i)) := by rw [set_ne h3, h2]
  have b1 := K.a1
  let S1 : Sto := S.set l (.dK (dk c mx (dr + 1)))
  have e1 : S1[l]? = some (.dK (dk c mx (dr + 1))) := e1
  have e2 : S1[c]? = some (.lst (cs.map D.i)) := e2
  have f1 : Fr l c S S1 := ⟨by simp [S1], fun i _ a _ => set_ne fun z => a z.symm⟩
  have dr1 : 0 ≤ dr + 1 ∧ dr + 1 < 2 ^ 40 := by omega
  have dm := mul_32 b1 dr1
  have q1 : (sAsg (fBin .Add true (fIdx (fVar 0) (fC (.str (Str.ofString "draws")))) (fC (.int 1))) (tgSub (fVar 0) (fC (.str (Str.ofString "draws"))))) [some (.loc l), some (.i many), none, none] S = .nx [some (.loc l), some (.i many), none, none] S1 := by
    simp [ix_D h1, set_D h1, S1]
  have q2 : (sAsg (fBin .Add false (fIdx (fVar 0) (fC (.str (Str.ofString "mixed")))) (fBin .Mult false (fC (.int k.a1)) (fIdx (fVar 0) (fC (.str (Str.ofString "draws")))))) (tgNm 2)) [some (.loc l), some (.i many), none, none] S1 = .nx [some (.loc l), some (.i many), some (.i (mx + k.a1 * (dr + 1))), none] S1 := by
    simp [ix_M e1, ix_D e1, o_mul9 (a := k.a1) (b := dr + 1) (by omega) (by omega)]
  rw [sh_draw, s_seq, q1]
  dsimp only
  rw [s_seq, q2]
  dsimp only
  rw [s_seq]
  have fn : evF dfs fl sp = evF dfs fl sp := rfl
  rcases List.eq_nil_or_concat cs with z | ⟨cs', x, z⟩
  · subst z
    have q3 : (sIf (fTru (fCmp .NotEq (fIdx (fVar 0) (fC (.str (Str.ofString "cells")))) (fLst false fNil))) (sSeq (sAsg (fMt false .pop (fIdx (fVar 0) (fC (.str (Str.ofString "cells")))) fNil) (tgNm 3)) (sSeq (sIf (fTru (fCmp .GtE (fVar 3) (fBin .Pow false (fC (.int 10)) (fC (.int 18))))) (sSeq (sExp (fMt false .append (fIdx (fVar 0) (fC (.str (Str.ofString "cells")))) (fCons (fBin .FloorDiv false (fVar 3) (fBn false .mx (fCons (fC (.int 2)) (fCons (fVar 1) fNil)))) fNil))) (sSeq (sRet (fBin .Mod false (fBn false .int (fCons (fVar 3) fNil)) (fVar 1))) sNil)) sNil) (sSeq (sAsg (fBin .Add false (fVar 2) (fBin .Mod false (fBn false .int (fCons (fVar 3) fNil)) (fC (.int k.a2)))) (tgNm 2)) sNil))) sNil) [some (.loc l), some (.i many), some (.i (mx + k.a1 * (dr + 1))), none] S1 = .nx [some (.loc l), some (.i many), some (.i (mx + k.a1 * (dr + 1))), none] S1 := by
      have en := ne_nil e2
      simp [ix_C e1, mkL, allP, en]
    rw [q3]
    dsimp only
    obtain ⟨r, r0, r1, r2⟩ := draw_end (d3 := none) (many := many) (num := mx + k.a1 * (dr + 1)) K e1 dr1 (by omega) hm
    exact ⟨r, S1, r2, r0, r1, ⟨[], mx, dr + 1, e1, e2, h3, by simp, h5, h6, dr1.1, by omega⟩, f1⟩
  · rw [List.concat_eq_append] at z
    subst z
    have hlen : cs'.length < 100 := by simp at h4; omega
    let S2 : Sto := S1.set c (.lst (cs'.map D.i))
    have hc1 : c < S1.length := by simpa [S1] using hc
    have e3 : S2[c]? = some (.lst (cs'.map D.i)) := set_at hc1
    have e4 : S2[l]? = some (.dK (dk c mx (dr + 1))) := by rw [show S2 = S1.set c (.lst (cs'.map D.i)) from rfl, set_ne (fun z => h3 z.symm), e1]
    have f2 : Fr l c S S2 := f1.trans ⟨by simp [S2], fun i _ _ b => set_ne fun z => b z.symm⟩
    have en : opCmp .NotEq (.loc c) (.p (.list [])) S1 = .ok (.b true) S1 := by
      rw [ne_nil e2]; simp
    have pw : opBin .Pow false (.p (.int 10)) (.p (.int 18)) S2 = .ok (.i (10 ^ 18)) S2 := o_pow (by omega) (by omega)
    have pp : opMt false .pop (.loc c) [] S1 = .ok (.i x) S2 := pop_c e2
    by_cases big : (1000000000000000000 : Int) ≤ x
    · let v : Int := if many > 2 then many else 2
      have v0 : 0 < v ∧ v < 2 ^ 64 := by
        simp only [v]
        split <;> omega
      let S3 : Sto := S2.set c (.lst ((cs' ++ [x / v]).map D.i))
      have ap : opMt false .append (.loc c) [.i (x / v)] S2 = .ok .n S3 := app_c e3 (by omega)
      have hc2 : c < S2.length := by simpa [S2] using hc1
      have e5 : S3[c]? = some (.lst ((cs' ++ [x / v]).map D.i)) := set_at hc2
      have e6 : S3[l]? = some (.dK (dk c mx (dr + 1))) := by rw [show S3 = S2.set c (.lst ((cs' ++ [x / v]).map D.i)) from rfl, set_ne (fun z => h3 z.symm), e4]
      have f3 : Fr l c S S3 := f2.trans ⟨by simp [S3], fun i _ _ b => set_ne fun z => b z.symm⟩
      refine ⟨x % many, S3, ?_, (mod_in hm).1, (mod_in hm).2, ⟨cs' ++ [x / v], mx, dr + 1, e6, e5, h3, by simp; omega, h5, h6, dr1.1, by omega⟩, f3⟩
      have od : opBin .FloorDiv false (.p (.int x)) (.p (.int v)) S2 = .ok (.i (x / v)) S2 := o_div v0.1 v0.2
      simp only [v] at od ap
      simp [ix_C e1, mkL, allP, en, rcv_c e2, Mt.ty, pp]
      simp [pw, ix_C e4, rcv_c e3, big, Mt.ty, od, ap, o_mod hm]
    · have ms := mod_in (x := x) K.a2.1
      have ms' := K.a2.2
      obtain ⟨r, r0, r1, r2⟩ := draw_end (d3 := some (.i x)) (many := many) (num := mx + k.a1 * (dr + 1) + x % k.a2) K e4 dr1 (by omega) hm
      refine ⟨r, S2, ?_, r0, r1, ⟨cs', mx, dr + 1, e4, e3, h3, by omega, h5, h6, dr1.1, by omega⟩, f2⟩
      have q3 : (sIf (fTru (fCmp .NotEq (fIdx (fVar 0) (fC (.str (Str.ofString "cells")))) (fLst false fNil))) (sSeq (sAsg (fMt false .pop (fIdx (fVar 0) (fC (.str (Str.ofString "cells")))) fNil) (tgNm 3)) (sSeq (sIf (fTru (fCmp .GtE (fVar 3) (fBin .Pow false (fC (.int 10)) (fC (.int 18))))) (sSeq (sExp (fMt false .append (fIdx (fVar 0) (fC (.str (Str.ofString "cells")))) (fCons (fBin .FloorDiv false (fVar 3) (fBn false .mx (fCons (fC (.int 2)) (fCons (fVar 1) fNil)))) fNil))) (sSeq (sRet (fBin .Mod false (fBn false .int (fCons (fVar 3) fNil)) (fVar 1))) sNil)) sNil) (sSeq (sAsg (fBin .Add false (fVar 2) (fBin .Mod false (fBn false .int (fCons (fVar 3) fNil)) (fC (.int k.a2)))) (tgNm 2)) sNil))) sNil) [some (.loc l), some (.i many), some (.i (mx + k.a1 * (dr + 1))), none] S1 = .nx [some (.loc l), some (.i many), some (.i (mx + k.a1 * (dr + 1) + x % k.a2)), some (.i x)] S2 := by
        simp [ix_C e1, mkL, allP, en, rcv_c e2, Mt.ty, pp]
        simp [pw, big, o_mod K.a2.1]
      rw [q3]
      dsimp only
      exact r2
end
end Lb

set_option linter.all false
set_option maxRecDepth 100000
set_option maxHeartbeats 1000000
namespace Lb
open PySem PySem.Spec L2 Dl
/-! LibM: the deck made of a script; comprehensions that draw. -/
section
variable {dfs : List Df} {fl : List (Str × Str)} {sp : Fns → Fns} {S : Sto} {n : Nat} {k : DrK} {l c N : Nat}
theorem c_deck (H : HasB dfs (Str.ofString "_law_deck") 1 3 (B_deck k)) (K : k.Ok) (hn : 1 ≤ n) {ns : List Int} (h : ns.length ≤ 63) :
    ∃ S', evF dfs fl sp n (Str.ofString "_law_deck") [.p (.list (ns.map PyData.int))] S = .ok (.loc S.length) S' ∧ Dk S.length (S.length + 1) 1000000 S' ∧ S'.length = S.length + 2 := by
  have sz : 63 ≤ sizeLine := by decide
  have cut : cutD ((ns.map PyData.int).map D.p) none (some 63) = (ns.map PyData.int).map D.p := by
    unfold cutD
    rw [show HT.sIx ((ns.map PyData.int).map D.p).length 0 none = 0 from rfl, show (some (63 : Int)) = some ((63 : Nat) : Int) from rfl, HT.sIx_nat]
    rw [List.drop_zero, List.take_of_length_le (by simp only [List.length_map]; omega)]
  have sl : ∀ S : Sto, opSli false (.p (.list (ns.map PyData.int))) none (some 63) S = .ok (.p (.list (ns.map PyData.int))) S := fun S => by
    simp only [opSli, tupOf_list, lstOf_list]
    rw [cut, mkL_map]
  have loop := for_inv (G := tgNm 2) (B := (sSeq (sAsg (fBin .Mod false (fBn false .int (fCons (fBin .Add false (fBin .Add false (fBin .Mult false (fVar 1) (fC (.int k.b1))) (fBin .Mod false (fBn false .int (fCons (fVar 2) fNil)) (fC (.int k.b2)))) (fC (.int k.b3))) fNil)) (fC (.int k.b4))) (tgNm 1)) sNil)) (w := []) (ys := ns) (fun x => D.p (.int x))
    (fun _ ρ S' => S' = S ∧ ∃ mx x, ρ = [some (.p (.list (ns.map PyData.int))), some (.i mx), x] ∧ 0 ≤ mx ∧ mx < 2 ^ 32) (fun _ _ _ _ => by simp) (by
      rintro done y ρ S' ⟨rfl, mx, x, rfl, m0, m1⟩ _
      have b1 := K.b1
      have b4 := mod_in (p := k.b4) (x := mx * k.b1 + y % k.b2 + k.b3) K.b4.1
      have b4' := K.b4.2
      refine ⟨[some (.p (.list (ns.map PyData.int))), some (.i mx), some (.i y)], S', _, S', rfl, .inl (by simp [o_mul9 (a := mx) (b := k.b1) (by omega) (by omega), o_mod K.b2.1, o_mod K.b4.1]; rfl), rfl, (mx * k.b1 + y % k.b2 + k.b3) % k.b4, some (.i y), ?_, b4.1, by omega⟩
      simp)
    ns [] [some (.p (.list (ns.map PyData.int))), some (.i k.b0), none] S (fun _ h => h) ⟨rfl, k.b0, none, rfl, K.b0.1, K.b0.2⟩
  obtain ⟨ρ', S', e1, rfl, mx, x, rfl, m0, m1⟩ := loop
  have src : fSeq (fSli false (fVar 0) .none (some (fC (.int 63)))) [some (.p (.list (ns.map PyData.int))), some (.i k.b0), none] S' = .ok ⟨ns.map fun x => D.p (.int x), []⟩ S' := by
    rw [i_seqL (ds := ns.map PyData.int) (by simp [sl])]
    simp
  let S2 : Sto := S' ++ [.dK []] ++ [.lst (ns.reverse.map D.i)]
  let S3 : Sto := S2.set S'.length (.dK (dk (S'.length + 1) mx 0))
  have g2 : S2[S'.length]? = some (.dK []) := by simp [S2]
  have dct : fDct [((fC (.str (Str.ofString "cells"))), (fRev true (fBn false .lst (fCons (fSli false (fVar 0) .none (some (fC (.int 63)))) fNil)))), ((fC (.str (Str.ofString "mixed"))), (fVar 1)), ((fC (.str (Str.ofString "draws"))), (fC (.int 0)))] [some (.p (.list (ns.map PyData.int))), some (.i mx), x] S' = .ok (.loc S'.length) S3 := by
    have rv : opRev true (.p (.list (ns.map PyData.int))) (S' ++ [.dK []]) = .ok (.loc (S'.length + 1)) S2 := by
      simp [opRev, S2]
    have mg : mergeD [] (dk (S'.length + 1) mx 0) = dk (S'.length + 1) mx 0 := by
      unfold mergeD dk
      simp only [List.foldl_cons, List.foldl_nil]
      have p1 : putKD ([] : List (Key × D)) kC (.loc (S'.length + 1)) = [(kC, .loc (S'.length + 1))] := rfl
      have p2 : putKD [(kC, D.loc (S'.length + 1))] kM (.i mx) = [(kC, .loc (S'.length + 1)), (kM, .i mx)] := by
        unfold putKD
        rw [if_neg (by simpa using kCM)]
        rfl
      have p3 : putKD [(kC, D.loc (S'.length + 1)), (kM, .i mx)] kD (.i 0) = [(kC, .loc (S'.length + 1)), (kM, .i mx), (kD, .i 0)] := by
        unfold putKD
        have e : ([(kC, D.loc (S'.length + 1)), (kM, D.i mx)].any fun q => decide (q.1 = kD)) = false := by
          simp only [List.any_cons, List.any_nil, decide_eq_false kCD, decide_eq_false kMD, Bool.or_self]
        rw [e]
        rfl
      rw [p1, p2, p3]
    simp only [fDct, pairsF, e_c, bind_ok, fRev, e_bn, e_cons, e_sli, e_var, List.getElem?_cons_zero, e_part0, e_part1, e_nil, sl, b_lstL, rv, List.getElem?_cons_succ, g2, keysOf, Dl.keyOf]
    show (if ([(kC, D.loc (S'.length + 1)), (kM, .i mx), (kD, .i 0)] : List (Key × D)).length ≤ 15 then _ else _) = _
    rw [if_pos (by simp), show ([(kC, D.loc (S'.length + 1)), (kM, .i mx), (kD, .i 0)] : List (Key × D)) = dk (S'.length + 1) mx 0 from rfl, mg]
  refine ⟨S3, ?_, ⟨ns.reverse, mx, 0, by simp [S3, S2], by simp [S3, S2], by omega, by simp; omega, m0, m1, by omega, by omega⟩, by simp [S3, S2]⟩
  rw [at' H hn rfl, sh_deck, s_seq]
  simp only [List.map_cons, List.map_nil, List.cons_append, List.nil_append, List.replicate]
  simp
  rw [src]
  simp only [out_ok]
  rw [e1]
  dsimp only
  rw [dct]
  simp only [out_ok, fin]
  rw [if_neg (by simp [D.closed])]
end
end Lb

set_option linter.all false
set_option maxRecDepth 100000
set_option maxHeartbeats 1000000
namespace Lb
open PySem PySem.Spec L2 Dl
/-! LibN: comprehensions that draw; picking, rows. -/
/-- from S to S' only the deck went on -/
def Go (l c N : Nat) (S S' : Sto) : Prop := Dk l c N S' ∧ Fr l c S S' ∧ S'.length = S.length
theorem Go.trans {l c N M : Nat} {S S1 S2 : Sto} (h : Go l c N S S1) (h2 : Go l c M S1 S2) : Go l c M S S2 := ⟨h2.1, h.2.1.trans h2.2.1, by rw [h2.2.2, h.2.2]⟩
theorem Go.le {l c N M : Nat} {S S1 : Sto} (h : Go l c N S S1) (hm : M ≤ N) : Go l c M S S1 := ⟨h.1.le hm, h.2⟩
theorem Go.refl {l c N : Nat} {S : Sto} (h : Dk l c N S) : Go l c N S S := ⟨h, Fr.refl _ _ _, rfl⟩
section
variable {S : Sto} {ρ : Slots} {F Fe : Slots → Sto → Res D} {k : Nat} {own : List Nat} {v l c : Nat}
end
structure HDrw (D : List Df) (k : DrK) : Prop where
  ok : k.Ok
  draw : HasB D (Str.ofString "_law_draw") 2 4 (B_draw k)
section
variable {dfs : List Df} {fl : List (Str × Str)} {sp : Fns → Fns} {S : Sto} {n : Nat} {q : DrK} {l c N k : Nat} {p : Int}
theorem l_draw (H : HDrw dfs q) (hn : 1 ≤ n) (hd : Dk l c (N + 1) S) {many : Int} (hm : 0 < many) (hm2 : many < 2 ^ 60) :
    ∃ r S', evF dfs fl sp n (Str.ofString "_law_draw") [.loc l, .p (.int many)] S = .ok (.i r) S' ∧ 0 ≤ r ∧ r < many ∧ Go l c N S S' := by
  obtain ⟨r, S', h1, h2, h3, h4, h5, h6⟩ := c_draw H.draw H.ok hn hd hm hm2
  exact ⟨r, S', h1, h2, h3, h4, h5, h6⟩
theorem l_drawN (H : HDrw dfs q) (hn : 1 ≤ n) (hd : Dk l c (N + 1) S) {many : Nat} (hm : 0 < many) (hm2 : many < 1000000) :
    ∃ (r : Nat) (S' : Sto), evF dfs fl sp n (Str.ofString "_law_draw") [.loc l, .p (.int (many : Nat))] S = .ok (.i (r : Nat)) S' ∧ r < many ∧ Go l c N S S' := by
  obtain ⟨r, S', h1, h2, h3, h4⟩ := l_draw H hn hd (many := (many : Nat)) (by omega) (by omega)
  refine ⟨r.toNat, S', ?_, by omega, h4⟩
  rw [h1, Int.toNat_of_nonneg h2]
theorem fin_go {S S' : Sto} {d : PyData} (hd : Go l c N S S') : fin S (.rt (.p d) S') = .ok (.p d) S' := by
  have lt := hd.1.lt
  rw [hd.2.2] at lt
  obtain ⟨h1, _⟩ := fin_dk (d := d) hd.2.1 hd.1 lt.1 lt.2
  rw [h1, List.take_of_length_le (by rw [hd.2.2]; exact Nat.le_refl _)]
/-- the def's body goes on with the deck and gives back a frozen value -/
theorem givesS {f : Str} {a b : Nat} {B : Sms} (h : HasB dfs f a b B) (hn : 1 ≤ n) {ds : List D} (hl : ds.length = a) {S : Sto} {Q : PyData → Prop}
    (e : ∃ r S', evSs (evF dfs fl sp (n - 1)) fl B (ds.map some ++ List.replicate (b - a) none) S = .rt (.p r) S' ∧ Q r ∧ Go l c N S S') : ∃ r S', evF dfs fl sp n f ds S = .ok (.p r) S' ∧ Q r ∧ Go l c N S S' := by
  obtain ⟨r, S', e1, e2, e3⟩ := e
  exact ⟨r, S', by rw [at' h hn hl, e1, fin_go e3], e2, e3⟩
theorem l_pick (H : HDrw dfs q) (H2 : HasB dfs (Str.ofString "_law_pick") 2 2 B__law_pick) (hn : 2 ≤ n) {ds : List PyData} (h0 : 0 < ds.length) (h1 : ds.length < 1000000) (hd : Dk l c (N + 1) S) :
    ∃ r S', evF dfs fl sp n (Str.ofString "_law_pick") [.loc l, .p (.list ds)] S = .ok (.p r) S' ∧ r ∈ ds ∧ Go l c N S S' := by
  refine givesS H2 (by omega) rfl ?_
  obtain ⟨r, S', e1, e2, e3⟩ := l_drawN (fl := fl) (sp := sp) (n := n - 1) H (by omega) hd h0 h1
  refine ⟨ds[r], S', ?_, List.getElem_mem _, e3⟩
  have ix : opIdx (.p (.list ds)) (.p (.int (r : Nat))) S' = .ok (.p ds[r]) S' := o_idxL (List.getElem?_eq_getElem e2)
  rw [sh__law_pick]
  simp [arrD, e1, ix]
end
end Lb

set_option linter.all false
set_option maxRecDepth 100000
set_option maxHeartbeats 1000000
namespace Lb
/-! LibQ: sums and tables modulo p: plain maths. -/
section
variable {n k : Nat} {p : Int}
theorem sm_congr {f g : Nat → Int} : ∀ {n : Nat}, (∀ i, i < n → f i = g i) → sm n f = sm n g
  | 0, _ => rfl
  | n + 1, h => by rw [smS, smS, sm_congr fun i hi => h i (by omega), h n (by omega)]
theorem sm_add (f g : Nat → Int) : ∀ n, sm n (fun i => f i + g i) = sm n f + sm n g
  | 0 => rfl
  | n + 1 => by rw [smS, smS, smS, sm_add f g n]; omega
theorem sm_mulR (c : Int) (f : Nat → Int) : ∀ n, sm n (fun i => f i * c) = sm n f * c
  | 0 => by simp [sm0]
  | n + 1 => by rw [smS, smS, sm_mulR c f n, Int.add_mul]
theorem sm_zero : ∀ n, sm n (fun _ => 0) = 0
  | 0 => rfl
  | n + 1 => by rw [smS, sm_zero n]; rfl
theorem mulmR (a b : Int) : (a * (b % p)) % p = (a * b) % p := by simp [Int.mul_emod]
end
end Lb

set_option linter.all false
set_option maxRecDepth 100000
set_option maxHeartbeats 1000000
namespace Lb
open PySem PySem.Spec L2 Dl
/-! LibU: loops that count; lists that live in cells. -/
theorem for_cnt {G : FT} {B : Slots → Sto → Out} {w : List (Nat × List D)} (g : Nat → D) (P : Nat → Slots → Sto → Prop) (k : Nat) (hw : ∀ m ρ S, P m ρ S → Wat w S)
    (hs : ∀ m ρ S, m < k → P m ρ S → ∃ ρ1 S1 ρ2 S2, G (g m) ρ S = .ok ρ1 S1 ∧ (B ρ1 S1 = .nx ρ2 S2 ∨ B ρ1 S1 = .ct ρ2 S2) ∧ P (m + 1) ρ2 S2) {ρ : Slots} {S : Sto} (h0 : P 0 ρ S) :
    ∃ ρ' S', forL w G B ((List.range k).map g) ρ S = .nx ρ' S' ∧ P k ρ' S' := by
  have loop : ∀ (r m : Nat) (ρ : Slots) (S : Sto), m + r = k → P m ρ S → ∃ ρ' S', forL w G B ((List.range' m r).map g) ρ S = .nx ρ' S' ∧ P k ρ' S' := by
    intro r
    induction r with
    | zero =>
      intro m ρ S hm p
      have : m = k := by omega
      subst this
      refine ⟨ρ, S, ?_, p⟩
      unfold forL
      simp only [List.range'_zero, List.map_nil]
      rw [if_pos (hw _ _ _ p)]
    | succ r ih =>
      intro m ρ S hm p
      obtain ⟨ρ1, S1, ρ2, S2, e1, e2, p2⟩ := hs m ρ S (by omega) p
      obtain ⟨ρ', S', e3, p3⟩ := ih (m + 1) ρ2 S2 (by omega) p2
      refine ⟨ρ', S', ?_, p3⟩
      rw [List.range'_succ, List.map_cons]
      unfold forL
      rw [if_pos (hw _ _ _ p), e1, out_ok]
      rcases e2 with e2 | e2
      · simp only [e2]; exact e3
      · simp only [e2]; exact e3
  have := loop k 0 ρ S (by omega) h0
  rwa [← List.range_eq_range'] at this
section
variable {S : Sto} {ρ : Slots} {F Fe : Slots → Sto → Res D} {k : Nat} {own : List Nat} {v : Nat}
end
end Lb

set_option linter.all false
set_option maxRecDepth 100000
set_option maxHeartbeats 1000000
namespace Lb
open PySem PySem.Spec L2 Dl
theorem Dk.set {l c N i : Nat} {S : Sto} {x : Cell} (h : Dk l c N S) (a : i ≠ l) (b : i ≠ c) : Dk l c N (S.set i x) := by
  obtain ⟨cs, mx, dr, h1, h2, h3⟩ := h
  exact ⟨cs, mx, dr, by rw [set_ne a, h1], by rw [set_ne b, h2], h3⟩
theorem Fr.set {l c i : Nat} {S S' : Sto} {x : Cell} (h : Fr l c S S') (a : S.length ≤ i) : Fr l c S (S'.set i x) :=
  ⟨by simpa using h.1, fun j hj p q => by rw [set_ne (by omega), h.2 j hj p q]⟩
theorem Dk.app {l c N : Nat} {S L : Sto} (h : Dk l c N S) : Dk l c N (S ++ L) := by
  have lt := h.lt
  obtain ⟨cs, mx, dr, h1, h2, h3⟩ := h
  exact ⟨cs, mx, dr, by rw [List.getElem?_append_left lt.1, h1], by rw [List.getElem?_append_left lt.2, h2], h3⟩
theorem Fr.app {l c : Nat} {S L : Sto} : Fr l c S (S ++ L) := ⟨by simp, fun j hj p q => by rw [List.getElem?_append_left hj]⟩
def rowL (n : Nat) (h : Nat → Int) : PyData := .list ((List.range n).map fun j => PyData.int (h j))
def celL (n : Nat) (h : Nat → Int) : Cell := .lst ((List.range n).map fun j => D.i (h j))
/-- rows as one cell of lists; back as a cell of cells -/
structure Un (R L n : Nat) (f g : Nat → Nat → Int) (S : Sto) : Prop where
  rows : S[R]? = some (.lst ((List.range n).map fun i => D.p (rowL n (f i))))
  back : S[L + n]? = some (.lst ((List.range n).map fun i => D.loc (L + i)))
  each : ∀ i, i < n → S[L + i]? = some (celL n (g i))
section
variable {S : Sto} {a n : Nat}
end
end Lb

set_option linter.all false
set_option maxRecDepth 100000
set_option maxHeartbeats 1000000
namespace Lb
open PySem PySem.Spec L2 Dl
/-! LibW: a loop over cells that changes each cell. -/
section
variable {R L n l c N : Nat} {f g h : Nat → Nat → Int} {S S0 : Sto}
theorem Un.congr (u : Un R L n f g S) (e : ∀ i, i < n → g i = h i) : Un R L n f h S := ⟨u.rows, u.back, fun i hi => by rw [u.each i hi, e i hi]⟩
theorem Un.go (u : Un R L n f g S) {S' : Sto} (go : Go l c N S S') (h1 : l < R) (h2 : c < R) (hR : R < L) : Un R L n f g S' := by
  have fr := go.2.1.2
  have k1 := (List.getElem?_eq_some_iff.mp u.rows).1
  have k2 := (List.getElem?_eq_some_iff.mp u.back).1
  refine ⟨?_, ?_, fun i hi => ?_⟩
  · rw [fr R k1 (by omega) (by omega), u.rows]
  · rw [fr (L + n) k2 (by omega) (by omega), u.back]
  · have k3 := (List.getElem?_eq_some_iff.mp (u.each i hi)).1
    rw [fr (L + i) k3 (by omega) (by omega), u.each i hi]
end
end Lb

set_option linter.all false
set_option maxRecDepth 100000
set_option maxHeartbeats 1000000
namespace Lb
open PySem PySem.Spec L2 Dl
/-- some number undoes c modulo p -/
theorem undo_ex {p c : Int} (hp : Pr p) (hc : 1 ≤ c ∧ c < p) : ∃ (u : Int) (r : List Nat), (List.range (p - 1).toNat).filter (fun k : Nat => decide ((1 + (k : Nat) : Int) * c % p = 1)) = (u - 1).toNat :: r ∧ 1 ≤ u ∧ u < p ∧ u * c % p = 1 := by
  simp [Pr] at hp
  rcases hp with rfl | rfl | rfl | rfl
  · have : c = 1 := by omega
    subst this
    exact ⟨1, [], by decide, by decide⟩
  · have : c = 1 ∨ c = 2 := by omega
    rcases this with rfl | rfl
    · exact ⟨1, [], by decide, by decide⟩
    · exact ⟨2, [], by decide, by decide⟩
  · have : c = 1 ∨ c = 2 ∨ c = 3 ∨ c = 4 := by omega
    rcases this with rfl | rfl | rfl | rfl
    · exact ⟨1, [], by decide, by decide⟩
    · exact ⟨3, [], by decide, by decide⟩
    · exact ⟨2, [], by decide, by decide⟩
    · exact ⟨4, [], by decide, by decide⟩
  · have : c = 1 ∨ c = 2 ∨ c = 3 ∨ c = 4 ∨ c = 5 ∨ c = 6 := by omega
    rcases this with rfl | rfl | rfl | rfl | rfl | rfl
    · exact ⟨1, [], by decide, by decide⟩
    · exact ⟨4, [], by decide, by decide⟩
    · exact ⟨5, [], by decide, by decide⟩
    · exact ⟨2, [], by decide, by decide⟩
    · exact ⟨3, [], by decide, by decide⟩
    · exact ⟨6, [], by decide, by decide⟩
section
variable {dfs : List Df} {fl : List (Str × Str)} {sp : Fns → Fns} {S S0 : Sto} {n : Nat} {q : DrK} {l c N k R L : Nat} {p : Int} {f g : Nat → Nat → Int}
end
end Lb

set_option linter.all false
set_option maxRecDepth 100000
set_option maxHeartbeats 1000000
namespace Lb
open PySem PySem.Spec L2 Dl
/-! LibY: _law_undoable. -/
section
variable {dfs : List Df} {fl : List (Str × Str)} {sp : Fns → Fns} {S S0 : Sto} {n : Nat} {q : DrK} {l c N k R L : Nat} {p : Int} {f g : Nat → Nat → Int}
end
end Lb

set_option linter.all false
set_option maxRecDepth 100000
set_option maxHeartbeats 1000000
namespace Lb
open PySem PySem.Spec L2 Dl
/-! LibZ: _law_undoable, whole. -/
section
variable {dfs : List Df} {fl : List (Str × Str)} {sp : Fns → Fns} {S S0 : Sto} {n : Nat} {q : DrK} {l c N k R L : Nat} {p : Int} {f g : Nat → Nat → Int}
end
end Lb

set_option linter.all false
set_option maxRecDepth 100000
set_option maxHeartbeats 1000000
namespace Lb
open PySem PySem.Spec L2 Dl
/-! LibR: _law_drawn. -/
section
variable {dfs : List Df} {fl : List (Str × Str)} {sp : Fns → Fns} {S : Sto} {n : Nat} {q : DrK} {l c N k : Nat} {p : Int}
end
end Lb

set_option linter.all false
set_option maxRecDepth 100000
set_option maxHeartbeats 1000000
namespace Lb
open PySem PySem.Spec L2 Dl
/-! LibT: _law_drawn, whole. -/
section
variable {dfs : List Df} {fl : List (Str × Str)} {sp : Fns → Fns} {S : Sto} {n : Nat} {q : DrK} {l c N k : Nat} {p : Int}
/-- a comprehension that draws: each item knows what stayed since the start -/
theorem lcG {β : Type} {t : Tg} {own : List Nat} {ρ : Slots} {Fi : Slots → Sto → Res Src} {Fe : Slots → Sto → Res D} {S : Sto} {ys : List β} (g : β → D) (Q : PyData → Prop) (e N : Nat)
    (hi : Fi ρ S = .ok ⟨ys.map g, []⟩ S) (hz : ys.length ≤ sizeLine) (hd : Dk l c (N + ys.length * e) S)
    (h : ∀ y ∈ ys, ∃ ρ', setT t (g y) (wipeD ρ own) = some ρ' ∧ ∀ M S1, Go l c (M + e) S S1 → ∃ v S', Fe ρ' S1 = .ok (.p v) S' ∧ Q v ∧ Go l c M S1 S') :
    ∃ vs S', fLc false Fi t own fYes Fe ρ S = .ok (.p (.list vs)) S' ∧ vs.length = ys.length ∧ (∀ v ∈ vs, Q v) ∧ Go l c N S S' := by
  have loop : ∀ (zs : List β) (acc : List PyData) (S1 : Sto), acc.length + zs.length ≤ sizeLine → Go l c (N + zs.length * e) S S1 → (∀ z ∈ zs, z ∈ ys) →
      ∃ vs S', lcLoop [] t (wipeD ρ own) fYes Fe (zs.map g) (acc.map D.p) S1 = .ok ((acc ++ vs).map D.p) S' ∧ vs.length = zs.length ∧ (∀ v ∈ vs, Q v) ∧ Go l c N S S' := by
    intro zs
    induction zs with
    | nil =>
      intro acc S1 _ hd _
      refine ⟨[], S1, ?_, rfl, by simp, hd.le (by simp)⟩
      unfold lcLoop
      simp only [List.map_nil]
      rw [if_pos (by simp)]
      simp
    | cons y zs ih =>
      intro acc S1 hz hd hm
      obtain ⟨ρ', e1, e2⟩ := h y (hm y (by simp))
      simp only [List.length_cons] at hz hd
      obtain ⟨v, S2, e3, q, go⟩ := e2 (N + zs.length * e) S1 (hd.le (by rw [Nat.add_mul]; omega))
      obtain ⟨vs, S3, e4, len, qs, go2⟩ := ih (acc ++ [v]) S2 (by simp; omega) (hd.trans go) fun z hz => hm z (by simp [hz])
      refine ⟨v :: vs, S3, ?_, by simp [len], by simpa using ⟨q, qs⟩, go2⟩
      have lt : acc.length < sizeLine := by omega
      rw [List.map_cons]
      unfold lcLoop
      rw [if_pos (by simp)]
      simp only [e1, fYes, Dl.Res.nx, bind_ok, e3, List.length_map, lt, if_true]
      simpa using e4
  obtain ⟨vs, S', e1, len, qs, go⟩ := loop ys [] S (by simpa using hz) (.refl hd) fun _ h => h
  refine ⟨vs, S', ?_, len, qs, go⟩
  unfold fLc
  rw [hi]
  simp only [bind_ok]
  rw [show ([] : List D) = ([] : List PyData).map D.p from rfl, e1]
  rw [bind_ok, mkL_map]
  simp
theorem lcG_r1 {ρ : Slots} {F Fe : Slots → Sto → Res D} {own : List Nat} {v : Nat} (Q : PyData → Prop) (e N : Nat) (h : F ρ S = .ok (.i (k : Nat)) S) (hk : k ≤ 8) (hd : Dk l c (N + 8 * e) S)
    (hb : ∀ j, j < k → ∀ M S1, Go l c (M + e) S S1 → ∃ x S', Fe ((wipeD ρ own).set v (some (.i (j : Nat)))) S1 = .ok (.p x) S' ∧ Q x ∧ Go l c M S1 S') :
    ∃ vs S', fLc false (fRng1 F) (.nm v) own fYes Fe ρ S = .ok (.p (.list vs)) S' ∧ vs.length = k ∧ (∀ v ∈ vs, Q v) ∧ Go l c N S S' := by
  have := lcG (t := .nm v) (own := own) (Fe := Fe) (ys := List.range k) (fun x => D.i (x : Nat)) Q e N (i_r1 h (by omega)) (by simpa using szk hk) (hd.le (by
    have := Nat.mul_le_mul_right e hk
    simp only [List.length_range]
    omega)) fun j hj => ⟨_, rfl, hb j (List.mem_range.mp hj)⟩
  simpa using this
/-- rows as a cell of cells -/
structure Cl (L n : Nat) (g : Nat → Nat → Int) (S : Sto) : Prop where
  back : S[L + n]? = some (.lst ((List.range n).map fun i => D.loc (L + i)))
  each : ∀ i, i < n → S[L + i]? = some (celL n (g i))
theorem Cl.go {L : Nat} {g : Nat → Nat → Int} (u : Cl L k g S) {S' : Sto} (go : Go l c N S S') (h1 : l < L) (h2 : c < L) : Cl L k g S' := by
  have fr := go.2.1.2
  have k2 := (List.getElem?_eq_some_iff.mp u.back).1
  refine ⟨?_, fun i hi => ?_⟩
  · rw [fr (L + k) k2 (by omega) (by omega), u.back]
  · have k3 := (List.getElem?_eq_some_iff.mp (u.each i hi)).1
    rw [fr (L + i) k3 (by omega) (by omega), u.each i hi]
theorem Cl.new {g : Nat → Nat → Int} : Cl S.length k g (S ++ (List.range k).map (fun j => celL k (g j)) ++ [.lst ((List.range k).map fun j => D.loc (S.length + j))]) := by
  refine ⟨?_, fun i hi => ?_⟩
  · have : (S ++ (List.range k).map (fun j => celL k (g j))).length = S.length + k := by simp
    rw [← this, List.getElem?_concat_length]
  · rw [List.append_assoc, List.getElem?_append_right (by omega), Nat.add_sub_cancel_left, List.getElem?_append_left (by simpa using hi)]
    simp [hi]
end
end Lb

set_option linter.all false
set_option maxRecDepth 100000
set_option maxHeartbeats 1000000
namespace Lb
open PySem PySem.Spec L2 Dl
/-! LibH: how long a value's text may be. -/
/-- it may be told; its text has at most b signs; so deep -/
structure Sh (b e : Nat) (x : PyData) : Prop where
  ok : x.showable = true
  len : x.shown.length ≤ b
  deep : x.depth ≤ e
theorem Sh.le {b e b' e' : Nat} {x : PyData} (h : Sh b e x) (h1 : b ≤ b') (h2 : e ≤ e') : Sh b' e' x := ⟨h.ok, Nat.le_trans h.len h1, Nat.le_trans h.deep h2⟩
theorem Sh.int {i : Int} (h : i.natAbs < 2 ^ 64) : Sh 70 0 (.int i) := by
  have l : i.natAbs.log2 ≤ 64 := lg' h
  refine ⟨by simp only [PyData.showable]; exact decide_eq_true (by omega), ?_, by simp [PyData.depth]⟩
  show (Str.ofString (toString i)).length ≤ 70
  rw [ofString_length]
  have := int_text_length_le (k := 65) (by decide) (show i.natAbs.log2 < 65 by omega)
  omega
theorem Sh.bool {c : Bool} : Sh 70 0 (.bool c) := by
  refine ⟨rfl, ?_, by simp [PyData.depth]⟩
  cases c <;> decide
theorem Sh.none : Sh 70 0 .none := ⟨rfl, by decide, by simp [PyData.depth]⟩
theorem sh_all {b e : Nat} : ∀ {xs : List PyData}, (∀ x ∈ xs, Sh b e x) → PyData.showableAll xs = true ∧ ((PyData.shownAll xs).map fun t => t.length + 2).sum ≤ xs.length * (b + 2) ∧ (PyData.shownAll xs).length = xs.length ∧ PyData.depthAll xs ≤ e
  | [], _ => ⟨rfl, by simp [PyData.shownAll], rfl, by simp [PyData.depthAll]⟩
  | x :: xs, h => by
    obtain ⟨h1, h2, h3, h4⟩ := sh_all (xs := xs) fun y hy => h y (by simp [hy])
    have hx := h x (by simp)
    refine ⟨by simp [PyData.showableAll, hx.ok, h1], ?_, by simp [PyData.shownAll, h3], by simp only [PyData.depthAll]; exact Nat.max_le.mpr ⟨hx.deep, h4⟩⟩
    have := hx.len
    simp only [PyData.shownAll, List.map_cons, List.sum_cons, List.length_cons, Nat.add_mul, Nat.one_mul]
    omega
theorem Sh.tup {b e m : Nat} {xs : List PyData} (h : ∀ x ∈ xs, Sh b e x) (hm : xs.length ≤ m) : Sh (m * (b + 2) + 3) (e + 1) (.tuple xs) := by
  obtain ⟨h1, h2, h3, h4⟩ := sh_all h
  refine ⟨by simpa [PyData.showable] using h1, ?_, by simp only [PyData.depth]; omega⟩
  simp only [PyData.shown, tupleText]
  rw [strLen_append, strLen_append]
  have e1 : (("(" : String) : Str).length = 1 := rfl
  have e3 : ((if (PyData.shownAll xs).length == 1 then ",)" else ")" : String) : Str).length ≤ 2 := by split <;> decide
  have e2 : (Str.join ", " (PyData.shownAll xs)).length ≤ xs.length * (b + 2) := by
    by_cases z : PyData.shownAll xs = []
    · rw [z]
      exact Nat.zero_le _
    · have := join_length_add _ z
      unfold piled at this
      omega
  have := Nat.mul_le_mul_right (b + 2) hm
  omega
theorem textFrom_le : ∀ (ts : List Str) (k : Nat) (acc : Str), (textFrom k acc ts).length ≤ acc.length + (ts.map fun t => t.length + 2).sum
  | [], k, acc => by show acc.length ≤ _; omega
  | t :: r, k, acc => by
    have h1 := textFrom_le r (k + 1) (acc ++ (if k > 0 then ", " else "" : String) ++ t)
    have e : (acc ++ (if k > 0 then ", " else "" : String) ++ t).length ≤ acc.length + 2 + t.length := by
      rw [strLen_append, strLen_append]
      have : ((if k > 0 then ", " else "" : String) : Str).length ≤ 2 := by split <;> decide
      omega
    show (textFrom (k + 1) _ r).length ≤ _
    simp only [List.map_cons, List.sum_cons]
    omega
theorem Sh.lst {b e m : Nat} {xs : List PyData} (h : ∀ x ∈ xs, Sh b e x) (hm : xs.length ≤ m) : Sh (m * (b + 2) + 3) (e + 1) (.list xs) := by
  obtain ⟨h1, h2, h3, h4⟩ := sh_all h
  refine ⟨by simpa [PyData.showable] using h1, ?_, by simp only [PyData.depth]; omega⟩
  simp only [PyData.shown, listText]
  rw [strLen_append]
  have := textFrom_le (PyData.shownAll xs) 0 "["
  have e1 : (("[" : String) : Str).length = 1 := rfl
  have e3 : (("]" : String) : Str).length = 1 := rfl
  have := Nat.mul_le_mul_right (b + 2) hm
  omega
theorem Sh.repr {b e : Nat} {x : PyData} (h : Sh b e x) {m : Bool} {S : Sto} (h1 : b ≤ 16000000) (h2 : e ≤ 150) : opBn m .repr [.p x] S = .ok (.s x.shown) S :=
  b_repr h.ok (Nat.le_trans h.len (by have : (16000000 : Nat) ≤ sizeLine := by decide
                                      omega)) (Nat.le_trans h.deep h2)
section
variable {p : Int} {k : Nat} {f : Nat → Nat → Int} {r : Nat → Int}
end
end Lb

set_option linter.all false
set_option maxRecDepth 100000
set_option maxHeartbeats 4000000
namespace Lb
open PySem PySem.Spec L2 Dl
section
variable {dfs : List Df} {fl : List (Str × Str)} {sp : Fns → Fns} {S : Sto} {n : Nat} {p : Int} {k : Nat} {f g : Nat → Nat → Int}
end
end Lb

set_option linter.all false
set_option maxRecDepth 100000
set_option maxHeartbeats 4000000
namespace Lb
open PySem PySem.Spec L2 Dl
/-! LibJ: _law_are_products_right. -/
section
variable {dfs : List Df} {fl : List (Str × Str)} {sp : Fns → Fns} {S : Sto} {n : Nat} {q : DrK} {l c N k : Nat} {p : Int} {f g h : Nat → Nat → Int}
end
end Lb

set_option linter.all false
set_option maxRecDepth 100000
set_option maxHeartbeats 1000000
namespace Lb
/-! LibPm: powers of tables mod p; rows that depend; what comes to 0 at some power: plain maths. -/
/-- the same k by k numbers -/
def Eqk (k : Nat) (f g : Nat → Nat → Int) : Prop := ∀ i j, i < k → j < k → f i j = g i j
section
variable {k : Nat} {p : Int} {f g h f' g' : Nat → Nat → Int}
theorem sm_modk {u w : Nat → Int} : ∀ {n : Nat}, (∀ i, i < n → u i % p = w i % p) → sm n u % p = sm n w % p
  | 0, _ => rfl
  | n + 1, h => by rw [smS, smS, Int.add_emod, sm_modk fun i hi => h i (by omega), h n (by omega), ← Int.add_emod]
theorem Eqk.refl (f : Nat → Nat → Int) : Eqk k f f := fun _ _ _ _ => rfl
theorem Eqk.symm (e : Eqk k f g) : Eqk k g f := fun i j hi hj => (e i j hi hj).symm
theorem Eqk.trans (e : Eqk k f g) (e' : Eqk k g h) : Eqk k f h := fun i j hi hj => (e i j hi hj).trans (e' i j hi hj)
theorem Eqk.mk (e : Eqk k f g) : mkM k f = mkM k g := mkM_ext e
/-- powers -/
def pw (p : Int) (k : Nat) (f : Nat → Nat → Int) : Nat → Nat → Nat → Int
  | 0 => unitF
  | m + 1 => mulF p k (pw p k f m) f
end
/-! ### rows that depend on one another -/
section
variable {p : Int}
theorem inv_ex (hp : Pr p) {c : Int} (hc : c % p ≠ 0) : ∃ u, (c * u) % p = 1 := by
  have hp0 := hp.p0
  have h1 : 1 ≤ c % p ∧ c % p < p := by have := mod_in (x := c) hp0; omega
  obtain ⟨u, _, _, _, _, e⟩ := undo_ex hp h1
  refine ⟨u, ?_⟩
  rw [Int.mul_comm, ← mulmR]
  exact e
/-- all places but t -/
def skp (t i : Nat) : Nat := if i < t then i else i + 1
theorem sm_skp (h : Nat → Int) : ∀ (n t : Nat), t ≤ n → sm (n + 1) h = sm n (fun i => h (skp t i)) + h t
  | n, t, ht => by
    by_cases e : t = n
    · subst e
      rw [smS, sm_congr (f := fun i => h (skp t i)) (g := h) fun i hi => by simp [skp, hi]]
    · cases n with
      | zero => omega
      | succ n =>
        rw [smS, sm_skp h n t (by omega), smS]
        have : skp t n = n + 1 := by
          unfold skp
          rw [if_neg (by omega)]
        rw [this]
        omega
/-- k + 1 rows of k numbers depend -/
theorem depend (hp : Pr p) : ∀ (k : Nat) (v : Nat → Nat → Int), ∃ c : Nat → Int, (∃ i, i ≤ k ∧ c i % p ≠ 0) ∧ ∀ j, j < k → (sm (k + 1) fun i => c i * v i j) % p = 0
  | 0, v => ⟨fun _ => 1, ⟨0, Nat.le_refl _, by have := hp.pos; show (1 : Int) % p ≠ 0; rw [Int.emod_eq_of_lt (by omega) (by omega)]; omega⟩, fun j hj => by omega⟩
  | k + 1, v => by
    by_cases z : ∃ t, t ≤ k + 1 ∧ v t k % p ≠ 0
    · obtain ⟨t, ht, ne⟩ := z
      obtain ⟨u, eu⟩ := inv_ex hp ne
      obtain ⟨c, ⟨i0, hi0, n0⟩, hc⟩ := depend hp k fun i j => v (skp t i) j - v (skp t i) k * u * v t j
      let X : Int := sm (k + 1) fun i => c i * (v (skp t i) k * u)
      let d : Nat → Int := fun i => if i = t then -X else if i < t then c i else c (i - 1)
      have d1 : ∀ i, d (skp t i) = c i := fun i => by
        simp only [d, skp]
        by_cases q : i < t
        · rw [if_pos q, if_neg (by omega), if_pos q]
        · rw [if_neg q, if_neg (by omega), if_neg (by omega)]
          rfl
      have d2 : d t = -X := by simp [d]
      refine ⟨d, ⟨skp t i0, by unfold skp; split <;> omega, by rw [d1]; exact n0⟩, fun j hj => ?_⟩
      rw [sm_skp _ (k + 1) t ht]
      simp only [d1, d2]
      by_cases q : j = k
      · subst q
        have : (sm (j + 1) fun i => c i * v (skp t i) j) + -X * v t j = (sm (j + 1) fun i => c i * v (skp t i) j) - (sm (j + 1) fun i => c i * v (skp t i) j) * (v t j * u) := by
          have e : X = (sm (j + 1) fun i => c i * v (skp t i) j) * u := by
            simp only [X]
            rw [← sm_mulR]
            congr 1
            funext i
            rw [Int.mul_assoc]
          rw [e]
          generalize (sm (j + 1) fun i => c i * v (skp t i) j) = Y
          rw [Int.neg_mul, Int.mul_assoc, Int.mul_comm u]
          omega
        rw [this, Int.sub_emod, ← mulmR, eu, Int.mul_one, Int.sub_self, Int.zero_emod]
      · have hj' : j < k := by omega
        have := hc j hj'
        rw [show (sm (k + 1) fun i => c i * v (skp t i) j) + -X * v t j = sm (k + 1) fun i => c i * (v (skp t i) j - v (skp t i) k * u * v t j) by
          have e1 : (fun i => c i * (v (skp t i) j - v (skp t i) k * u * v t j)) = fun i => c i * v (skp t i) j + c i * (v (skp t i) k * u) * (-v t j) := by
            funext i
            rw [Int.mul_sub, Int.mul_neg, ← Int.mul_assoc, ← Int.mul_assoc]
            omega
          rw [e1, sm_add, sm_mulR, Int.mul_neg, Int.neg_mul]]
        exact this
    · have z' : ∀ t, t ≤ k + 1 → v t k % p = 0 := fun t ht => Classical.byContradiction fun y => z ⟨t, ht, y⟩
      obtain ⟨c, ⟨i0, hi0, n0⟩, hc⟩ := depend hp k v
      let d : Nat → Int := fun i => if i ≤ k then c i else 0
      have d1 : ∀ i, i < k + 1 → d i = c i := fun i hi => by simp only [d]; rw [if_pos (by omega)]
      have d2 : d (k + 1) = 0 := by simp only [d]; rw [if_neg (by omega)]
      refine ⟨d, ⟨i0, by omega, by rw [d1 i0 (by omega)]; exact n0⟩, fun j hj => ?_⟩
      rw [smS, d2, Int.zero_mul, Int.add_zero, sm_congr fun i hi => by rw [d1 i hi]]
      by_cases q : j = k
      · subst q
        rw [sm_modk (w := fun _ => 0) fun i hi => by rw [← mulmR, z' i (by omega), Int.mul_zero], sm_zero, Int.zero_emod]
      · exact hc j (by omega)
end
end Lb

set_option linter.all false
set_option maxRecDepth 100000
set_option maxHeartbeats 1000000
namespace Lb
open PySem PySem.Spec L2 Dl
section
variable {dfs : List Df} {fl : List (Str × Str)} {sp : Fns → Fns} {S : Sto} {n : Nat} {p : Int} {k : Nat} {f g : Nat → Nat → Int}
end
end Lb

set_option linter.all false
set_option maxRecDepth 100000
set_option maxHeartbeats 1000000
namespace Lb
open PySem PySem.Spec L2 Dl
/-! LibPe: drawn exponents. -/
section
variable {dfs : List Df} {fl : List (Str × Str)} {sp : Fns → Fns} {S : Sto} {n : Nat} {q : DrK} {l c N k : Nat} {p : Int}
end
end Lb

set_option linter.all false
set_option maxRecDepth 100000
set_option maxHeartbeats 1000000
namespace Lb
open PySem PySem.Spec L2 Dl
end Lb

set_option linter.all false
set_option maxRecDepth 100000
set_option maxHeartbeats 1000000
namespace Lf
/-! LibFa: sums, tables and determinants over a field: plain maths. -/
section
variable {F : Type} [Lean.Grind.CommRing F]
def su : Nat → (Nat → F) → F
  | 0, _ => 0
  | n + 1, h => su n h + h n
variable {h g : Nat → F} {n m : Nat} {c : F}
theorem suS : su (n + 1) h = su n h + h n := rfl
theorem su_congr : ∀ {n : Nat}, (∀ i, i < n → h i = g i) → su n h = su n g
  | 0, _ => rfl
  | n + 1, e => by rw [suS, suS, su_congr fun i hi => e i (by omega), e n (by omega)]
theorem su_zero : ∀ n : Nat, su n (fun _ => (0 : F)) = 0
  | 0 => rfl
  | n + 1 => by rw [suS, su_zero n]; grind
theorem su_0 (e : ∀ i, i < n → h i = 0) : su n h = 0 := by rw [su_congr e, su_zero]
theorem su_add : ∀ n : Nat, su n (fun i => h i + g i) = su n h + su n g
  | 0 => by simp only [su]; grind
  | n + 1 => by simp only [suS, su_add n]; grind
theorem su_mulL : ∀ n : Nat, su n (fun i => c * h i) = c * su n h
  | 0 => by simp only [su]; grind
  | n + 1 => by simp only [suS, su_mulL n]; grind
theorem su_mulR : ∀ n : Nat, su n (fun i => h i * c) = su n h * c
  | 0 => by simp only [su]; grind
  | n + 1 => by simp only [suS, su_mulR n]; grind
theorem su_swap {h : Nat → Nat → F} : ∀ m : Nat, su m (fun i => su n fun j => h i j) = su n fun j => su m fun i => h i j
  | 0 => (su_zero n).symm
  | m + 1 => by
    simp only [suS]
    rw [su_swap m, su_add]
theorem su_one {t : Nat} : ∀ {n : Nat}, t < n → (∀ i, i < n → i ≠ t → h i = 0) → su n h = h t
  | 0, ht, _ => by omega
  | n + 1, ht, e => by
    rw [suS]
    by_cases q : t = n
    · subst q
      rw [su_0 fun i hi => e i (by omega) (by omega)]
      grind
    · rw [su_one (by omega) fun i hi => e i (by omega), e n (by omega) fun z => q z.symm]
      grind
theorem su_two {r : Nat} : ∀ {n : Nat}, r + 1 < n → (∀ i, i < n → i ≠ r → i ≠ r + 1 → h i = 0) → su n h = h r + h (r + 1)
  | 0, ht, _ => by omega
  | n + 1, ht, e => by
    rw [suS]
    by_cases q : r + 1 = n
    · subst q
      rw [su_one (t := r) (by omega) fun i hi hr => e i (by omega) hr (by omega)]
    · rw [su_two (by omega) fun i hi => e i (by omega), e n (by omega) (by omega) (by omega)]
      grind
theorem su_split : ∀ n : Nat, su (m + n) h = su m h + su n fun i => h (m + i)
  | 0 => by simp only [su, Nat.add_zero]; grind
  | n + 1 => by
    rw [← Nat.add_assoc, suS, su_split n, suS]
    grind
/-- all places but t -/
def sk (t i : Nat) : Nat := if i < t then i else i + 1
theorem su_sk (h : Nat → F) : ∀ (n t : Nat), t ≤ n → su (n + 1) h = su n (fun i => h (sk t i)) + h t
  | n, t, ht => by
    by_cases e : t = n
    · subst e
      rw [suS, su_congr (h := fun i => h (sk t i)) (g := h) fun i hi => by simp [sk, hi]]
    · cases n with
      | zero => omega
      | succ n =>
        rw [suS, su_sk h n t (by omega), suS]
        have : sk t n = n + 1 := by
          unfold sk
          rw [if_neg (by omega)]
        rw [this]
        grind
/-- what is not 0 can be undone, and 1 is not 0 -/
def Fi (F : Type) [Lean.Grind.CommRing F] : Prop := (1 : F) ≠ 0 ∧ ∀ x : F, x ≠ 0 → ∃ y, x * y = 1
theorem mul_0 (hF : Fi F) {a b : F} (ha : a ≠ 0) (e : a * b = 0) : b = 0 := by
  obtain ⟨y, hy⟩ := hF.2 a ha
  grind
/-- k + 1 rows of k numbers depend -/
theorem depend (hF : Fi F) : ∀ (k : Nat) (v : Nat → Nat → F), ∃ c : Nat → F, (∃ i, i ≤ k ∧ c i ≠ 0) ∧ ∀ j, j < k → (su (k + 1) fun i => c i * v i j) = 0
  | 0, v => ⟨fun _ => 1, ⟨0, Nat.le_refl _, hF.1⟩, fun j hj => by omega⟩
  | k + 1, v => by
    by_cases z : ∃ t, t ≤ k + 1 ∧ v t k ≠ 0
    · obtain ⟨t, ht, ne⟩ := z
      obtain ⟨u, eu⟩ := hF.2 _ ne
      obtain ⟨c, ⟨i0, hi0, n0⟩, hc⟩ := depend hF k fun i j => v (sk t i) j - v (sk t i) k * u * v t j
      let X : F := su (k + 1) fun i => c i * (v (sk t i) k * u)
      let d : Nat → F := fun i => if i = t then -X else if i < t then c i else c (i - 1)
      have d1 : ∀ i, d (sk t i) = c i := fun i => by
        simp only [d, sk]
        by_cases q : i < t
        · rw [if_pos q, if_neg (by omega), if_pos q]
        · rw [if_neg q, if_neg (by omega), if_neg (by omega)]
          rfl
      have d2 : d t = -X := by simp [d]
      refine ⟨d, ⟨sk t i0, by unfold sk; split <;> omega, by rw [d1]; exact n0⟩, fun j hj => ?_⟩
      rw [su_sk _ (k + 1) t ht]
      simp only [d1, d2]
      by_cases q : j = k
      · subst q
        have e : X = (su (j + 1) fun i => c i * v (sk t i) j) * u := by
          simp only [X]
          rw [← su_mulR]
          exact su_congr fun i _ => by grind
        grind
      · have := hc j (by omega)
        rw [su_congr (g := fun i => c i * v (sk t i) j + c i * (v (sk t i) k * u) * (-v t j)) fun i _ => by grind, su_add, su_mulR] at this
        grind
    · have z' : ∀ t, t ≤ k + 1 → v t k = 0 := fun t ht => Classical.byContradiction fun y => z ⟨t, ht, y⟩
      obtain ⟨c, ⟨i0, hi0, n0⟩, hc⟩ := depend hF k v
      refine ⟨fun i => if i ≤ k then c i else 0, ⟨i0, by omega, by simpa [hi0] using n0⟩, fun j hj => ?_⟩
      rw [suS, su_congr (g := fun i => c i * v i j) fun i hi => by
        show (if i ≤ k then c i else 0) * v i j = _
        rw [if_pos (by omega)]]
      show _ + (if k + 1 ≤ k then c (k + 1) else 0) * v (k + 1) j = 0
      rw [if_neg (by omega)]
      by_cases q : j = k
      · subst q
        rw [su_0 fun i hi => by rw [z' i (by omega)]; grind]
        grind
      · rw [hc j (by omega)]
        grind
end
/-! ### tables -/
section
variable {F : Type} [Lean.Grind.CommRing F] {A B C D : Nat → Nat → F} {m n k r s : Nat} {c : F}
def mm (n : Nat) (A B : Nat → Nat → F) : Nat → Nat → F := fun i j => su n fun t => A i t * B t j
def I1 : Nat → Nat → F := fun i j => if i = j then 1 else 0
def tr (A : Nat → Nat → F) : Nat → Nat → F := fun i j => A j i
def Em (m n : Nat) (A B : Nat → Nat → F) : Prop := ∀ i j, i < m → j < n → A i j = B i j
/-- row r otherwise -/
def st (A : Nat → Nat → F) (r : Nat) (w : Nat → F) : Nat → Nat → F := fun i j => if i = r then w j else A i j
theorem Em.rfl' : Em m n A A := fun _ _ _ _ => rfl
theorem Em.sy (e : Em m n A B) : Em m n B A := fun i j hi hj => (e i j hi hj).symm
theorem Em.tr' (e : Em m n A B) (e' : Em m n B C) : Em m n A C := fun i j hi hj => (e i j hi hj).trans (e' i j hi hj)
theorem mm_assoc : mm n (mm m A B) C = mm m A (mm n B C) := by
  funext i j
  unfold mm
  rw [su_congr (g := fun t => su m fun l => A i l * B l t * C t j) fun t _ => (su_mulR m).symm, su_swap]
  exact su_congr fun l _ => by
    rw [← su_mulL]
    exact su_congr fun t _ => by grind
theorem mm_congr (e : Em m k A B) (e' : Em k n C D) : Em m n (mm k A C) (mm k B D) := fun i j hi hj =>
  su_congr fun t ht => by rw [e i t hi ht, e' t j ht hj]
theorem mm_I {j : Nat} (hj : j < n) {i : Nat} : mm n A I1 i j = A i j := by
  unfold mm
  rw [su_one hj fun t _ ne => by simp only [I1]; rw [if_neg ne]; grind]
  simp only [I1]
  grind
theorem I_mm {i : Nat} (hi : i < n) {j : Nat} : mm n I1 A i j = A i j := by
  unfold mm
  rw [su_one hi fun t _ ne => by simp only [I1]; rw [if_neg fun z => ne z.symm]; grind]
  simp only [I1]
  grind
theorem tr_mm : tr (mm n A B) = mm n (tr B) (tr A) := by
  funext i j
  exact su_congr fun t _ => by simp only [tr]; grind
theorem tr_I : tr (I1 : Nat → Nat → F) = I1 := by
  funext i j
  simp only [tr, I1, eq_comm]
theorem st_mm {w : Nat → F} : mm k (st A r w) B = st (mm k A B) r fun j => su k fun t => w t * B t j := by
  funext i j
  unfold mm st
  by_cases q : i = r
  · simp [q]
  · simp [q]
theorem st_s {w : Nat → F} {j : Nat} : st A r w r j = w j := by simp [st]
theorem st_n {w : Nat → F} {i j : Nat} (h : i ≠ r) : st A r w i j = A i j := by simp [st, h]
/-! determinants -/
def sg : Nat → F
  | 0 => 1
  | n + 1 => -sg n
def mn (r : Nat) (A : Nat → Nat → F) : Nat → Nat → F := fun i j => A (sk r i) (j + 1)
def dt : Nat → (Nat → Nat → F) → F
  | 0, _ => 1
  | k + 1, A => su (k + 1) fun r => sg r * A r 0 * dt k (mn r A)
theorem dtS : dt (k + 1) A = su (k + 1) fun r => sg r * A r 0 * dt k (mn r A) := rfl
theorem sk_lt {t i : Nat} (h : i < k) : sk t i < k + 1 := by unfold sk; split <;> omega
theorem sk_ne {t i : Nat} : sk t i ≠ t := by unfold sk; split <;> omega
theorem dt_congr : ∀ {k : Nat} {A B : Nat → Nat → F}, Em k k A B → dt k A = dt k B
  | 0, _, _, _ => rfl
  | k + 1, A, B, e => by
    rw [dtS, dtS]
    exact su_congr fun t ht => by
      rw [e t 0 ht (by omega), dt_congr (A := mn t A) (B := mn t B) fun i j hi hj => e _ _ (sk_lt hi) (by omega)]
def back (t r : Nat) : Nat := if r < t then r else r - 1
theorem mn_st {t : Nat} {w : Nat → F} (h : t ≠ r) : mn t (st A r w) = st (mn t A) (back t r) fun j => w (j + 1) := by
  funext i j
  unfold mn st
  have : sk t i = r ↔ i = back t r := by
    unfold sk back
    split <;> split <;> omega
  by_cases q : i = back t r
  · rw [if_pos (this.mpr q), if_pos q]
  · rw [if_neg fun z => q (this.mp z), if_neg q]
theorem mn_st' {w : Nat → F} : mn r (st A r w) = mn r A := by
  funext i j
  unfold mn
  exact st_n sk_ne
theorem dt_add : ∀ {k : Nat} {A : Nat → Nat → F} {r : Nat} {u v : Nat → F}, r < k → dt k (st A r fun j => u j + c * v j) = dt k (st A r u) + c * dt k (st A r v)
  | 0, _, _, _, _, h => by omega
  | k + 1, A, r, u, v, h => by
    rw [dtS, dtS, dtS, ← su_mulL, ← su_add]
    refine su_congr fun t ht => ?_
    by_cases q : t = r
    · subst q
      simp only [mn_st', st_s]
      grind
    · have := dt_add (A := mn t A) (r := back t r) (u := fun j => u (j + 1)) (v := fun j => v (j + 1)) (k := k) (by unfold back; split <;> omega)
      simp only [mn_st q, st_n q]
      rw [this]
      grind
theorem dt_adj : ∀ {k : Nat} {A : Nat → Nat → F} {r : Nat}, r + 1 < k → (∀ j, j < k → A r j = A (r + 1) j) → dt k A = 0
  | 0, _, _, h, _ => by omega
  | k + 1, A, r, h, e => by
    rw [dtS, su_two h fun t ht h1 h2 => ?_]
    · have : dt k (mn r A) = dt k (mn (r + 1) A) := dt_congr fun i j hi hj => by
        unfold mn
        by_cases q : i = r
        · subst q
          rw [show sk i i = i + 1 by simp [sk], show sk (i + 1) i = i by simp [sk]]
          exact (e (j + 1) (by omega)).symm
        · rw [show sk r i = sk (r + 1) i by unfold sk; grind]
      rw [e 0 (by omega), this, show (sg (r + 1) : F) = -sg r from rfl]
      grind
    · rw [dt_adj (r := back t r) (by unfold back; split <;> omega) fun j hj => ?_]
      · grind
      · unfold mn
        rw [show sk t (back t r) = r by unfold sk back; grind, show sk t (back t r + 1) = r + 1 by unfold sk back; grind]
        exact e (j + 1) (by omega)
/-- two rows exchanged -/
def sw (r s : Nat) (A : Nat → Nat → F) : Nat → Nat → F := fun i j => A (if i = r then s else if i = s then r else i) j
theorem dt_sw_of (hr : r < k) (hs : s < k) (ne : r ≠ s) (hz : ∀ B : Nat → Nat → F, (∀ j, j < k → B r j = B s j) → dt k B = 0) : dt k (sw r s A) = -dt k A := by
  have L : ∀ u v w : Nat → F, dt k (st (st A r fun j => u j + 1 * v j) s w) = dt k (st (st A r u) s w) + dt k (st (st A r v) s w) := fun u v w => by
    have e : ∀ x : Nat → F, st (st A r x) s w = st (st A s w) r x := fun x => by
      funext i j
      unfold st
      by_cases q : i = s
      · subst q
        rw [if_pos rfl, if_neg (fun z => ne z.symm), if_pos rfl]
      · simp [q]
    rw [e, e, e, dt_add hr]
    grind
  have R : ∀ u v w : Nat → F, dt k (st (st A r w) s fun j => u j + 1 * v j) = dt k (st (st A r w) s u) + dt k (st (st A r w) s v) := fun u v w => by
    rw [dt_add hs]
    grind
  have Z : ∀ u : Nat → F, dt k (st (st A r u) s u) = 0 := fun u => hz _ fun j _ => by rw [st_n ne, st_s, st_s]
  have h1 := Z fun j => A r j + 1 * A s j
  rw [L, R, R, Z, Z] at h1
  have e1 : st (st A r (A r)) s (A s) = A := by
    funext i j
    unfold st
    split
    · rename_i q; rw [q]
    · split
      · rename_i q; rw [q]
      · rfl
  have e2 : st (st A r (A s)) s (A r) = sw r s A := by
    funext i j
    unfold st sw
    by_cases q : i = s
    · rw [if_pos q]
      by_cases q2 : i = r
      · omega
      · rw [if_neg q2, if_pos q]
    · rw [if_neg q]
      by_cases q2 : i = r
      · rw [if_pos q2, if_pos q2]
      · rw [if_neg q2, if_neg q2, if_neg q]
  have e1' := congrArg (dt k) e1
  have e2' := congrArg (dt k) e2
  grind
theorem dt_lt0 : ∀ (d : Nat) {A : Nat → Nat → F} {r : Nat}, r + 1 + d < k → (∀ j, j < k → A r j = A (r + 1 + d) j) → dt k A = 0
  | 0, A, r, h, e => dt_adj h e
  | d + 1, A, r, h, e => by
    have h1 := dt_sw_of (A := A) (k := k) (r := r + 1 + d) (s := r + 1 + d + 1) (by omega) (by omega) (by omega) fun B eB => dt_adj (by omega) eB
    have h2 := dt_lt0 d (A := sw (r + 1 + d) (r + 1 + d + 1) A) (r := r) (by omega) fun j hj => by
      unfold sw
      rw [if_neg (by omega), if_neg (by omega), if_pos rfl]
      exact e j hj
    grind
theorem dt_same (hr : r < k) (hs : s < k) (ne : r ≠ s) (e : ∀ j, j < k → A r j = A s j) : dt k A = 0 := by
  by_cases q : r < s
  · obtain ⟨d, rfl⟩ : ∃ d, s = r + 1 + d := ⟨s - r - 1, by omega⟩
    exact dt_lt0 d hs e
  · obtain ⟨d, rfl⟩ : ∃ d, r = s + 1 + d := ⟨r - s - 1, by omega⟩
    exact dt_lt0 d hr fun j hj => (e j hj).symm
theorem st_self : st A r (A r) = A := by
  funext i j
  unfold st
  split
  · rename_i q; rw [q]
  · rfl
theorem dt_shear (hr : r < k) (hs : s < k) (ne : r ≠ s) : dt k (st A r fun j => A r j + c * A s j) = dt k A := by
  rw [dt_add hr, dt_same (A := st A r (A s)) hr hs ne fun j _ => by rw [st_s, st_n ne.symm], st_self]
  grind
theorem dt_row0 (hr : r < k) (e : ∀ j, j < k → A r j = 0) : dt k A = 0 := by
  have h1 := dt_add (A := A) (c := 1) (u := fun _ => 0) (v := fun _ => 0) hr
  rw [show (fun _ : Nat => (0 : F) + 1 * 0) = fun _ => 0 by funext; grind] at h1
  rw [dt_congr (B := st A r fun _ => 0) fun i j hi hj => by
    unfold st
    split
    · rename_i q; rw [q]; exact e j hj
    · rfl]
  grind
theorem dt_scale (hr : r < k) : dt k (st A r fun j => c * A r j) = c * dt k A := by
  have h1 := dt_add (A := A) (c := c) (u := fun _ => 0) (v := A r) hr
  rw [show (fun j => (0 : F) + c * A r j) = fun j => c * A r j by funext; grind, dt_row0 (A := st A r fun _ => 0) hr fun j _ => st_s, st_self] at h1
  grind
/-! products along the diagonal -/
def pr : Nat → (Nat → F) → F
  | 0, _ => 1
  | n + 1, h => pr n h * h n
theorem prS {h : Nat → F} : pr (n + 1) h = pr n h * h n := rfl
theorem pr_front {h : Nat → F} : ∀ n : Nat, pr (n + 1) h = h 0 * pr n fun i => h (i + 1)
  | 0 => by simp only [pr]; grind
  | n + 1 => by rw [prS, pr_front n, prS]; grind
theorem pr_congr {h g : Nat → F} : ∀ {n : Nat}, (∀ i, i < n → h i = g i) → pr n h = pr n g
  | 0, _ => rfl
  | n + 1, e => by rw [prS, prS, pr_congr fun i hi => e i (by omega), e n (by omega)]
theorem pr_ones : ∀ n : Nat, pr n (fun _ => (1 : F)) = 1
  | 0 => rfl
  | n + 1 => by rw [prS, pr_ones n]; grind
theorem dt_up : ∀ {k : Nat} {A : Nat → Nat → F}, (∀ i j, i < k → j < i → A i j = 0) → dt k A = pr k fun i => A i i
  | 0, _, _ => rfl
  | k + 1, A, e => by
    rw [dtS, su_one (t := 0) (by omega) fun i hi ne => by rw [e i 0 hi (by omega)]; grind, pr_front, dt_up (A := mn 0 A) fun i j hi hj => e _ _ (by unfold sk; rw [if_neg (by omega)]; omega) (by unfold sk; rw [if_neg (by omega)]; omega)]
    have : (fun i => mn 0 A i i) = fun i => A (i + 1) (i + 1) := rfl
    rw [this, show (sg 0 : F) = 1 from rfl]
    grind
theorem dt_I : dt k (I1 : Nat → Nat → F) = 1 := by
  rw [dt_up fun i j _ hj => by simp only [I1]; rw [if_neg (by omega)], pr_congr (g := fun _ => 1) fun i _ => by simp [I1], pr_ones]
/-! what goes back through row steps -/
theorem gauss (hF : Fi F) {P : (Nat → Nat → F) → Prop} (hE : ∀ A B, Em k k A B → P A → P B)
    (hS : ∀ A r s c, r < k → s < k → r ≠ s → P (st A r fun j => A r j + c * A s j) → P A)
    (hM : ∀ A r c, r < k → c ≠ 0 → P (st A r fun j => c * A r j) → P A)
    (hI : P I1) (hZ : ∀ A r, r < k → (∀ j, j < k → A r j = 0) → P A) (A : Nat → Nat → F) : P A := by
  -- sums of rows
  have comb : ∀ m, m ≤ k → ∀ (A : Nat → Nat → F) (r : Nat) (cs : Nat → F), r < k → P (st A r fun j => A r j + su m fun t => if t = r then 0 else cs t * A t j) → P A := by
    intro m
    induction m with
    | zero =>
      intro _ A r cs hr h
      refine hE _ _ ?_ h
      intro i j _ _
      unfold st
      split
      · rename_i q
        rw [q]
        simp only [su]
        grind
      · rfl
    | succ m ih =>
      intro hm A r cs hr h
      by_cases q : m = r
      · refine ih (by omega) A r cs hr (hE _ _ ?_ h)
        intro i j _ _
        unfold st
        split
        · show A r j + su (m + 1) (fun t => if t = r then 0 else cs t * A t j) = A r j + su m fun t => if t = r then 0 else cs t * A t j
          rw [suS, if_pos q]
          grind
        · rfl
      · refine ih (by omega) A r cs hr (hS _ r m (cs m) hr (by omega) (fun z => q z.symm) (hE _ _ ?_ h))
        intro i j _ _
        by_cases z : i = r
        · subst z
          rw [st_s, st_s, st_s, st_n q, suS, if_neg q]
          grind
        · rw [st_n z, st_n z, st_n z]
  have hD : ∀ (A : Nat → Nat → F) (x : Nat → F) (r : Nat), r < k → x r ≠ 0 → (∀ j, j < k → (su k fun t => x t * A t j) = 0) → P A := by
    intro A x r hr hx e
    obtain ⟨y, hy⟩ := hF.2 _ hx
    refine comb k (Nat.le_refl _) A r (fun t => y * x t) hr (hZ _ r hr fun j hj => ?_)
    rw [st_s]
    have h1 : (su k fun t => y * (x t * A t j)) = (su k fun t => if t = r then 0 else y * x t * A t j) + su k fun t => if t = r then A r j else 0 := by
      rw [← su_add]
      refine su_congr fun t _ => ?_
      by_cases q : t = r
      · rw [if_pos q, if_pos q, q]
        grind
      · rw [if_neg q, if_neg q]
        grind
    rw [su_mulL, e j hj, su_one (h := fun t => if t = r then A r j else 0) hr fun i _ ne => if_neg ne, if_pos rfl] at h1
    grind
  have main : ∀ d m, m + d = k → ∀ A : Nat → Nat → F, (∀ i j, i < k → j < m → A i j = I1 i j) → P A := by
    intro d
    induction d with
    | zero =>
      intro m hm A e
      exact hE _ _ (fun i j hi hj => (e i j hi (by omega)).symm) hI
    | succ d ih =>
      intro m hm A e
      have i0 : ∀ i j, m ≤ i → j < m → (I1 i j : F) = 0 := fun i j hi hj => by simp only [I1]; rw [if_neg (by omega)]
      -- the column cleared
      have Q1 : ∀ t, t ≤ k → ∀ A : Nat → Nat → F, (∀ i j, i < k → j < m → A i j = I1 i j) → A m m = 1 → (∀ i, t ≤ i → i < k → i ≠ m → A i m = 0) → P A := by
        intro t
        induction t with
        | zero =>
          intro _ A e h1 h2
          refine ih (m + 1) (by omega) A fun i j hi hj => ?_
          by_cases q : j = m
          · subst q
            by_cases q2 : i = j
            · subst q2
              rw [h1]
              simp [I1]
            · rw [h2 i (by omega) hi q2]
              simp [I1, q2]
          · exact e i j hi (by omega)
        | succ t iht =>
          intro ht A e h1 h2
          by_cases q : t = m
          · exact iht (by omega) A e h1 fun i hi hk ne => h2 i (by omega) hk ne
          · refine hS A t m (-A t m) (by omega) (by omega) q (iht (by omega) _ ?_ ?_ ?_)
            · intro i j hi hj
              by_cases z : i = t
              · subst z
                rw [st_s, e m j (by omega) hj, i0 m j (by omega) hj, e i j hi hj]
                grind
              · rw [st_n z, e i j hi hj]
            · rw [st_n fun z => q z.symm, h1]
            · intro i hi hk ne
              by_cases z : i = t
              · subst z
                rw [st_s, h1]
                grind
              · rw [st_n z]
                exact h2 i (by omega) hk ne
      have Q : ∀ A : Nat → Nat → F, (∀ i j, i < k → j < m → A i j = I1 i j) → A m m ≠ 0 → P A := by
        intro A e ne
        obtain ⟨y, hy⟩ := hF.2 _ ne
        refine hM A m y (by omega) (fun z => hF.1 (by grind)) (Q1 k (Nat.le_refl _) _ ?_ ?_ fun i hi hk => by omega)
        · intro i j hi hj
          by_cases z : i = m
          · subst z
            rw [st_s, e i j hi hj, i0 i j (by omega) hj]
            grind
          · rw [st_n z, e i j hi hj]
        · rw [st_s]
          grind
      by_cases q : ∃ i, m ≤ i ∧ i < k ∧ A i m ≠ 0
      · obtain ⟨i, h1, h2, h3⟩ := q
        by_cases q2 : A m m = 0
        · have ne : m ≠ i := fun z => h3 (by rw [← z]; exact q2)
          refine hS A m i 1 (by omega) h2 ne (Q _ ?_ ?_)
          · intro a j ha hj
            by_cases z : a = m
            · subst z
              rw [st_s, e a j ha hj, e i j h2 hj, i0 i j h1 hj]
              grind
            · rw [st_n z, e a j ha hj]
          · rw [st_s, q2]
            grind
        · exact Q A e q2
      · have z : ∀ i, m ≤ i → i < k → A i m = 0 := fun i h1 h2 => Classical.byContradiction fun h3 => q ⟨i, h1, h2, h3⟩
        obtain ⟨c, ⟨a, ha, hc⟩, hd⟩ := depend hF d fun a b => A (m + a) (m + 1 + b)
        refine hD A (fun t => if t < m then 0 else c (t - m)) (m + a) (by omega) ?_ fun j hj => ?_
        · rw [if_neg (by omega), Nat.add_sub_cancel_left]
          exact hc
        · rw [← hm, su_split, su_0 fun i hi => by rw [if_pos hi]; grind, su_congr (g := fun i => c i * A (m + i) j) fun i _ => by rw [if_neg (by omega), Nat.add_sub_cancel_left]]
          by_cases h1 : j < m
          · rw [su_0 fun i hi => by rw [e (m + i) j (by omega) h1, i0 (m + i) j (by omega) h1]; grind]
            grind
          · by_cases h2 : j = m
            · subst h2
              rw [su_0 fun i hi => by rw [z (j + i) (by omega) (by omega)]; grind]
              grind
            · obtain ⟨b, rfl⟩ : ∃ b, j = m + 1 + b := ⟨j - m - 1, by omega⟩
              rw [hd b (by omega)]
              grind
  exact main k 0 (by omega) A fun i j _ hj => by omega
end
end Lf

set_option linter.all false
set_option maxRecDepth 100000
set_option maxHeartbeats 1000000
namespace Lf
/-! LibFb: products of determinants, what can be undone, ranks: plain maths. -/
section
variable {F : Type} [Lean.Grind.CommRing F] {A B C D X Y : Nat → Nat → F} {m n k r s : Nat} {c : F}
/-- the table by which a row step is a product -/
theorem step_mm {w : Nat → F} : Em k k (mm k (st I1 r w) A) (st A r fun j => su k fun t => w t * A t j) := fun i j hi hj => by
  rw [st_mm]
  by_cases q : i = r
  · subst q
    rw [st_s, st_s]
  · rw [st_n q, st_n q, I_mm hi]
theorem shear_mm (hr : r < k) (hs : s < k) : Em k k (mm k (st I1 r fun j => I1 r j + c * I1 s j) A) (st A r fun j => A r j + c * A s j) := fun i j hi hj => by
  rw [step_mm i j hi hj]
  by_cases q : i = r
  · subst q
    rw [st_s, st_s]
    have h1 : mm k I1 A i j = A i j := I_mm hi
    have h2 : mm k I1 A s j = A s j := I_mm hs
    unfold mm at h1 h2
    rw [su_congr (g := fun t => I1 i t * A t j + c * (I1 s t * A t j)) fun t _ => by grind, su_add, su_mulL, h1, h2]
  · rw [st_n q, st_n q]
theorem scale_mm (hr : r < k) : Em k k (mm k (st I1 r fun j => c * I1 r j) A) (st A r fun j => c * A r j) := fun i j hi hj => by
  rw [step_mm i j hi hj]
  by_cases q : i = r
  · subst q
    rw [st_s, st_s]
    have h1 : mm k I1 A i j = A i j := I_mm hi
    unfold mm at h1
    rw [su_congr (g := fun t => c * (I1 i t * A t j)) fun t _ => by grind, su_mulL, h1]
  · rw [st_n q, st_n q]
theorem dt_mul (hF : Fi F) : dt k (mm k A B) = dt k A * dt k B := by
  refine gauss (k := k) (P := fun A => dt k (mm k A B) = dt k A * dt k B) hF ?_ ?_ ?_ ?_ ?_ A
  · intro A A' e h
    rw [dt_congr (mm_congr (e.sy) .rfl'), dt_congr e.sy]
    exact h
  · intro A r s c hr hs ne h
    rw [dt_shear hr hs ne, st_mm] at h
    rw [← h, ← dt_shear (A := mm k A B) (c := c) hr hs ne]
    congr 2
    funext j
    unfold mm
    rw [← su_mulL, ← su_add]
    exact su_congr fun t _ => by grind
  · intro A r c hr hc h
    rw [dt_scale hr, st_mm] at h
    have : (fun j => su k fun t => c * A r t * B t j) = fun j => c * mm k A B r j := by
      funext j
      unfold mm
      rw [← su_mulL]
      exact su_congr fun t _ => by grind
    rw [this, dt_scale hr] at h
    obtain ⟨y, hy⟩ := hF.2 c hc
    grind
  · rw [dt_congr (B := B) fun i j hi hj => I_mm hi, dt_I]
    grind
  · intro A r hr e
    rw [dt_row0 hr e, dt_row0 hr fun j _ => su_0 fun t ht => by rw [e t ht]; grind]
    grind
/-- BA = 1 makes AB = 1 -/
theorem comm (hF : Fi F) (e : Em k k (mm k B A) I1) : Em k k (mm k A B) I1 := by
  have free : ∀ x : Nat → F, (∀ j, j < k → (su k fun t => x t * B t j) = 0) → ∀ i, i < k → x i = 0 := fun x h i hi => by
    have h1 : mm k (fun _ => x) (mm k B A) 0 i = x i := by
      rw [← mm_I hi (A := fun _ => x) (i := 0)]
      exact su_congr fun t ht => by rw [e t i ht hi]
    rw [← mm_assoc] at h1
    rw [← h1]
    exact su_0 fun t ht => by
      show (su k fun t => x t * B t _) * _ = 0
      rw [h t ht]
      grind
  have ex : ∀ j, ∃ y : Nat → F, j < k → ∀ i, i < k → (su k fun t => y t * B t i) = I1 j i := fun j => by
    obtain ⟨c, ⟨i0, hi0, n0⟩, hc⟩ := depend hF k fun a b => if a = k then I1 j b else B a b
    have hc' : ∀ i, i < k → (su k fun t => c t * B t i) + c k * I1 j i = 0 := fun i hi => by
      have := hc i hi
      rw [suS, if_pos rfl, su_congr (g := fun t => c t * B t i) fun t ht => by
        show c t * (if t = k then _ else _) = _
        rw [if_neg (by omega)]] at this
      exact this
    have ck : c k ≠ 0 := fun z => by
      have h0 : ∀ i, i < k → c i = 0 := free c fun i hi => by
        have := hc' i hi
        rw [z] at this
        grind
      by_cases q : i0 = k
      · exact n0 (by rw [q]; exact z)
      · exact n0 (h0 i0 (by omega))
    obtain ⟨y, hy⟩ := hF.2 _ ck
    refine ⟨fun t => -(y * c t), fun _ i hi => ?_⟩
    have := hc' i hi
    rw [su_congr (g := fun t => -y * (c t * B t i)) fun t _ => by grind, su_mulL]
    grind
  obtain ⟨Y, hY⟩ := Classical.axiomOfChoice ex
  have h1 : Em k k (mm k Y B) I1 := fun i j hi hj => hY i hi j hj
  have h2 : Em k k Y (mm k Y (mm k B A)) := fun i j hi hj => by
    rw [← mm_I hj (A := Y)]
    exact su_congr fun t ht => by rw [e t j ht hj]
  rw [← mm_assoc] at h2
  have h3 : Em k k Y A := h2.tr' ((mm_congr h1 .rfl').tr' fun i j hi _ => I_mm hi)
  exact (mm_congr h3.sy .rfl').tr' h1
/-- determinant 0, or it can be undone -/
theorem undo_or (hF : Fi F) (A : Nat → Nat → F) : dt k A = 0 ∨ ∃ B, Em k k (mm k B A) I1 := by
  have back : ∀ {A A' E : Nat → Nat → F}, Em k k (mm k E A) A' → (∃ B, Em k k (mm k B A') I1) → ∃ B, Em k k (mm k B A) I1 := fun {A A' E} e ⟨B, h⟩ => by
    refine ⟨mm k B E, ?_⟩
    rw [mm_assoc]
    exact (mm_congr .rfl' e).tr' h
  refine gauss (k := k) (P := fun A => dt k A = 0 ∨ ∃ B, Em k k (mm k B A) I1) hF ?_ ?_ ?_ ?_ ?_ A
  · intro A A' e h
    rcases h with h | ⟨B, h⟩
    · exact .inl (by rw [← dt_congr e]; exact h)
    · exact .inr ⟨B, (mm_congr .rfl' e.sy).tr' h⟩
  · intro A r s c hr hs ne h
    rcases h with h | h
    · exact .inl (by rw [dt_shear hr hs ne] at h; exact h)
    · exact .inr (back (shear_mm hr hs) h)
  · intro A r c hr hc h
    rcases h with h | h
    · exact .inl (by rw [dt_scale hr] at h; exact mul_0 hF hc h)
    · exact .inr (back (scale_mm hr) h)
  · exact .inr ⟨I1, fun i j hi hj => I_mm hi⟩
  · intro A r hr e
    exact .inl (dt_row0 hr e)
theorem dt_tr (hF : Fi F) : dt k (tr A) = dt k A := by
  refine gauss (k := k) (P := fun A => dt k (tr A) = dt k A) hF ?_ ?_ ?_ ?_ ?_ A
  · intro A A' e h
    rw [← dt_congr e, ← h]
    exact dt_congr fun i j hi hj => (e j i hj hi).symm
  · intro A r s c hr hs ne h
    rw [dt_shear hr hs ne] at h
    rw [← h]
    have h1 : Em k k (tr (mm k (st I1 r fun j => I1 r j + c * I1 s j) A)) (tr (st A r fun j => A r j + c * A s j)) := fun i j hi hj => shear_mm hr hs j i hj hi
    have h2 : tr (st I1 r fun j => I1 r j + c * I1 s j) = st (I1 : Nat → Nat → F) s fun j => I1 s j + c * I1 r j := by
      funext i j
      simp only [tr, st, I1]
      grind
    rw [← dt_congr h1, tr_mm, dt_mul hF, h2, dt_shear hs hr ne.symm, dt_I]
    grind
  · intro A r c hr hc h
    rw [dt_scale hr] at h
    have h1 : Em k k (tr (mm k (st I1 r fun j => c * I1 r j) A)) (tr (st A r fun j => c * A r j)) := fun i j hi hj => scale_mm hr j i hj hi
    have h2 : tr (st I1 r fun j => c * I1 r j) = st (I1 : Nat → Nat → F) r fun j => c * I1 r j := by
      funext i j
      simp only [tr, st, I1]
      grind
    rw [← dt_congr h1, tr_mm, dt_mul hF, h2, dt_scale hr, dt_I] at h
    obtain ⟨y, hy⟩ := hF.2 c hc
    grind
  · rw [tr_I]
  · intro A r hr e
    have h1 : Em k k (tr A) (mm k (tr A) (st I1 r fun _ => 0)) := fun i j hi hj => by
      unfold mm
      by_cases q : j = r
      · subst q
        rw [su_0 fun t ht => by
          by_cases z : t = j
          · subst z; rw [st_s]; grind
          · rw [st_n z]; simp only [I1]; rw [if_neg z]; grind]
        exact e i hi
      · rw [su_one hj fun t ht z => by
          by_cases w : t = r
          · subst w; rw [st_s]; grind
          · rw [st_n w]; simp only [I1]; rw [if_neg z]; grind, st_n q]
        simp only [I1]
        grind
    rw [dt_congr h1, dt_mul hF, dt_row0 (A := st I1 r fun _ => 0) hr fun j _ => st_s, dt_row0 hr e]
    grind
/-! ranks -/
/-- r rows of m by n numbers can be told by, and no fewer -/
def Rk (m n : Nat) (A : Nat → Nat → F) (r : Nat) : Prop :=
  (∃ C R, Em m n A (mm r C R)) ∧ ∃ X Y, Em r r (mm n (mm m X A) Y) I1
/-- 1 of size r is no product by way of fewer -/
theorem le_of_I (hF : Fi F) (e : Em r r (mm s X Y) I1) : r ≤ s := Classical.byContradiction fun q => by
  obtain ⟨c, ⟨i0, hi0, n0⟩, hc⟩ := depend hF s X
  have h1 : mm (s + 1) (fun _ => c) I1 0 i0 = c i0 := mm_I (by omega)
  apply n0
  rw [← h1]
  have h2 : mm (s + 1) (fun _ => c) (mm s X Y) 0 i0 = mm (s + 1) (fun _ => c) I1 0 i0 := su_congr fun t ht => by rw [e t i0 (by omega) (by omega)]
  rw [← h2, ← mm_assoc]
  exact su_0 fun t ht => by
    show (su (s + 1) fun l => c l * X l t) * _ = 0
    rw [hc t ht]
    grind
theorem Rk.le_of (hF : Fi F) (h : Rk m n A r) (e : Em m n A (mm s C D)) : r ≤ s := by
  obtain ⟨_, X, Y, h2⟩ := h
  refine le_of_I hF (X := mm m X C) (Y := mm n D Y) (fun i j hi hj => ?_)
  rw [← h2 i j hi hj, mm_assoc, ← mm_assoc (A := C), ← mm_assoc (A := X)]
  exact su_congr fun t ht => by
    rw [show mm m X A i t = mm m X (mm s C D) i t from su_congr fun l hl => by rw [e l t hl ht]]
theorem Rk.uniq (hF : Fi F) (h : Rk m n A r) (h' : Rk m n A s) : r = s := by
  obtain ⟨C, R, e⟩ := h.1
  obtain ⟨C', R', e'⟩ := h'.1
  exact Nat.le_antisymm (h.le_of hF e') (h'.le_of hF e)
theorem Rk.congr (e : Em m n A B) (h : Rk m n A r) : Rk m n B r := by
  obtain ⟨⟨C, R, e1⟩, X, Y, e2⟩ := h
  exact ⟨⟨C, R, e.sy.tr' e1⟩, X, Y, (mm_congr (mm_congr .rfl' e.sy) .rfl').tr' e2⟩
theorem Rk.tr' (h : Rk m n A r) : Rk n m (tr A) r := by
  obtain ⟨⟨C, R, e1⟩, X, Y, e2⟩ := h
  refine ⟨⟨tr R, tr C, fun i j hi hj => ?_⟩, tr Y, tr X, fun i j hi hj => ?_⟩
  · rw [← tr_mm]
    exact e1 j i hj hi
  · rw [mm_assoc, ← tr_mm, ← tr_mm]
    show mm n (mm m X A) Y j i = _
    rw [e2 j i hj hi]
    simp only [I1, eq_comm]
theorem Rk.scale (hF : Fi F) (hc : c ≠ 0) (h : Rk m n A r) : Rk m n (fun i j => c * A i j) r := by
  obtain ⟨⟨C, R, e1⟩, X, Y, e2⟩ := h
  obtain ⟨y, hy⟩ := hF.2 c hc
  refine ⟨⟨fun i j => c * C i j, R, fun i j hi hj => ?_⟩, fun i j => y * X i j, Y, fun i j hi hj => ?_⟩
  · show c * A i j = _
    rw [e1 i j hi hj]
    unfold mm
    rw [← su_mulL]
    exact su_congr fun t _ => by grind
  · rw [← e2 i j hi hj]
    refine su_congr fun t ht => ?_
    congr 1
    exact su_congr fun l _ => by grind
theorem Rk.mul_le2 (hF : Fi F) (h : Rk m n (mm k A B) r) (h1 : Rk k n B s) : r ≤ s := by
  obtain ⟨⟨C, R, e1⟩, _⟩ := h1
  refine h.le_of hF (C := mm k A C) (D := R) ?_
  rw [mm_assoc]
  exact mm_congr .rfl' e1
theorem depend' (hF : Fi F) (hn : k < n) (v : Nat → Nat → F) : ∃ c : Nat → F, (∃ i, i < n ∧ c i ≠ 0) ∧ ∀ j, j < k → (su n fun i => c i * v i j) = 0 := by
  obtain ⟨c, ⟨i0, hi0, n0⟩, hc⟩ := depend hF k v
  obtain ⟨e, rfl⟩ : ∃ e, n = k + 1 + e := ⟨n - k - 1, by omega⟩
  refine ⟨fun i => if i < k + 1 then c i else 0, ⟨i0, by omega, by simpa [show i0 < k + 1 by omega] using n0⟩, fun j hj => ?_⟩
  rw [su_split, su_congr (g := fun i => c i * v i j) fun i hi => by
    show (if i < k + 1 then c i else 0) * _ = _
    rw [if_pos hi], hc j hj, su_0 fun i hi => by
    show (if k + 1 + i < k + 1 then c (k + 1 + i) else 0) * _ = _
    rw [if_neg (by omega)]
    grind]
  grind
theorem Rk.syl (hF : Fi F) {r1 r2 : Nat} (h1 : Rk m k A r1) (h2 : Rk k n B r2) (h : Rk m n (mm k A B) r) : r1 + r2 ≤ k + r := Classical.byContradiction fun q => by
  obtain ⟨_, X, Y, e1⟩ := h1
  obtain ⟨_, X', Y', e2⟩ := h2
  obtain ⟨⟨C, R, e⟩, _⟩ := h
  obtain ⟨c, ⟨i0, hi0, n0⟩, hc⟩ := depend' hF (k := k + r) (n := r1 + r2) (by omega) fun i j => if i < r1 then (if j < k then mm m X A i j else mm m X C i (j - k)) else if j < k then X' (i - r1) j else 0
  let x2 : Nat → F := fun i => c (r1 + i)
  have a : ∀ j, j < k → mm r1 (fun _ => c) (mm m X A) 0 j + mm r2 (fun _ => x2) X' 0 j = 0 := fun j hj => by
    have := hc j (by omega)
    rw [su_split, su_congr (g := fun i => c i * mm m X A i j) fun i hi => by rw [if_pos hi, if_pos hj], su_congr (n := r2) (g := fun i => x2 i * X' i j) fun i hi => by rw [if_neg (by omega), if_pos hj, Nat.add_sub_cancel_left]] at this
    exact this
  have b : ∀ t, t < r → mm r1 (fun _ => c) (mm m X C) 0 t = 0 := fun t ht => by
    have := hc (k + t) (by omega)
    rw [su_split, su_congr (g := fun i => c i * mm m X C i t) fun i hi => by rw [if_pos hi, if_neg (by omega), Nat.add_sub_cancel_left], su_0 (n := r2) fun i hi => by rw [if_neg (by omega), if_neg (by omega)]; grind] at this
    show (su r1 fun i => c i * mm m X C i t) = 0
    grind
  have z2 : ∀ l, l < r2 → x2 l = 0 := fun l hl => by
    have s1 : mm k (mm r1 (fun _ => c) (mm m X A)) (mm n B Y') 0 l + mm k (mm r2 (fun _ => x2) X') (mm n B Y') 0 l = 0 := by
      unfold mm
      rw [← su_add]
      refine su_0 fun t ht => ?_
      have := a t ht
      unfold mm at this
      grind
    have s2 : mm k (mm r2 (fun _ => x2) X') (mm n B Y') 0 l = x2 l := by
      rw [mm_assoc, ← mm_assoc (A := X'), ← mm_I hl (A := fun _ => x2) (i := 0)]
      exact su_congr fun t ht => by rw [e2 t l ht hl]
    have s3 : mm k (mm r1 (fun _ => c) (mm m X A)) (mm n B Y') 0 l = 0 := by
      rw [mm_assoc, mm_assoc (A := X), ← mm_assoc (A := A), ← mm_assoc (A := X), ← mm_assoc (n := n)]
      refine su_0 fun t ht => ?_
      have : mm r1 (fun _ => c) (mm m X (mm k A B)) 0 t = 0 := by
        rw [show mm r1 (fun _ => c) (mm m X (mm k A B)) 0 t = mm r1 (fun _ => c) (mm m X (mm r C R)) 0 t from su_congr fun i hi => by
          congr 1
          exact su_congr fun l hl => by rw [e l t hl ht]]
        rw [← mm_assoc (A := X), ← mm_assoc]
        exact su_0 fun l hl => by rw [b l hl]; grind
      rw [this]
      grind
    grind
  have z1 : ∀ l, l < r1 → c l = 0 := fun l hl => by
    have s0 : ∀ j, j < k → mm r1 (fun _ => c) (mm m X A) 0 j = 0 := fun j hj => by
      have := a j hj
      rw [show mm r2 (fun _ => x2) X' 0 j = 0 from su_0 fun t ht => by
        show x2 t * _ = 0
        rw [z2 t ht]
        grind] at this
      grind
    have s1 : mm k (mm r1 (fun _ => c) (mm m X A)) Y 0 l = 0 := su_0 fun t ht => by rw [s0 t ht]; grind
    rw [mm_assoc] at s1
    rw [← s1, ← mm_I hl (A := fun _ => c) (i := 0)]
    exact su_congr fun t ht => by rw [e1 t l ht hl]
  apply n0
  by_cases w : i0 < r1
  · exact z1 i0 w
  · have := z2 (i0 - r1) (by omega)
    simp only [x2] at this
    rwa [show r1 + (i0 - r1) = i0 by omega] at this
theorem Rk.le_n (hF : Fi F) (h : Rk m n A r) : r ≤ n := h.le_of hF (C := A) (D := I1) fun i j _ hj => (mm_I hj).symm
theorem Rk.le_m (hF : Fi F) (h : Rk m n A r) : r ≤ m := h.le_of hF (C := I1) (D := A) fun i j hi _ => (I_mm hi).symm
theorem Rk.full (hF : Fi F) (h : Rk n n A n) : dt n A ≠ 0 := by
  obtain ⟨_, X, Y, e⟩ := h
  intro z
  have := dt_congr e
  rw [dt_mul hF, dt_mul hF, z, dt_I] at this
  exact hF.1 (by grind)
theorem rk_undo (hF : Fi F) (e : Em n n (mm n B A) I1) : Rk n n A n :=
  ⟨⟨A, I1, fun i j _ hj => (mm_I hj).symm⟩, B, I1, fun i j hi hj => by rw [mm_I hj]; exact e i j hi hj⟩
theorem rk_of_dt (hF : Fi F) (h : dt n A ≠ 0) : Rk n n A n := by
  rcases undo_or (k := n) hF A with z | ⟨B, e⟩
  · exact absurd z h
  · exact rk_undo hF e
theorem Rk.less (hF : Fi F) (h : Rk n n A r) (hr : r < n) : dt n A = 0 := Classical.byContradiction fun q => by
  have := h.uniq hF (rk_of_dt hF q)
  omega
end
end Lf

set_option linter.all false
set_option maxRecDepth 100000
set_option maxHeartbeats 1000000
namespace Lf
open Lb
/-! LibFc: whole numbers modulo p as a field. -/
def zs (p : Int) : Setoid Int := ⟨fun a b => a % p = b % p, ⟨fun _ => rfl, fun h => h.symm, fun h g => h.trans g⟩⟩
def Zp (p : Int) : Type := Quotient (zs p)
def zq (p a : Int) : Zp p := Quotient.mk (zs p) a
section
variable {p a b c : Int} {x y z : Zp p}
theorem zq_iff : zq p a = zq p b ↔ a % p = b % p := ⟨fun h => Quotient.exact h, fun h => Quotient.sound h⟩
def zadd (x y : Zp p) : Zp p := Quotient.lift₂ (fun a b => zq p (a + b)) (fun a b a' b' (h : a % p = a' % p) (h' : b % p = b' % p) => zq_iff.mpr (by rw [Int.add_emod, h, h', ← Int.add_emod])) x y
def zmul (x y : Zp p) : Zp p := Quotient.lift₂ (fun a b => zq p (a * b)) (fun a b a' b' (h : a % p = a' % p) (h' : b % p = b' % p) => zq_iff.mpr (by rw [Int.mul_emod, h, h', ← Int.mul_emod])) x y
def zneg (x : Zp p) : Zp p := Quotient.lift (fun a => zq p (-a)) (fun a a' (h : a % p = a' % p) => zq_iff.mpr (by
  have h1 : (a - a') % p = 0 := by rw [Int.sub_emod, h, Int.sub_self, Int.zero_emod]
  have h2 : (-a' - -a) % p = 0 := by rw [show -a' - -a = a - a' by omega]; exact h1
  exact (Int.emod_eq_emod_iff_emod_sub_eq_zero.mpr h2).symm)) x
def zpow (x : Zp p) : Nat → Zp p
  | 0 => zq p 1
  | n + 1 => zmul (zpow x n) x
theorem zq_ex (x : Zp p) : ∃ a, x = zq p a := Quotient.ind (motive := fun x => ∃ a, x = zq p a) (fun a => ⟨a, rfl⟩) x
theorem zadd_comm (x y : Zp p) : zadd x y = zadd y x := by
  obtain ⟨a, rfl⟩ := zq_ex x
  obtain ⟨b, rfl⟩ := zq_ex y
  exact congrArg (zq p) (Int.add_comm a b)
theorem zadd_assoc (x y z : Zp p) : zadd (zadd x y) z = zadd x (zadd y z) := by
  obtain ⟨a, rfl⟩ := zq_ex x
  obtain ⟨b, rfl⟩ := zq_ex y
  obtain ⟨c, rfl⟩ := zq_ex z
  exact congrArg (zq p) (Int.add_assoc a b c)
theorem zmul_comm (x y : Zp p) : zmul x y = zmul y x := by
  obtain ⟨a, rfl⟩ := zq_ex x
  obtain ⟨b, rfl⟩ := zq_ex y
  exact congrArg (zq p) (Int.mul_comm a b)
theorem zmul_assoc (x y z : Zp p) : zmul (zmul x y) z = zmul x (zmul y z) := by
  obtain ⟨a, rfl⟩ := zq_ex x
  obtain ⟨b, rfl⟩ := zq_ex y
  obtain ⟨c, rfl⟩ := zq_ex z
  exact congrArg (zq p) (Int.mul_assoc a b c)
theorem zleft (x y z : Zp p) : zmul x (zadd y z) = zadd (zmul x y) (zmul x z) := by
  obtain ⟨a, rfl⟩ := zq_ex x
  obtain ⟨b, rfl⟩ := zq_ex y
  obtain ⟨c, rfl⟩ := zq_ex z
  exact congrArg (zq p) (Int.mul_add a b c)
theorem zright (x y z : Zp p) : zmul (zadd x y) z = zadd (zmul x z) (zmul y z) := by
  obtain ⟨a, rfl⟩ := zq_ex x
  obtain ⟨b, rfl⟩ := zq_ex y
  obtain ⟨c, rfl⟩ := zq_ex z
  exact congrArg (zq p) (Int.add_mul a b c)
theorem zadd_0 (x : Zp p) : zadd x (zq p 0) = x := by
  obtain ⟨a, rfl⟩ := zq_ex x
  exact congrArg (zq p) (Int.add_zero a)
theorem zmul_1 (x : Zp p) : zmul x (zq p 1) = x := by
  obtain ⟨a, rfl⟩ := zq_ex x
  exact congrArg (zq p) (Int.mul_one a)
theorem z1_mul (x : Zp p) : zmul (zq p 1) x = x := by
  obtain ⟨a, rfl⟩ := zq_ex x
  exact congrArg (zq p) (Int.one_mul a)
theorem z0_mul (x : Zp p) : zmul (zq p 0) x = zq p 0 := by
  obtain ⟨a, rfl⟩ := zq_ex x
  exact congrArg (zq p) (Int.zero_mul a)
theorem zmul_0 (x : Zp p) : zmul x (zq p 0) = zq p 0 := by
  obtain ⟨a, rfl⟩ := zq_ex x
  exact congrArg (zq p) (Int.mul_zero a)
theorem zneg_add (x : Zp p) : zadd (zneg x) x = zq p 0 := by
  obtain ⟨a, rfl⟩ := zq_ex x
  exact congrArg (zq p) (Int.add_left_neg a)
theorem znegz (i : Int) (x : Zp p) : zmul (zq p (-i)) x = zneg (zmul (zq p i) x) := by
  obtain ⟨a, rfl⟩ := zq_ex x
  exact congrArg (zq p) (Int.neg_mul i a)
instance : Lean.Grind.CommRing (Zp p) where
  add := zadd
  mul := zmul
  neg := zneg
  sub x y := zadd x (zneg y)
  natCast := ⟨fun n => zq p n⟩
  ofNat n := ⟨zq p n⟩
  nsmul := ⟨fun n x => zmul (zq p n) x⟩
  npow := ⟨zpow⟩
  intCast := ⟨fun n => zq p n⟩
  zsmul := ⟨fun n x => zmul (zq p n) x⟩
  add_zero := zadd_0
  add_comm := zadd_comm
  add_assoc := zadd_assoc
  mul_assoc := zmul_assoc
  mul_one := zmul_1
  one_mul := z1_mul
  left_distrib := zleft
  right_distrib := zright
  zero_mul := z0_mul
  mul_zero := zmul_0
  pow_zero _ := rfl
  pow_succ _ _ := rfl
  ofNat_succ n := rfl
  ofNat_eq_natCast n := rfl
  nsmul_eq_natCast_mul n a := rfl
  neg_add_cancel := zneg_add
  sub_eq_add_neg _ _ := rfl
  neg_zsmul := znegz
  zsmul_natCast_eq_nsmul n a := rfl
  intCast_ofNat n := rfl
  intCast_neg i := rfl
  mul_comm := zmul_comm
theorem zq_add : zq p (a + b) = zq p a + zq p b := rfl
theorem zq_mul : zq p (a * b) = zq p a * zq p b := rfl
theorem zq_neg : zq p (-a) = -zq p a := rfl
theorem zq_sub : zq p (a - b) = zq p a - zq p b := by rw [Int.sub_eq_add_neg]; rfl
theorem zq_0 : zq p 0 = 0 := rfl
theorem zq_1 : zq p 1 = 1 := rfl
theorem zq_mod : zq p (a % p) = zq p a := zq_iff.mpr (Int.emod_emod a p)
theorem zq_z : zq p a = 0 ↔ a % p = 0 := by
  rw [← zq_0, zq_iff, Int.zero_emod]
theorem zq_z_in (ha : 0 ≤ a ∧ a < p) : zq p a = 0 ↔ a = 0 := by
  rw [zq_z, Int.emod_eq_of_lt ha.1 ha.2]
theorem zq_Fi (hp : Pr p) : Fi (Zp p) := by
  have p2 := hp.pos.1
  refine ⟨fun h => ?_, fun x h => ?_⟩
  · rw [← zq_1, zq_z, Int.emod_eq_of_lt (by omega) (by omega)] at h
    omega
  · obtain ⟨a, rfl⟩ := zq_ex x
    have h' : a % p ≠ 0 := fun z => h (zq_z.mpr z)
    obtain ⟨u, e⟩ := inv_ex hp h'
    refine ⟨zq p u, ?_⟩
    rw [← zq_mul, ← zq_1, zq_iff, e, Int.emod_eq_of_lt (by omega) (by omega)]
theorem zq_su {h : Nat → Int} : ∀ n : Nat, zq p (sm n h) = su n fun i => zq p (h i)
  | 0 => rfl
  | n + 1 => by rw [smS, suS, zq_add, zq_su n]
/-- a table's numbers modulo p -/
def qt (p : Int) (f : Nat → Nat → Int) : Nat → Nat → Zp p := fun i j => zq p (f i j)
variable {f g : Nat → Nat → Int} {k : Nat}
theorem qt_mul : qt p (mulF p k f g) = mm k (qt p f) (qt p g) := by
  funext i j
  show zq p (_ % p) = _
  rw [zq_mod, zq_su]
  rfl
theorem qt_unit : qt p unitF = I1 := by
  funext i j
  unfold qt unitF I1
  split <;> rfl
theorem qt_sw : qt p (swF f) = tr (qt p f) := rfl
end
end Lf

set_option linter.all false
set_option maxRecDepth 100000
set_option maxHeartbeats 1000000
namespace Lf
open Lb
/-! LibSp: rows in the span of others; the reduced rows that a Span keeps: plain maths. -/
section
variable {F : Type} [Lean.Grind.CommRing F] {A R B : Nat → Nat → F} {m n t N : Nat} {c : F} {u v : Nat → F}
def InSp (N m : Nat) (A : Nat → Nat → F) (v : Nat → F) : Prop := ∃ c : Nat → F, ∀ j, j < N → v j = su m fun i => c i * A i j
theorem InSp.congr (h : InSp N m A u) (e : ∀ j, j < N → u j = v j) : InSp N m A v := by
  obtain ⟨c, h⟩ := h
  exact ⟨c, fun j hj => by rw [← e j hj, h j hj]⟩
theorem InSp.row {i : Nat} (hi : i < m) : InSp N m A (A i) := ⟨fun t => if t = i then 1 else 0, fun j _ => by
  rw [su_one hi fun t _ ne => by dsimp only; rw [if_neg ne]; grind]
  dsimp only
  rw [if_pos rfl]
  grind⟩
theorem InSp.comb (h : InSp N m A u) (g : InSp N m A v) : InSp N m A fun j => u j + c * v j := by
  obtain ⟨a, h⟩ := h
  obtain ⟨b, g⟩ := g
  refine ⟨fun i => a i + c * b i, fun j hj => ?_⟩
  dsimp only
  rw [h j hj, g j hj, ← su_mulL, ← su_add]
  exact su_congr fun i _ => by grind
theorem InSp.zero : InSp N m A fun _ => 0 := ⟨fun _ => 0, fun j _ => (su_0 fun i _ => by grind).symm⟩
theorem InSp.scale (g : InSp N m A v) : InSp N m A fun j => c * v j := (InSp.zero.comb (c := c) g).congr fun j _ => by grind
theorem InSp.sum {x : Nat → F} : ∀ {t : Nat}, (∀ l, l < t → InSp N m A (R l)) → InSp N m A fun j => su t fun l => x l * R l j
  | 0, _ => InSp.zero
  | t + 1, h => ((InSp.sum fun l hl => h l (by omega)).comb (c := x t) (h t (by omega))).congr fun j _ => rfl
theorem InSp.trans (h : InSp N t R v) (g : ∀ l, l < t → InSp N m A (R l)) : InSp N m A v := by
  obtain ⟨c, h⟩ := h
  exact (InSp.sum (x := c) g).congr fun j hj => (h j hj).symm
theorem InSp.mono (h : InSp N m A v) : InSp N (m + 1) A v := by
  obtain ⟨c, h⟩ := h
  refine ⟨fun i => if i < m then c i else 0, fun j hj => ?_⟩
  rw [suS, h j hj, su_congr (n := m) (h := fun i => (fun i => if i < m then c i else 0) i * A i j) (g := fun i => c i * A i j) fun i hi => by dsimp only; rw [if_pos hi]]
  dsimp only
  rw [if_neg (by omega)]
  grind
/-- the same span -/
def Sp (N m : Nat) (A : Nat → Nat → F) (t : Nat) (R : Nat → Nat → F) : Prop := (∀ i, i < m → InSp N t R (A i)) ∧ ∀ l, l < t → InSp N m A (R l)
theorem InSp.mat (h : ∀ i, i < m → InSp N t R (A i)) : ∃ C, Em m N A (mm t C R) := by
  have : ∀ i, ∃ c : Nat → F, i < m → ∀ j, j < N → A i j = su t fun l => c l * R l j := fun i => by
    by_cases hi : i < m
    · obtain ⟨c, e⟩ := h i hi
      exact ⟨c, fun _ => e⟩
    · exact ⟨fun _ => 0, fun z => absurd z hi⟩
  obtain ⟨C, hC⟩ := Classical.axiomOfChoice this
  exact ⟨C, fun i j hi hj => hC i hi j hj⟩
theorem Sp.nil : Sp N 0 A 0 R := ⟨fun i hi => by omega, fun i hi => by omega⟩
end
section
variable {p : Int} {N t m q l : Nat} {a : Nat → Nat} {R : Nat → Nat → Int} {v : Nat → Int} {u : Int} {A : Nat → Nat → Zp p}
/-- v after the first l rows were taken off -/
def rst (p : Int) (a : Nat → Nat) (R : Nat → Nat → Int) (v : Nat → Int) : Nat → Nat → Int
  | 0 => v
  | l + 1 => fun j => (rst p a R v l j - rst p a R v l (a l) * R l j) % p
theorem rst_in (hp : 0 < p) (hv : In1 p v) : ∀ l, In1 p (rst p a R v l)
  | 0 => hv
  | l + 1 => fun j => mod_in hp
structure SpOk (p : Int) (N t : Nat) (a : Nat → Nat) (R : Nat → Nat → Int) : Prop where
  lt : ∀ l, l < t → a l < N
  rg : In2 p R
  one : Em t t (fun l m => zq p (R l (a m))) I1
  lead : ∀ l j, l < t → j < a l → zq p (R l j) = 0
theorem SpOk.at (h : SpOk p N t a R) {l m : Nat} (hl : l < t) (hm : m < t) : zq p (R l (a m)) = if l = m then 1 else 0 := h.one l m hl hm
theorem rst_zq (h : SpOk p N t a R) : ∀ {l j : Nat}, l ≤ t → zq p (rst p a R v l j) = zq p (v j) - su l fun m => zq p (v (a m)) * zq p (R m j)
  | 0, j, _ => by
    simp only [rst, su]
    grind
  | l + 1, j, hl => by
    have e : zq p (rst p a R v l (a l)) = zq p (v (a l)) := by
      rw [rst_zq h (by omega), su_0 fun m hm => by rw [h.at (by omega) (by omega), if_neg (by omega)]; grind]
      grind
    show zq p (_ % p) = _
    rw [zq_mod, zq_sub, zq_mul, e, rst_zq h (by omega), suS]
    grind
theorem rst_piv (h : SpOk p N t a R) (hm : m < t) : zq p (rst p a R v t (a m)) = 0 := by
  rw [rst_zq h (Nat.le_refl _), su_one hm fun i hi ne => by rw [h.at hi hm, if_neg ne]; grind, h.at hm hm, if_pos rfl]
  grind
def nw (p u : Int) (w : Nat → Int) : Nat → Int := fun j => u * w j % p
def nR (p : Int) (q t : Nat) (w' : Nat → Int) (R : Nat → Nat → Int) : Nat → Nat → Int := fun l j => if l = t then w' j else (R l j - R l q * w' j) % p
def nA (q t : Nat) (a : Nat → Nat) : Nat → Nat := fun l => if l = t then q else a l
theorem spok_add (hp : Pr p) (h : SpOk p N t a R) (hv : In1 p v) (hq : q < N) (first : ∀ j, j < q → rst p a R v t j = 0) (hu : (rst p a R v t q * u) % p = 1) :
    SpOk p N (t + 1) (nA q t a) (nR p q t (nw p u (rst p a R v t)) R) := by
  have p2 := hp.pos
  have hF := zq_Fi hp
  have hu' : zq p (rst p a R v t q) * zq p u = 1 := by
    rw [← zq_mul, ← zq_1, zq_iff, hu, Int.emod_eq_of_lt (by omega) (by omega)]
  have w1 : ∀ j, zq p (nw p u (rst p a R v t) j) = zq p u * zq p (rst p a R v t j) := fun j => by rw [← zq_mul]; exact zq_mod
  have wq : zq p (nw p u (rst p a R v t) q) = 1 := by rw [w1]; grind
  have wa : ∀ m, m < t → zq p (nw p u (rst p a R v t) (a m)) = 0 := fun m hm => by rw [w1, rst_piv h hm]; grind
  have wl : ∀ j, j < q → zq p (nw p u (rst p a R v t) j) = 0 := fun j hj => by rw [w1, first j hj, zq_0]; grind
  have nt : ∀ j, nR p q t (nw p u (rst p a R v t)) R t j = nw p u (rst p a R v t) j := fun j => if_pos rfl
  have nl : ∀ l j, l < t → zq p (nR p q t (nw p u (rst p a R v t)) R l j) = zq p (R l j) - zq p (R l q) * zq p (nw p u (rst p a R v t) j) := fun l j hl => by
    show zq p (if _ then _ else _) = _
    rw [if_neg (by omega), zq_mod, zq_sub, zq_mul]
  have at' : nA q t a t = q := if_pos rfl
  have al : ∀ l, l < t → nA q t a l = a l := fun l hl => if_neg (by omega)
  refine ⟨fun l hl => ?_, fun l j => ?_, fun l m hl hm => ?_, fun l j hl hj => ?_⟩
  · by_cases z : l = t
    · rw [z, at']; exact hq
    · rw [al l (by omega)]; exact h.lt l (by omega)
  · unfold nR
    split
    · exact mod_in (by omega)
    · exact mod_in (by omega)
  · show zq p (nR p q t _ R l (nA q t a m)) = _
    simp only [I1]
    by_cases z : l = t
    · subst z
      rw [nt]
      by_cases y : m = l
      · subst y
        rw [at', wq, if_pos rfl]
      · rw [al m (by omega), wa m (by omega), if_neg fun e => y e.symm]
    · rw [nl l _ (by omega)]
      by_cases y : m = t
      · subst y
        rw [at', wq, if_neg z]
        grind
      · rw [al m (by omega), wa m (by omega), h.at (by omega) (by omega)]
        grind
  · by_cases z : l = t
    · subst z
      rw [at'] at hj
      rw [nt, wl j hj]
    · rw [al l (by omega)] at hj
      rw [nl l j (by omega), h.lead l j (by omega) hj]
      by_cases y : j < q
      · rw [wl j y]
        grind
      · rw [h.lead l q (by omega) (by omega)]
        grind
theorem sp_skip (h : SpOk p N t a R) (s : Sp N m A t (qt p R)) (e : ∀ j, j < N → A m j = zq p (v j)) (z : ∀ j, j < N → rst p a R v t j = 0) : Sp N (m + 1) A t (qt p R) := by
  refine ⟨fun i hi => ?_, fun l hl => (s.2 l hl).mono⟩
  by_cases y : i = m
  · subst y
    refine ⟨fun l => zq p (v (a l)), fun j hj => ?_⟩
    rw [e j hj]
    have h1 := rst_zq h (v := v) (l := t) (j := j) (Nat.le_refl t)
    rw [z j hj, zq_0] at h1
    show _ = su t fun l => zq p (v (a l)) * zq p (R l j)
    grind
  · exact s.1 i (by omega)
theorem sp_add (hp : Pr p) (h : SpOk p N t a R) (s : Sp N m A t (qt p R)) (e : ∀ j, j < N → A m j = zq p (v j)) (hq : q < N) (hu : (rst p a R v t q * u) % p = 1) :
    Sp N (m + 1) A (t + 1) (qt p (nR p q t (nw p u (rst p a R v t)) R)) := by
  have p2 := hp.pos
  have hu' : zq p (rst p a R v t q) * zq p u = 1 := by
    rw [← zq_mul, ← zq_1, zq_iff, hu, Int.emod_eq_of_lt (by omega) (by omega)]
  have w1 : ∀ j, zq p (nw p u (rst p a R v t) j) = zq p u * zq p (rst p a R v t j) := fun j => by rw [← zq_mul]; exact zq_mod
  have nt : ∀ j, qt p (nR p q t (nw p u (rst p a R v t)) R) t j = zq p (nw p u (rst p a R v t) j) := fun j => congrArg (zq p) (if_pos rfl)
  have nl : ∀ l j, l < t → qt p (nR p q t (nw p u (rst p a R v t)) R) l j = zq p (R l j) - zq p (R l q) * zq p (nw p u (rst p a R v t) j) := fun l j hl => by
    show zq p (if _ then _ else _) = _
    rw [if_neg (by omega), zq_mod, zq_sub, zq_mul]
  -- the rest, and the new row, from the rows
  have rs : InSp N (m + 1) A fun j => zq p (rst p a R v t j) := by
    have h1 : InSp N (m + 1) A fun j => su t fun l => zq p (v (a l)) * qt p R l j := InSp.sum fun l hl => (s.2 l hl).mono
    refine ((InSp.row (i := m) (by omega)).comb (c := -1) h1).congr fun j hj => ?_
    rw [rst_zq h (Nat.le_refl t), e j hj]
    show _ + -1 * (su t fun l => zq p (v (a l)) * zq p (R l j)) = _
    grind
  have ws : InSp N (m + 1) A fun j => zq p (nw p u (rst p a R v t) j) := (rs.scale (c := zq p u)).congr fun j _ => (w1 j).symm
  -- the old rows from the new ones
  have wn : InSp N (t + 1) (qt p (nR p q t (nw p u (rst p a R v t)) R)) fun j => zq p (nw p u (rst p a R v t) j) := (InSp.row (i := t) (by omega)).congr fun j _ => nt j
  have on : ∀ l, l < t → InSp N (t + 1) (qt p (nR p q t (nw p u (rst p a R v t)) R)) (qt p R l) := fun l hl =>
    ((InSp.row (i := l) (by omega)).comb (c := zq p (R l q)) wn).congr fun j _ => by
      rw [nl l j hl]
      show _ = zq p (R l j)
      grind
  refine ⟨fun i hi => ?_, fun l hl => ?_⟩
  · by_cases y : i = m
    · subst y
      have h1 : InSp N (t + 1) (qt p (nR p q t (nw p u (rst p a R v t)) R)) fun j => su t fun l => zq p (v (a l)) * qt p R l j := InSp.sum on
      refine (h1.comb (c := zq p (rst p a R v t q)) wn).congr fun j hj => ?_
      rw [e j hj, w1]
      have h2 := rst_zq h (v := v) (l := t) (j := j) (Nat.le_refl t)
      show (su t fun l => zq p (v (a l)) * zq p (R l j)) + _ = _
      grind
    · exact (s.1 i (by omega)).trans on
  · by_cases y : l = t
    · subst y
      exact ws.congr fun j _ => (nt j).symm
    · refine ((s.2 l (by omega)).mono.comb (c := -zq p (R l q)) ws).congr fun j _ => ?_
      rw [nl l j (by omega)]
      show zq p (R l j) + _ = _
      grind
theorem rk_of_sp (h : SpOk p N t a R) (s : Sp N m A t (qt p R)) : Rk m N A t := by
  obtain ⟨X, hX⟩ := InSp.mat s.2
  refine ⟨(InSp.mat s.1).elim fun C e => ⟨C, _, e⟩, X, fun j l => if j = a l then 1 else 0, fun l l' hl hl' => ?_⟩
  have ha := h.lt l' hl'
  unfold mm
  rw [su_one ha fun i _ ne => by dsimp only; rw [if_neg ne]; grind]
  dsimp only
  rw [if_pos rfl]
  have := hX l (a l') hl ha
  unfold mm at this
  rw [← this, ← h.one l l' hl hl']
  show zq p (R l (a l')) * 1 = zq p (R l (a l'))
  grind
end
end Lf

set_option linter.all false
set_option maxRecDepth 100000
set_option maxHeartbeats 1000000
namespace Lb
open PySem PySem.Spec L2 Dl
end Lb

set_option linter.all false
set_option maxRecDepth 100000
set_option maxHeartbeats 1000000
namespace Lb
open PySem PySem.Spec L2 Dl Lf
abbrev sC : Str := Str.ofString "Span"
abbrev sP : Str := Str.ofString "p"
abbrev sR : Str := Str.ofString "rows"
def kvS (N t : Nat) (a : Nat → Nat) (R : Nat → Nat → Int) : List (Key × D) := (List.range t).map fun l => (Sum.inl ((a l : Nat) : Int), D.p (rowP (mkR N (R l))))
structure SpS (p : Int) (N t : Nat) (a : Nat → Nat) (R : Nat → Nat → Int) (s r : Nat) (S : Sto) : Prop where
  ins : S[s]? = some (.ins sC [(sP, .i p), (sR, .loc r)])
  dct : S[r]? = some (.dK (kvS N t a R))
theorem SpS.ne {p : Int} {N t s r : Nat} {a : Nat → Nat} {R : Nat → Nat → Int} {S : Sto} (h : SpS p N t a R s r S) : s ≠ r := fun e => by
  have h1 := h.ins
  rw [e, h.dct] at h1
  cases h1
section
variable {dfs : List Df} {fl : List (Str × Str)} {sp : Fns → Fns} {S : Sto} {n N t s r k : Nat} {p : Int} {a : Nat → Nat} {R : Nat → Nat → Int} {v : Nat → Int}
end
end Lb

set_option linter.all false
set_option maxRecDepth 100000
set_option maxHeartbeats 1000000
namespace Lb
open PySem PySem.Spec L2 Dl Lf
/-! LibSx: Span.add. -/
section
variable {dfs : List Df} {fl : List (Str × Str)} {sp : Fns → Fns} {S : Sto} {n N t s r k q m : Nat} {p : Int} {a : Nat → Nat} {R : Nat → Nat → Int} {v x : Nat → Int}
/-- the first place where b holds -/
theorem first_of (b : Nat → Bool) : ∀ (N : Nat), (List.range N).filter b = [] ∧ (∀ j, j < N → b j = false) ∨ ∃ q r, (List.range N).filter b = q :: r ∧ q < N ∧ b q = true ∧ ∀ j, j < q → b j = false
  | 0 => .inl ⟨rfl, fun j hj => by omega⟩
  | N + 1 => by
    rw [List.range_succ, List.filter_append]
    rcases first_of b N with ⟨e, h⟩ | ⟨q, r, e, h1, h2, h3⟩
    · cases z : b N with
      | false =>
        refine .inl ⟨by rw [e]; simp [z], fun j hj => ?_⟩
        by_cases y : j = N
        · subst y; exact z
        · exact h j (by omega)
      | true => exact .inr ⟨N, [], by rw [e]; simp [z], by omega, z, h⟩
    · exact .inr ⟨q, r ++ [N].filter b, by rw [e]; rfl, by omega, h2, h3⟩
end
end Lb

set_option linter.all false
set_option maxRecDepth 100000
set_option maxHeartbeats 1000000
namespace Lb
open PySem PySem.Spec L2 Dl Lf
section
variable {dfs : List Df} {fl : List (Str × Str)} {sp : Fns → Fns} {S : Sto} {n N t s r k q m : Nat} {p : Int} {a : Nat → Nat} {R : Nat → Nat → Int} {v x : Nat → Int} {f : Nat → Nat → Int}
theorem SpS.set {t' : Nat} {a' : Nat → Nat} {R' : Nat → Nat → Int} (ss : SpS p N t a R s r S) : SpS p N t' a' R' s r (S.set r (.dK (kvS N t' a' R'))) :=
  ⟨by rw [set_ne fun z => ss.ne z.symm, ss.ins], set_at (List.getElem?_eq_some_iff.mp ss.dct).1⟩
end
end Lb

set_option linter.all false
set_option maxRecDepth 100000
set_option maxHeartbeats 1000000
namespace Lb
open PySem PySem.Spec L2 Dl Lf
section
variable {dfs : List Df} {fl : List (Str × Str)} {sp : Fns → Fns} {S : Sto} {n N t s r k q m : Nat} {p : Int} {a : Nat → Nat} {R : Nat → Nat → Int} {v x : Nat → Int} {f : Nat → Nat → Int}
end
end Lb

set_option linter.all false
set_option maxRecDepth 100000
set_option maxHeartbeats 1000000
namespace Lb
open PySem PySem.Spec L2 Dl Lf
/-! LibSu: undoing, undone. -/
section
variable {dfs : List Df} {fl : List (Str × Str)} {sp : Fns → Fns} {S : Sto} {n N t s r k q m : Nat} {p : Int} {a : Nat → Nat} {R : Nat → Nat → Int} {v x : Nat → Int} {f : Nat → Nat → Int}
end
end Lb

set_option linter.all false
set_option maxRecDepth 100000
set_option maxHeartbeats 1000000
namespace Lf
open Lb
/-! LibEa: stairs of rows: plain maths. -/
section
variable {F : Type} [Lean.Grind.CommRing F] {A G G' : Nat → Nat → F} {k m N r s : Nat} {c : Nat → F}
theorem Sp.tr' {k : Nat} {B : Nat → Nat → F} (h : Sp N m A r G) (g : Sp N r G k B) : Sp N m A k B := ⟨fun i hi => (h.1 i hi).trans g.1, fun l hl => (g.2 l hl).trans h.2⟩
end
end Lf
namespace Lb
open PySem PySem.Spec L2 Dl Lf
end Lb

set_option linter.all false
set_option maxRecDepth 100000
set_option maxHeartbeats 1000000
namespace Lb
open PySem PySem.Spec L2 Dl Lf
section
variable {p : Int} {k m q : Nat} {f g : Nat → Nat → Int} {fo u : Int}
end
section
variable {dfs : List Df} {fl : List (Str × Str)} {sp : Fns → Fns} {S : Sto} {n N t s r k q m : Nat} {p : Int} {f g : Nat → Nat → Int}
end
end Lb

set_option linter.all false
set_option maxRecDepth 100000
set_option maxHeartbeats 1000000
namespace Lb
open PySem PySem.Spec L2 Dl Lf
/-! LibEc: determinants. -/
section
variable {dfs : List Df} {fl : List (Str × Str)} {sp : Fns → Fns} {S : Sto} {n N t s r k q m : Nat} {p : Int} {f g : Nat → Nat → Int}
end
end Lb

set_option linter.all false
set_option maxRecDepth 100000
set_option maxHeartbeats 1000000
namespace Lb
open PySem PySem.Spec L2 Dl Lf
section
variable {p : Int} {m N r j q : Nat} {A g : Nat → Nat → Int} {fo u : Int} {cs : Nat → Nat}
end
end Lb

set_option linter.all false
set_option maxRecDepth 100000
set_option maxHeartbeats 1000000
namespace Lb
open PySem PySem.Spec L2 Dl Lf
section
variable {dfs : List Df} {fl : List (Str × Str)} {sp : Fns → Fns} {S : Sto} {n N t s r k q m j : Nat} {p : Int} {A f g : Nat → Nat → Int} {fo : Int} {cs : Nat → Nat}
end
end Lb

set_option linter.all false
set_option maxRecDepth 100000
set_option maxHeartbeats 1000000
namespace Lb
open PySem PySem.Spec L2 Dl Lf
/-! LibEf: _law_rank, whole. -/
section
variable {dfs : List Df} {fl : List (Str × Str)} {sp : Fns → Fns} {S : Sto} {n N t s r k q m j : Nat} {p : Int} {A f g : Nat → Nat → Int} {fo : Int} {cs : Nat → Nat}
end
end Lb

set_option linter.all false
set_option maxRecDepth 100000
set_option maxHeartbeats 1000000
namespace Lb
open PySem PySem.Spec L2 Dl
end Lb

set_option linter.all false
set_option maxRecDepth 100000
set_option maxHeartbeats 1000000
namespace Lb
open PySem PySem.Spec L2 Dl Lf
/-! LibEg: _law_is_table_right. -/
/-- r and d are f's rank and determinant -/
structure Tb (p : Int) (k : Nat) (f : Nat → Nat → Int) (r : Nat) (d : Int) : Prop where
  hf : In2 p f
  rk : Rk k k (qt p f) r
  hd : 0 ≤ d ∧ d < p
  e : zq p d = dt k (qt p f)
section
variable {dfs : List Df} {fl : List (Str × Str)} {sp : Fns → Fns} {S : Sto} {n k r : Nat} {p d : Int} {f g V : Nat → Nat → Int}
theorem zq_rep (hp : Pr p) (x : Zp p) : ∃ d : Int, (0 ≤ d ∧ d < p) ∧ zq p d = x := by
  obtain ⟨a, rfl⟩ := zq_ex x
  exact ⟨a % p, mod_in hp.p0, zq_mod⟩
theorem Tb.sw (hp : Pr p) (t : Tb p k f r d) : Tb p k (swF f) r d := ⟨in_sw t.hf, by rw [qt_sw]; exact t.rk.tr', t.hd, by rw [qt_sw, dt_tr (zq_Fi hp)]; exact t.e⟩
theorem Tb.mul (hp : Pr p) {r' q : Nat} {d' : Int} (t : Tb p k f r d) (t' : Tb p k g r' d') (h : Rk k k (mm k (qt p f) (qt p g)) q) : Tb p k (mulF p k f g) q (d * d' % p) :=
  ⟨in_mul hp.p0, by rw [qt_mul]; exact h, mod_in hp.p0, by rw [zq_mod, zq_mul, qt_mul, dt_mul (zq_Fi hp), t.e, t'.e]⟩
theorem Tb.le (hp : Pr p) (t : Tb p k f r d) : r ≤ k := t.rk.le_n (zq_Fi hp)
theorem Tb.low (hp : Pr p) (t : Tb p k f r d) (h : r < k) : d = 0 ∧ dt k (qt p f) = 0 := by
  have z := t.rk.less (zq_Fi hp) h
  exact ⟨(zq_z_in t.hd).mp (by rw [t.e, z]), z⟩
theorem Tb.high (hp : Pr p) (t : Tb p k f r d) (h : ¬ r < k) : r = k ∧ d ≠ 0 ∧ ∃ V, In2 p V ∧ Em k k (mm k (qt p V) (qt p f)) I1 := by
  have hF := zq_Fi hp
  have e : r = k := by have := t.le hp; omega
  subst e
  have nz := t.rk.full hF
  refine ⟨rfl, fun z => nz (by rw [← t.e, z, zq_0]), ?_⟩
  rcases undo_or hF (qt p f) (k := r) with z | ⟨B, hB⟩
  · exact absurd z nz
  · obtain ⟨V, hV⟩ : ∃ V : Nat → Nat → Int, ∀ i j, (0 ≤ V i j ∧ V i j < p) ∧ zq p (V i j) = B i j :=
      ⟨fun i j => (zq_rep hp (B i j)).choose, fun i j => (zq_rep hp (B i j)).choose_spec⟩
    refine ⟨V, fun i j => (hV i j).1, ?_⟩
    rw [show qt p V = B by funext i j; exact (hV i j).2]
    exact hB
end
end Lb

set_option linter.all false
set_option maxRecDepth 100000
set_option maxHeartbeats 1000000
namespace Lf
/-! LibEh: what the law's turn asks of tables: plain facts. -/
section
variable {F : Type} [Lean.Grind.CommRing F] {A : Nat → Nat → F} {k : Nat} {c : F}
end
end Lf
namespace Lb
open PySem PySem.Spec L2 Dl Lf
section
variable {p : Int} {k : Nat} {f g f' g' : Nat → Nat → Int}
end
end Lb

set_option linter.all false
set_option maxRecDepth 100000
set_option maxHeartbeats 1000000
namespace Lb
open PySem PySem.Spec L2 Dl Lf
section
variable {dfs : List Df} {fl : List (Str × Str)} {sp : Fns → Fns} {S : Sto} {n l c M : Nat} {q : DrK}
end
end Lb

set_option linter.all false
set_option maxRecDepth 100000
set_option maxHeartbeats 1000000
namespace Lb
open PySem PySem.Spec L2 Dl
end Lb

set_option linter.all false
set_option maxRecDepth 100000
set_option maxHeartbeats 1000000
namespace Lb
open PySem PySem.Spec L2 Dl Lf
/-! LibKc: folds, the program's defs. -/
def lesF (p : Int) (f : Nat → Nat → Int) : Nat → Nat → Int := addF p (-1) unitF f
section
variable {dfs : List Df} {fl : List (Str × Str)} {sp : Fns → Fns} {S : Sto} {n k r m : Nat} {p : Int} {f g : Nat → Nat → Int}
theorem qt_les : qt p (lesF p f) = fun i j => I1 i j - qt p f i j := by
  funext i j
  show zq p (_ % p) = _
  rw [zq_mod, zq_add, zq_mul, zq_neg, zq_1]
  have : zq p (unitF i j) = I1 i j := congrFun (congrFun (qt_unit (p := p)) i) j
  rw [this]
  show _ = I1 i j - zq p (f i j)
  grind
end
end Lb

set_option linter.all false
set_option maxRecDepth 100000
set_option maxHeartbeats 1000000
namespace Lb
open PySem PySem.Spec L2 Dl Lf
section
variable {dfs : List Df} {fl : List (Str × Str)} {sp : Fns → Fns} {S : Sto} {n k r m : Nat} {p : Int} {f g s t : Nat → Nat → Int}
end
end Lb

set_option linter.all false
set_option maxRecDepth 100000
set_option maxHeartbeats 1000000
namespace Lb
open PySem PySem.Spec L2 Dl
end Lb

set_option linter.all false
set_option maxRecDepth 100000
set_option maxHeartbeats 1000000
namespace Lb
open PySem PySem.Spec L2 Dl Lf
section
variable {dfs : List Df} {fl : List (Str × Str)} {sp : Fns → Fns} {S : Sto} {n N t s r k q m : Nat} {p : Int} {a : Nat → Nat} {R : Nat → Nat → Int} {v x : Nat → Int} {f : Nat → Nat → Int}
end
end Lb

set_option linter.all false
set_option maxRecDepth 100000
set_option maxHeartbeats 1000000
namespace Lb
open PySem PySem.Spec L2 Dl Lf
/-! LibKe: fold_with, whole. -/
section
variable {dfs : List Df} {fl : List (Str × Str)} {sp : Fns → Fns} {S : Sto} {n k r m e : Nat} {p : Int} {f g s t B X : Nat → Nat → Int}
end
end Lb

set_option linter.all false
set_option maxRecDepth 100000
set_option maxHeartbeats 1000000
namespace Lb
open PySem PySem.Spec L2 Dl Lf
/-! LibKg: zero_mixes: plain facts, comprehensions over cells. -/
section
variable {p : Int} {m N r j q k : Nat} {A g f : Nat → Nat → Int} {fo u : Int} {cs : Nat → Nat} {x : Nat}
end
section
variable {S : Sto} {ρ : Slots} {F Fe : Slots → Sto → Res D} {N c l : Nat} {g : Nat → Nat → Int}
end
end Lb

set_option linter.all false
set_option maxRecDepth 100000
set_option maxHeartbeats 1000000
namespace Lb
open PySem PySem.Spec L2 Dl Lf
/-! LibKh: zero_mixes. -/
section
variable {dfs : List Df} {fl : List (Str × Str)} {sp : Fns → Fns} {S : Sto} {n k r j l : Nat} {p : Int} {A f g : Nat → Nat → Int} {fo : Int} {cs : Nat → Nat}
end
end Lb

set_option linter.all false
set_option maxRecDepth 100000
set_option maxHeartbeats 1000000
namespace Lb
open PySem PySem.Spec L2 Dl Lf
section
variable {dfs : List Df} {fl : List (Str × Str)} {sp : Fns → Fns} {S : Sto} {n k r j l : Nat} {p : Int} {A f g : Nat → Nat → Int} {fo : Int} {cs : Nat → Nat}
end
end Lb

set_option linter.all false
set_option maxRecDepth 100000
set_option maxHeartbeats 1000000
namespace Lb
open PySem PySem.Spec L2 Dl Lf
section
variable {dfs : List Df} {fl : List (Str × Str)} {sp : Fns → Fns} {S : Sto} {n k r j l : Nat} {p : Int} {A f g : Nat → Nat → Int}
end
end Lb

set_option linter.all false
set_option maxRecDepth 100000
set_option maxHeartbeats 1000000
namespace Lb
open PySem PySem.Spec L2 Dl Lf
/-! LibKp: the law's product. -/
section
variable {dfs : List Df} {fl : List (Str × Str)} {sp : Fns → Fns} {S : Sto} {n k r j l m : Nat} {p : Int} {A f g : Nat → Nat → Int} {ρ : Slots} {Fa Fb : Slots → Sto → Res D}
end
end Lb

set_option linter.all false
set_option maxRecDepth 100000
set_option maxHeartbeats 1000000
namespace Lb
open PySem PySem.Spec L2 Dl Lf
section
variable {dfs : List Df} {fl : List (Str × Str)} {sp : Fns → Fns} {S : Sto} {n k r j l m N t q : Nat} {p : Int} {A f g R : Nat → Nat → Int} {a : Nat → Nat} {v : Nat → Int} {ρ : Slots} {Fa Fb : Slots → Sto → Res D}
end
end Lb

set_option linter.all false
set_option maxRecDepth 100000
set_option maxHeartbeats 1000000
namespace Lb
open PySem PySem.Spec L2 Dl Lf
section
variable {dfs : List Df} {fl : List (Str × Str)} {sp : Fns → Fns} {S : Sto} {n k r j l m N t q : Nat} {p : Int} {A f g R : Nat → Nat → Int} {a : Nat → Nat} {v : Nat → Int}
end
end Lb

set_option linter.all false
set_option maxRecDepth 100000
set_option maxHeartbeats 1000000
namespace Lb
open PySem PySem.Spec L2 Dl Lf
section
variable {dfs : List Df} {fl : List (Str × Str)} {sp : Fns → Fns} {S : Sto} {n k r j l m N t q : Nat} {p : Int} {s f g R : Nat → Nat → Int} {a : Nat → Nat} {v : Nat → Int}
end
end Lb

set_option linter.all false
set_option maxRecDepth 100000
set_option maxHeartbeats 1000000
namespace Lb
open PySem PySem.Spec L2 Dl Lf
/-! LibKv: what _law_by multiplies by: plain facts. -/
/-- 1 with x in row i, column j -/
def elt (i j : Nat) (x : Int) : Nat → Nat → Int := fun a b => if a = i then (if b = j then x else unitF i b) else unitF a b
section
variable {p : Int} {k i j : Nat} {x y : Int} {f g : Nat → Nat → Int}
end
end Lb

set_option linter.all false
set_option maxRecDepth 100000
set_option maxHeartbeats 1000000
namespace Lb
open PySem PySem.Spec L2 Dl Lf
/-! LibKw: one step of _law_by (printed by mkby.py). -/
section
variable {dfs : List Df} {fl : List (Str × Str)} {sp : Fns → Fns} {S S0 : Sto} {n l c k N : Nat} {q : DrK} {p : Int} {f g : Nat → Nat → Int}
end
end Lb

set_option linter.all false
set_option maxRecDepth 100000
set_option maxHeartbeats 1000000
namespace Lb
open PySem PySem.Spec L2 Dl Lf
/-! LibKx: _law_by. -/
section
variable {dfs : List Df} {fl : List (Str × Str)} {sp : Fns → Fns} {S : Sto} {n l c k N : Nat} {q : DrK} {p : Int}
end
end Lb

set_option linter.all false
set_option maxRecDepth 100000
set_option maxHeartbeats 1000000
namespace Lb
open PySem PySem.Spec L2 Dl Lf
section
variable {dfs : List Df} {fl : List (Str × Str)} {sp : Fns → Fns} {S : Sto} {n l c k N m : Nat} {q : DrK} {p : Int} {f g : Nat → Nat → Int}
end
end Lb

set_option linter.all false
set_option maxRecDepth 100000
set_option maxHeartbeats 1000000
namespace Lb
open PySem PySem.Spec L2 Dl
/-! LibEn: how a block ends; one step at a time, what comes of it left open. -/
def Ends (Q : D → Sto → Prop) (o : Out) : Prop := ∃ d S', o = .rt d S' ∧ Q d S'
section
variable {A B K : Slots → Sto → Out} {ρ ρ' : Slots} {S S' S1 : Sto} {Tc : Slots → Sto → Res Bool} {Q : D → Sto → Prop} {d : D}
theorem en_nx (h : A ρ S = .nx ρ' S') (h2 : Ends Q (B ρ' S')) : Ends Q (sSeq A B ρ S) := by
  obtain ⟨d, S2, e, q⟩ := h2
  exact ⟨d, S2, seq_nx h e, q⟩
theorem en_rt (h : A ρ S = .rt d S') (q : Q d S') : Ends Q (sSeq A B ρ S) := ⟨d, S', seq_rt h, q⟩
theorem seq_assoc : sSeq (sSeq A B) K ρ S = sSeq A (sSeq B K) ρ S := by
  rw [s_seq, s_seq, s_seq]
  cases A ρ S with
  | nx ρ' S' => exact (s_seq).symm
  | _ => rfl
theorem seq_nil : sSeq sNil K ρ S = K ρ S := by rw [s_seq]
theorem en_ift (h : Tc ρ S = .ok true S') (h2 : Ends Q (sSeq A K ρ S')) : Ends Q (sSeq (sIf Tc A B) K ρ S) := by
  have : sSeq (sIf Tc A B) K ρ S = sSeq A K ρ S' := by rw [s_seq, s_seq, if_t h]
  rw [this]
  exact h2
theorem en_iff (h : Tc ρ S = .ok false S') (h2 : Ends Q (sSeq B K ρ S')) : Ends Q (sSeq (sIf Tc A B) K ρ S) := by
  have : sSeq (sIf Tc A B) K ρ S = sSeq B K ρ S' := by rw [s_seq, s_seq, if_f h]
  rw [this]
  exact h2
theorem en_nil (h : Ends Q (K ρ S)) : Ends Q (sSeq sNil K ρ S) := by rw [seq_nil]; exact h
theorem en_as (h : Ends Q (sSeq A (sSeq B K) ρ S)) : Ends Q (sSeq (sSeq A B) K ρ S) := by rw [seq_assoc]; exact h
theorem en_rtA (h : A ρ S = .rt d S') (q : Q d S') : Ends Q (sSeq (sSeq A B) K ρ S) := en_as (en_rt h q)
/-- a loop is entered: its invariant -/
theorem en_for {F : Slots → Sto → Res Src} {G : FT} {w : List (Nat × List D)} {k : Nat} (g : Nat → D) (P : Nat → Slots → Sto → Prop) (src : F ρ S = .ok ⟨(List.range k).map g, w⟩ S1) (hw : ∀ m ρ S, P m ρ S → Wat w S) (h0 : P 0 ρ S1)
    (hs : ∀ m ρ S, m < k → P m ρ S → ∃ ρ1 S1 ρ2 S2, G (g m) ρ S = .ok ρ1 S1 ∧ (B ρ1 S1 = .nx ρ2 S2 ∨ B ρ1 S1 = .ct ρ2 S2) ∧ P (m + 1) ρ2 S2) (hk : ∀ ρ S, P k ρ S → Ends Q (K ρ S)) : Ends Q (sSeq (sFor F G B) K ρ S) := by
  obtain ⟨ρ', S', e, p⟩ := for_cnt g P k hw hs h0
  refine en_nx (ρ' := ρ') (S' := S') ?_ (hk _ _ p)
  show (F ρ S).out _ = _
  rw [src]
  exact e
end
section
variable {defs : List Df} {fl : List (Str × Str)} {sp : Fns → Fns} {f : Str} {k N : Nat} {b : Sms} {n : Nat} {ds : List D} {S : Sto} {r : PyData} {Q : PyData → Prop} {l c M : Nat}
/-- a def that goes on with the deck -/
theorem give_dk {a : Nat} (h : HasB defs f k N b) (hn : 1 ≤ n) (hl : ds.length = k) (hd : Dk l c M S)
    (e : Ends (fun d S' => ∃ r, d = .p r ∧ Q r ∧ Dk l c a S' ∧ Fr l c S S') (evSs (evF defs fl sp (n - 1)) fl b (ds.map some ++ List.replicate (N - k) none) S)) : ∃ r S', evF defs fl sp n f ds S = .ok (.p r) S' ∧ Q r ∧ Go l c a S S' := by
  obtain ⟨d, S', e1, r, rfl, q, e3, e4⟩ := e
  obtain ⟨t1, t2, t3, t4⟩ := fin_dk (d := r) e4 e3 hd.lt.1 hd.lt.2
  exact ⟨r, _, by rw [at' h hn hl, e1, t1], q, t2, t3, t4⟩
end
end Lb

set_option linter.all false
set_option maxRecDepth 100000
set_option maxHeartbeats 1000000
namespace Lb
open PySem PySem.Spec L2 Dl Lf
/-! LibKz: _law_folds. -/
/-- f f = f -/
def IsFo (p : Int) (k : Nat) (f : Nat → Nat → Int) : Prop := Em k k (mm k (qt p f) (qt p f)) (qt p f)
/-- the product of some tables, in their order -/
def prF (p : Int) (k : Nat) (fs : List (Nat → Nat → Int)) : Nat → Nat → Int := fs.foldl (mulF p k) unitF
section
variable {dfs : List Df} {fl : List (Str × Str)} {sp : Fns → Fns} {S : Sto} {n l c k N m : Nat} {q : DrK} {p : Int} {f g : Nat → Nat → Int}
def foC (p : Int) (k : Nat) (fs : List (Nat → Nat → Int)) : List PyData := fs.map fun g => tabP p (mkM k g)
end
end Lb

set_option linter.all false
set_option maxRecDepth 100000
set_option maxHeartbeats 1000000
namespace Lb
open PySem PySem.Spec L2 Dl Lf
/-! LibKza: rows of lists, made while the deck goes on; _law_drawn. -/
/-- a list at R of lists at ls i with the numbers g i -/
structure Rw (R : Nat) (ls : Nat → Nat) (n : Nat) (g : Nat → Nat → Int) (S : Sto) : Prop where
  back : S[R]? = some (.lst ((List.range n).map fun i => D.loc (ls i)))
  each : ∀ i, i < n → S[ls i]? = some (celL n (g i))
section
variable {dfs : List Df} {fl : List (Str × Str)} {sp : Fns → Fns} {S S' S1 : Sto} {n l c k N M e R : Nat} {q : DrK} {p : Int} {f g : Nat → Nat → Int} {ls : Nat → Nat} {ρ : Slots} {F Fe : Slots → Sto → Res D} {own : List Nat} {v : Nat}
theorem Cl.rw {L : Nat} (u : Cl L k g S) : Rw (L + k) (fun i => L + i) k g S := ⟨u.back, u.each⟩
theorem Rw.go (u : Rw R ls k g S) (go : Fr l c S S') (h1 : R ≠ l ∧ R ≠ c) (h2 : ∀ i, i < k → ls i ≠ l ∧ ls i ≠ c) : Rw R ls k g S' := by
  refine ⟨?_, fun i hi => ?_⟩
  · rw [go.2 R (List.getElem?_eq_some_iff.mp u.back).1 h1.1 h1.2, u.back]
  · rw [go.2 _ (List.getElem?_eq_some_iff.mp (u.each i hi)).1 (h2 i hi).1 (h2 i hi).2, u.each i hi]
end
end Lb

set_option linter.all false
set_option maxRecDepth 100000
set_option maxHeartbeats 1000000
namespace Lb
open PySem PySem.Spec L2 Dl Lf
section
variable {dfs : List Df} {fl : List (Str × Str)} {sp : Fns → Fns} {S S' S1 : Sto} {n l c k N M e R : Nat} {q : DrK} {p : Int} {f g : Nat → Nat → Int}
end
end Lb

set_option linter.all false
set_option maxRecDepth 100000
set_option maxHeartbeats 1000000
namespace Lb
open PySem PySem.Spec L2 Dl
section
variable {dfs : List Df} {fl : List (Str × Str)} {sp : Fns → Fns} {S : Sto} {n : Nat} {k : DrK} {l c N : Nat}
end
end Lb

set_option linter.all false
set_option maxRecDepth 100000
set_option maxHeartbeats 1000000
namespace Lf
/-! LibKzd: folds made of a base: plain facts. -/
section
variable {F : Type} [Lean.Grind.CommRing F] {n k m r e a : Nat} {A B : Nat → Nat → F} {h g : Nat → F}
theorem su_sub (h g : Nat → F) : su n (fun i => h i - g i) = su n h - su n g := by
  have e : (fun i => h i - g i) = fun i => h i + (-1) * g i := by funext i; grind
  rw [e, su_add, su_mulL]
  grind
theorem mm_sub {i j : Nat} (hj : j < k) : mm k A (fun i j => I1 i j - B i j) i j = A i j - mm k A B i j := by
  unfold mm
  rw [su_congr (g := fun t => A i t * I1 t j - A i t * B t j) fun t _ => by grind, su_sub]
  have : (su k fun t => A i t * I1 t j) = A i j := mm_I hj
  rw [this]
end
end Lf
namespace Lb
open PySem PySem.Spec L2 Dl Lf
section
variable {p : Int} {k m e : Nat} {u v f : Nat → Nat → Int} {σ : Nat → Nat}
theorem IsFo.sw (h : IsFo p k f) : IsFo p k (swF f) := by
  unfold IsFo
  rw [qt_sw, ← tr_mm]
  exact fun i j hi hj => h j i hj hi
end
end Lb

set_option linter.all false
set_option maxRecDepth 100000
set_option maxHeartbeats 1000000
namespace Lb
open PySem PySem.Spec L2 Dl Lf
section
variable {dfs : List Df} {fl : List (Str × Str)} {sp : Fns → Fns} {S S' S1 : Sto} {n l c k N m e : Nat} {q : DrK} {p : Int} {f g s : Nat → Nat → Int}
end
end Lb

set_option linter.all false
set_option maxRecDepth 100000
set_option maxHeartbeats 1000000
namespace Lb
open PySem PySem.Spec L2 Dl Lf
/-! LibKzf: _law_is_table_right. -/
section
variable {dfs : List Df} {fl : List (Str × Str)} {sp : Fns → Fns} {S S' S1 : Sto} {n l c k N m e r : Nat} {q : DrK} {p : Int} {f g s y : Nat → Nat → Int}
end
end Lb

set_option linter.all false
set_option maxRecDepth 100000
set_option maxHeartbeats 1000000
namespace Lb
open PySem PySem.Spec L2 Dl Lf
section
variable {dfs : List Df} {fl : List (Str × Str)} {sp : Fns → Fns} {S S' S1 : Sto} {n l c k N m e r : Nat} {q : DrK} {p : Int} {f g s y : Nat → Nat → Int}
end
end Lb

set_option linter.all false
set_option maxRecDepth 100000
set_option maxHeartbeats 1000000
namespace Lb
open PySem PySem.Spec L2 Dl
/-! LibExt: defs that are never called may be added to a text. -/
mutual
def clE : Ex → List Str
  | .none => []
  | .var _ => []
  | .c _ => []
  | .glob _ => []
  | .bin _ _ a b => clE a ++ clE b
  | .neg a => clE a
  | .cmp _ a b => clE a ++ clE b
  | .chain _ _ a b c => clE a ++ (clE b ++ clE c)
  | .not a => clE a
  | .and a r => clE a ++ clEs r
  | .or a r => clE a ++ clEs r
  | .ite c a b => clE c ++ (clE a ++ clE b)
  | .tup es => clEs es
  | .lst _ es => clEs es
  | .idx a b => clE a ++ clE b
  | .sli _ a lo hi => clE a ++ (clO lo ++ clO hi)
  | .rev _ a => clE a
  | .fld _ a => clE a
  | .bn _ _ es => clEs es
  | .isi _ a => clE a
  | .mt _ _ o es => clE o ++ clEs es
  | .call f _ es ks => f :: (clEs es ++ clEs ks)
  | .lc _ src _ _ tst elt => clR src ++ (clO tst ++ clE elt)
  | .dct kvs => clP kvs
  | .make _ fn _ es => fn :: clEs es
  | .meth _ _ fn _ o es => fn :: (clE o ++ clEs es)
  | .litems a => clE a
  | .lock a e => clE a ++ clE e
  | .sset _ a => clE a
  | .lrg _ a => clE a
  | .frz a => clE a
  | .rsd g f _ _ _ => [g, f]
def clEs : Exs → List Str
  | .nil => []
  | .cons a r => clE a ++ clEs r
def clO : Exo → List Str
  | .no => []
  | .so a => clE a
def clP : Exp → List Str
  | .nil => []
  | .cons k v r => clE k ++ (clE v ++ clP r)
def clR : Sr → List Str
  | .seq a => clE a
  | .r1 a => clE a
  | .r2 a b => clE a ++ clE b
  | .r3 a b c => clE a ++ (clE b ++ clE c)
  | .zip a b => clE a ++ clE b
  | .enum a => clE a
  | .items a => clE a
end
mutual
def clT : Tx → List Str
  | .nm _ => []
  | .tup ts => clTs ts
  | .sub o i => clE o ++ clE i
  | .fld _ o => clE o
def clTs : Txs → List Str
  | .nil => []
  | .cons t r => clT t ++ clTs r
end
mutual
def clS : Sm → List Str
  | .none => []
  | .ret e => clE e
  | .retN => []
  | .exp e => clE e
  | .pass => []
  | .brk => []
  | .cont => []
  | .asg t e => clT t ++ clE e
  | .par _ _ es => clEs es
  | .par3 _ _ _ es => clEs es
  | .aug _ _ e => clE e
  | .ite c a b => clE c ++ (clSs a ++ clSs b)
  | .whl _ c b => clE c ++ clSs b
  | .for_ t src b => clT t ++ (clR src ++ clSs b)
  | .lock a s => clE a ++ clS s
  | .rais _ e => clE e
def clSs : Sms → List Str
  | .nil => []
  | .cons s r => clS s ++ clSs r
end
section
variable {G G' : Fns}
abbrev Ag (G G' : Fns) (l : List Str) : Prop := ∀ f ∈ l, G f = G' f
theorem Ag.l {a b : List Str} (h : Ag G G' (a ++ b)) : Ag G G' a := fun f hf => h f (List.mem_append_left _ hf)
theorem Ag.r {a b : List Str} (h : Ag G G' (a ++ b)) : Ag G G' b := fun f hf => h f (List.mem_append_right _ hf)
theorem Ag.h {a : Str} {b : List Str} (h : Ag G G' (a :: b)) : G a = G' a := h a (by simp)
theorem Ag.t {a : Str} {b : List Str} (h : Ag G G' (a :: b)) : Ag G G' b := fun f hf => h f (by simp [hf])
theorem rsdK_cg {g : Str} (h : G g = G' g) : rsdK G g = rsdK G' g := by
  funext r
  cases r <;> simp [rsdK, h]
mutual
theorem cgE : ∀ (e : Ex), Ag G G' (clE e) → ev G e = ev G' e
  | .none, h => rfl
  | .var _, h => rfl
  | .c _, h => rfl
  | .glob _, h => rfl
  | .bin _ _ a b, h => by simp only [clE] at h; simp only [ev]; rw [cgE a h.l, cgE b h.r]
  | .neg a, h => by simp only [clE] at h; simp only [ev]; rw [cgE a h]
  | .cmp _ a b, h => by simp only [clE] at h; simp only [ev]; rw [cgE a h.l, cgE b h.r]
  | .chain _ _ a b c, h => by simp only [clE] at h; simp only [ev]; rw [cgE a h.l, cgE b h.r.l, cgE c h.r.r]
  | .not a, h => by simp only [clE] at h; simp only [ev]; rw [cgE a h]
  | .and a r, h => by simp only [clE] at h; simp only [ev]; rw [cgE a h.l]; exact cgAnd _ r h.r
  | .or a r, h => by simp only [clE] at h; simp only [ev]; rw [cgE a h.l]; exact cgOr _ r h.r
  | .ite c a b, h => by simp only [clE] at h; simp only [ev]; rw [cgE c h.l, cgE a h.r.l, cgE b h.r.r]
  | .tup es, h => by simp only [clE] at h; simp only [ev]; rw [cgEs es h]
  | .lst _ es, h => by simp only [clE] at h; simp only [ev]; rw [cgEs es h]
  | .idx a b, h => by simp only [clE] at h; simp only [ev]; rw [cgE a h.l, cgE b h.r]
  | .sli _ a lo hi, h => by simp only [clE] at h; simp only [ev]; rw [cgE a h.l, cgO lo h.r.l, cgO hi h.r.r]
  | .rev _ a, h => by simp only [clE] at h; simp only [ev]; rw [cgE a h]
  | .fld _ a, h => by simp only [clE] at h; simp only [ev]; rw [cgE a h]
  | .bn _ _ es, h => by simp only [clE] at h; simp only [ev]; rw [cgEs es h]
  | .isi _ a, h => by simp only [clE] at h; simp only [ev]; rw [cgE a h]
  | .mt _ _ o es, h => by simp only [clE] at h; simp only [ev]; rw [cgE o h.l, cgEs es h.r]
  | .call f _ es ks, h => by simp only [clE] at h; simp only [ev]; rw [h.h, cgEs es h.t.l, cgEs ks h.t.r]
  | .lc _ src _ _ tst elt, h => by simp only [clE] at h; simp only [ev]; rw [cgR src h.l, cgTs tst h.r.l, cgE elt h.r.r]
  | .dct .nil, h => rfl
  | .dct (.cons k v r), h => by simp only [clE, clP] at h; simp only [ev]; rw [cgE k h.l, cgE v h.r.l, cgP r h.r.r]
  | .make _ fn _ es, h => by simp only [clE] at h; simp only [ev]; rw [h.h, cgEs es h.t]
  | .meth _ _ fn _ o es, h => by simp only [clE] at h; simp only [ev]; rw [h.h, cgE o h.t.l, cgEs es h.t.r]
  | .litems a, h => by simp only [clE] at h; simp only [ev]; rw [cgE a h]
  | .lock a e, h => by simp only [clE] at h; simp only [ev]; rw [cgE a h.l, cgE e h.r]
  | .sset _ a, h => by simp only [clE] at h; simp only [ev]; rw [cgE a h]
  | .lrg _ a, h => by simp only [clE] at h; simp only [ev]; rw [cgE a h]
  | .frz a, h => by simp only [clE] at h; simp only [ev]; rw [cgE a h]
  | .rsd g f arr is ks, h => by
    simp only [clE] at h
    simp only [ev]
    congr 1
    funext ρ S
    show rsdK G g (fCall (G f) is.length ks.length arr (fVars is) (fVars ks) ρ S) = rsdK G' g (fCall (G' f) is.length ks.length arr (fVars is) (fVars ks) ρ S)
    rw [rsdK_cg h.h, h.t.h]
theorem cgAnd : ∀ (a : Rd) (r : Exs), Ag G G' (clEs r) → evAnd G a r = evAnd G' a r
  | _, .nil, h => rfl
  | _, .cons b r, h => by simp only [clEs] at h; simp only [evAnd]; rw [cgE b h.l, cgAnd _ r h.r]
theorem cgOr : ∀ (a : Rd) (r : Exs), Ag G G' (clEs r) → evOr G a r = evOr G' a r
  | _, .nil, h => rfl
  | _, .cons b r, h => by simp only [clEs] at h; simp only [evOr]; rw [cgE b h.l, cgOr _ r h.r]
theorem cgEs : ∀ (e : Exs), Ag G G' (clEs e) → evs G e = evs G' e
  | .nil, h => rfl
  | .cons a r, h => by simp only [clEs] at h; simp only [evs]; rw [cgE a h.l, cgEs r h.r]
theorem cgO : ∀ (e : Exo), Ag G G' (clO e) → evo G e = evo G' e
  | .no, h => rfl
  | .so a, h => by simp only [clO] at h; simp only [evo]; rw [cgE a h]
theorem cgTs : ∀ (e : Exo), Ag G G' (clO e) → evt G e = evt G' e
  | .no, h => rfl
  | .so a, h => by simp only [clO] at h; simp only [evt]; rw [cgE a h]
theorem cgP : ∀ (e : Exp), Ag G G' (clP e) → evp G e = evp G' e
  | .nil, h => rfl
  | .cons k v r, h => by simp only [clP] at h; simp only [evp]; rw [cgE k h.l, cgE v h.r.l, cgP r h.r.r]
theorem cgR : ∀ (e : Sr), Ag G G' (clR e) → evr G e = evr G' e
  | .seq a, h => by simp only [clR] at h; simp only [evr]; rw [cgE a h]
  | .r1 a, h => by simp only [clR] at h; simp only [evr]; rw [cgE a h]
  | .r2 a b, h => by simp only [clR] at h; simp only [evr]; rw [cgE a h.l, cgE b h.r]
  | .r3 a b c, h => by simp only [clR] at h; simp only [evr]; rw [cgE a h.l, cgE b h.r.l, cgE c h.r.r]
  | .zip a b, h => by simp only [clR] at h; simp only [evr]; rw [cgE a h.l, cgE b h.r]
  | .enum a, h => by simp only [clR] at h; simp only [evr]; rw [cgE a h]
  | .items a, h => by simp only [clR] at h; simp only [evr]; rw [cgE a h]
end
variable {fl : List (Str × Str)}
mutual
theorem cgT : ∀ (t : Tx), Ag G G' (clT t) → evx G fl t = evx G' fl t
  | .nm _, h => rfl
  | .tup ts, h => by simp only [clT] at h; simp only [evx]; rw [cgTx ts h]
  | .sub o i, h => by simp only [clT] at h; simp only [evx]; rw [cgE o h.l, cgE i h.r]
  | .fld _ o, h => by simp only [clT] at h; simp only [evx]; rw [cgE o h]
theorem cgTx : ∀ (t : Txs), Ag G G' (clTs t) → evxs G fl t = evxs G' fl t
  | .nil, h => rfl
  | .cons t r, h => by simp only [clTs] at h; simp only [evxs]; rw [cgT t h.l, cgTx r h.r]
end
mutual
theorem cgS : ∀ (s : Sm), Ag G G' (clS s) → evS G fl s = evS G' fl s
  | .none, h => rfl
  | .ret e, h => by simp only [clS] at h; simp only [evS]; rw [cgE e h]
  | .retN, h => rfl
  | .exp e, h => by simp only [clS] at h; simp only [evS]; rw [cgE e h]
  | .pass, h => rfl
  | .brk, h => rfl
  | .cont, h => rfl
  | .asg t e, h => by simp only [clS] at h; simp only [evS]; rw [cgE e h.r, cgT t h.l]
  | .par _ _ es, h => by simp only [clS] at h; simp only [evS]; rw [cgEs es h]
  | .par3 _ _ _ es, h => by simp only [clS] at h; simp only [evS]; rw [cgEs es h]
  | .aug _ _ e, h => by simp only [clS] at h; simp only [evS]; rw [cgE e h]
  | .ite c a b, h => by simp only [clS] at h; simp only [evS]; rw [cgE c h.l, cgSs a h.r.l, cgSs b h.r.r]
  | .whl _ c b, h => by simp only [clS] at h; simp only [evS]; rw [cgE c h.l, cgSs b h.r]
  | .for_ t src b, h => by simp only [clS] at h; simp only [evS]; rw [cgR src h.r.l, cgT t h.l, cgSs b h.r.r]
  | .lock a s, h => by simp only [clS] at h; simp only [evS]; rw [cgE a h.l, cgS s h.r]
  | .rais _ e, h => by simp only [clS] at h; simp only [evS]; rw [cgE e h]
theorem cgSs : ∀ (s : Sms), Ag G G' (clSs s) → evSs G fl s = evSs G' fl s
  | .nil, h => rfl
  | .cons s r, h => by simp only [clSs] at h; simp only [evSs]; rw [cgS s h.l, cgSs r h.r]
end
end
/-- the same where some defs catch -/
def okCc (defs extra : List Df) (cats : List Str) : Bool := (defs.all fun d => (clSs d.body).all fun f => (defs.any fun e => decide (e.name = f)) || decide (f ∈ cats)) && cats.all fun g => !((defs ++ extra).any fun e => decide (e.name = g))
theorem evF_extC {defs : List Df} {fl : List (Str × Str)} {sp : Fns → Fns} (extra : List Df) {cats : List Str} (hs : ∀ G G' : Fns, ∀ g ∈ cats, sp G g = sp G' g) (h : okCc defs extra cats = true) : ∀ (n : Nat) (f : Str), ((defs.any fun e => decide (e.name = f)) || decide (f ∈ cats)) = true → evF defs fl sp n f = evF (defs ++ extra) fl sp n f
  | 0, f, hf => rfl
  | n + 1, f, hf => by
    have h' := h
    unfold okCc at h'
    rw [Bool.and_eq_true] at h'
    cases q : defs.any (fun e => decide (e.name = f)) with
    | false =>
      have fc : f ∈ cats := by simpa [q] using hf
      have no := List.all_eq_true.mp h'.2 f fc
      simp only [Bool.not_eq_true', List.any_eq_false] at no
      have e1 : defs.find? (fun d => decide (d.name = f)) = none := List.find?_eq_none.mpr fun d hd => no d (List.mem_append_left _ hd)
      have e2 : (defs ++ extra).find? (fun d => decide (d.name = f)) = none := List.find?_eq_none.mpr no
      funext ds S
      show (match defs.find? (fun d => decide (d.name = f)) with
        | some d => _
        | none => _) = (match (defs ++ extra).find? (fun d => decide (d.name = f)) with
        | some d => _
        | none => _)
      rw [e1, e2]
      dsimp only
      rw [hs _ (evF (defs ++ extra) fl sp n) f fc]
    | true =>
      have q : ∃ d ∈ defs, defs.find? (fun d => decide (d.name = f)) = some d := by
        obtain ⟨e, he, hn⟩ := List.any_eq_true.mp q
        cases z : defs.find? (fun d => decide (d.name = f)) with
        | none => exact absurd hn (List.find?_eq_none.mp z e he)
        | some d => exact ⟨d, List.mem_of_find?_eq_some z, rfl⟩
      obtain ⟨d, hd, e1⟩ := q
      have e2 : (defs ++ extra).find? (fun d => decide (d.name = f)) = some d := by rw [List.find?_append, e1]; rfl
      funext ds S
      show (match defs.find? (fun d => decide (d.name = f)) with
        | some d => _
        | none => _) = (match (defs ++ extra).find? (fun d => decide (d.name = f)) with
        | some d => _
        | none => _)
      rw [e1, e2]
      dsimp only
      have ag : Ag (evF defs fl sp n) (evF (defs ++ extra) fl sp n) (clSs d.body) := fun g hg => evF_extC extra hs h n g (List.all_eq_true.mp (List.all_eq_true.mp h'.1 d hd) g hg)
      rw [cgSs d.body ag]
/-- the defs that catch call none -/
theorem spC_in {T : Tab} {cts : List Ctr} (h : (cts.all fun c => (clSs c.tb).isEmpty && (clSs c.rest).isEmpty) = true) (G G' : Fns) (g : Str) : spC T cts G g = spC T cts G' g := by
  funext ds S
  unfold spC
  cases q : cts.find? (fun c => decide (c.name = g)) with
  | none => rfl
  | some c =>
    have hc := List.all_eq_true.mp h c (List.mem_of_find?_eq_some q)
    rw [Bool.and_eq_true, List.isEmpty_iff, List.isEmpty_iff] at hc
    have e1 : evSs G T.fl c.tb = evSs G' T.fl c.tb := cgSs c.tb (by rw [hc.1]; exact fun f hf => by cases hf)
    have e2 : evSs G T.fl c.rest = evSs G' T.fl c.rest := cgSs c.rest (by rw [hc.2]; exact fun f hf => by cases hf)
    simp only [Ctr.ok, Ctr.ex, e1, e2]
/-- a def put in, that is not called -/
def addD (x : Str) (k N : Nat) (b : Sms) : Df := ⟨x, .Pass ⟨0, 0, 0, 0⟩, List.replicate k x, List.replicate N x, b, x⟩
end Lb

set_option linter.all false
set_option maxRecDepth 100000
set_option maxHeartbeats 1000000
namespace Lb
open PySem PySem.Spec L2 Dl
end Lb

set_option linter.all false
set_option maxRecDepth 100000
set_option maxHeartbeats 1000000
namespace Lb
open PySem PySem.Spec L2 Dl
end Lb

set_option linter.all false
set_option maxRecDepth 100000
set_option maxHeartbeats 1000000
namespace Lb
open PySem PySem.Spec L2 Dl
/-! LibNc: tables looked at among any values. -/
def isIn : PyData → Bool
  | .int _ => true
  | _ => false
def isPr : PyData → Bool
  | .int i => decide (i ∈ ([2, 3, 5, 7] : List Int))
  | _ => false
def toI : PyData → Int
  | .int i => i
  | _ => 0
theorem isPr_iff {x : PyData} : isPr x = true ↔ ∃ p, x = .int p ∧ Pr p := by
  cases x <;> simp [isPr, Pr]
section
variable {dfs : List Df} {fl : List (Str × Str)} {sp : Fns → Fns} {S : Sto} {n k m : Nat} {p : Int} {x y : PyData} {f g : Nat → Nat → Int}
theorem isIn_ty : decide (tyP x = .int) = isIn x := by cases x <;> rfl
theorem k_is_integer (H : HTab dfs) (hn : 1 ≤ n) : evF dfs fl sp n (Str.ofString "is_integer") [.p x] S = .ok (.b (isIn x)) S := by
  rw [← isIn_ty]
  exact c_is_integer H hn (T := tyP x) rfl
theorem k_is_prime (H : HTab dfs) (hn : 2 ≤ n) : evF dfs fl sp n (Str.ofString "is_prime_value") [.p x] S = .ok (.b (isPr x)) S := by
  by_cases h : isIn x = true
  · cases x <;> simp [isIn] at h
    exact c_is_prime_value H hn
  · have e := k_is_integer (fl := fl) (sp := sp) (n := n - 1) (S := S) (x := x) H (by omega)
    have h0 : isPr x = false := by cases x <;> simp [isIn] at h ⊢ <;> rfl
    rw [h0]
    rw [Bool.not_eq_true] at h
    rw [h] at e
    refine gives H.is_prime_value (by omega) rfl ?_
    rw [sh_is_prime_value]
    simp [arrD, e]
end
end Lb

set_option linter.all false
set_option maxRecDepth 100000
set_option maxHeartbeats 1000000
namespace Lb
open PySem PySem.Spec L2 Dl Lf
section
variable {dfs : List Df} {fl : List (Str × Str)} {sp : Fns → Fns} {S : Sto} {n k m : Nat} {p : Int} {x y : PyData} {f g : Nat → Nat → Int}
end
end Lb

set_option linter.all false
set_option maxRecDepth 100000
set_option maxHeartbeats 1000000
namespace Lb
open PySem PySem.Spec L2 Dl Lf
section
variable {S : Sto}
end
section
variable {dfs : List Df} {fl : List (Str × Str)} {sp : Fns → Fns} {S : Sto} {n k m : Nat} {p : Int} {x y : PyData} {f g s : Nat → Nat → Int}
end
end Lb

set_option linter.all false
set_option maxRecDepth 100000
set_option maxHeartbeats 1000000
namespace Lb
open PySem PySem.Spec L2 Dl Lf
def wF : Str := Str.ofString "folds"
def wB : Str := Str.ofString "bar"
/-- no sequence of 60 at the top and below it -/
def Sz2 (x : PyData) : Prop := ∀ ds, x = .tuple ds → ds.length < 60 ∧ ∀ d ∈ ds, ∀ es, d = .tuple es → es.length < 60
section
variable {dfs : List Df} {fl : List (Str × Str)} {sp : Fns → Fns} {S : Sto} {n k m : Nat} {p c : Int} {x y : PyData} {f g s : Nat → Nat → Int}
end
end Lb

set_option linter.all false
set_option maxRecDepth 100000
set_option maxHeartbeats 1000000
namespace Lb
open PySem PySem.Spec L2 Dl Lf
section
variable {dfs : List Df} {fl : List (Str × Str)} {sp : Fns → Fns} {S : Sto} {n k m : Nat} {p c : Int} {x y : PyData} {f g s : Nat → Nat → Int}
end
end Lb

set_option linter.all false
set_option maxRecDepth 100000
set_option maxHeartbeats 1000000
namespace Lb
open PySem PySem.Spec L2 Dl Lf
/-! LibNh: values of any shape, how wide, deep and long they are. -/
mutual
def wd (w : Nat) : PyData → Prop
  | .none => True
  | .bool _ => True
  | .int i => i.natAbs ≤ w
  | .str s => Sh 70 0 (.str s)
  | .list xs => xs.length ≤ w ∧ wds w xs
  | .tuple xs => xs.length ≤ w ∧ wds w xs
  | .dict kvs => Sh 70 2 (.dict kvs)
def wds (w : Nat) : List PyData → Prop
  | [] => True
  | x :: xs => wd w x ∧ wds w xs
end
mutual
def szP : PyData → Nat
  | .list xs => szPs xs + 3
  | .tuple xs => szPs xs + 3
  | _ => 70
def szPs : List PyData → Nat
  | [] => 0
  | x :: xs => szP x + 2 + szPs xs
end
theorem wds_iff {w : Nat} : ∀ {xs : List PyData}, wds w xs ↔ ∀ x ∈ xs, wd w x
  | [] => by simp [wds]
  | x :: xs => by simp [wds, wds_iff (xs := xs)]
mutual
theorem wd_mono {w v : Nat} (h : w ≤ v) : ∀ x : PyData, wd w x → wd v x
  | .none, _ => trivial
  | .bool _, _ => trivial
  | .int i, q => Nat.le_trans (show i.natAbs ≤ w from q) h
  | .str _, q => q
  | .list xs, q => ⟨Nat.le_trans q.1 h, wds_mono h xs q.2⟩
  | .tuple xs, q => ⟨Nat.le_trans q.1 h, wds_mono h xs q.2⟩
  | .dict _, q => q
theorem wds_mono {w v : Nat} (h : w ≤ v) : ∀ xs : List PyData, wds w xs → wds v xs
  | [], _ => trivial
  | x :: xs, q => ⟨wd_mono h x q.1, wds_mono h xs q.2⟩
end
theorem depthAll_iff {e : Nat} : ∀ {xs : List PyData}, PyData.depthAll xs ≤ e ↔ ∀ x ∈ xs, x.depth ≤ e
  | [] => by simp [PyData.depthAll]
  | x :: xs => by
    simp only [PyData.depthAll, Nat.max_le, depthAll_iff (xs := xs), List.mem_cons, forall_eq_or_imp]
/-- so wide, so deep, so long -/
structure Av (w e b : Nat) (x : PyData) : Prop where
  wide : wd w x
  deep : x.depth ≤ e
  long : szP x ≤ b
section
variable {w e b : Nat} {x : PyData} {ds : List PyData}
theorem Av.le {w' e' b' : Nat} (h : Av w e b x) (h1 : w ≤ w') (h2 : e ≤ e') (h3 : b ≤ b') : Av w' e' b' x := ⟨wd_mono h1 x h.wide, Nat.le_trans h.deep h2, Nat.le_trans h.long h3⟩
theorem av_tup : Av w (e + 1) b (.tuple ds) ↔ ds.length ≤ w ∧ (∀ d ∈ ds, wd w d ∧ d.depth ≤ e) ∧ szPs ds + 3 ≤ b := by
  constructor
  · rintro ⟨h1, h2, h3⟩
    have h2 : PyData.depthAll ds + 1 ≤ e + 1 := by simpa [PyData.depth] using h2
    exact ⟨h1.1, fun d hd => ⟨wds_iff.mp h1.2 d hd, depthAll_iff.mp (by omega) d hd⟩, by simpa [szP] using h3⟩
  · rintro ⟨h1, h2, h3⟩
    have : PyData.depthAll ds ≤ e := depthAll_iff.mpr fun d hd => (h2 d hd).2
    exact ⟨⟨h1, wds_iff.mpr fun d hd => (h2 d hd).1⟩, by simp only [PyData.depth]; omega, by simpa [szP] using h3⟩
theorem av_tup0 (h : Av w e b (.tuple ds)) : ∃ e', e = e' + 1 := ⟨e - 1, by have := h.deep; simp only [PyData.depth] at this; omega⟩
theorem Av.sz2 (h : Av w e b x) (hw : w < 60) : Sz2 x := by
  rintro ds rfl
  obtain ⟨e', rfl⟩ := av_tup0 h
  obtain ⟨h1, h2, _⟩ := av_tup.mp h
  refine ⟨by omega, fun d hd es q => ?_⟩
  subst q
  have := (h2 _ hd).1.1
  omega
end
end Lb

set_option linter.all false
set_option maxRecDepth 100000
set_option maxHeartbeats 4000000
namespace Lb
open PySem PySem.Spec L2 Dl Lf
section
variable {S : Sto}
theorem mkT1 {a : PyData} : mkT [.p a] = .p (.tuple [a]) := rfl
theorem o_frz0 : opFrz (.loc S.length) (S ++ [.dK []]) = .ok (.p (.dict [])) (S ++ [.dead]) := by
  simp [opFrz, allPv]
end
section
variable {dfs : List Df} {fl : List (Str × Str)} {sp : Fns → Fns} {S S' : Sto} {n l c N w e b : Nat} {q : DrK} {x y : PyData} {ds : List PyData}
end
end Lb

set_option linter.all false
set_option maxRecDepth 100000
set_option maxHeartbeats 1000000
namespace Lb
open PySem PySem.Spec L2 Dl Lf
/-! LibNj: _law_bent. -/
section
variable {dfs : List Df} {fl : List (Str × Str)} {sp : Fns → Fns} {l c w : Nat} {q : DrK}
end
end Lb

set_option linter.all false
set_option maxRecDepth 100000
set_option maxHeartbeats 1000000
namespace Lb
open PySem PySem.Spec L2 Dl Lf
/-! LibNk: _law_free. -/
/-- some places below k -/
def Pls (k : Nat) (x : PyData) : Prop := ∃ ns : List Int, x = .tuple (ns.map PyData.int) ∧ ns.length ≤ k ∧ ∀ a ∈ ns, 0 ≤ a ∧ a < (k : Int)
section
variable {dfs : List Df} {fl : List (Str × Str)} {sp : Fns → Fns} {S S' : Sto} {n l c N k : Nat} {q : DrK} {p : Int} {g : Nat → Nat → Int}
end
end Lb

set_option linter.all false
set_option maxRecDepth 100000
set_option maxHeartbeats 1000000
namespace Lb
open PySem PySem.Spec L2 Dl Lf
theorem Pls.take {k j : Nat} {ns : List Int} (h : Pls k (.tuple (ns.map PyData.int))) : Pls k (.tuple ((ns.map PyData.int).take j)) := by
  obtain ⟨ms, e, h1, h2⟩ := h
  injection e with e
  rw [e]
  exact ⟨ms.take j, by rw [List.map_take], by simp; omega, fun a ha => h2 a (List.mem_of_mem_take ha)⟩
theorem Pls.rev {k : Nat} {ns : List Int} (h : Pls k (.tuple (ns.map PyData.int))) : Pls k (.tuple (ns.map PyData.int).reverse) := by
  obtain ⟨ms, e, h1, h2⟩ := h
  injection e with e
  rw [e]
  exact ⟨ms.reverse, by rw [List.map_reverse], by simp; omega, fun a ha => h2 a (List.mem_reverse.mp ha)⟩
section
variable {dfs : List Df} {fl : List (Str × Str)} {sp : Fns → Fns} {S S' : Sto} {n l c N k : Nat} {q : DrK} {p : Int} {f g : Nat → Nat → Int} {gs : List PyData}
end
end Lb

set_option linter.all false
set_option maxRecDepth 100000
set_option maxHeartbeats 1000000
namespace Lb
open PySem PySem.Spec L2 Dl Lf
/-! LibNm: the law of k28. -/
section
variable {w e b m k : Nat} {p : Int} {ds : List PyData} {x r : PyData} {f : Nat → Nat → Int} {v : Nat → Int}
end
section
variable {A B K : Slots → Sto → Out} {ρ ρ' : Slots} {S S' S1 : Sto} {Q : D → Sto → Prop} {d : D}
theorem for_nx {F : Slots → Sto → Res Src} {G : FT} {w : List (Nat × List D)} {k : Nat} (g : Nat → D) (P : Nat → Slots → Sto → Prop) (src : F ρ S = .ok ⟨(List.range k).map g, w⟩ S1) (hw : ∀ m ρ S, P m ρ S → Wat w S) (h0 : P 0 ρ S1)
    (hs : ∀ m ρ S, m < k → P m ρ S → ∃ ρ1 S1 ρ2 S2, G (g m) ρ S = .ok ρ1 S1 ∧ (B ρ1 S1 = .nx ρ2 S2 ∨ B ρ1 S1 = .ct ρ2 S2) ∧ P (m + 1) ρ2 S2) : ∃ ρ' S', sFor F G B ρ S = .nx ρ' S' ∧ P k ρ' S' := by
  obtain ⟨ρ', S', e, p⟩ := for_cnt g P k hw hs h0
  refine ⟨ρ', S', ?_, p⟩
  show (F ρ S).out _ = _
  rw [src]
  exact e
end
section
variable {dfs : List Df} {fl : List (Str × Str)} {sp : Fns → Fns} {S S' S1 : Sto} {n l c k N : Nat} {q : DrK} {p : Int} {f : Nat → Nat → Int} {gs : List PyData}
end
end Lb

set_option linter.all false
set_option maxRecDepth 100000
set_option maxHeartbeats 1000000
namespace Lb
open PySem PySem.Spec L2 Dl Lf
/-! LibNn: the law of k28, whole. -/
section
variable {dfs : List Df} {fl : List (Str × Str)} {sp : Fns → Fns} {S S' S1 : Sto} {n l c k N : Nat} {q : DrK} {p : Int} {f : Nat → Nat → Int} {gs : List PyData}
end
end Lb

set_option linter.all false
set_option maxRecDepth 100000
set_option maxHeartbeats 1000000
namespace Lf
open Lb
/-! LibOb: rows as lists, their spans: plain maths. -/
/-- a list of rows as a table -/
def fm (p : Int) (l : List (Nat → Int)) : Nat → Nat → Zp p := fun i j => zq p (l.getD i (fun _ => 0) j)
def zv (p : Int) (v : Nat → Int) : Nat → Zp p := fun j => zq p (v j)
def SL (p : Int) (k : Nat) (l : List (Nat → Int)) (v : Nat → Zp p) : Prop := InSp k l.length (fm p l) v
def FL (p : Int) (k : Nat) (l : List (Nat → Int)) : Prop := Rk l.length k (fm p l) l.length
section
variable {p : Int} {k r s : Nat} {l l' K L : List (Nat → Int)} {u v w : Nat → Zp p} {c : Zp p} {x y : Nat → Int}
theorem fm_at {i : Nat} (h : i < l.length) : fm p l i = zv p l[i] := by
  funext j
  simp [fm, zv, List.getD, h]
theorem fm_app1 {i : Nat} (h : i < l.length) : fm p (l ++ l') i = fm p l i := by
  rw [fm_at h, fm_at (by simp; omega), List.getElem_append_left h]
theorem fm_app2 {i : Nat} (h : i < l'.length) : fm p (l ++ l') (l.length + i) = fm p l' i := by
  rw [fm_at h, fm_at (by simp; omega), List.getElem_append_right (by omega)]
  simp
theorem SL.congr (h : SL p k l u) (e : ∀ j, j < k → u j = v j) : SL p k l v := InSp.congr h e
theorem SL.mem (h : x ∈ l) : SL p k l (zv p x) := by
  obtain ⟨i, hi, rfl⟩ := List.getElem_of_mem h
  rw [← fm_at hi]
  exact InSp.row hi
theorem SL.sub (h : SL p k l u) (g : ∀ x ∈ l, SL p k l' (zv p x)) : SL p k l' u := InSp.trans h fun i hi => by
  rw [fm_at hi]
  exact g _ (List.getElem_mem _)
theorem SL.comb (h : SL p k l u) (g : SL p k l v) : SL p k l fun j => u j + c * v j := InSp.comb h g
theorem SL.add (h : SL p k l u) (g : SL p k l v) : SL p k l fun j => u j + v j := (InSp.comb (c := 1) h g).congr fun j _ => by grind
theorem SL.zero : SL p k l fun _ => 0 := InSp.zero
theorem SL.sum {z : Nat → Zp p} {R : Nat → Nat → Zp p} {t : Nat} (h : ∀ i, i < t → SL p k l (R i)) : SL p k l fun j => su t fun i => z i * R i j := InSp.sum h
theorem SL.appL (h : SL p k l u) : SL p k (l ++ l') u := h.sub fun x hx => .mem (List.mem_append_left _ hx)
theorem SL.appR (h : SL p k l' u) : SL p k (l ++ l') u := h.sub fun x hx => .mem (List.mem_append_right _ hx)
/-- a combination of two lists' rows -/
theorem SL.split (h : SL p k (l ++ l') u) : ∃ a b, SL p k l a ∧ SL p k l' b ∧ ∀ j, j < k → u j = a j + b j := by
  obtain ⟨c, h⟩ := h
  refine ⟨fun j => su l.length fun i => c i * fm p l i j, fun j => su l'.length fun i => c (l.length + i) * fm p l' i j, ⟨c, fun _ _ => rfl⟩, ⟨fun i => c (l.length + i), fun _ _ => rfl⟩, fun j hj => ?_⟩
  rw [h j hj, List.length_append, su_split]
  congr 1
  · exact su_congr fun i hi => by rw [fm_app1 hi]
  · exact su_congr fun i hi => by rw [fm_app2 hi]
/-- a rank there is -/
theorem sp_ex (hp : Pr p) {N : Nat} {A : Nat → Nat → Int} (hA : In2 p A) : ∀ m : Nat, ∃ t a R, SpOk p N t a R ∧ Sp N m (qt p A) t (qt p R)
  | 0 => ⟨0, fun _ => 0, zerF, ⟨fun l hl => by omega, fun _ _ => ⟨Int.le_refl _, hp.p0⟩, fun l m hl => by omega, fun l j hl => by omega⟩, Sp.nil⟩
  | m + 1 => by
    obtain ⟨t, a, R, ok, s⟩ := sp_ex hp hA m
    rcases first_of (fun j => !decide (rst p a R (A m) t j = 0)) N with ⟨_, z⟩ | ⟨q, _, _, hq, nz, first⟩
    · exact ⟨t, a, R, ok, sp_skip ok s (fun j _ => rfl) fun j hj => by simpa using z j hj⟩
    · have hr := rst_in (a := a) (R := R) hp.p0 (hA m) t
      have nz' : rst p a R (A m) t q ≠ 0 := by simpa using nz
      obtain ⟨y, hy⟩ := (zq_Fi hp).2 (zq p (rst p a R (A m) t q)) fun z => nz' ((zq_z_in (hr q)).mp z)
      obtain ⟨u, rfl⟩ := zq_ex y
      have hu : (rst p a R (A m) t q * u) % p = 1 := by
        rw [← zq_mul, ← zq_1, zq_iff] at hy
        rw [hy]
        have := hp.pos
        exact Int.emod_eq_of_lt (by omega) (by omega)
      have first' : ∀ j, j < q → rst p a R (A m) t j = 0 := fun j hj => by simpa using first j hj
      exact ⟨_, _, _, spok_add hp ok (hA m) hq first' hu, sp_add hp ok s (fun j _ => rfl) hq hu⟩
def AllIn (p : Int) (l : List (Nat → Int)) : Prop := ∀ v ∈ l, In1 p v
theorem AllIn.fam (hp : Pr p) (h : AllIn p l) : In2 p fun i => l.getD i fun _ => 0 := fun i j => by
  by_cases z : i < l.length
  · have := h _ (List.getElem_mem z) j
    simpa [List.getD, z] using this
  · simp [List.getD, z]
    exact hp.p0
theorem AllIn.app (h : AllIn p l) (h' : AllIn p l') : AllIn p (l ++ l') := fun v hv => by
  rcases List.mem_append.mp hv with z | z
  · exact h v z
  · exact h' v z
theorem rk_fm (hp : Pr p) (h : AllIn p l) : ∃ r, Rk l.length k (fm p l) r := by
  obtain ⟨t, a, R, ok, s⟩ := sp_ex (N := k) hp (h.fam hp) l.length
  exact ⟨t, rk_of_sp ok s⟩
theorem rk_sub (hp : Pr p) (h : Rk l.length k (fm p l) r) (h' : Rk l'.length k (fm p l') s) (g : ∀ x ∈ l, SL p k l' (zv p x)) : r ≤ s := by
  obtain ⟨C, e⟩ := InSp.mat (A := fm p l) (R := fm p l') (m := l.length) (t := l'.length) (N := k) fun i hi => by
    rw [fm_at hi]
    exact g _ (List.getElem_mem _)
  exact (h.congr e).mul_le2 (zq_Fi hp) h'
theorem rk_len (hp : Pr p) (h : Rk l.length k (fm p l) r) (g : ∀ x ∈ l, SL p k l' (zv p x)) : r ≤ l'.length := by
  obtain ⟨C, e⟩ := InSp.mat (A := fm p l) (R := fm p l') (m := l.length) (t := l'.length) (N := k) fun i hi => by
    rw [fm_at hi]
    exact g _ (List.getElem_mem _)
  exact h.le_of (zq_Fi hp) e
/-- free rows in the span of no more ones -/
theorem FL.span (hp : Pr p) (h : FL p k l) (h' : AllIn p l') (g : ∀ x ∈ l, SL p k l' (zv p x)) (le : l'.length ≤ l.length) : FL p k l' := by
  obtain ⟨r, rk⟩ := rk_fm (k := k) hp h'
  have h1 := rk_sub hp h rk g
  have h2 := rk.le_m (zq_Fi hp)
  have : r = l'.length := by omega
  unfold FL
  rw [← this] at rk ⊢
  exact this ▸ rk
theorem FL.comb (hp : Pr p) (h : FL p k l) {c : Nat → Zp p} (z : ∀ j, j < k → (su l.length fun i => c i * fm p l i j) = 0) : ∀ i, i < l.length → c i = 0 := fun i hi => by
  obtain ⟨_, X, Y, e⟩ := h
  have e2 : Em l.length l.length (mm l.length X (mm k (fm p l) Y)) I1 := by rw [← mm_assoc]; exact e
  have e3 := Lf.comm (zq_Fi hp) e2
  have s1 : mm l.length (fun _ => c) (mm l.length (mm k (fm p l) Y) X) 0 i = c i := by
    rw [← mm_I hi (A := fun _ => c) (i := 0)]
    exact su_congr fun t ht => by rw [e3 t i ht hi]
  rw [← s1, ← mm_assoc, ← mm_assoc]
  refine su_0 fun t ht => ?_
  have : mm k (mm l.length (fun _ => c) (fm p l)) Y 0 t = 0 := su_0 fun j hj => by
    have := z j hj
    show (su l.length fun i => c i * fm p l i j) * _ = 0
    rw [this]
    grind
  rw [this]
  grind
theorem FL.of_comb (hp : Pr p) (h : AllIn p l) (g : ∀ c : Nat → Zp p, (∀ j, j < k → (su l.length fun i => c i * fm p l i j) = 0) → ∀ i, i < l.length → c i = 0) : FL p k l := by
  obtain ⟨r, rk⟩ := rk_fm (k := k) hp h
  have le := rk.le_m (zq_Fi hp)
  by_cases z : r = l.length
  · unfold FL
    rw [← z] at rk ⊢
    exact z ▸ rk
  · obtain ⟨⟨C, R, e⟩, _⟩ := rk
    obtain ⟨c, ⟨i0, hi0, n0⟩, hc⟩ := depend' (zq_Fi hp) (k := r) (n := l.length) (by omega) C
    refine absurd (g c (fun j hj => ?_) i0 hi0) n0
    have e1 : (su l.length fun i => c i * fm p l i j) = mm l.length (fun _ => c) (mm r C R) 0 j := su_congr fun i hi => by rw [e i j hi hj]
    rw [e1, ← mm_assoc]
    exact su_0 fun t ht => by
      show (su l.length fun i => c i * C i t) * _ = 0
      rw [hc t ht]
      grind
/-- the parts of two lists together free -/
theorem FL.direct (hp : Pr p) (h : FL p k (K ++ L)) (hu : SL p k K u) (hw : SL p k L w) (z : ∀ j, j < k → u j + w j = 0) : (∀ j, j < k → u j = 0) ∧ ∀ j, j < k → w j = 0 := by
  obtain ⟨a, ea⟩ := hu
  obtain ⟨b, eb⟩ := hw
  let c : Nat → Zp p := fun i => if i < K.length then a i else b (i - K.length)
  have key := h.comb hp (c := c) fun j hj => by
    rw [List.length_append, su_split, ← z j hj, ea j hj, eb j hj]
    congr 1
    · exact su_congr fun i hi => by
        rw [fm_app1 hi]
        simp only [c, if_pos hi]
    · exact su_congr fun i hi => by
        rw [fm_app2 hi]
        simp only [c, if_neg (show ¬ K.length + i < K.length by omega), Nat.add_sub_cancel_left]
  constructor
  · intro j hj
    rw [ea j hj]
    refine su_0 fun i hi => ?_
    have := key i (by simp; omega)
    simp only [c, if_pos hi] at this
    rw [this]
    grind
  · intro j hj
    rw [eb j hj]
    refine su_0 fun i hi => ?_
    have := key (K.length + i) (by simp; omega)
    simp only [c, if_neg (show ¬ K.length + i < K.length by omega), Nat.add_sub_cancel_left] at this
    rw [this]
    grind
/-- two free lists whose spans meet in zeros alone -/
theorem FL.join (hp : Pr p) (hK : AllIn p K) (hL : AllIn p L) (fK : FL p k K) (fL : FL p k L) (g : ∀ u w, SL p k K u → SL p k L w → (∀ j, j < k → u j + w j = 0) → ∀ j, j < k → w j = 0) : FL p k (K ++ L) := by
  refine .of_comb hp (hK.app hL) fun c z => ?_
  have e : ∀ j, j < k → (su K.length fun i => c i * fm p K i j) + (su L.length fun i => c (K.length + i) * fm p L i j) = 0 := fun j hj => by
    have := z j hj
    rw [List.length_append, su_split] at this
    rw [← this]
    congr 1
    · exact su_congr fun i hi => by rw [fm_app1 hi]
    · exact su_congr fun i hi => by rw [fm_app2 hi]
  have zw := g _ _ ⟨c, fun _ _ => rfl⟩ ⟨fun i => c (K.length + i), fun _ _ => rfl⟩ e
  have zu : ∀ j, j < k → (su K.length fun i => c i * fm p K i j) = 0 := fun j hj => by
    have h1 := e j hj
    have h2 := zw j hj
    rw [h2] at h1
    grind
  have c1 := fK.comb hp zu
  have c2 := fL.comb hp (c := fun i => c (K.length + i)) zw
  intro i hi
  by_cases q : i < K.length
  · exact c1 i q
  · have := c2 (i - K.length) (by simp at hi; omega)
    rwa [show K.length + (i - K.length) = i by omega] at this
theorem FL.left (hp : Pr p) (hK : AllIn p K) (h : FL p k (K ++ L)) : FL p k K := by
  refine .of_comb hp hK fun c z i hi => ?_
  have := h.comb hp (c := fun i => if i < K.length then c i else 0) (fun j hj => by
    rw [List.length_append, su_split, su_congr (g := fun i => c i * fm p K i j) fun i hi => by rw [fm_app1 hi, if_pos hi], z j hj, su_0 fun i hi => by rw [if_neg (by omega)]; grind]
    grind) i (by simp; omega)
  rwa [if_pos hi] at this
theorem FL.right (hp : Pr p) (hL : AllIn p L) (h : FL p k (K ++ L)) : FL p k L := by
  refine .of_comb hp hL fun c z i hi => ?_
  have := h.comb hp (c := fun i => if i < K.length then 0 else c (i - K.length)) (fun j hj => by
    rw [List.length_append, su_split, su_0 fun i hi => by rw [if_pos hi]; grind, su_congr (g := fun i => c i * fm p L i j) fun i hi => by rw [fm_app2 hi, if_neg (by omega), Nat.add_sub_cancel_left], z j hj]
    grind) (K.length + i) (by simp; omega)
  rwa [if_neg (by omega), Nat.add_sub_cancel_left] at this
/-- as many free rows as there are places: all rows are in their span -/
theorem FL.all (hp : Pr p) (h : FL p k l) (e : l.length = k) (u : Nat → Zp p) : SL p k l u := by
  unfold FL at h
  rw [e] at h
  rcases undo_or (k := k) (zq_Fi hp) (fm p l) with z | ⟨B, eB⟩
  · exact absurd z (h.full (zq_Fi hp))
  · refine ⟨mm k (fun _ => u) B 0, fun j hj => ?_⟩
    rw [e]
    show _ = mm k (mm k (fun _ => u) B) (fm p l) 0 j
    rw [mm_assoc, ← mm_I hj (A := fun _ => u) (i := 0)]
    exact su_congr fun t ht => by rw [eB t j ht hj]
end
end Lf

set_option linter.all false
set_option maxRecDepth 100000
set_option maxHeartbeats 1000000
namespace Lf
open Lb
/-! LibOc: a fold taken off a table: plain maths. -/
/-- a row led by a table -/
def ld {F : Type} [Lean.Grind.CommRing F] (k : Nat) (A : Nat → Nat → F) (v : Nat → F) : Nat → F := fun j => su k fun t => v t * A t j
section
variable {F : Type} [Lean.Grind.CommRing F] {A B R : Nat → Nat → F} {u v w : Nat → F} {k m n j : Nat} {c : F}
theorem ld_congr (e : ∀ t, t < k → u t = v t) : ld k A u = ld k A v := by
  funext j
  exact su_congr fun t ht => by rw [e t ht]
theorem ld_add : ld k A (fun t => u t + v t) j = ld k A u j + ld k A v j := by
  unfold ld
  rw [← su_add]
  exact su_congr fun t _ => by grind
theorem ld_zero : ld k A (fun _ => 0) j = 0 := su_0 fun t _ => by grind
theorem ld_mm : ld k (mm k A B) v = ld k B (ld k A v) := by
  have : mm k (fun _ : Nat => v) (mm k A B) 0 = mm k (mm k (fun _ : Nat => v) A) B 0 := by rw [mm_assoc]
  exact this
theorem ld_I {i : Nat} (hi : i < k) : ld k A (I1 i) j = A i j := I_mm hi
theorem ld_comb {x : Nat → F} : ld k A (fun t => su n fun i => x i * R i t) j = su n fun i => x i * ld k A (R i) j := by
  unfold ld
  rw [su_congr (g := fun t => su n fun i => x i * R i t * A t j) fun t _ => by rw [su_mulR], su_swap]
  exact su_congr fun i _ => by
    rw [← su_mulL]
    exact su_congr fun t _ => by grind
end
section
variable {p : Int} {k r q q' : Nat} {l l' K L : List (Nat → Int)} {u v w : Nat → Zp p} {A B : Nat → Nat → Zp p} {f : Nat → Nat → Int}
theorem SL.ex (h : SL p k l u) : ∃ c : Nat → Zp p, ∀ j, j < k → u j = su l.length fun i => c i * fm p l i j := h
/-- what holds of the list's rows as they are led holds of their span -/
theorem SL.lin (h : SL p k l u) (g : ∀ x ∈ l, ∀ j, j < k → ld k A (zv p x) j = ld k B (zv p x) j) : ∀ j, j < k → ld k A u j = ld k B u j := fun j hj => by
  obtain ⟨c, e⟩ := h
  rw [ld_congr (A := A) e, ld_congr (A := B) e, ld_comb, ld_comb]
  exact su_congr fun i hi => by rw [fm_at hi, g _ (List.getElem_mem _) j hj]
theorem SL.ldin {m : Nat} {R : Nat → Nat → Zp p} (h : SL p k l u) (g : ∀ x ∈ l, InSp k m R (ld k A (zv p x))) : InSp k m R (ld k A u) := by
  obtain ⟨c, e⟩ := h
  rw [ld_congr (A := A) e]
  refine (InSp.sum (x := c) (R := fun i => ld k A (fm p l i)) (t := l.length) fun i hi => ?_).congr fun j hj => ld_comb.symm
  rw [fm_at hi]
  exact g _ (List.getElem_mem _)
theorem basis_eq (hp : Pr p) (h : FL p k l) (e : l.length = k) (g : ∀ x ∈ l, ∀ j, j < k → ld k A (zv p x) j = ld k B (zv p x) j) : Em k k A B := fun i j hi hj => by
  rw [← ld_I (A := A) (k := k) (j := j) hi, ← ld_I (A := B) (k := k) (j := j) hi]
  exact (h.all hp e _).lin g j hj
theorem rk_zero {m n : Nat} (h : ∀ i j, i < m → j < n → A i j = 0) : Rk m n A 0 := ⟨⟨fun _ _ => 0, fun _ _ => 0, fun i j hi hj => by rw [h i j hi hj]; rfl⟩, fun _ _ => 0, fun _ _ => 0, fun i j hi _ => by omega⟩
/-- the rows of a table -/
def Rw (k : Nat) (f : Nat → Nat → Int) : List (Nat → Int) := (List.range k).map f
theorem Rw_mem {x : Nat → Int} : x ∈ Rw k f ↔ ∃ i, i < k ∧ f i = x := by simp [Rw]
theorem led_in {m : Nat} : InSp k k A (ld k A v) := ⟨v, fun j _ => rfl⟩
theorem fm_at_mm {i : Nat} (hi : i < l.length) {j : Nat} : mm k (fm p l) A i j = ld k A (zv p l[i]) j := by
  show (su k fun t => fm p l i t * A t j) = _
  rw [fm_at hi]
  rfl
structure Bal (p : Int) (k : Nat) (f : Nat → Nat → Int) (r q : Nat) (Lo St Kn Ac : List (Nat → Int)) (near far : Nat → Nat → Int) (zs : List Nat) (fu : List (Nat → Int)) : Prop where
  rk : Rk k k (qt p f) r
  mv : Rk k k (qt p (lesF p f)) q
  lenL : Lo.length + r = k
  zL : ∀ x ∈ Lo, ∀ j, j < k → ld k (qt p f) (zv p x) j = 0
  zS : ∀ x ∈ St, ∀ j, j < k → ld k (qt p f) (zv p x) j = zv p x j
  lenS : St.length + q = k
  bas : FL p k ((St ++ Kn) ++ Lo)
  lenB : St.length + Kn.length + Lo.length = k
  aK : AllIn p (St ++ Kn)
  hf : In2 p f
  sn : ∀ i, i < k → SL p k (St ++ Kn) (zv p (near i))
  sf : ∀ i, i < k → SL p k Lo (zv p (far i))
  nf : ∀ i j, i < k → j < k → zq p (f i j) = zq p (near i j) + zq p (far i j)
  hz : ∀ z ∈ zs, z < k
  fF : FL p k (zs.map far)
  sF : ∀ i, i < k → SL p k (zs.map far) (zv p (far i))
  bas2 : FL p k ((St ++ Kn) ++ (zs.map far ++ fu))
  lenfu : zs.length + fu.length = Lo.length
  hA : ∀ x ∈ Ac, x ∈ Kn
  rkW : ∃ t, Rk (Rw k f ++ Ac).length k (fm p (Rw k f ++ Ac)) t ∧ r + Ac.length ≤ t
  alt : Ac.length = Kn.length ∨ ∀ x ∈ Lo, SL p k (Rw k f ++ Ac) (zv p x)
theorem Bal.main (hp : Pr p) {Lo St Kn Ac : List (Nat → Int)} {near far : Nat → Nat → Int} {zs : List Nat} {fu : List (Nat → Int)} (h : Bal p k f r q Lo St Kn Ac near far zs fu) {E B : Nat → Nat → Int} (hE : In2 p E) (hB : In2 p B)
    (E1 : ∀ x ∈ St ++ Kn, ∀ j, j < k → ld k (qt p E) (zv p x) j = zv p x j) (E2 : ∀ x ∈ Lo, ∀ j, j < k → ld k (qt p E) (zv p x) j = 0)
    (B1 : ∀ x ∈ St ++ Kn, ∀ j, j < k → ld k (qt p B) (zv p x) j = ld k (qt p f) (zv p x) j) (B2 : ∀ z ∈ zs, ∀ j, j < k → ld k (qt p B) (zv p (far z)) j = zq p (f z j) - ld k (qt p f) (zv p (near z)) j) (B3 : ∀ x ∈ fu, ∀ j, j < k → ld k (qt p B) (zv p x) j = 0) :
    IsFo p k E ∧ Em k k (mm k (qt p E) (qt p B)) (qt p f) ∧ Rk k k (qt p B) r ∧ ∀ q', Rk k k (qt p (lesF p B)) q' → q' ≤ Lo.length ∨ q' + Lo.length ≤ q := by
  have hF := zq_Fi hp
  have lb : ((St ++ Kn) ++ Lo).length = k := by simp; have := h.lenB; omega
  have lb2 : ((St ++ Kn) ++ (zs.map far ++ fu)).length = k := by simp; have := h.lenB; have := h.lenfu; omega
  have prod : Em k k (mm k (qt p E) (qt p B)) (qt p f) := basis_eq hp h.bas lb fun x hx j hj => by
    rw [ld_mm]
    rcases List.mem_append.mp hx with hx | hx
    · rw [ld_congr (A := qt p B) (E1 x hx), B1 x hx j hj]
    · rw [ld_congr (A := qt p B) (E2 x hx), ld_zero, h.zL x hx j hj]
  have fold : IsFo p k E := basis_eq hp h.bas lb fun x hx j hj => by
    rw [ld_mm]
    rcases List.mem_append.mp hx with hx | hx
    · rw [ld_congr (A := qt p E) (E1 x hx)]
    · rw [ld_congr (A := qt p E) (E2 x hx), ld_zero, E2 x hx j hj]
  have rkB : Rk k k (qt p B) r := by
    obtain ⟨t, a, R, ok, s⟩ := sp_ex (N := k) hp hB k
    have rb := rk_of_sp ok s
    have g1 := (h.rk.congr prod.sy).mul_le2 hF rb
    have inB : ∀ i, i < k → InSp k k (qt p f) (qt p B i) := fun i hi => by
      refine ((h.bas2.all hp lb2 (I1 i)).ldin (A := qt p B) fun x hx => ?_).congr fun j hj => ld_I hi
      rcases List.mem_append.mp hx with hx | hx
      · exact (led_in (m := k) (v := zv p x)).congr fun j hj => (B1 x hx j hj).symm
      · rcases List.mem_append.mp hx with hx | hx
        · obtain ⟨z, hz, rfl⟩ := List.mem_map.mp hx
          refine ((InSp.row (A := qt p f) (h.hz z hz)).comb (c := -1) (led_in (m := k) (A := qt p f) (v := zv p (near z)))).congr fun j hj => ?_
          rw [B2 z hz j hj]
          show zq p (f z j) + _ = _
          grind
        · exact InSp.zero.congr fun j hj => (B3 x hx j hj).symm
    obtain ⟨C, eC⟩ := InSp.mat inB
    have g2 := (rb.congr eC).mul_le2 hF h.rk
    have : t = r := by omega
    exact this ▸ rb
  refine ⟨fold, prod, rkB, fun q' mv' => ?_⟩
  -- what stays
  have key : ∀ (d : Nat → Zp p) (u : Nat → Zp p), SL p k St u → (∀ j, j < k → u j + (su (zs.map f).length fun i => d i * fm p (zs.map f) i j) = 0) → ∀ i, i < zs.length → d i = 0 := fun d u hu z => by
    have ez : ∀ i, i < zs.length → ∀ j, j < k → fm p (zs.map f) i j = fm p (zs.map near) i j + fm p (zs.map far) i j := fun i hi j hj => by
      rw [fm_at (by simpa using hi), fm_at (by simpa using hi), fm_at (by simpa using hi)]
      simp only [List.getElem_map, zv]
      exact h.nf _ j (h.hz _ (List.getElem_mem _)) hj
    have a1 : SL p k (St ++ Kn) fun j => su zs.length fun i => d i * fm p (zs.map near) i j := SL.sum fun i hi => by
      rw [fm_at (by simpa using hi), List.getElem_map]
      exact h.sn _ (h.hz _ (List.getElem_mem _))
    have a2 : SL p k Lo fun j => su zs.length fun i => d i * fm p (zs.map far) i j := SL.sum fun i hi => by
      rw [fm_at (by simpa using hi), List.getElem_map]
      exact h.sf _ (h.hz _ (List.getElem_mem _))
    have dz := (h.bas.direct hp ((hu.appL (l' := Kn)).add a1) a2 fun j hj => by
      have := z j hj
      rw [List.length_map, su_congr (g := fun i => d i * fm p (zs.map near) i j + d i * fm p (zs.map far) i j) fun i hi => by rw [ez i hi j hj]; grind, su_add] at this
      grind).2
    have := h.fF.comb hp (c := d) (by rw [List.length_map]; exact dz)
    simpa using this
  have aR : AllIn p (zs.map f) := fun v hv => by
    obtain ⟨z, _, rfl⟩ := List.mem_map.mp hv
    exact h.hf z
  have fR : FL p k (zs.map f) := .of_comb hp aR fun c z i hi => key c (fun _ => 0) .zero (fun j hj => by rw [z j hj]; grind) i (by simpa using hi)
  have aS : AllIn p St := fun v hv => h.aK v (List.mem_append_left _ hv)
  have fQ : FL p k (St ++ zs.map f) := by
    refine .join hp aS aR ((h.bas.left hp h.aK).left hp aS) fR fun u w hu hw z => ?_
    obtain ⟨d, ed⟩ := hw
    have d0 := key d u hu fun j hj => by rw [← ed j hj]; exact z j hj
    intro j hj
    rw [ed j hj]
    exact su_0 fun i hi => by rw [d0 i (by simpa using hi)]; grind
  have stay : ∀ x ∈ St ++ zs.map f, ∀ j, j < k → ld k (qt p B) (zv p x) j = zv p x j := fun x hx j hj => by
    rcases List.mem_append.mp hx with hx | hx
    · rw [B1 x (List.mem_append_left _ hx) j hj, h.zS x hx j hj]
    · obtain ⟨z, hz, rfl⟩ := List.mem_map.mp hx
      have e0 : ld k (qt p B) (zv p (f z)) = ld k (qt p B) fun t => zv p (near z) t + zv p (far z) t := ld_congr fun t ht => h.nf z t (h.hz z hz) ht
      rw [e0, ld_add, B2 z hz j hj, (h.sn z (h.hz z hz)).lin (B := qt p f) B1 j hj]
      show _ = zq p (f z j)
      grind
  have zero : ∀ i j, i < (St ++ zs.map f).length → j < k → mm k (fm p (St ++ zs.map f)) (qt p (lesF p B)) i j = 0 := fun i j hi hj => by
    rw [qt_les, fm_at_mm hi]
    have e1 : ld k (fun i j => I1 i j - qt p B i j) (zv p (St ++ zs.map f)[i]) j = zv p (St ++ zs.map f)[i] j - ld k (qt p B) (zv p (St ++ zs.map f)[i]) j := mm_sub (A := fun _ => zv p (St ++ zs.map f)[i]) (B := qt p B) (i := 0) hj
    rw [e1, stay _ (List.getElem_mem _) j hj]
    grind
  have sy := fQ.syl hF mv' (rk_zero zero)
  have lQ : (St ++ zs.map f).length = St.length + zs.length := by simp
  have lS := h.lenS
  have lB := h.lenB
  have lL := h.lenL
  obtain ⟨t, rkW, ht⟩ := h.rkW
  have aF : ∀ x ∈ Rw k f ++ Ac, SL p k ((St ++ Kn) ++ zs.map far) (zv p x) := fun x hx => by
    rcases List.mem_append.mp hx with hx | hx
    · obtain ⟨i, hi, rfl⟩ := Rw_mem.mp hx
      exact (((h.sn i hi).appL (l' := zs.map far)).add ((h.sF i hi).appR (l := St ++ Kn))).congr fun j hj => (h.nf i j hi hj).symm
    · exact .mem (List.mem_append_left _ (List.mem_append_right _ (h.hA x hx)))
  have w1 := rk_len hp rkW aF
  have lF : ((St ++ Kn) ++ zs.map far).length = St.length + Kn.length + zs.length := by simp; omega
  rcases h.alt with a1 | a2
  · left
    omega
  · right
    have w2 : ((St ++ Kn) ++ Lo).length ≤ ((St ++ Kn) ++ zs.map far).length := rk_len hp h.bas fun x hx => by
      rcases List.mem_append.mp hx with hx | hx
      · exact .mem (List.mem_append_left _ hx)
      · exact (a2 x hx).sub aF
    rw [lF, lb] at w2
    omega
end
end Lf

set_option linter.all false
set_option maxRecDepth 100000
set_option maxHeartbeats 1000000
namespace Lb
open PySem PySem.Spec L2 Dl Lf
/-! LibOd: zero_mixes of any number of rows. -/
section
variable {p : Int} {m N r j q w : Nat} {A g f : Nat → Nat → Int} {fo u : Int} {cs : Nat → Nat} {x : Nat}
end
section
variable {dfs : List Df} {fl : List (Str × Str)} {sp : Fns → Fns} {S : Sto} {n k r j l m w N : Nat} {p : Int} {A f g : Nat → Nat → Int} {fo : Int} {cs : Nat → Nat}
end
end Lb

set_option linter.all false
set_option maxRecDepth 100000
set_option maxHeartbeats 1000000
namespace Lb
open PySem PySem.Spec L2 Dl Lf
/-! LibOe: zero_mixes, mix_for. -/
section
variable {S : Sto} {m : Nat} {x : PyData} {ds : List PyData} {p : Int} {f : Nat → Nat → Int}
theorem len_fz (h : fz x = some ds) : opBn false .len [.p x] S = .ok (.i (ds.length : Nat)) S := by
  unfold fz at h
  split at h
  · cases h; simp
  · cases h; simp
  · cases h
theorem lst_fz (h : fz x = some ds) : opBn false .lst [.p x] S = .ok (.p (.list ds)) S := by
  unfold fz at h
  split at h
  · cases h; simp
  · cases h; simp
  · cases h
theorem seq_fz {F : Slots → Sto → Res D} {ρ : Slots} (h : fz x = some ds) (e : F ρ S = .ok (.p x) S) : fSeq F ρ S = .ok ⟨ds.map D.p, []⟩ S := by
  unfold fz at h
  split at h
  · cases h; exact i_seqT e
  · cases h; exact i_seqL e
  · cases h
end
section
variable {dfs : List Df} {fl : List (Str × Str)} {sp : Fns → Fns} {S : Sto} {n k r j l m w N : Nat} {p : Int} {A f g : Nat → Nat → Int} {T : PyData}
end
end Lb

set_option linter.all false
set_option maxRecDepth 100000
set_option maxHeartbeats 1000000
namespace Lb
open PySem PySem.Spec L2 Dl Lf
/-! LibOf: spans of listed rows; rows beside others; free positions. -/
def fam (l : List (Nat → Int)) : Nat → Nat → Int := fun i => l.getD i fun _ => 0
/-- a list of rows as a value -/
def rwP (k : Nat) (l : List (Nat → Int)) : PyData := .list (l.map fun v => rowP (mkR k v))
theorem map_fam {α : Type} (g : (Nat → Int) → α) (l : List (Nat → Int)) : l.map g = (List.range l.length).map fun i => g (fam l i) := by
  apply List.ext_getElem
  · simp
  · intro i h1 h2
    simp only [List.length_map] at h1
    simp [fam, List.getD, h1]
def SpI (p : Int) (k : Nat) (l : List (Nat → Int)) (t s r : Nat) (S : Sto) : Prop := ∃ a R, SpS p k t a R s r S ∧ SpOk p k t a R ∧ Sp k l.length (fm p l) t (qt p R)
section
variable {p : Int} {k t s r : Nat} {l : List (Nat → Int)} {S : Sto}
theorem SpI.rk (h : SpI p k l t s r S) : Rk l.length k (fm p l) t := by
  obtain ⟨a, R, _, ok, sp⟩ := h
  exact rk_of_sp ok sp
theorem SpI.ins (h : SpI p k l t s r S) : S[s]? = some (.ins sC [(sP, .i p), (sR, .loc r)]) := by
  obtain ⟨a, R, ss, _⟩ := h
  exact ss.ins
theorem SpI.stay {S' : Sto} (h : SpI p k l t s r S) (e1 : S'[s]? = S[s]?) (e2 : S'[r]? = S[r]?) : SpI p k l t s r S' := by
  obtain ⟨a, R, ss, ok, sp⟩ := h
  exact ⟨a, R, ⟨by rw [e1, ss.ins], by rw [e2, ss.dct]⟩, ok, sp⟩
theorem SpI.lt (h : SpI p k l t s r S) : s < S.length ∧ r < S.length := by
  obtain ⟨a, R, ss, _⟩ := h
  exact ⟨(List.getElem?_eq_some_iff.mp ss.ins).1, (List.getElem?_eq_some_iff.mp ss.dct).1⟩
theorem SpI.free (h : SpI p k l t s r S) (e : t = l.length) : FL p k l := by
  have := h.rk
  subst e
  exact this
end
section
variable {dfs : List Df} {fl : List (Str × Str)} {sp : Fns → Fns} {S : Sto} {n k r s t m : Nat} {p : Int} {l : List (Nat → Int)} {v : Nat → Int} {T : PyData}
end
end Lb

set_option linter.all false
set_option maxRecDepth 100000
set_option maxHeartbeats 1000000
namespace Lb
open PySem PySem.Spec L2 Dl Lf
/-! LibOg: rows in a list, frozen or written; mixes of them. -/
def celW (k : Nat) (l : List (Nat → Int)) : Cell := .lst (l.map fun v => D.p (rowP (mkR k v)))
def IsR (k : Nat) (X : D) (l : List (Nat → Int)) (S : Sto) : Prop := (∃ T, X = .p T ∧ fz T = some (l.map fun v => rowP (mkR k v))) ∨ ∃ a, X = .loc a ∧ S[a]? = some (celW k l)
section
variable {k m : Nat} {X : D} {l : List (Nat → Int)} {S : Sto} {p : Int} {ρ : Slots} {Fa Fb : Slots → Sto → Res D}
theorem celW_map : (l.map fun v => D.p (rowP (mkR k v))) = (l.map fun v => rowP (mkR k v)).map D.p := by rw [List.map_map]; rfl
theorem IsR.len (h : IsR k X l S) {b : Bool} : opBn b .len [X] S = .ok (.i (l.length : Nat)) S := by
  rcases h with ⟨T, rfl, hT⟩ | ⟨a, rfl, ha⟩
  · have := len_fz (S := S) hT
    simpa [opBn] using this
  · simp only [opBn, lenD, ha, celW, List.length_map]
theorem IsR.lst (h : IsR k X l S) : opBn false .lst [X] S = .ok (.p (rwP k l)) S := by
  rcases h with ⟨T, rfl, hT⟩ | ⟨a, rfl, ha⟩
  · exact lst_fz hT
  · have e : seqOf (.loc a) S = some (l.map fun v => D.p (rowP (mkR k v))) := by simp [seqOf, tupOf, lstOf, ha, celW]
    simp only [opBn, e]
    rw [celW_map, mkL_map]
    rfl
theorem IsR.tup (h : IsR k X l S) : opBn false .tup [X] S = .ok (.p (.tuple (l.map fun v => rowP (mkR k v)))) S := by
  rcases h with ⟨T, rfl, hT⟩ | ⟨a, rfl, ha⟩
  · unfold fz at hT
    split at hT
    · cases hT; simp
    · cases hT; simp
    · cases hT
  · have e : lstOf (.loc a) S = some (l.map fun v => D.p (rowP (mkR k v))) := by simp [lstOf, ha, celW]
    simp only [opBn, tupOf_loc, e]
    rw [celW_map, mkT_map]
theorem IsR.sq (h : IsR k X l S) : ∃ w, sqOf X S = some ⟨l.map fun v => D.p (rowP (mkR k v)), w⟩ ∧ Wat w S := by
  rcases h with ⟨T, rfl, hT⟩ | ⟨a, rfl, ha⟩
  · exact ⟨[], by rw [sq_fz hT, celW_map], by simp⟩
  · refine ⟨[(a, l.map fun v => D.p (rowP (mkR k v)))], ?_, fun q hq => ?_⟩
    · unfold sqOf
      rw [if_neg (by simp [isTxt, isLk, ha, celW])]
      simp only [srcOf, ha, celW]
    · simp only [List.mem_singleton] at hq
      subst hq
      exact ha
theorem IsR.seq (h : IsR k X l S) (e : Fa ρ S = .ok X S) : ∃ w, fSeq Fa ρ S = .ok ⟨l.map fun v => D.p (rowP (mkR k v)), w⟩ S ∧ Wat w S := by
  rcases h with ⟨T, rfl, hT⟩ | ⟨a, rfl, ha⟩
  · exact ⟨[], by rw [seq_fz hT e, celW_map], by simp⟩
  · refine ⟨[(a, l.map fun v => D.p (rowP (mkR k v)))], ?_, fun q hq => ?_⟩
    · simp only [fSeq, e, bind_ok, srcOf, ha, celW]
    · simp only [List.mem_singleton] at hq
      subst hq
      exact ha
theorem IsR.zip (h : IsR k X l S) {c : Nat → Int} (e : Fa ρ S = .ok (.p (rowP (mkR l.length c))) S) (e2 : Fb ρ S = .ok X S) : ∃ w, fZip (fCons Fa (fCons Fb fNil)) ρ S = .ok ⟨(List.range l.length).map fun i => D.p (.tuple [.int (c i), rowP (mkR k (fam l i))]), w⟩ S ∧ Wat w S := by
  obtain ⟨w, s2, hw⟩ := h.sq
  have s1 : sqOf (.p (rowP (mkR l.length c))) S = some ⟨((List.range l.length).map fun i => PyData.int (c i)).map D.p, []⟩ := sq_fz fz_row
  refine ⟨w, ?_, hw⟩
  simp only [fZip, e_cons, e, bind_ok, e2, e_nil, s1, s2, zipSrc, List.nil_append]
  congr 2
  rw [map_fam]
  apply List.ext_getElem?
  intro i
  by_cases z : i < l.length
  · simp [z, List.getElem?_zipWith]
    rfl
  · simp [z, List.getElem?_zipWith]
theorem IsR.app (h : IsR k X l S) {E : Sto} : IsR k X l (S ++ E) := by
  rcases h with ⟨T, rfl, hT⟩ | ⟨a, rfl, ha⟩
  · exact .inl ⟨T, rfl, hT⟩
  · refine .inr ⟨a, rfl, ?_⟩
    rw [List.getElem?_append_left (List.getElem?_eq_some_iff.mp ha).1, ha]
end
section
variable {dfs : List Df} {fl : List (Str × Str)} {sp : Fns → Fns} {S : Sto} {n k : Nat} {p : Int} {l K L : List (Nat → Int)} {v c : Nat → Int} {X Y : D} {T : PyData}
end
end Lb

set_option linter.all false
set_option maxRecDepth 100000
set_option maxHeartbeats 1000000
namespace Lb
open PySem PySem.Spec L2 Dl Lf
/-! LibOh: rows split; kept rows. -/
section
variable {dfs : List Df} {fl : List (Str × Str)} {sp : Fns → Fns} {S : Sto} {n k r m : Nat} {p : Int} {l K L Lo St : List (Nat → Int)} {v c : Nat → Int} {X Y : D} {T : PyData} {f : Nat → Nat → Int}
end
end Lb

set_option linter.all false
set_option maxRecDepth 100000
set_option maxHeartbeats 1000000
namespace Lb
open PySem PySem.Spec L2 Dl Lf
/-! LibOi: lead of bases, fold between, for rows in lists. -/
section
variable {dfs : List Df} {fl : List (Str × Str)} {sp : Fns → Fns} {S : Sto} {n k r m : Nat} {p : Int} {l K L G M : List (Nat → Int)} {v c : Nat → Int} {X Y : D} {T : PyData} {f E : Nat → Nat → Int}
end
end Lb

set_option linter.all false
set_option maxRecDepth 100000
set_option maxHeartbeats 2000000
namespace Lb
open PySem PySem.Spec L2 Dl Lf
section
variable {p : Int} {k r q t : Nat} {f : Nat → Nat → Int} {Nw Kn Ac Lo St : List (Nat → Int)}
end
section
variable {dfs : List Df} {fl : List (Str × Str)} {sp : Fns → Fns} {S : Sto} {n k r m : Nat} {p : Int} {l K L G M Z : List (Nat → Int)} {v c : Nat → Int} {X Y : D} {T : PyData} {f E : Nat → Nat → Int}
end
end Lb

set_option linter.all false
set_option maxRecDepth 100000
set_option maxHeartbeats 2000000
namespace Lb
open PySem PySem.Spec L2 Dl Lf
section
variable {dfs : List Df} {fl : List (Str × Str)} {sp : Fns → Fns} {S : Sto} {n k r m : Nat} {p : Int} {f : Nat → Nat → Int}
end
end Lb

set_option linter.all false
set_option maxRecDepth 100000
set_option maxHeartbeats 2000000
namespace Lb
open PySem PySem.Spec L2 Dl Lf
/-! LibOl: products of folds: plain maths. -/
section
variable {p : Int} {k r q m n s : Nat} {f g : Nat → Nat → Int} {gs hs : List (Nat → Nat → Int)}
end
end Lb

set_option linter.all false
set_option maxRecDepth 100000
set_option maxHeartbeats 2000000
namespace Lb
open PySem PySem.Spec L2 Dl Lf
section
variable {dfs : List Df} {fl : List (Str × Str)} {sp : Fns → Fns} {S : Sto} {n k r q m c : Nat} {p : Int} {f g : Nat → Nat → Int}
end
end Lb

set_option linter.all false
set_option maxRecDepth 100000
set_option maxHeartbeats 2000000
namespace Lb
open PySem PySem.Spec L2 Dl Lf
/-! LibOn: free_positions, judge_folds. -/
def intsT (zs : List Nat) : PyData := .tuple (zs.map fun z => .int (z : Nat))
structure FrOk (p : Int) (k : Nat) (f : Nat → Nat → Int) (zs : List Nat) (r : Nat) : Prop where
  asc : zs.Pairwise (· < ·)
  lt : ∀ z ∈ zs, z < k
  free : FL p k (zs.map f)
  len : zs.length = r
section
variable {dfs : List Df} {fl : List (Str × Str)} {sp : Fns → Fns} {S : Sto} {n k r q m c : Nat} {p : Int} {f g : Nat → Nat → Int} {zs ys : List Nat}
/-- what judge_folds tells -/
inductive Jdg (p : Int) (k : Nat) (f : Nat → Nat → Int) (c r q : Nat) : PyData → Prop where
  | folds (hs : List (Nat → Nat → Int)) (le : q ≤ c * (k - r)) (len : hs.length = c) (ok : ∀ g ∈ hs, In2 p g ∧ IsFo p k g) (e : Em k k (qt p (prF p k hs)) (qt p f)) : Jdg p k f c r q (.tuple [.str wF, .tuple (foC p k hs)])
  | bar (zs ys : List Nat) (lt : c * (k - r) < q) (a : FrOk p k f zs r) (b : FrOk p k (lesF p f) ys q) : Jdg p k f c r q (.tuple [.str wB, intsT zs, intsT ys])
end
end Lb

set_option linter.all false
set_option maxRecDepth 100000
set_option maxHeartbeats 2000000
namespace Lb
open PySem PySem.Spec L2 Dl Lf
section
variable {S : Sto} {a b : Bool}
@[simp] theorem o_isB : opCmp .Is (.p (.bool a)) (.p (.bool b)) S = .ok (.b (decide (a = b))) S := by simp [opCmp, opIs]
@[simp] theorem o_isnotB : opCmp .IsNot (.p (.bool a)) (.p (.bool b)) S = .ok (.b (!decide (a = b))) S := by simp [opCmp, opIs]
end
section
variable {dfs : List Df} {fl : List (Str × Str)} {sp : Fns → Fns} {S : Sto} {n k r q m c l N cc : Nat} {p : Int} {f g : Nat → Nat → Int} {dq : DrK} {x : PyData}
theorem Jdg.sz2 (h : Jdg p k f c r q x) (hk : k ≤ 8) (hc : c ≤ 50) (hr : r ≤ k) (hq : q ≤ k) : Sz2 x := by
  cases h with
  | folds hs le len ok e =>
    rintro ds ⟨⟩
    refine ⟨by simp, fun d hd es he => ?_⟩
    simp only [List.mem_cons, List.not_mem_nil, or_false] at hd
    rcases hd with rfl | rfl
    · cases he
    · cases he
      simp [foC]
      omega
  | bar zs ys lt a b =>
    rintro ds ⟨⟩
    refine ⟨by simp, fun d hd es he => ?_⟩
    simp only [List.mem_cons, List.not_mem_nil, or_false] at hd
    rcases hd with rfl | rfl | rfl
    · cases he
    · cases he
      simp [a.len]
      omega
    · cases he
      simp [b.len]
      omega
end
end Lb

set_option linter.all false
set_option maxRecDepth 100000
set_option maxHeartbeats 2000000
namespace Lb
open PySem PySem.Spec L2 Dl Lf
section
variable {dfs : List Df} {fl : List (Str × Str)} {sp : Fns → Fns} {S S' S1 : Sto} {n l c k r m N cc w : Nat} {q : DrK} {p : Int} {f : Nat → Nat → Int} {gs : List PyData}
end
end Lb

set_option linter.all false
set_option maxRecDepth 100000
set_option maxHeartbeats 1000000
namespace Lb
open PySem PySem.Spec L2 Dl
/-! LibTa: bodies and what they mean (printed by newb.py). -/
/-- count_free(p, n, k): 0 p, 1 n, 2 k -/
def B_count_free : Sms := (.cons (.exp (.call (Str.ofString "need_size") [.inl 0, .inl 1] (.cons (.var 0) (.cons (.var 1) .nil)) .nil)) (.cons (.exp (.call (Str.ofString "need_integer") [.inl 0, .inl 1, .inl 2] (.cons (.var 2) (.cons (.c (.int 0)) (.cons (.var 1) .nil))) .nil)) (.cons (.ret (.call (Str.ofString "many_free") [.inl 0, .inl 1, .inl 2] (.cons (.var 0) (.cons (.var 1) (.cons (.var 2) .nil))) .nil)) .nil)))
theorem sh_count_free (G : Fns) (fl : List (Str × Str)) : evSs G fl B_count_free = (sSeq (sExp (fCall (G (Str.ofString "need_size")) 2 0 [.inl 0, .inl 1] (fCons (fVar 0) (fCons (fVar 1) fNil)) fNil)) (sSeq (sExp (fCall (G (Str.ofString "need_integer")) 3 0 [.inl 0, .inl 1, .inl 2] (fCons (fVar 2) (fCons (fC (.int 0)) (fCons (fVar 1) fNil))) fNil)) (sSeq (sRet (fCall (G (Str.ofString "many_free")) 3 0 [.inl 0, .inl 1, .inl 2] (fCons (fVar 0) (fCons (fVar 1) (fCons (fVar 2) fNil))) fNil)) sNil))) := by
  simp only [B_count_free, evSs, evS, ev, evAnd, evOr, evs, evo, evt, evp, evr, evx, evxs, List.map_cons, List.map_nil, Exs.len, Txs.len] <;> rfl
/-- count_rank(p, n, r): 0 p, 1 n, 2 r -/
def B_count_rank : Sms := (.cons (.exp (.call (Str.ofString "need_size") [.inl 0, .inl 1] (.cons (.var 0) (.cons (.var 1) .nil)) .nil)) (.cons (.exp (.call (Str.ofString "need_integer") [.inl 0, .inl 1, .inl 2] (.cons (.var 2) (.cons (.c (.int 0)) (.cons (.var 1) .nil))) .nil)) (.cons (.ret (.bin .Mult false (.call (Str.ofString "many_spans") [.inl 0, .inl 1, .inl 2] (.cons (.var 0) (.cons (.var 1) (.cons (.var 2) .nil))) .nil) (.call (Str.ofString "many_free") [.inl 0, .inl 1, .inl 2] (.cons (.var 0) (.cons (.var 1) (.cons (.var 2) .nil))) .nil))) .nil)))
theorem sh_count_rank (G : Fns) (fl : List (Str × Str)) : evSs G fl B_count_rank = (sSeq (sExp (fCall (G (Str.ofString "need_size")) 2 0 [.inl 0, .inl 1] (fCons (fVar 0) (fCons (fVar 1) fNil)) fNil)) (sSeq (sExp (fCall (G (Str.ofString "need_integer")) 3 0 [.inl 0, .inl 1, .inl 2] (fCons (fVar 2) (fCons (fC (.int 0)) (fCons (fVar 1) fNil))) fNil)) (sSeq (sRet (fBin .Mult false (fCall (G (Str.ofString "many_spans")) 3 0 [.inl 0, .inl 1, .inl 2] (fCons (fVar 0) (fCons (fVar 1) (fCons (fVar 2) fNil))) fNil) (fCall (G (Str.ofString "many_free")) 3 0 [.inl 0, .inl 1, .inl 2] (fCons (fVar 0) (fCons (fVar 1) (fCons (fVar 2) fNil))) fNil))) sNil))) := by
  simp only [B_count_rank, evSs, evS, ev, evAnd, evOr, evs, evo, evt, evp, evr, evx, evxs, List.map_cons, List.map_nil, Exs.len, Txs.len] <;> rfl
/-- count_of(word, p, n): 0 word, 1 p, 2 n -/
def B_count_of : Sms := (.cons (.ite (.or (.not (.isi .str (.var 0))) (.cons (.cmp .NotIn (.var 0) (.glob (.tuple [(.str (Str.ofString "tables")), (.str (Str.ofString "undoable")), (.str (Str.ofString "folds")), (.str (Str.ofString "flips")), (.str (Str.ofString "fallers")), (.str (Str.ofString "at once")), (.str (Str.ofString "symmetric"))]))) .nil)) (.cons (.rais (Str.ofString "BadWord") (.var 0)) .nil) .nil) (.cons (.exp (.call (Str.ofString "need_size") [.inl 0, .inl 1] (.cons (.var 1) (.cons (.var 2) .nil)) .nil)) (.cons (.ite (.cmp .Eq (.var 0) (.c (.str (Str.ofString "undoable")))) (.cons (.ret (.call (Str.ofString "many_free") [.inl 0, .inl 1, .inl 2] (.cons (.var 1) (.cons (.var 2) (.cons (.var 2) .nil))) .nil)) .nil) .nil) (.cons (.ite (.cmp .Eq (.var 0) (.c (.str (Str.ofString "folds")))) (.cons (.ret (.call (Str.ofString "many_folds") [.inl 0, .inl 1] (.cons (.var 1) (.cons (.var 2) .nil)) .nil)) .nil) .nil) (.cons (.ite (.cmp .Eq (.var 0) (.c (.str (Str.ofString "flips")))) (.cons (.ret (.call (Str.ofString "many_flips") [.inl 0, .inl 1] (.cons (.var 1) (.cons (.var 2) .nil)) .nil)) .nil) .nil) (.cons (.ite (.cmp .Eq (.var 0) (.c (.str (Str.ofString "at once")))) (.cons (.ret (.call (Str.ofString "many_at_once") [.inl 0, .inl 1] (.cons (.var 1) (.cons (.var 2) .nil)) .nil)) .nil) .nil) (.cons (.ite (.cmp .Eq (.var 0) (.c (.str (Str.ofString "fallers")))) (.cons (.ret (.call (Str.ofString "powered") [.inl 0, .inl 1] (.cons (.var 1) (.cons (.bin .Sub false (.bin .Mult false (.var 2) (.var 2)) (.var 2)) .nil)) .nil)) .nil) .nil) (.cons (.ret (.call (Str.ofString "powered") [.inl 0, .inl 1] (.cons (.var 1) (.cons (.ite (.cmp .Eq (.var 0) (.c (.str (Str.ofString "tables")))) (.bin .Mult false (.var 2) (.var 2)) (.bin .FloorDiv false (.bin .Mult false (.var 2) (.bin .Add false (.var 2) (.c (.int 1)))) (.c (.int 2)))) .nil)) .nil)) .nil))))))))
theorem sh_count_of (G : Fns) (fl : List (Str × Str)) : evSs G fl B_count_of = (sSeq (sIf (gOr (gNot (fTru (fIsi .str (fVar 0)))) (fTru (fCmp .NotIn (fVar 0) (fC (.tuple [(.str (Str.ofString "tables")), (.str (Str.ofString "undoable")), (.str (Str.ofString "folds")), (.str (Str.ofString "flips")), (.str (Str.ofString "fallers")), (.str (Str.ofString "at once")), (.str (Str.ofString "symmetric"))]))))) (sSeq (sRaise (Str.ofString "BadWord") (fVar 0)) sNil) sNil) (sSeq (sExp (fCall (G (Str.ofString "need_size")) 2 0 [.inl 0, .inl 1] (fCons (fVar 1) (fCons (fVar 2) fNil)) fNil)) (sSeq (sIf (fTru (fCmp .Eq (fVar 0) (fC (.str (Str.ofString "undoable"))))) (sSeq (sRet (fCall (G (Str.ofString "many_free")) 3 0 [.inl 0, .inl 1, .inl 2] (fCons (fVar 1) (fCons (fVar 2) (fCons (fVar 2) fNil))) fNil)) sNil) sNil) (sSeq (sIf (fTru (fCmp .Eq (fVar 0) (fC (.str (Str.ofString "folds"))))) (sSeq (sRet (fCall (G (Str.ofString "many_folds")) 2 0 [.inl 0, .inl 1] (fCons (fVar 1) (fCons (fVar 2) fNil)) fNil)) sNil) sNil) (sSeq (sIf (fTru (fCmp .Eq (fVar 0) (fC (.str (Str.ofString "flips"))))) (sSeq (sRet (fCall (G (Str.ofString "many_flips")) 2 0 [.inl 0, .inl 1] (fCons (fVar 1) (fCons (fVar 2) fNil)) fNil)) sNil) sNil) (sSeq (sIf (fTru (fCmp .Eq (fVar 0) (fC (.str (Str.ofString "at once"))))) (sSeq (sRet (fCall (G (Str.ofString "many_at_once")) 2 0 [.inl 0, .inl 1] (fCons (fVar 1) (fCons (fVar 2) fNil)) fNil)) sNil) sNil) (sSeq (sIf (fTru (fCmp .Eq (fVar 0) (fC (.str (Str.ofString "fallers"))))) (sSeq (sRet (fCall (G (Str.ofString "powered")) 2 0 [.inl 0, .inl 1] (fCons (fVar 1) (fCons (fBin .Sub false (fBin .Mult false (fVar 2) (fVar 2)) (fVar 2)) fNil)) fNil)) sNil) sNil) (sSeq (sRet (fCall (G (Str.ofString "powered")) 2 0 [.inl 0, .inl 1] (fCons (fVar 1) (fCons (fIf (fTru (fCmp .Eq (fVar 0) (fC (.str (Str.ofString "tables"))))) (fBin .Mult false (fVar 2) (fVar 2)) (fBin .FloorDiv false (fBin .Mult false (fVar 2) (fBin .Add false (fVar 2) (fC (.int 1)))) (fC (.int 2)))) fNil)) fNil)) sNil)))))))) := by
  simp only [B_count_of, evSs, evS, ev, evAnd, evOr, evs, evo, evt, evp, evr, evx, evxs, List.map_cons, List.map_nil, Exs.len, Txs.len] <;> rfl
/-- _law_is_from(thing, low, high): 0 thing, 1 low, 2 high -/
def B__law_is_from : Sms := (.cons (.ret (.and (.isi .int (.var 0)) (.cons (.not (.isi .bl (.var 0))) (.cons (.chain .LtE .LtE (.var 1) (.var 0) (.var 2)) .nil)))) .nil)
theorem sh__law_is_from (G : Fns) (fl : List (Str × Str)) : evSs G fl B__law_is_from = (sSeq (sRet (fAnd (fIsi .int (fVar 0)) (fAnd (fNot (fIsi .bl (fVar 0))) (fChain .LtE .LtE (fVar 1) (fVar 0) (fVar 2))))) sNil) := by
  simp only [B__law_is_from, evSs, evS, ev, evAnd, evOr, evs, evo, evt, evp, evr, evx, evxs, List.map_cons, List.map_nil, Exs.len, Txs.len] <;> rfl
/-- many_free(p, n, k): 0 p, 1 n, 2 k, 3 found, 4 at -/
def B_many_free : Sms := (.cons (.asg (.nm 3) (.c (.int 1))) (.cons (.for_ (.nm 4) (.r1 (.var 2)) (.cons (.asg (.nm 3) (.bin .Mult false (.var 3) (.bin .Sub false (.call (Str.ofString "powered") [.inl 0, .inl 1] (.cons (.var 0) (.cons (.var 1) .nil)) .nil) (.call (Str.ofString "powered") [.inl 0, .inl 1] (.cons (.var 0) (.cons (.var 4) .nil)) .nil)))) .nil)) (.cons (.ret (.var 3)) .nil)))
theorem sh_many_free (G : Fns) (fl : List (Str × Str)) : evSs G fl B_many_free = (sSeq (sAsg (fC (.int 1)) (tgNm 3)) (sSeq (sFor (fRng1 (fVar 2)) (tgNm 4) (sSeq (sAsg (fBin .Mult false (fVar 3) (fBin .Sub false (fCall (G (Str.ofString "powered")) 2 0 [.inl 0, .inl 1] (fCons (fVar 0) (fCons (fVar 1) fNil)) fNil) (fCall (G (Str.ofString "powered")) 2 0 [.inl 0, .inl 1] (fCons (fVar 0) (fCons (fVar 4) fNil)) fNil))) (tgNm 3)) sNil)) (sSeq (sRet (fVar 3)) sNil))) := by
  simp only [B_many_free, evSs, evS, ev, evAnd, evOr, evs, evo, evt, evp, evr, evx, evxs, List.map_cons, List.map_nil, Exs.len, Txs.len] <;> rfl
/-- need_size(p, n): 0 p, 1 n -/
def B_need_size : Sms := (.cons (.exp (.call (Str.ofString "need_prime") [.inl 0] (.cons (.var 0) .nil) .nil)) (.cons (.exp (.call (Str.ofString "need_integer") [.inl 0, .inl 1, .inl 2] (.cons (.var 1) (.cons (.c (.int 1)) (.cons (.glob (.int 30)) .nil))) .nil)) .nil))
theorem sh_need_size (G : Fns) (fl : List (Str × Str)) : evSs G fl B_need_size = (sSeq (sExp (fCall (G (Str.ofString "need_prime")) 1 0 [.inl 0] (fCons (fVar 0) fNil) fNil)) (sSeq (sExp (fCall (G (Str.ofString "need_integer")) 3 0 [.inl 0, .inl 1, .inl 2] (fCons (fVar 1) (fCons (fC (.int 1)) (fCons (fC (.int 30)) fNil))) fNil)) sNil)) := by
  simp only [B_need_size, evSs, evS, ev, evAnd, evOr, evs, evo, evt, evp, evr, evx, evxs, List.map_cons, List.map_nil, Exs.len, Txs.len] <;> rfl
/-- many_spans(p, n, k): 0 p, 1 n, 2 k -/
def B_many_spans : Sms := (.cons (.ret (.bin .FloorDiv false (.call (Str.ofString "many_free") [.inl 0, .inl 1, .inl 2] (.cons (.var 0) (.cons (.var 1) (.cons (.var 2) .nil))) .nil) (.call (Str.ofString "many_free") [.inl 0, .inl 1, .inl 2] (.cons (.var 0) (.cons (.var 2) (.cons (.var 2) .nil))) .nil))) .nil)
theorem sh_many_spans (G : Fns) (fl : List (Str × Str)) : evSs G fl B_many_spans = (sSeq (sRet (fBin .FloorDiv false (fCall (G (Str.ofString "many_free")) 3 0 [.inl 0, .inl 1, .inl 2] (fCons (fVar 0) (fCons (fVar 1) (fCons (fVar 2) fNil))) fNil) (fCall (G (Str.ofString "many_free")) 3 0 [.inl 0, .inl 1, .inl 2] (fCons (fVar 0) (fCons (fVar 2) (fCons (fVar 2) fNil))) fNil))) sNil) := by
  simp only [B_many_spans, evSs, evS, ev, evAnd, evOr, evs, evo, evt, evp, evr, evx, evxs, List.map_cons, List.map_nil, Exs.len, Txs.len] <;> rfl
/-- powered(number, k): 0 number, 1 k, 2 found, 3 turn -/
def B_powered : Sms := (.cons (.asg (.nm 2) (.c (.int 1))) (.cons (.for_ (.nm 3) (.r1 (.var 1)) (.cons (.asg (.nm 2) (.bin .Mult false (.var 2) (.var 0))) .nil)) (.cons (.ret (.var 2)) .nil)))
theorem sh_powered (G : Fns) (fl : List (Str × Str)) : evSs G fl B_powered = (sSeq (sAsg (fC (.int 1)) (tgNm 2)) (sSeq (sFor (fRng1 (fVar 1)) (tgNm 3) (sSeq (sAsg (fBin .Mult false (fVar 2) (fVar 0)) (tgNm 2)) sNil)) (sSeq (sRet (fVar 2)) sNil))) := by
  simp only [B_powered, evSs, evS, ev, evAnd, evOr, evs, evo, evt, evp, evr, evx, evxs, List.map_cons, List.map_nil, Exs.len, Txs.len] <;> rfl
/-- many_at_once(p, n): 0 p, 1 n, 2 found, 3 r -/
def B_many_at_once : Sms := (.cons (.asg (.nm 2) (.c (.int 0))) (.cons (.for_ (.nm 3) (.r1 (.bin .Add false (.bin .FloorDiv false (.var 1) (.c (.int 2))) (.c (.int 1)))) (.cons (.aug 2 .Add (.bin .Mult false (.bin .Mult false (.call (Str.ofString "many_spans") [.inl 0, .inl 1, .inl 2] (.cons (.var 0) (.cons (.var 1) (.cons (.bin .Sub false (.var 1) (.var 3)) .nil))) .nil) (.call (Str.ofString "many_spans") [.inl 0, .inl 1, .inl 2] (.cons (.var 0) (.cons (.bin .Sub false (.var 1) (.var 3)) (.cons (.var 3) .nil))) .nil)) (.call (Str.ofString "many_free") [.inl 0, .inl 1, .inl 2] (.cons (.var 0) (.cons (.var 3) (.cons (.var 3) .nil))) .nil))) .nil)) (.cons (.ret (.var 2)) .nil)))
theorem sh_many_at_once (G : Fns) (fl : List (Str × Str)) : evSs G fl B_many_at_once = (sSeq (sAsg (fC (.int 0)) (tgNm 2)) (sSeq (sFor (fRng1 (fBin .Add false (fBin .FloorDiv false (fVar 1) (fC (.int 2))) (fC (.int 1)))) (tgNm 3) (sSeq (sAug 2 .Add (fBin .Mult false (fBin .Mult false (fCall (G (Str.ofString "many_spans")) 3 0 [.inl 0, .inl 1, .inl 2] (fCons (fVar 0) (fCons (fVar 1) (fCons (fBin .Sub false (fVar 1) (fVar 3)) fNil))) fNil) (fCall (G (Str.ofString "many_spans")) 3 0 [.inl 0, .inl 1, .inl 2] (fCons (fVar 0) (fCons (fBin .Sub false (fVar 1) (fVar 3)) (fCons (fVar 3) fNil))) fNil)) (fCall (G (Str.ofString "many_free")) 3 0 [.inl 0, .inl 1, .inl 2] (fCons (fVar 0) (fCons (fVar 3) (fCons (fVar 3) fNil))) fNil))) sNil)) (sSeq (sRet (fVar 2)) sNil))) := by
  simp only [B_many_at_once, evSs, evS, ev, evAnd, evOr, evs, evo, evt, evp, evr, evx, evxs, List.map_cons, List.map_nil, Exs.len, Txs.len] <;> rfl
/-- many_flips(p, n): 0 p, 1 n -/
def B_many_flips : Sms := (.cons (.ret (.ite (.cmp .Eq (.var 0) (.c (.int 2))) (.call (Str.ofString "many_at_once") [.inl 0, .inl 1] (.cons (.var 0) (.cons (.var 1) .nil)) .nil) (.call (Str.ofString "many_folds") [.inl 0, .inl 1] (.cons (.var 0) (.cons (.var 1) .nil)) .nil))) .nil)
theorem sh_many_flips (G : Fns) (fl : List (Str × Str)) : evSs G fl B_many_flips = (sSeq (sRet (fIf (fTru (fCmp .Eq (fVar 0) (fC (.int 2)))) (fCall (G (Str.ofString "many_at_once")) 2 0 [.inl 0, .inl 1] (fCons (fVar 0) (fCons (fVar 1) fNil)) fNil) (fCall (G (Str.ofString "many_folds")) 2 0 [.inl 0, .inl 1] (fCons (fVar 0) (fCons (fVar 1) fNil)) fNil))) sNil) := by
  simp only [B_many_flips, evSs, evS, ev, evAnd, evOr, evs, evo, evt, evp, evr, evx, evxs, List.map_cons, List.map_nil, Exs.len, Txs.len] <;> rfl
/-- many_folds(p, n): 0 p, 1 n, 2 whole, 3 r -/
def B_many_folds : Sms := (.cons (.asg (.nm 2) (.call (Str.ofString "many_free") [.inl 0, .inl 1, .inl 2] (.cons (.var 0) (.cons (.var 1) (.cons (.var 1) .nil))) .nil)) (.cons (.ret (.bn false .sum (.cons (.lc false (.r1 (.bin .Add false (.var 1) (.c (.int 1)))) (.nm 3) [((Str.ofString "r"), 3)] .no (.bin .FloorDiv false (.var 2) (.bin .Mult false (.call (Str.ofString "many_free") [.inl 0, .inl 1, .inl 2] (.cons (.var 0) (.cons (.var 3) (.cons (.var 3) .nil))) .nil) (.call (Str.ofString "many_free") [.inl 0, .inl 1, .inl 2] (.cons (.var 0) (.cons (.bin .Sub false (.var 1) (.var 3)) (.cons (.bin .Sub false (.var 1) (.var 3)) .nil))) .nil)))) .nil))) .nil))
theorem sh_many_folds (G : Fns) (fl : List (Str × Str)) : evSs G fl B_many_folds = (sSeq (sAsg (fCall (G (Str.ofString "many_free")) 3 0 [.inl 0, .inl 1, .inl 2] (fCons (fVar 0) (fCons (fVar 1) (fCons (fVar 1) fNil))) fNil) (tgNm 2)) (sSeq (sRet (fBn false .sum (fCons (fLc false (fRng1 (fBin .Add false (fVar 1) (fC (.int 1)))) (.nm 3) [3] fYes (fBin .FloorDiv false (fVar 2) (fBin .Mult false (fCall (G (Str.ofString "many_free")) 3 0 [.inl 0, .inl 1, .inl 2] (fCons (fVar 0) (fCons (fVar 3) (fCons (fVar 3) fNil))) fNil) (fCall (G (Str.ofString "many_free")) 3 0 [.inl 0, .inl 1, .inl 2] (fCons (fVar 0) (fCons (fBin .Sub false (fVar 1) (fVar 3)) (fCons (fBin .Sub false (fVar 1) (fVar 3)) fNil))) fNil)))) fNil))) sNil)) := by
  simp only [B_many_folds, evSs, evS, ev, evAnd, evOr, evs, evo, evt, evp, evr, evx, evxs, List.map_cons, List.map_nil, Exs.len, Txs.len] <;> rfl
/-- _law_any(deck, deep): 0 deck, 1 deep, 2 way, 3 some, 4 turn -/
def B__law_any73 : Sms := (.cons (.asg (.nm 2) (.call (Str.ofString "_law_draw") [.inl 0, .inl 1] (.cons (.var 0) (.cons (.c (.int 8)) .nil)) .nil)) (.cons (.ite (.cmp .Lt (.var 2) (.c (.int 2))) (.cons (.ret (.call (Str.ofString "_law_pick") [.inl 0, .inl 1] (.cons (.var 0) (.cons (.lst false (.cons (.c (.int 0)) (.cons (.c (.int 1)) (.cons (.c (.int 2)) (.cons (.neg (.c (.int 1))) (.cons (.c (.int 3)) (.cons (.c (.int 5)) (.cons (.c (.int 9)) (.cons (.bin .Pow false (.c (.int 10)) (.c (.int 50))) .nil))))))))) .nil)) .nil)) .nil) .nil) (.cons (.ite (.cmp .Eq (.var 2) (.c (.int 2))) (.cons (.ret (.call (Str.ofString "_law_pick") [.inl 0, .inl 1] (.cons (.var 0) (.cons (.lst false (.cons (.c (.str (Str.ofString ""))) (.cons (.c (.str (Str.ofString "root"))) (.cons (.c (.str (Str.ofString "bar"))) (.cons (.c (.str (Str.ofString "symmetric"))) (.cons (.c (.str (Str.ofString "table 2 1\n1"))) (.cons (.c (.str (Str.ofString "folds"))) .nil))))))) .nil)) .nil)) .nil) .nil) (.cons (.ite (.cmp .Eq (.var 2) (.c (.int 3))) (.cons (.ret (.call (Str.ofString "_law_pick") [.inl 0, .inl 1] (.cons (.var 0) (.cons (.lst false (.cons (.c (.bool true)) (.cons (.c (.bool false)) (.cons (.c .none) .nil)))) .nil)) .nil)) .nil) .nil) (.cons (.ite (.cmp .Eq (.var 2) (.c (.int 4))) (.cons (.ret (.call (Str.ofString "_law_pick") [.inl 0, .inl 1] (.cons (.var 0) (.cons (.lst false (.cons (.tup (.cons (.c (.int 2)) (.cons (.tup (.cons (.tup (.cons (.c (.int 1)) .nil)) .nil)) .nil))) (.cons (.tup (.cons (.c (.int 3)) (.cons (.tup (.cons (.tup (.cons (.c (.int 0)) (.cons (.c (.int 1)) .nil))) (.cons (.tup (.cons (.c (.int 2)) (.cons (.c (.int 0)) .nil))) .nil))) .nil))) (.cons (.tup (.cons (.c (.int 0)) (.cons (.c (.int 1)) .nil))) (.cons (.tup (.cons (.tup (.cons (.c (.int 1)) (.cons (.c (.int 0)) .nil))) (.cons (.tup (.cons (.c (.int 0)) (.cons (.c (.int 1)) .nil))) .nil))) .nil))))) .nil)) .nil)) .nil) .nil) (.cons (.asg (.nm 3) (.ite (.cmp .Gt (.var 1) (.c (.int 0))) (.lc false (.r1 (.call (Str.ofString "_law_draw") [.inl 0, .inl 1] (.cons (.var 0) (.cons (.c (.int 4)) .nil)) .nil)) (.nm 4) [((Str.ofString "turn"), 4)] .no (.call (Str.ofString "_law_any") [.inl 0, .inl 1] (.cons (.var 0) (.cons (.bin .Sub false (.var 1) (.c (.int 1))) .nil)) .nil)) (.lst false .nil))) (.cons (.ite (.cmp .Eq (.var 2) (.c (.int 5))) (.cons (.ret (.var 3)) .nil) .nil) (.cons (.ret (.ite (.cmp .Eq (.var 2) (.c (.int 6))) (.frz (.dct (.cons (.c (.str (Str.ofString "rows"))) (.var 3) (.cons (.c (.int 1)) (.bn true .len (.cons (.var 3) .nil)) .nil)))) (.bn false .tup (.cons (.var 3) .nil)))) .nil))))))))
theorem sh__law_any73 (G : Fns) (fl : List (Str × Str)) : evSs G fl B__law_any73 = (sSeq (sAsg (fCall (G (Str.ofString "_law_draw")) 2 0 [.inl 0, .inl 1] (fCons (fVar 0) (fCons (fC (.int 8)) fNil)) fNil) (tgNm 2)) (sSeq (sIf (fTru (fCmp .Lt (fVar 2) (fC (.int 2)))) (sSeq (sRet (fCall (G (Str.ofString "_law_pick")) 2 0 [.inl 0, .inl 1] (fCons (fVar 0) (fCons (fLst false (fCons (fC (.int 0)) (fCons (fC (.int 1)) (fCons (fC (.int 2)) (fCons (fNeg (fC (.int 1))) (fCons (fC (.int 3)) (fCons (fC (.int 5)) (fCons (fC (.int 9)) (fCons (fBin .Pow false (fC (.int 10)) (fC (.int 50))) fNil))))))))) fNil)) fNil)) sNil) sNil) (sSeq (sIf (fTru (fCmp .Eq (fVar 2) (fC (.int 2)))) (sSeq (sRet (fCall (G (Str.ofString "_law_pick")) 2 0 [.inl 0, .inl 1] (fCons (fVar 0) (fCons (fLst false (fCons (fC (.str (Str.ofString ""))) (fCons (fC (.str (Str.ofString "root"))) (fCons (fC (.str (Str.ofString "bar"))) (fCons (fC (.str (Str.ofString "symmetric"))) (fCons (fC (.str (Str.ofString "table 2 1\n1"))) (fCons (fC (.str (Str.ofString "folds"))) fNil))))))) fNil)) fNil)) sNil) sNil) (sSeq (sIf (fTru (fCmp .Eq (fVar 2) (fC (.int 3)))) (sSeq (sRet (fCall (G (Str.ofString "_law_pick")) 2 0 [.inl 0, .inl 1] (fCons (fVar 0) (fCons (fLst false (fCons (fC (.bool true)) (fCons (fC (.bool false)) (fCons (fC .none) fNil)))) fNil)) fNil)) sNil) sNil) (sSeq (sIf (fTru (fCmp .Eq (fVar 2) (fC (.int 4)))) (sSeq (sRet (fCall (G (Str.ofString "_law_pick")) 2 0 [.inl 0, .inl 1] (fCons (fVar 0) (fCons (fLst false (fCons (fTup (fCons (fC (.int 2)) (fCons (fTup (fCons (fTup (fCons (fC (.int 1)) fNil)) fNil)) fNil))) (fCons (fTup (fCons (fC (.int 3)) (fCons (fTup (fCons (fTup (fCons (fC (.int 0)) (fCons (fC (.int 1)) fNil))) (fCons (fTup (fCons (fC (.int 2)) (fCons (fC (.int 0)) fNil))) fNil))) fNil))) (fCons (fTup (fCons (fC (.int 0)) (fCons (fC (.int 1)) fNil))) (fCons (fTup (fCons (fTup (fCons (fC (.int 1)) (fCons (fC (.int 0)) fNil))) (fCons (fTup (fCons (fC (.int 0)) (fCons (fC (.int 1)) fNil))) fNil))) fNil))))) fNil)) fNil)) sNil) sNil) (sSeq (sAsg (fIf (fTru (fCmp .Gt (fVar 1) (fC (.int 0)))) (fLc false (fRng1 (fCall (G (Str.ofString "_law_draw")) 2 0 [.inl 0, .inl 1] (fCons (fVar 0) (fCons (fC (.int 4)) fNil)) fNil)) (.nm 4) [4] fYes (fCall (G (Str.ofString "_law_any")) 2 0 [.inl 0, .inl 1] (fCons (fVar 0) (fCons (fBin .Sub false (fVar 1) (fC (.int 1))) fNil)) fNil)) (fLst false fNil)) (tgNm 3)) (sSeq (sIf (fTru (fCmp .Eq (fVar 2) (fC (.int 5)))) (sSeq (sRet (fVar 3)) sNil) sNil) (sSeq (sRet (fIf (fTru (fCmp .Eq (fVar 2) (fC (.int 6)))) (fFrz (fDct [((fC (.str (Str.ofString "rows"))), (fVar 3)), ((fC (.int 1)), (fBn true .len (fCons (fVar 3) fNil)))])) (fBn false .tup (fCons (fVar 3) fNil)))) sNil)))))))) := by
  simp only [B__law_any73, evSs, evS, ev, evAnd, evOr, evs, evo, evt, evp, evr, evx, evxs, List.map_cons, List.map_nil, Exs.len, Txs.len] <;> rfl
/-- _law_are_due(word, p, n, k): 0 word, 1 p, 2 n, 3 k, 4 words, 5 near, 6 first, 7 last, 8 told, 9 is_word, 10 is_p, 11 is_n -/
def B__law_are_due : Sms := (.cons (.asg (.nm 4) (.tup (.cons (.c (.str (Str.ofString "tables"))) (.cons (.c (.str (Str.ofString "undoable"))) (.cons (.c (.str (Str.ofString "folds"))) (.cons (.c (.str (Str.ofString "flips"))) (.cons (.c (.str (Str.ofString "fallers"))) (.cons (.c (.str (Str.ofString "at once"))) (.cons (.c (.str (Str.ofString "symmetric"))) .nil))))))))) (.cons (.par3 9 10 11 (.cons (.and (.isi .str (.var 0)) (.cons (.cmp .In (.var 0) (.var 4)) .nil)) (.cons (.and (.call (Str.ofString "_law_is_from") [.inl 0, .inl 1, .inl 2] (.cons (.var 1) (.cons (.c (.int 2)) (.cons (.c (.int 7)) .nil))) .nil) (.cons (.cmp .In (.var 1) (.tup (.cons (.c (.int 2)) (.cons (.c (.int 3)) (.cons (.c (.int 5)) (.cons (.c (.int 7)) .nil)))))) .nil)) (.cons (.call (Str.ofString "_law_is_from") [.inl 0, .inl 1, .inl 2] (.cons (.var 2) (.cons (.c (.int 1)) (.cons (.c (.int 30)) .nil))) .nil) .nil)))) (.cons (.asg (.nm 5) (.ite (.var 10) (.lst false .nil) (.lst false (.cons (.tup (.cons (.lst false (.cons (.c (.bool false)) (.cons (.c (.bool true)) (.cons (.c (.bool false)) (.cons (.c (.bool false)) .nil))))) (.cons (.var 1) .nil))) .nil)))) (.cons (.asg (.nm 5) (.bin .Add false (.var 5) (.ite (.var 11) (.lst false .nil) (.lst false (.cons (.tup (.cons (.lst false (.cons (.c (.bool false)) (.cons (.c (.bool false)) (.cons (.c (.bool true)) (.cons (.c (.bool false)) .nil))))) (.cons (.var 2) .nil))) .nil))))) (.cons (.asg (.nm 6) (.bin .Add false (.bin .Add false (.ite (.var 9) (.lst false .nil) (.lst false (.cons (.tup (.cons (.lst false (.cons (.c (.bool true)) (.cons (.c (.bool false)) (.cons (.c (.bool false)) (.cons (.c (.bool false)) .nil))))) (.cons (.var 0) .nil))) .nil))) (.var 5)) (.lst false (.cons (.c (.bool true)) .nil)))) (.cons (.asg (.nm 7) (.bin .Add false (.bin .Add false (.var 5) (.ite (.and (.var 11) (.cons (.call (Str.ofString "_law_is_from") [.inl 0, .inl 1, .inl 2] (.cons (.var 3) (.cons (.c (.int 0)) (.cons (.var 2) .nil))) .nil) .nil)) (.lst false .nil) (.lst false (.cons (.tup (.cons (.lst false (.cons (.c (.bool false)) (.cons (.c (.bool false)) (.cons (.c (.bool true)) (.cons (.c (.bool false)) .nil))))) (.cons (.var 3) .nil))) .nil)))) (.lst false (.cons (.c (.bool true)) .nil)))) (.cons (.asg (.nm 8) (.lst true (.cons (.rsd (Str.ofString "_law_told") (Str.ofString "count_of") [.inl 0, .inl 1, .inl 2] [0, 1, 2] []) .nil))) (.cons (.exp (.mt false .append (.var 8) (.cons (.rsd (Str.ofString "_law_told") (Str.ofString "count_of") [.inl 2, .inl 1, .inl 0] [] [2, 1, 0]) .nil))) (.cons (.ite (.cmp .NotEq (.bn false .repr (.cons (.var 8) .nil)) (.bn false .repr (.cons (.bin .Mult false (.lst false (.cons (.idx (.var 6) (.c (.int 0))) .nil)) (.c (.int 2))) .nil))) (.cons (.ret (.c (.bool false))) .nil) .nil) (.cons (.asg (.nm 8) (.lst true (.cons (.rsd (Str.ofString "_law_told") (Str.ofString "count_rank") [.inl 0, .inl 1, .inl 2] [1, 2, 3] []) .nil))) (.cons (.exp (.mt false .append (.var 8) (.cons (.rsd (Str.ofString "_law_told") (Str.ofString "count_rank") [.inl 2, .inl 1, .inl 0] [] [3, 2, 1]) .nil))) (.cons (.exp (.mt false .append (.var 8) (.cons (.rsd (Str.ofString "_law_told") (Str.ofString "count_free") [.inl 0, .inl 1, .inl 2] [1, 2, 3] []) .nil))) (.cons (.exp (.mt false .append (.var 8) (.cons (.rsd (Str.ofString "_law_told") (Str.ofString "count_free") [.inl 2, .inl 1, .inl 0] [] [3, 2, 1]) .nil))) (.cons (.ret (.cmp .Eq (.bn false .repr (.cons (.var 8) .nil)) (.bn false .repr (.cons (.bin .Mult false (.lst false (.cons (.idx (.var 7) (.c (.int 0))) .nil)) (.c (.int 4))) .nil)))) .nil))))))))))))))
theorem sh__law_are_due (G : Fns) (fl : List (Str × Str)) : evSs G fl B__law_are_due = (sSeq (sAsg (fTup (fCons (fC (.str (Str.ofString "tables"))) (fCons (fC (.str (Str.ofString "undoable"))) (fCons (fC (.str (Str.ofString "folds"))) (fCons (fC (.str (Str.ofString "flips"))) (fCons (fC (.str (Str.ofString "fallers"))) (fCons (fC (.str (Str.ofString "at once"))) (fCons (fC (.str (Str.ofString "symmetric"))) fNil)))))))) (tgNm 4)) (sSeq (sPar3 9 10 11 (fCons (fAnd (fIsi .str (fVar 0)) (fCmp .In (fVar 0) (fVar 4))) (fCons (fAnd (fCall (G (Str.ofString "_law_is_from")) 3 0 [.inl 0, .inl 1, .inl 2] (fCons (fVar 1) (fCons (fC (.int 2)) (fCons (fC (.int 7)) fNil))) fNil) (fCmp .In (fVar 1) (fTup (fCons (fC (.int 2)) (fCons (fC (.int 3)) (fCons (fC (.int 5)) (fCons (fC (.int 7)) fNil))))))) (fCons (fCall (G (Str.ofString "_law_is_from")) 3 0 [.inl 0, .inl 1, .inl 2] (fCons (fVar 2) (fCons (fC (.int 1)) (fCons (fC (.int 30)) fNil))) fNil) fNil)))) (sSeq (sAsg (fIf (fTru (fVar 10)) (fLst false fNil) (fLst false (fCons (fTup (fCons (fLst false (fCons (fC (.bool false)) (fCons (fC (.bool true)) (fCons (fC (.bool false)) (fCons (fC (.bool false)) fNil))))) (fCons (fVar 1) fNil))) fNil))) (tgNm 5)) (sSeq (sAsg (fBin .Add false (fVar 5) (fIf (fTru (fVar 11)) (fLst false fNil) (fLst false (fCons (fTup (fCons (fLst false (fCons (fC (.bool false)) (fCons (fC (.bool false)) (fCons (fC (.bool true)) (fCons (fC (.bool false)) fNil))))) (fCons (fVar 2) fNil))) fNil)))) (tgNm 5)) (sSeq (sAsg (fBin .Add false (fBin .Add false (fIf (fTru (fVar 9)) (fLst false fNil) (fLst false (fCons (fTup (fCons (fLst false (fCons (fC (.bool true)) (fCons (fC (.bool false)) (fCons (fC (.bool false)) (fCons (fC (.bool false)) fNil))))) (fCons (fVar 0) fNil))) fNil))) (fVar 5)) (fLst false (fCons (fC (.bool true)) fNil))) (tgNm 6)) (sSeq (sAsg (fBin .Add false (fBin .Add false (fVar 5) (fIf (gAnd (fTru (fVar 11)) (fTru (fCall (G (Str.ofString "_law_is_from")) 3 0 [.inl 0, .inl 1, .inl 2] (fCons (fVar 3) (fCons (fC (.int 0)) (fCons (fVar 2) fNil))) fNil))) (fLst false fNil) (fLst false (fCons (fTup (fCons (fLst false (fCons (fC (.bool false)) (fCons (fC (.bool false)) (fCons (fC (.bool true)) (fCons (fC (.bool false)) fNil))))) (fCons (fVar 3) fNil))) fNil)))) (fLst false (fCons (fC (.bool true)) fNil))) (tgNm 7)) (sSeq (sAsg (fLst true (fCons (fRsd G (Str.ofString "_law_told") (Str.ofString "count_of") 3 0 [.inl 0, .inl 1, .inl 2] [0, 1, 2] []) fNil)) (tgNm 8)) (sSeq (sExp (fMt false .append (fVar 8) (fCons (fRsd G (Str.ofString "_law_told") (Str.ofString "count_of") 0 3 [.inl 2, .inl 1, .inl 0] [] [2, 1, 0]) fNil))) (sSeq (sIf (fTru (fCmp .NotEq (fBn false .repr (fCons (fVar 8) fNil)) (fBn false .repr (fCons (fBin .Mult false (fLst false (fCons (fIdx (fVar 6) (fC (.int 0))) fNil)) (fC (.int 2))) fNil)))) (sSeq (sRet (fC (.bool false))) sNil) sNil) (sSeq (sAsg (fLst true (fCons (fRsd G (Str.ofString "_law_told") (Str.ofString "count_rank") 3 0 [.inl 0, .inl 1, .inl 2] [1, 2, 3] []) fNil)) (tgNm 8)) (sSeq (sExp (fMt false .append (fVar 8) (fCons (fRsd G (Str.ofString "_law_told") (Str.ofString "count_rank") 0 3 [.inl 2, .inl 1, .inl 0] [] [3, 2, 1]) fNil))) (sSeq (sExp (fMt false .append (fVar 8) (fCons (fRsd G (Str.ofString "_law_told") (Str.ofString "count_free") 3 0 [.inl 0, .inl 1, .inl 2] [1, 2, 3] []) fNil))) (sSeq (sExp (fMt false .append (fVar 8) (fCons (fRsd G (Str.ofString "_law_told") (Str.ofString "count_free") 0 3 [.inl 2, .inl 1, .inl 0] [] [3, 2, 1]) fNil))) (sSeq (sRet (fCmp .Eq (fBn false .repr (fCons (fVar 8) fNil)) (fBn false .repr (fCons (fBin .Mult false (fLst false (fCons (fIdx (fVar 7) (fC (.int 0))) fNil)) (fC (.int 4))) fNil)))) sNil)))))))))))))) := by
  simp only [B__law_are_due, evSs, evS, ev, evAnd, evOr, evs, evo, evt, evp, evr, evx, evxs, List.map_cons, List.map_nil, Exs.len, Txs.len] <;> rfl
/-- law(script): 0 script, 1 deck, 2 words, 3 turn, 4 k, 5 word, 6 p, 7 n -/
def B_law73 : Sms := (.cons (.asg (.nm 1) (.call (Str.ofString "_law_deck") [.inl 0] (.cons (.var 0) .nil) .nil)) (.cons (.asg (.nm 2) (.lst false (.cons (.c (.str (Str.ofString "tables"))) (.cons (.c (.str (Str.ofString "undoable"))) (.cons (.c (.str (Str.ofString "folds"))) (.cons (.c (.str (Str.ofString "flips"))) (.cons (.c (.str (Str.ofString "fallers"))) (.cons (.c (.str (Str.ofString "at once"))) (.cons (.c (.str (Str.ofString "symmetric"))) .nil))))))))) (.cons (.for_ (.nm 3) (.r1 (.c (.int 10))) (.cons (.par3 5 6 7 (.cons (.call (Str.ofString "_law_pick") [.inl 0, .inl 1] (.cons (.var 1) (.cons (.var 2) .nil)) .nil) (.cons (.call (Str.ofString "_law_pick") [.inl 0, .inl 1] (.cons (.var 1) (.cons (.lst false (.cons (.c (.int 2)) (.cons (.c (.int 3)) (.cons (.c (.int 5)) (.cons (.c (.int 7)) .nil))))) .nil)) .nil) (.cons (.call (Str.ofString "_law_pick") [.inl 0, .inl 1] (.cons (.var 1) (.cons (.lst false (.cons (.c (.int 1)) (.cons (.c (.int 2)) (.cons (.c (.int 3)) (.cons (.c (.int 5)) (.cons (.c (.int 30)) .nil)))))) .nil)) .nil) .nil)))) (.cons (.asg (.nm 4) (.call (Str.ofString "_law_draw") [.inl 0, .inl 1] (.cons (.var 1) (.cons (.bin .Add false (.var 7) (.c (.int 1))) .nil)) .nil)) (.cons (.ite (.cmp .Eq (.call (Str.ofString "_law_draw") [.inl 0, .inl 1] (.cons (.var 1) (.cons (.c (.int 3)) .nil)) .nil) (.c (.int 0))) (.cons (.asg (.nm 5) (.call (Str.ofString "_law_pick") [.inl 0, .inl 1] (.cons (.var 1) (.cons (.lst false (.cons (.c (.str (Str.ofString "Folds"))) (.cons (.c (.str (Str.ofString "fold"))) (.cons (.c (.str (Str.ofString ""))) (.cons (.c (.str (Str.ofString " folds"))) (.cons (.c (.str (Str.ofString "atonce"))) (.cons (.c (.str (Str.ofString "shears"))) (.cons (.c .none) (.cons (.tup (.cons (.c (.str (Str.ofString "folds"))) .nil)) (.cons (.lst false (.cons (.c (.str (Str.ofString "folds"))) .nil)) (.cons (.c (.int 1)) (.cons (.call (Str.ofString "_law_any") [.inl 0, .inl 1] (.cons (.var 1) (.cons (.c (.int 2)) .nil)) .nil) .nil)))))))))))) .nil)) .nil)) .nil) .nil) (.cons (.ite (.cmp .Eq (.call (Str.ofString "_law_draw") [.inl 0, .inl 1] (.cons (.var 1) (.cons (.c (.int 3)) .nil)) .nil) (.c (.int 0))) (.cons (.asg (.nm 6) (.call (Str.ofString "_law_pick") [.inl 0, .inl 1] (.cons (.var 1) (.cons (.lst false (.cons (.c (.int 0)) (.cons (.c (.int 1)) (.cons (.c (.int 4)) (.cons (.c (.int 6)) (.cons (.c (.int 8)) (.cons (.c (.int 9)) (.cons (.c (.int 11)) (.cons (.neg (.c (.int 2))) (.cons (.c (.bool true)) (.cons (.c (.str (Str.ofString "2"))) (.cons (.c .none) (.cons (.tup (.cons (.c (.int 2)) .nil)) (.cons (.lst false (.cons (.c (.int 2)) .nil)) (.cons (.bin .Pow false (.c (.int 2)) (.c (.int 61))) (.cons (.call (Str.ofString "_law_any") [.inl 0, .inl 1] (.cons (.var 1) (.cons (.c (.int 2)) .nil)) .nil) .nil)))))))))))))))) .nil)) .nil)) .nil) .nil) (.cons (.ite (.cmp .Eq (.call (Str.ofString "_law_draw") [.inl 0, .inl 1] (.cons (.var 1) (.cons (.c (.int 3)) .nil)) .nil) (.c (.int 0))) (.cons (.asg (.nm 7) (.call (Str.ofString "_law_pick") [.inl 0, .inl 1] (.cons (.var 1) (.cons (.lst false (.cons (.c (.int 0)) (.cons (.c (.int 31)) (.cons (.neg (.c (.int 1))) (.cons (.c (.bool true)) (.cons (.c (.str (Str.ofString "1"))) (.cons (.c .none) (.cons (.tup (.cons (.c (.int 1)) .nil)) (.cons (.lst false .nil) (.cons (.frz (.dct .nil)) (.cons (.bin .Pow false (.c (.int 10)) (.c (.int 30))) (.cons (.call (Str.ofString "_law_any") [.inl 0, .inl 1] (.cons (.var 1) (.cons (.c (.int 2)) .nil)) .nil) .nil)))))))))))) .nil)) .nil)) .nil) .nil) (.cons (.ite (.cmp .Eq (.call (Str.ofString "_law_draw") [.inl 0, .inl 1] (.cons (.var 1) (.cons (.c (.int 3)) .nil)) .nil) (.c (.int 0))) (.cons (.asg (.nm 4) (.call (Str.ofString "_law_pick") [.inl 0, .inl 1] (.cons (.var 1) (.cons (.lst false (.cons (.neg (.c (.int 1))) (.cons (.c (.int 31)) (.cons (.c (.bool true)) (.cons (.c (.bool false)) (.cons (.c .none) (.cons (.c (.str (Str.ofString "0"))) (.cons (.tup (.cons (.c (.int 0)) .nil)) (.cons (.lst false (.cons (.c (.int 0)) .nil)) (.cons (.bin .Pow false (.c (.int 10)) (.c (.int 40))) (.cons (.call (Str.ofString "_law_any") [.inl 0, .inl 1] (.cons (.var 1) (.cons (.c (.int 2)) .nil)) .nil) .nil))))))))))) .nil)) .nil)) .nil) .nil) (.cons (.ite (.not (.call (Str.ofString "_law_are_due") [.inl 0, .inl 1, .inl 2, .inl 3] (.cons (.var 5) (.cons (.var 6) (.cons (.var 7) (.cons (.var 4) .nil)))) .nil)) (.cons (.ret (.c (.bool false))) .nil) .nil) .nil)))))))) (.cons (.ret (.c (.bool true))) .nil))))
theorem sh_law73 (G : Fns) (fl : List (Str × Str)) : evSs G fl B_law73 = (sSeq (sAsg (fCall (G (Str.ofString "_law_deck")) 1 0 [.inl 0] (fCons (fVar 0) fNil) fNil) (tgNm 1)) (sSeq (sAsg (fLst false (fCons (fC (.str (Str.ofString "tables"))) (fCons (fC (.str (Str.ofString "undoable"))) (fCons (fC (.str (Str.ofString "folds"))) (fCons (fC (.str (Str.ofString "flips"))) (fCons (fC (.str (Str.ofString "fallers"))) (fCons (fC (.str (Str.ofString "at once"))) (fCons (fC (.str (Str.ofString "symmetric"))) fNil)))))))) (tgNm 2)) (sSeq (sFor (fRng1 (fC (.int 10))) (tgNm 3) (sSeq (sPar3 5 6 7 (fCons (fCall (G (Str.ofString "_law_pick")) 2 0 [.inl 0, .inl 1] (fCons (fVar 1) (fCons (fVar 2) fNil)) fNil) (fCons (fCall (G (Str.ofString "_law_pick")) 2 0 [.inl 0, .inl 1] (fCons (fVar 1) (fCons (fLst false (fCons (fC (.int 2)) (fCons (fC (.int 3)) (fCons (fC (.int 5)) (fCons (fC (.int 7)) fNil))))) fNil)) fNil) (fCons (fCall (G (Str.ofString "_law_pick")) 2 0 [.inl 0, .inl 1] (fCons (fVar 1) (fCons (fLst false (fCons (fC (.int 1)) (fCons (fC (.int 2)) (fCons (fC (.int 3)) (fCons (fC (.int 5)) (fCons (fC (.int 30)) fNil)))))) fNil)) fNil) fNil)))) (sSeq (sAsg (fCall (G (Str.ofString "_law_draw")) 2 0 [.inl 0, .inl 1] (fCons (fVar 1) (fCons (fBin .Add false (fVar 7) (fC (.int 1))) fNil)) fNil) (tgNm 4)) (sSeq (sIf (fTru (fCmp .Eq (fCall (G (Str.ofString "_law_draw")) 2 0 [.inl 0, .inl 1] (fCons (fVar 1) (fCons (fC (.int 3)) fNil)) fNil) (fC (.int 0)))) (sSeq (sAsg (fCall (G (Str.ofString "_law_pick")) 2 0 [.inl 0, .inl 1] (fCons (fVar 1) (fCons (fLst false (fCons (fC (.str (Str.ofString "Folds"))) (fCons (fC (.str (Str.ofString "fold"))) (fCons (fC (.str (Str.ofString ""))) (fCons (fC (.str (Str.ofString " folds"))) (fCons (fC (.str (Str.ofString "atonce"))) (fCons (fC (.str (Str.ofString "shears"))) (fCons (fC .none) (fCons (fTup (fCons (fC (.str (Str.ofString "folds"))) fNil)) (fCons (fLst false (fCons (fC (.str (Str.ofString "folds"))) fNil)) (fCons (fC (.int 1)) (fCons (fCall (G (Str.ofString "_law_any")) 2 0 [.inl 0, .inl 1] (fCons (fVar 1) (fCons (fC (.int 2)) fNil)) fNil) fNil)))))))))))) fNil)) fNil) (tgNm 5)) sNil) sNil) (sSeq (sIf (fTru (fCmp .Eq (fCall (G (Str.ofString "_law_draw")) 2 0 [.inl 0, .inl 1] (fCons (fVar 1) (fCons (fC (.int 3)) fNil)) fNil) (fC (.int 0)))) (sSeq (sAsg (fCall (G (Str.ofString "_law_pick")) 2 0 [.inl 0, .inl 1] (fCons (fVar 1) (fCons (fLst false (fCons (fC (.int 0)) (fCons (fC (.int 1)) (fCons (fC (.int 4)) (fCons (fC (.int 6)) (fCons (fC (.int 8)) (fCons (fC (.int 9)) (fCons (fC (.int 11)) (fCons (fNeg (fC (.int 2))) (fCons (fC (.bool true)) (fCons (fC (.str (Str.ofString "2"))) (fCons (fC .none) (fCons (fTup (fCons (fC (.int 2)) fNil)) (fCons (fLst false (fCons (fC (.int 2)) fNil)) (fCons (fBin .Pow false (fC (.int 2)) (fC (.int 61))) (fCons (fCall (G (Str.ofString "_law_any")) 2 0 [.inl 0, .inl 1] (fCons (fVar 1) (fCons (fC (.int 2)) fNil)) fNil) fNil)))))))))))))))) fNil)) fNil) (tgNm 6)) sNil) sNil) (sSeq (sIf (fTru (fCmp .Eq (fCall (G (Str.ofString "_law_draw")) 2 0 [.inl 0, .inl 1] (fCons (fVar 1) (fCons (fC (.int 3)) fNil)) fNil) (fC (.int 0)))) (sSeq (sAsg (fCall (G (Str.ofString "_law_pick")) 2 0 [.inl 0, .inl 1] (fCons (fVar 1) (fCons (fLst false (fCons (fC (.int 0)) (fCons (fC (.int 31)) (fCons (fNeg (fC (.int 1))) (fCons (fC (.bool true)) (fCons (fC (.str (Str.ofString "1"))) (fCons (fC .none) (fCons (fTup (fCons (fC (.int 1)) fNil)) (fCons (fLst false fNil) (fCons (fFrz (fun _ S => .ok (.loc S.length) (S ++ [.dK []]))) (fCons (fBin .Pow false (fC (.int 10)) (fC (.int 30))) (fCons (fCall (G (Str.ofString "_law_any")) 2 0 [.inl 0, .inl 1] (fCons (fVar 1) (fCons (fC (.int 2)) fNil)) fNil) fNil)))))))))))) fNil)) fNil) (tgNm 7)) sNil) sNil) (sSeq (sIf (fTru (fCmp .Eq (fCall (G (Str.ofString "_law_draw")) 2 0 [.inl 0, .inl 1] (fCons (fVar 1) (fCons (fC (.int 3)) fNil)) fNil) (fC (.int 0)))) (sSeq (sAsg (fCall (G (Str.ofString "_law_pick")) 2 0 [.inl 0, .inl 1] (fCons (fVar 1) (fCons (fLst false (fCons (fNeg (fC (.int 1))) (fCons (fC (.int 31)) (fCons (fC (.bool true)) (fCons (fC (.bool false)) (fCons (fC .none) (fCons (fC (.str (Str.ofString "0"))) (fCons (fTup (fCons (fC (.int 0)) fNil)) (fCons (fLst false (fCons (fC (.int 0)) fNil)) (fCons (fBin .Pow false (fC (.int 10)) (fC (.int 40))) (fCons (fCall (G (Str.ofString "_law_any")) 2 0 [.inl 0, .inl 1] (fCons (fVar 1) (fCons (fC (.int 2)) fNil)) fNil) fNil))))))))))) fNil)) fNil) (tgNm 4)) sNil) sNil) (sSeq (sIf (gNot (fTru (fCall (G (Str.ofString "_law_are_due")) 4 0 [.inl 0, .inl 1, .inl 2, .inl 3] (fCons (fVar 5) (fCons (fVar 6) (fCons (fVar 7) (fCons (fVar 4) fNil)))) fNil))) (sSeq (sRet (fC (.bool false))) sNil) sNil) sNil)))))))) (sSeq (sRet (fC (.bool true))) sNil)))) := by
  simp only [B_law73, evSs, evS, ev, evAnd, evOr, evs, evo, evt, evp, evr, evx, evxs, List.map_cons, List.map_nil, Exs.len, Txs.len] <;> rfl
end Lb

set_option linter.all false
set_option maxRecDepth 100000
set_option maxHeartbeats 1000000
namespace Lb
open PySem PySem.Spec L2 Dl Lf
/-! LibTb: the counts answer with integers (k73). -/
structure HCnt (D : List Df) : Prop where
  powered : HasB D (Str.ofString "powered") 2 4 B_powered
  many_free : HasB D (Str.ofString "many_free") 3 5 B_many_free
  many_spans : HasB D (Str.ofString "many_spans") 3 3 B_many_spans
  many_folds : HasB D (Str.ofString "many_folds") 2 4 B_many_folds
  many_at_once : HasB D (Str.ofString "many_at_once") 2 4 B_many_at_once
  many_flips : HasB D (Str.ofString "many_flips") 2 2 B_many_flips
/-- free tuples of k rows -/
def frI (p : Int) (n : Nat) : Nat → Int
  | 0 => 1
  | k + 1 => frI p n k * (p ^ n - p ^ k)
section
variable {dfs : List Df} {fl : List (Str × Str)} {sp : Fns → Fns} {S : Sto} {n k m r : Nat} {p : Int}
theorem pow_le7 (h : 2 ≤ p ∧ p ≤ 7) (k : Nat) : 1 ≤ p ^ k ∧ p ^ k ≤ 2 ^ (3 * k) := by
  induction k with
  | zero => simp
  | succ k ih =>
    have e : (2 : Int) ^ (3 * (k + 1)) = 2 ^ (3 * k) * 8 := by rw [Nat.mul_succ, Int.pow_add]; rfl
    rw [Int.pow_succ, e]
    refine ⟨?_, ?_⟩
    · have := Int.mul_le_mul ih.1 (show (1 : Int) ≤ p by omega) (by omega) (by omega)
      simpa using this
    · exact Int.mul_le_mul ih.2 (by omega) (by omega) (Int.pow_nonneg (by omega))
theorem abs_lt {x : Int} {k : Nat} (h : 0 ≤ x) (h2 : x < 2 ^ k) : x.natAbs < 2 ^ k := by
  have : (x.natAbs : Int) = x := by omega
  have h3 : ((x.natAbs : Nat) : Int) < ((2 ^ k : Nat) : Int) := by rw [this]; simpa using h2
  exact Int.ofNat_lt.mp h3
theorem pow_up {a b : Nat} (h : a ≤ b) : (2 : Int) ^ a ≤ 2 ^ b := by
  obtain ⟨c, rfl⟩ := Nat.le.dest h
  rw [Int.pow_add]
  have h1 : (1 : Int) ≤ 2 ^ c := by
    have : (0 : Int) < 2 ^ c := Int.pow_pos (by decide)
    omega
  have h2 : (0 : Int) ≤ 2 ^ a := Int.pow_nonneg (by decide)
  have := Int.mul_le_mul_of_nonneg_left h1 h2
  simpa using this
theorem fr_in (h : 2 ≤ p ∧ p ≤ 7) : ∀ {k : Nat}, k ≤ m → 1 ≤ frI p m k ∧ frI p m k ≤ 2 ^ (3 * m * k)
  | 0, _ => by simp [frI]
  | k + 1, hk => by
    obtain ⟨h1, h2⟩ := fr_in h (k := k) (by omega)
    have a := pow_le7 h m
    have b := pow_le7 h k
    have lt : p ^ k < p ^ m := by
      obtain ⟨d, rfl⟩ := Nat.le.dest hk
      rw [show k + 1 + d = k + (1 + d) from by omega, Int.pow_add]
      have c := pow_le7 h d
      have e : p ^ (1 + d) = p * p ^ d := by rw [Nat.add_comm, Int.pow_succ, Int.mul_comm]
      have f : 2 ≤ p * p ^ d := by
        have := Int.mul_le_mul h.1 c.1 (by omega) (by omega)
        simpa using this
      rw [e]
      have := Int.mul_le_mul_of_nonneg_left f (show 0 ≤ p ^ k by omega)
      omega
    rw [frI, Nat.mul_succ, Int.pow_add]
    refine ⟨?_, Int.mul_le_mul h2 (by omega) (by omega) (Int.pow_nonneg (by decide))⟩
    have := Int.mul_le_mul h1 (show (1 : Int) ≤ p ^ m - p ^ k by omega) (by omega) (by omega)
    simpa using this
theorem fr_pos (h : 2 ≤ p ∧ p ≤ 7) (hm : m ≤ 30) (hk : k ≤ m) : 0 < frI p m k ∧ frI p m k < 2 ^ 2701 := by
  obtain ⟨h1, h2⟩ := fr_in h hk
  have : 3 * m * k ≤ 2700 := Nat.le_trans (Nat.mul_le_mul (Nat.mul_le_mul (Nat.le_refl 3) hm) (Nat.le_trans hk hm)) (by decide)
  have h3 := pow_up this
  have h4 : (2 : Int) ^ 2700 < 2 ^ 2701 := by decide +kernel
  exact ⟨by omega, Int.lt_of_le_of_lt (Int.le_trans h2 h3) h4⟩
theorem o_divB {a b : Int} {u : Bool} {k : Nat} (h : 0 < b) (h2 : b < 2 ^ k) (hk : k < 9000) : opBin .FloorDiv u (.p (.int a)) (.p (.int b)) S = .ok (.i (a / b)) S :=
  if_pos ⟨h, Nat.lt_of_le_of_lt (lg' (abs_lt (by omega) h2)) hk⟩
theorem c_powered (H : HasB dfs (Str.ofString "powered") 2 4 B_powered) (hn : 1 ≤ n) (h : 2 ≤ p ∧ p ≤ 7) (hk : k ≤ 1000) : evF dfs fl sp n (Str.ofString "powered") [.p (.int p), .p (.int (k : Nat))] S = .ok (.i (p ^ k)) S := by
  refine gives H hn rfl ?_
  rw [sh_powered]
  refine seq_nx (ρ' := [some (.i p), some (.i (k : Nat)), some (.i 1), none]) (S' := S) (by simp) ?_
  obtain ⟨ρ', S', e, ⟨x, rfl⟩, rfl⟩ := for_nx (S := S) (S1 := S) (F := fRng1 (fVar 1)) (G := tgNm 3) (B := sSeq (sAsg (fBin .Mult false (fVar 2) (fVar 0)) (tgNm 2)) sNil) (k := k) (w := []) (ρ := [some (.i p), some (.i (k : Nat)), some (.i 1), none]) (fun i => D.i (i : Nat)) (fun j ρ S' => (∃ x, ρ = [some (.i p), some (.i (k : Nat)), some (.i (p ^ j)), x]) ∧ S' = S)
    (i_r1 (n := k) (by simp) (by omega)) (fun _ _ _ _ => by simp) ⟨⟨none, by simp⟩, rfl⟩ (by
      rintro j ρ S' hj ⟨⟨x, rfl⟩, rfl⟩
      have a := pow_le7 h j
      have b : p ^ j < 2 ^ 3001 := Int.lt_of_le_of_lt (Int.le_trans a.2 (pow_up (show 3 * j ≤ 3000 by omega))) (by decide +kernel)
      have mu := o_mulB (S := S') (m := false) (a := p ^ j) (b := p) (k := 3001) (abs_lt (by omega) b) (abs_lt (by omega) (Int.lt_of_le_of_lt h.2 (by decide +kernel))) (by omega)
      refine ⟨[some (.i p), some (.i (k : Nat)), some (.i (p ^ j)), some (.i (j : Nat))], S', [some (.i p), some (.i (k : Nat)), some (.i (p ^ (j + 1))), some (.i (j : Nat))], S', by simp, .inl ?_, ⟨_, rfl⟩, rfl⟩
      refine seq_nx (ρ' := [some (.i p), some (.i (k : Nat)), some (.i (p ^ (j + 1))), some (.i (j : Nat))]) (S' := S') ?_ s_nil
      simp [mu, Int.pow_succ])
  refine seq_nx e (seq_rt ?_)
  simp
theorem c_many_free (H : HCnt dfs) (hn : 2 ≤ n) (h : 2 ≤ p ∧ p ≤ 7) (hm : m ≤ 30) (hk : k ≤ m) : evF dfs fl sp n (Str.ofString "many_free") [.p (.int p), .p (.int (m : Nat)), .p (.int (k : Nat))] S = .ok (.i (frI p m k)) S := by
  refine gives H.many_free (by omega) rfl ?_
  rw [sh_many_free]
  refine seq_nx (ρ' := [some (.i p), some (.i (m : Nat)), some (.i (k : Nat)), some (.i 1), none]) (S' := S) (by simp) ?_
  obtain ⟨ρ', S', e, ⟨x, rfl⟩, rfl⟩ := for_nx (S := S) (S1 := S) (F := fRng1 (fVar 2)) (G := tgNm 4) (B := (sSeq (sAsg (fBin .Mult false (fVar 3) (fBin .Sub false (fCall (evF dfs fl sp (n - 1) (Str.ofString "powered")) 2 0 [.inl 0, .inl 1] (fCons (fVar 0) (fCons (fVar 1) fNil)) fNil) (fCall (evF dfs fl sp (n - 1) (Str.ofString "powered")) 2 0 [.inl 0, .inl 1] (fCons (fVar 0) (fCons (fVar 4) fNil)) fNil))) (tgNm 3)) sNil))
    (k := k) (w := []) (ρ := [some (.i p), some (.i (m : Nat)), some (.i (k : Nat)), some (.i 1), none]) (fun i => D.i (i : Nat)) (fun j ρ S' => (∃ x, ρ = [some (.i p), some (.i (m : Nat)), some (.i (k : Nat)), some (.i (frI p m j)), x]) ∧ S' = S)
    (i_r1 (n := k) (by simp) (by omega)) (fun _ _ _ _ => by simp) ⟨⟨none, by simp [frI]⟩, rfl⟩ (by
      rintro j ρ S' hj ⟨⟨x, rfl⟩, rfl⟩
      have a := fr_pos h hm (k := j) (by omega)
      have b1 := pow_le7 h m
      have b2 := pow_le7 h j
      have b3 := fr_in h (m := m) (k := j + 1) (by omega)
      have c1 := c_powered (fl := fl) (sp := sp) (n := n - 1) (S := S') H.powered (by omega) h (k := m) (by omega)
      have c2 := c_powered (fl := fl) (sp := sp) (n := n - 1) (S := S') H.powered (by omega) h (k := j) (by omega)
      have up : ∀ i, i ≤ 30 → p ^ i < 2 ^ 2701 := fun i hi => Int.lt_of_le_of_lt (Int.le_trans (pow_le7 h i).2 (pow_up (show 3 * i ≤ 2700 by omega))) (by decide +kernel)
      have ab : (p ^ m - p ^ j).natAbs < 2 ^ 2701 := by
        have u1 := abs_lt (k := 2701) (by omega) (up m hm)
        have u2 := abs_lt (k := 2701) (by omega) (up j (by omega))
        generalize (2 : Nat) ^ 2701 = Z at *
        omega
      have mu := o_mulB (S := S') (m := false) (a := frI p m j) (b := p ^ m - p ^ j) (k := 2701) (abs_lt (by omega) a.2) ab (by omega)
      refine ⟨[some (.i p), some (.i (m : Nat)), some (.i (k : Nat)), some (.i (frI p m j)), some (.i (j : Nat))], S', [some (.i p), some (.i (m : Nat)), some (.i (k : Nat)), some (.i (frI p m (j + 1))), some (.i (j : Nat))], S', by simp, .inl ?_, ⟨_, rfl⟩, rfl⟩
      refine seq_nx (ρ' := [some (.i p), some (.i (m : Nat)), some (.i (k : Nat)), some (.i (frI p m (j + 1))), some (.i (j : Nat))]) (S' := S') ?_ s_nil
      simp [arrD, c1, c2, mu, frI])
  refine seq_nx e (seq_rt ?_)
  simp
theorem c_many_spans (H : HCnt dfs) (hn : 3 ≤ n) (h : 2 ≤ p ∧ p ≤ 7) (hm : m ≤ 30) (hk : k ≤ m) : evF dfs fl sp n (Str.ofString "many_spans") [.p (.int p), .p (.int (m : Nat)), .p (.int (k : Nat))] S = .ok (.i (frI p m k / frI p k k)) S := by
  refine gives H.many_spans (by omega) rfl ?_
  rw [sh_many_spans]
  have c1 := c_many_free (fl := fl) (sp := sp) (n := n - 1) (S := S) H (by omega) h hm hk
  have c2 := c_many_free (fl := fl) (sp := sp) (n := n - 1) (S := S) H (by omega) h (m := k) (k := k) (by omega) (by omega)
  have a := fr_pos h (m := k) (k := k) (by omega) (by omega)
  have d := o_divB (S := S) (u := false) (a := frI p m k) a.1 a.2 (by omega)
  simp [arrD, c1, c2, d]
theorem sp_in (h : 2 ≤ p ∧ p ≤ 7) (hm : m ≤ 30) (hk : k ≤ m) : 0 ≤ frI p m k / frI p k k ∧ frI p m k / frI p k k < 2 ^ 2701 := by
  have a := fr_pos h hm hk
  have b := fr_pos h (m := k) (k := k) (by omega) (by omega)
  exact ⟨Int.ediv_nonneg (by omega) (by omega), Int.lt_of_le_of_lt (Int.ediv_le_self _ (by omega)) a.2⟩
theorem c_many_folds (H : HCnt dfs) (hn : 3 ≤ n) (h : 2 ≤ p ∧ p ≤ 7) (hm : m ≤ 30) : ∃ x, evF dfs fl sp n (Str.ofString "many_folds") [.p (.int p), .p (.int (m : Nat))] S = .ok (.i x) S := by
  let f : Nat → Int := fun r => frI p m m / (frI p r r * frI p (m - r) (m - r))
  refine ⟨((List.range (m + 1)).map f).sum, gives H.many_folds (by omega) rfl ?_⟩
  rw [sh_many_folds]
  have c1 := c_many_free (fl := fl) (sp := sp) (n := n - 1) (S := S) H (by omega) h hm (k := m) (by omega)
  refine seq_nx (ρ' := [some (.i p), some (.i (m : Nat)), some (.i (frI p m m)), none]) (S' := S) (by simp [arrD, c1]) ?_
  have lc := lc_map (ys := List.range (m + 1)) (t := .nm 3) (own := [3]) (S := S) (ρ := [some (.i p), some (.i (m : Nat)), some (.i (frI p m m)), none]) (Fi := fRng1 (fBin .Add false (fVar 1) (fC (.int 1)))) (w := [])
    (Fe := (fBin .FloorDiv false (fVar 2) (fBin .Mult false (fCall (evF dfs fl sp (n - 1) (Str.ofString "many_free")) 3 0 [.inl 0, .inl 1, .inl 2] (fCons (fVar 0) (fCons (fVar 3) (fCons (fVar 3) fNil))) fNil) (fCall (evF dfs fl sp (n - 1) (Str.ofString "many_free")) 3 0 [.inl 0, .inl 1, .inl 2] (fCons (fVar 0) (fCons (fBin .Sub false (fVar 1) (fVar 3)) (fCons (fBin .Sub false (fVar 1) (fVar 3)) fNil))) fNil)))) (fun r => D.i (r : Nat)) (fun r => .int (f r))
    (i_r1 (n := m + 1) (by simp) (by omega)) (by simp) (by rw [List.length_range]; exact Nat.le_trans (show m + 1 ≤ 31 by omega) (by decide)) fun r hr => ⟨_, rfl, by
      have hr : r ≤ m := by have := List.mem_range.mp hr; omega
      have e : (m : Int) - (r : Nat) = ((m - r : Nat) : Int) := by omega
      have d1 := c_many_free (fl := fl) (sp := sp) (n := n - 1) (S := S) H (by omega) h (m := r) (k := r) (by omega) (by omega)
      have d2 := c_many_free (fl := fl) (sp := sp) (n := n - 1) (S := S) H (by omega) h (m := m - r) (k := m - r) (by omega) (by omega)
      have a1 := fr_pos h (m := r) (k := r) (by omega) (by omega)
      have a2 := fr_pos h (m := m - r) (k := m - r) (by omega) (by omega)
      have mu := o_mulB (S := S) (m := false) (a := frI p r r) (b := frI p (m - r) (m - r)) (k := 2701) (abs_lt (by omega) a1.2) (abs_lt (by omega) a2.2) (by omega)
      have pos : 0 < frI p r r * frI p (m - r) (m - r) := Int.mul_pos a1.1 a2.1
      have lt : frI p r r * frI p (m - r) (m - r) < 2 ^ 5402 := Int.lt_of_lt_of_le (Int.mul_lt_mul a1.2 (Int.le_of_lt a2.2) a2.1 (Int.pow_nonneg (by decide))) (by decide +kernel)
      have dv := o_divB (S := S) (u := false) (a := frI p m m) pos lt (by omega)
      simp [wipeD, arrD, e, d1, d2, mu, dv, f]⟩
  refine seq_rt ?_
  have sm : opBn false .sum [.p (.list ((List.range (m + 1)).map fun r => PyData.int (f r)))] S = .ok (.i ((List.range (m + 1)).map f).sum) S := by
    have := b_sum (m := false) (S := S) (ns := (List.range (m + 1)).map f)
    rw [List.map_map] at this
    exact this
  simp only [s_ret, e_bn, e_cons, lc, bind_ok, e_nil, sm, out_ok]
theorem aug_add {F : Slots → Sto → Res D} {ρ : Slots} {i : Nat} {x y : Int} {S1 : Sto} (h : ρ[i]? = some (some (.i x))) (hF : F ρ S = .ok (.i y) S1) : sAug i .Add F ρ S = .nx (ρ.set i (some (.i (x + y)))) S1 := by
  simp only [sAug, h, hF]
  rfl
theorem c_many_at_once (H : HCnt dfs) (hn : 4 ≤ n) (h : 2 ≤ p ∧ p ≤ 7) (hm : m ≤ 30) : ∃ x, evF dfs fl sp n (Str.ofString "many_at_once") [.p (.int p), .p (.int (m : Nat))] S = .ok (.i x) S := by
  have key : ∃ x, evSs (evF dfs fl sp (n - 1)) fl B_many_at_once ([D.p (.int p), .p (.int (m : Nat))].map some ++ List.replicate (4 - 2) none) S = .rt (.i x) S := by
    rw [sh_many_at_once]
    have two : ((m : Int) / 2 + 1) = ((m / 2 + 1 : Nat) : Int) := by omega
    have dv := o_divB (S := S) (u := false) (a := (m : Int)) (b := 2) (k := 2) (by decide) (by decide) (by decide)
    obtain ⟨ρ', S', e, ⟨x, y, rfl⟩, rfl⟩ := for_nx (S := S) (S1 := S) (F := (fRng1 (fBin .Add false (fBin .FloorDiv false (fVar 1) (fC (.int 2))) (fC (.int 1))))) (G := tgNm 3) (B := (sSeq (sAug 2 .Add (fBin .Mult false (fBin .Mult false (fCall (evF dfs fl sp (n - 1) (Str.ofString "many_spans")) 3 0 [.inl 0, .inl 1, .inl 2] (fCons (fVar 0) (fCons (fVar 1) (fCons (fBin .Sub false (fVar 1) (fVar 3)) fNil))) fNil) (fCall (evF dfs fl sp (n - 1) (Str.ofString "many_spans")) 3 0 [.inl 0, .inl 1, .inl 2] (fCons (fVar 0) (fCons (fBin .Sub false (fVar 1) (fVar 3)) (fCons (fVar 3) fNil))) fNil)) (fCall (evF dfs fl sp (n - 1) (Str.ofString "many_free")) 3 0 [.inl 0, .inl 1, .inl 2] (fCons (fVar 0) (fCons (fVar 3) (fCons (fVar 3) fNil))) fNil))) sNil))
      (k := m / 2 + 1) (w := []) (ρ := [some (.i p), some (.i (m : Nat)), some (.i 0), none]) (fun i => D.i (i : Nat)) (fun j ρ S' => (∃ x y, ρ = [some (.i p), some (.i (m : Nat)), some (.i x), y]) ∧ S' = S)
      (i_r1 (n := m / 2 + 1) (by simp [dv]) (by omega)) (fun _ _ _ _ => by simp) ⟨⟨0, none, rfl⟩, rfl⟩ (by
        rintro r ρ S' hr ⟨⟨x, y, rfl⟩, rfl⟩
        have e : (m : Int) - (r : Nat) = ((m - r : Nat) : Int) := by omega
        have d1 := c_many_spans (fl := fl) (sp := sp) (n := n - 1) (S := S') H (by omega) h (m := m) (k := m - r) (by omega) (by omega)
        have d2 := c_many_spans (fl := fl) (sp := sp) (n := n - 1) (S := S') H (by omega) h (m := m - r) (k := r) (by omega) (by omega)
        have d3 := c_many_free (fl := fl) (sp := sp) (n := n - 1) (S := S') H (by omega) h (m := r) (k := r) (by omega) (by omega)
        have a1 := sp_in h (m := m) (k := m - r) (by omega) (by omega)
        have a2 := sp_in h (m := m - r) (k := r) (by omega) (by omega)
        have a3 := fr_pos h (m := r) (k := r) (by omega) (by omega)
        generalize frI p m (m - r) / frI p (m - r) (m - r) = s1 at *
        generalize frI p (m - r) r / frI p r r = s2 at *
        have mu := o_mulB (S := S') (m := false) (a := s1) (b := s2) (k := 2701) (abs_lt (by omega) a1.2) (abs_lt (by omega) a2.2) (by omega)
        have lt : (s1 * s2).natAbs < 2 ^ 5402 := by
          rw [Int.natAbs_mul, show (2 : Nat) ^ 5402 = 2 ^ 2701 * 2 ^ 2701 from by rw [← Nat.pow_add]]
          exact Nat.mul_lt_mul'' (abs_lt (by omega) a1.2) (abs_lt (by omega) a2.2)
        have lt3 : (frI p r r).natAbs < 2 ^ 5402 := Nat.lt_of_lt_of_le (abs_lt (by omega) a3.2) (Nat.pow_le_pow_right (by decide) (by decide))
        have mu2 := o_mulB (S := S') (m := false) (a := s1 * s2) (b := frI p r r) (k := 5402) lt lt3 (by omega)
        refine ⟨[some (.i p), some (.i (m : Nat)), some (.i x), some (.i (r : Nat))], S', [some (.i p), some (.i (m : Nat)), some (.i (x + s1 * s2 * frI p r r)), some (.i (r : Nat))], S', by simp, .inl ?_, ⟨_, _, rfl⟩, rfl⟩
        refine seq_nx (ρ' := [some (.i p), some (.i (m : Nat)), some (.i (x + s1 * s2 * frI p r r)), some (.i (r : Nat))]) (S' := S') ?_ s_nil
        exact aug_add (x := x) (y := s1 * s2 * frI p r r) (ρ := [some (.i p), some (.i (m : Nat)), some (.i x), some (.i (r : Nat))]) rfl (by simp only [e_bin, e_call, e_cons, e_var, e_nil, List.getElem?_cons_zero, List.getElem?_cons_succ, bind_ok, o_sub, List.length_cons, List.length_nil, and_self, if_true, List.append_nil, arrD, List.map_cons, List.map_nil, List.getD_cons_zero, List.getD_cons_succ, e, d1, d2, d3, mu, mu2]))
    refine ⟨x, seq_nx (ρ' := [some (.i p), some (.i (m : Nat)), some (.i 0), none]) (S' := S') (by simp) (seq_nx e (seq_rt ?_))⟩
    simp
  obtain ⟨x, e⟩ := key
  exact ⟨x, gives H.many_at_once (by omega) rfl e⟩
theorem c_many_flips (H : HCnt dfs) (hn : 5 ≤ n) (h : 2 ≤ p ∧ p ≤ 7) (hm : m ≤ 30) : ∃ x, evF dfs fl sp n (Str.ofString "many_flips") [.p (.int p), .p (.int (m : Nat))] S = .ok (.i x) S := by
  obtain ⟨x, e1⟩ := c_many_folds (fl := fl) (sp := sp) (n := n - 1) (S := S) H (by omega) h hm
  obtain ⟨y, e2⟩ := c_many_at_once (fl := fl) (sp := sp) (n := n - 1) (S := S) H (by omega) h hm
  by_cases z : p = 2
  · subst z
    refine ⟨y, gives H.many_flips (by omega) rfl ?_⟩
    rw [sh_many_flips]
    refine seq_rt ?_
    simp [arrD, e2]
  · refine ⟨x, gives H.many_flips (by omega) rfl ?_⟩
    rw [sh_many_flips]
    refine seq_rt ?_
    simp [arrD, e1, z]
end
end Lb

set_option linter.all false
set_option maxRecDepth 100000
set_option maxHeartbeats 1000000
namespace Lb
open PySem PySem.Spec L2 Dl Lf
/-! LibTc: what raises; a call in a def that catches. -/
@[simp] theorem s_rais {c : Str} {F : Slots → Sto → Res D} {ρ : Slots} {S : Sto} : sRaise c F ρ S = (F ρ S).out fun d S1 => .ex c d S1 := rfl
theorem e_rsd {G : Fns} {g f : Str} {a b : Nat} {arr : Arr} {is ks : List Nat} {ρ : Slots} {S : Sto} : fRsd G g f a b arr is ks ρ S = rsdK G g (fCall (G f) a b arr (fVars is) (fVars ks) ρ S) := rfl
@[simp] theorem v_nil {ρ : Slots} {S : Sto} : fVars [] ρ S = .ok [] S := rfl
@[simp] theorem v_cons {i : Nat} {is : List Nat} {ρ : Slots} {S : Sto} : fVars (i :: is) ρ S = (fVar i ρ S).bind fun x S1 => (fVars is ρ S1).bind fun xs S2 => .ok (x :: xs) S2 := rfl
/-- what a call tells, where the def g stands for what is caught -/
theorem rsd_ok {G : Fns} {g : Str} {v r : D} {S S1 : Sto} (h : G g [v] S = .ok r S1) : rsdK G g (.ok v S) = .ok r S1 := by simp [rsdK, h]
theorem rsd_ex {G : Fns} {g c : Str} {v r : D} {S S1 : Sto} (h : G g [.s c, v] S = .ok r S1) : rsdK G g (.ex c v S) = .ok r S1 := by simp [rsdK, h]
section
variable {dfs : List Df} {fl : List (Str × Str)} {sp : Fns → Fns} {S S' : Sto} {n : Nat} {f g c : Str} {k N : Nat} {b : Sms}
/-- the def's body raises -/
theorem raises (h : HasB dfs f k N b) (hn : 1 ≤ n) {ds : List D} (hl : ds.length = k) {v : PyData} (e : evSs (evF dfs fl sp (n - 1)) fl b (ds.map some ++ List.replicate (N - k) none) S = .ex c (.p v) S) : evF dfs fl sp n f ds S = .ex c (.p v) S := by
  rw [at' h hn hl, e, fin_ex0]
/-- no def of the text -/
def NoB (dfs : List Df) (g : Str) : Prop := dfs.find? (fun e => decide (e.name = g)) = none
theorem at_sp (h : NoB dfs g) (hn : 1 ≤ n) (ds : List D) (S : Sto) : evF dfs fl sp n g ds S = sp (evF dfs fl sp (n - 1)) g ds S := by
  obtain ⟨m, rfl⟩ : ∃ m, n = m + 1 := ⟨n - 1, by omega⟩
  show (match dfs.find? (fun d => decide (d.name = g)) with
    | some d => _
    | none => _) = _
  rw [show dfs.find? (fun d => decide (d.name = g)) = none from h]
  rfl
end
structure HNeed (D : List Df) : Prop where
  need_prime : HasB D (Str.ofString "need_prime") 1 1 B_need_prime
  need_integer : HasB D (Str.ofString "need_integer") 3 3 B_need_integer
/-- an integer from a on, to b if b is one -/
def isFr (a : Int) (b : Option Int) : PyData → Bool
  | .int i => decide (a ≤ i) && (match b with
    | some b => decide (i ≤ b)
    | none => true)
  | _ => false
def mostP : Option Int → PyData
  | some b => .int b
  | none => .none
section
variable {dfs : List Df} {fl : List (Str × Str)} {sp : Fns → Fns} {S : Sto} {n : Nat} {x : PyData}
theorem k_need_prime (H : HNeed dfs) (HT : HTab dfs) (hn : 3 ≤ n) : evF dfs fl sp n (Str.ofString "need_prime") [.p x] S = if isPr x then .ok .n S else .ex (Str.ofString "BadPrime") (.p x) S := by
  have q := k_is_prime (fl := fl) (sp := sp) (n := n - 1) (S := S) (x := x) HT (by omega)
  by_cases z : isPr x = true
  · rw [if_pos z]
    rw [z] at q
    refine ends (ρ := [some (.p x)]) H.need_prime (by omega) rfl ?_
    simp [B_need_prime, evSs, evS, ev, evs, Exs.len, arrD, q]
  · rw [if_neg z]
    rw [Bool.not_eq_true] at z
    rw [z] at q
    refine raises H.need_prime (by omega) rfl ?_
    simp [B_need_prime, evSs, evS, ev, evs, Exs.len, arrD, q]
theorem k_need_integer (H : HNeed dfs) (HT : HTab dfs) (hn : 2 ≤ n) {a : Int} {b : Option Int} : evF dfs fl sp n (Str.ofString "need_integer") [.p x, .p (.int a), .p (mostP b)] S = if isFr a b x then .ok .n S else .ex (Str.ofString "BadNumber") (.p x) S := by
  have q := k_is_integer (fl := fl) (sp := sp) (n := n - 1) (S := S) (x := x) HT (by omega)
  by_cases z : isFr a b x = true
  · rw [if_pos z]
    cases x with
    | int i =>
      simp only [isFr, Bool.and_eq_true, decide_eq_true_eq] at z
      refine ends (ρ := [some (.p (.int i)), some (.p (.int a)), some (.p (mostP b))]) H.need_integer (by omega) rfl ?_
      have l : ¬ i < a := by omega
      cases b with
      | none => simp [B_need_integer, evSs, evS, ev, evOr, evAnd, evs, Exs.len, arrD, q, isIn, mostP, l]
      | some b =>
        have l2 : ¬ b < i := by have := z.2; simp at this; omega
        simp [B_need_integer, evSs, evS, ev, evOr, evAnd, evs, Exs.len, arrD, q, isIn, mostP, l, l2]
    | _ => cases z
  · rw [if_neg z]
    rw [Bool.not_eq_true] at z
    refine raises H.need_integer (by omega) rfl ?_
    cases x with
    | int i =>
      simp only [isFr] at z
      by_cases l : i < a
      · simp [B_need_integer, evSs, evS, ev, evOr, evAnd, evs, Exs.len, arrD, q, isIn, l]
      · have l' : a ≤ i := by omega
        cases b with
        | none => simp [l'] at z
        | some b =>
          have l2 : b < i := by simpa [l'] using z
          simp [B_need_integer, evSs, evS, ev, evOr, evAnd, evs, Exs.len, arrD, q, isIn, mostP, l, l2]
    | _ => simp [B_need_integer, evSs, evS, ev, evOr, evAnd, evs, Exs.len, arrD, q, isIn]
end
end Lb

set_option linter.all false
set_option maxRecDepth 100000
set_option maxHeartbeats 1000000
namespace Lb
open PySem PySem.Spec L2 Dl Lf
/-! LibTd: counts of any values, and what is caught of them (k73). -/
theorem flat_strs : ∀ ns : List Str, (ns.map PyData.str).all flatP = true
  | [] => rfl
  | _ :: ns => by simp only [List.map_cons, List.all_cons, flat_strs ns, flatP, Bool.and_self]
theorem any_strs (x : Str) : ∀ ns : List Str, ((ns.map PyData.str).any fun z => PyData.eqv z (.str x)) = decide (x ∈ ns)
  | [] => by simp
  | n :: ns => by
    simp only [List.map_cons, List.any_cons, any_strs x ns, PyData.eqv, List.mem_cons]
    by_cases h : n = x
    · subst h; simp
    · have h' : ¬ x = n := fun z => h z.symm
      simp [h, h', BEq.beq]
section
variable {S : Sto}
theorem o_inS {x : Str} (ns : List Str) : opCmp .In (.p (.str x)) (.p (.tuple (ns.map PyData.str))) S = .ok (.b (decide (x ∈ ns))) S := by
  show opIn false (.p (.str x)) (.p (.tuple (ns.map PyData.str))) S = _
  unfold opIn
  simp only [dct_p]
  rw [if_pos ⟨rfl, flat_strs ns⟩, any_strs]
  simp
theorem o_ninS {x : Str} (ns : List Str) : opCmp .NotIn (.p (.str x)) (.p (.tuple (ns.map PyData.str))) S = .ok (.b (!decide (x ∈ ns))) S := by
  show opIn true (.p (.str x)) (.p (.tuple (ns.map PyData.str))) S = _
  unfold opIn
  simp only [dct_p]
  rw [if_pos ⟨rfl, flat_strs ns⟩, any_strs]
  simp
end
abbrev wsK : List Str := [Str.ofString "tables", Str.ofString "undoable", Str.ofString "folds", Str.ofString "flips", Str.ofString "fallers", Str.ofString "at once", Str.ofString "symmetric"]
def isCw : PyData → Bool
  | .str s => decide (s ∈ wsK)
  | _ => false
structure HCn (D : List Df) : Prop where
  cnt : HCnt D
  tab : HTab D
  need : HNeed D
  size : HasB D (Str.ofString "need_size") 2 2 B_need_size
  count_of : HasB D (Str.ofString "count_of") 3 3 B_count_of
  count_rank : HasB D (Str.ofString "count_rank") 3 3 B_count_rank
  count_free : HasB D (Str.ofString "count_free") 3 3 B_count_free
section
variable {dfs : List Df} {fl : List (Str × Str)} {sp : Fns → Fns} {S : Sto} {n : Nat} {w x y z : PyData}
theorem k_need_size (H : HCn dfs) (hn : 4 ≤ n) : evF dfs fl sp n (Str.ofString "need_size") [.p x, .p y] S = if isPr x then (if isFr 1 (some 30) y then .ok .n S else .ex (Str.ofString "BadNumber") (.p y) S) else .ex (Str.ofString "BadPrime") (.p x) S := by
  have q1 := k_need_prime (fl := fl) (sp := sp) (n := n - 1) (S := S) (x := x) H.need H.tab (by omega)
  have q2 := k_need_integer (fl := fl) (sp := sp) (n := n - 1) (S := S) (x := y) H.need H.tab (by omega) (a := 1) (b := some 30)
  simp only [mostP] at q2
  by_cases h1 : isPr x = true
  · rw [if_pos h1] at q1 ⊢
    by_cases h2 : isFr 1 (some 30) y = true
    · rw [if_pos h2] at q2 ⊢
      refine ends (ρ := [some (.p x), some (.p y)]) H.size (by omega) rfl ?_
      rw [sh_need_size]
      simp [arrD, q1, q2]
    · rw [if_neg h2] at q2 ⊢
      refine raises H.size (by omega) rfl ?_
      rw [sh_need_size]
      simp [arrD, q1, q2]
  · rw [if_neg h1] at q1 ⊢
    refine raises H.size (by omega) rfl ?_
    rw [sh_need_size]
    simp [arrD, q1]
theorem fr_nat {a : Int} {b : Int} (ha : 0 ≤ a) (h : isFr a (some b) x = true) : ∃ m : Nat, x = .int (m : Nat) ∧ a ≤ m ∧ (m : Int) ≤ b := by
  cases x with
  | int i =>
    simp only [isFr, Bool.and_eq_true, decide_eq_true_eq] at h
    exact ⟨i.toNat, by congr 1; omega, by omega, by omega⟩
  | _ => cases h
/-- a def that first looks at its size -/
theorem sz_ex {c : Str} {v : PyData} {rest : Slots → Sto → Out} {ρ : Slots} {Fs : Slots → Sto → Res D} (e : Fs ρ S = .ex c (.p v) S) : sSeq (sExp Fs) rest ρ S = .ex c (.p v) S := by
  rw [s_seq, s_exp, e]
  rfl
theorem k_count_of (H : HCn dfs) (hn : 6 ≤ n) : ∃ i : Int, evF dfs fl sp n (Str.ofString "count_of") [.p w, .p x, .p y] S =
    if isCw w then (if isPr x then (if isFr 1 (some 30) y then .ok (.i i) S else .ex (Str.ofString "BadNumber") (.p y) S) else .ex (Str.ofString "BadPrime") (.p x) S) else .ex (Str.ofString "BadWord") (.p w) S := by
  have q := k_need_size (fl := fl) (sp := sp) (n := n - 1) (S := S) (x := x) (y := y) H (by omega)
  by_cases h0 : isCw w = true
  · simp only [if_pos h0]
    obtain ⟨s, rfl, hs⟩ : ∃ s, w = .str s ∧ s ∈ wsK := by
      cases w with
      | str s => exact ⟨s, rfl, by simpa [isCw] using h0⟩
      | _ => cases h0
    have hin : opCmp .NotIn (.p (.str s)) (.p (.tuple [(.str (Str.ofString "tables")), (.str (Str.ofString "undoable")), (.str (Str.ofString "folds")), (.str (Str.ofString "flips")), (.str (Str.ofString "fallers")), (.str (Str.ofString "at once")), (.str (Str.ofString "symmetric"))])) S = .ok (.b false) S := by
      have := o_ninS (S := S) (x := s) wsK
      rw [decide_eq_true hs] at this
      exact this
    by_cases h1 : isPr x = true
    · rw [if_pos h1] at q
      simp only [if_pos h1]
      by_cases h2 : isFr 1 (some 30) y = true
      · rw [if_pos h2] at q
        simp only [if_pos h2]
        obtain ⟨p, rfl, hp⟩ := isPr_iff.mp h1
        obtain ⟨m, rfl, m1, m2⟩ := fr_nat (by decide) h2
        have hp' := hp.pos
        have m30 : m ≤ 30 := by omega
        have go : ∀ (i : Int) (K : Slots → Sto → Out), K [some (.p (.str s)), some (.p (.int p)), some (.p (.int (m : Nat)))] S = .rt (.i i) S →
            sSeq (sIf (gOr (gNot (fTru (fIsi .str (fVar 0)))) (fTru (fCmp .NotIn (fVar 0) (fC (.tuple [(.str (Str.ofString "tables")), (.str (Str.ofString "undoable")), (.str (Str.ofString "folds")), (.str (Str.ofString "flips")), (.str (Str.ofString "fallers")), (.str (Str.ofString "at once")), (.str (Str.ofString "symmetric"))]))))) (sSeq (sRaise (Str.ofString "BadWord") (fVar 0)) sNil) sNil) (sSeq (sExp (fCall (evF dfs fl sp (n - 1) (Str.ofString "need_size")) 2 0 [.inl 0, .inl 1] (fCons (fVar 1) (fCons (fVar 2) fNil)) fNil)) K) [some (.p (.str s)), some (.p (.int p)), some (.p (.int (m : Nat)))] S = .rt (.i i) S := fun i K e => by
          refine seq_nx (ρ' := [some (.p (.str s)), some (.p (.int p)), some (.p (.int (m : Nat)))]) (S' := S) ?_ (seq_nx (ρ' := [some (.p (.str s)), some (.p (.int p)), some (.p (.int (m : Nat)))]) (S' := S) ?_ e)
          · simp [tyP, Ty.sub, hin]
          · simp [arrD, q]
        have c1 := c_many_free (fl := fl) (sp := sp) (n := n - 1) (S := S) (p := p) H.cnt (by omega) (by omega) (m := m) (k := m) m30 (by omega)
        obtain ⟨i2, c2⟩ := c_many_folds (fl := fl) (sp := sp) (n := n - 1) (S := S) (p := p) H.cnt (by omega) (by omega) (m := m) m30
        obtain ⟨i3, c3⟩ := c_many_flips (fl := fl) (sp := sp) (n := n - 1) (S := S) (p := p) H.cnt (by omega) (by omega) (m := m) m30
        obtain ⟨i4, c4⟩ := c_many_at_once (fl := fl) (sp := sp) (n := n - 1) (S := S) (p := p) H.cnt (by omega) (by omega) (m := m) m30
        have sq : m * m ≤ 900 := Nat.mul_le_mul m30 m30
        have sq1 : m * (m + 1) ≤ 930 := Nat.mul_le_mul m30 (show m + 1 ≤ 31 by omega)
        have c5 := c_powered (fl := fl) (sp := sp) (n := n - 1) (S := S) (p := p) H.cnt.powered (by omega) (by omega) (k := m * m - m) (by omega)
        have c6 := c_powered (fl := fl) (sp := sp) (n := n - 1) (S := S) (p := p) H.cnt.powered (by omega) (by omega) (k := m * m) (by omega)
        have c7 := c_powered (fl := fl) (sp := sp) (n := n - 1) (S := S) (p := p) H.cnt.powered (by omega) (by omega) (k := m * (m + 1) / 2) (by omega)
        have le : m ≤ m * m := by
          cases m with
          | zero => simp
          | succ m => exact Nat.le_mul_of_pos_left _ (by omega)
        have mm : (m : Int) * m = ((m * m : Nat) : Int) := by simp
        have mm1 : (m : Int) * ((m : Int) + 1) = ((m * (m + 1) : Nat) : Int) := by simp
        have e1 : ((m * m : Nat) : Int) - (m : Int) = ((m * m - m : Nat) : Int) := by omega
        have e2 : ((m * (m + 1) : Nat) : Int) / 2 = ((m * (m + 1) / 2 : Nat) : Int) := by omega
        have mu := o_mul6 (S := S) (m := false) (a := (m : Int)) (b := (m : Int)) (by omega) (by omega)
        have mu1 := o_mul6 (S := S) (m := false) (a := (m : Int)) (b := (m : Int) + 1) (by omega) (by omega)
        have dv := o_div (S := S) (m := false) (a := ((m * (m + 1) : Nat) : Int)) (b := 2) (by decide) (by decide)
        rw [mm] at mu
        rw [mm1] at mu1
        rw [e2] at dv
        generalize hA : m * m - m = A at *
        generalize hB : m * m = B at *
        generalize hC : m * (m + 1) / 2 = C at *
        generalize hE : m * (m + 1) = E at *
        have sub : opBin .Sub false (.p (.int (B : Nat))) (.p (.int (m : Nat))) S = .ok (.i (A : Nat)) S := by rw [o_sub, e1]
        have ne : ¬ Str.ofString "folds" = Str.ofString "undoable" ∧ ¬ Str.ofString "flips" = Str.ofString "undoable" ∧ ¬ Str.ofString "flips" = Str.ofString "folds" ∧ ¬ Str.ofString "at once" = Str.ofString "undoable" ∧ ¬ Str.ofString "at once" = Str.ofString "folds" ∧ ¬ Str.ofString "at once" = Str.ofString "flips" ∧ ¬ Str.ofString "fallers" = Str.ofString "undoable" ∧ ¬ Str.ofString "fallers" = Str.ofString "folds" ∧ ¬ Str.ofString "fallers" = Str.ofString "flips" ∧ ¬ Str.ofString "fallers" = Str.ofString "at once" ∧ ¬ Str.ofString "tables" = Str.ofString "undoable" ∧ ¬ Str.ofString "tables" = Str.ofString "folds" ∧ ¬ Str.ofString "tables" = Str.ofString "flips" ∧ ¬ Str.ofString "tables" = Str.ofString "at once" ∧ ¬ Str.ofString "tables" = Str.ofString "fallers" := by decide
        by_cases t1 : s = Str.ofString "undoable"
        · exact ⟨_, gives H.count_of (by omega) rfl (by rw [sh_count_of]; refine go (frI p m m) _ ?_; simp [t1, arrD, c1])⟩
        · by_cases t2 : s = Str.ofString "folds"
          · exact ⟨i2, gives H.count_of (by omega) rfl (by rw [sh_count_of]; refine go _ _ ?_; simp [t2, ne, arrD, c2])⟩
          · by_cases t3 : s = Str.ofString "flips"
            · exact ⟨i3, gives H.count_of (by omega) rfl (by rw [sh_count_of]; refine go _ _ ?_; simp [t3, ne, arrD, c3])⟩
            · by_cases t4 : s = Str.ofString "at once"
              · exact ⟨i4, gives H.count_of (by omega) rfl (by rw [sh_count_of]; refine go _ _ ?_; simp [t4, ne, arrD, c4])⟩
              · by_cases t5 : s = Str.ofString "fallers"
                · exact ⟨p ^ A, gives H.count_of (by omega) rfl (by rw [sh_count_of]; refine go _ _ ?_; simp [t5, ne, arrD, mu, sub, c5])⟩
                · by_cases t6 : s = Str.ofString "tables"
                  · exact ⟨p ^ B, gives H.count_of (by omega) rfl (by rw [sh_count_of]; refine go _ _ ?_; simp [t6, ne, arrD, mu, c6])⟩
                  · exact ⟨p ^ C, gives H.count_of (by omega) rfl (by rw [sh_count_of]; refine go _ _ ?_; simp [t1, t2, t3, t4, t5, t6, arrD, mu1, dv, c7])⟩
      · rw [if_neg h2] at q
        simp only [if_neg h2]
        refine ⟨0, raises H.count_of (by omega) rfl ?_⟩
        rw [sh_count_of]
        refine seq_nx (ρ' := [some (.p (.str s)), some (.p x), some (.p y)]) (S' := S) (by simp [tyP, Ty.sub, hin]) (by rw [s_seq]; simp [arrD, q])
    · rw [if_neg h1] at q
      simp only [if_neg h1]
      refine ⟨0, raises H.count_of (by omega) rfl ?_⟩
      rw [sh_count_of]
      refine seq_nx (ρ' := [some (.p (.str s)), some (.p x), some (.p y)]) (S' := S) (by simp [tyP, Ty.sub, hin]) (by rw [s_seq]; simp [arrD, q])
  · simp only [if_neg h0]
    refine ⟨0, raises H.count_of (by omega) rfl ?_⟩
    rw [sh_count_of, s_seq]
    cases w with
    | str s =>
      have hs : ¬ s ∈ wsK := by simpa [isCw] using h0
      have hin : opCmp .NotIn (.p (.str s)) (.p (.tuple [(.str (Str.ofString "tables")), (.str (Str.ofString "undoable")), (.str (Str.ofString "folds")), (.str (Str.ofString "flips")), (.str (Str.ofString "fallers")), (.str (Str.ofString "at once")), (.str (Str.ofString "symmetric"))])) S = .ok (.b true) S := by
        have := o_ninS (S := S) (x := s) wsK
        rw [decide_eq_false hs] at this
        exact this
      simp [tyP, Ty.sub, hin]
    | _ => simp [tyP, Ty.sub]
/-- what a size that was looked at leaves to be done -/
theorem sz_go {G : Fns} {K : Slots → Sto → Out} {a b : PyData} {c : D} {r : Out} {ρ : Slots} (hρ : ρ = [some (.p a), some (.p b), some c]) (q : G (Str.ofString "need_size") [.p a, .p b] S = .ok .n S) (e : K ρ S = r) :
    sSeq (sExp (fCall (G (Str.ofString "need_size")) 2 0 [.inl 0, .inl 1] (fCons (fVar 0) (fCons (fVar 1) fNil)) fNil)) K ρ S = r := by
  subst hρ
  exact seq_nx (ρ' := _) (S' := S) (by simp [arrD, q]) e
theorem k_count_free (H : HCn dfs) (hn : 6 ≤ n) : ∃ i : Int, evF dfs fl sp n (Str.ofString "count_free") [.p x, .p y, .p z] S =
    if isPr x then (if isFr 1 (some 30) y then (if isFr 0 (some (toI y)) z then .ok (.i i) S else .ex (Str.ofString "BadNumber") (.p z) S) else .ex (Str.ofString "BadNumber") (.p y) S) else .ex (Str.ofString "BadPrime") (.p x) S := by
  have q := k_need_size (fl := fl) (sp := sp) (n := n - 1) (S := S) (x := x) (y := y) H (by omega)
  by_cases h1 : isPr x = true
  · rw [if_pos h1] at q
    simp only [if_pos h1]
    by_cases h2 : isFr 1 (some 30) y = true
    · rw [if_pos h2] at q
      simp only [if_pos h2]
      obtain ⟨p, rfl, hp⟩ := isPr_iff.mp h1
      obtain ⟨m, rfl, m1, m2⟩ := fr_nat (by decide) h2
      have hp' := hp.pos
      have m30 : m ≤ 30 := by omega
      have q2 := k_need_integer (fl := fl) (sp := sp) (n := n - 1) (S := S) (x := z) H.need H.tab (by omega) (a := 0) (b := some (m : Int))
      simp only [mostP] at q2
      show ∃ i : Int, _ = if isFr 0 (some ((m : Nat) : Int)) z = true then _ else _
      by_cases h3 : isFr 0 (some ((m : Nat) : Int)) z = true
      · rw [if_pos h3] at q2
        simp only [if_pos h3]
        obtain ⟨k, rfl, k1, k2⟩ := fr_nat (by decide) h3
        have c1 := c_many_free (fl := fl) (sp := sp) (n := n - 1) (S := S) (p := p) H.cnt (by omega) (by omega) (m := m) (k := k) m30 (by omega)
        refine ⟨frI p m k, gives H.count_free (by omega) rfl ?_⟩
        rw [sh_count_free]
        refine sz_go rfl q ?_
        simp [arrD, q2, c1]
      · rw [if_neg h3] at q2
        simp only [if_neg h3]
        refine ⟨0, raises H.count_free (by omega) rfl ?_⟩
        rw [sh_count_free]
        refine sz_go rfl q ?_
        simp [arrD, q2]
    · rw [if_neg h2] at q
      simp only [if_neg h2]
      refine ⟨0, raises H.count_free (by omega) rfl ?_⟩
      rw [sh_count_free]
      exact sz_ex (by simp [arrD, q])
  · rw [if_neg h1] at q
    simp only [if_neg h1]
    refine ⟨0, raises H.count_free (by omega) rfl ?_⟩
    rw [sh_count_free]
    exact sz_ex (by simp [arrD, q])
theorem k_count_rank (H : HCn dfs) (hn : 6 ≤ n) : ∃ i : Int, evF dfs fl sp n (Str.ofString "count_rank") [.p x, .p y, .p z] S =
    if isPr x then (if isFr 1 (some 30) y then (if isFr 0 (some (toI y)) z then .ok (.i i) S else .ex (Str.ofString "BadNumber") (.p z) S) else .ex (Str.ofString "BadNumber") (.p y) S) else .ex (Str.ofString "BadPrime") (.p x) S := by
  have q := k_need_size (fl := fl) (sp := sp) (n := n - 1) (S := S) (x := x) (y := y) H (by omega)
  by_cases h1 : isPr x = true
  · rw [if_pos h1] at q
    simp only [if_pos h1]
    by_cases h2 : isFr 1 (some 30) y = true
    · rw [if_pos h2] at q
      simp only [if_pos h2]
      obtain ⟨p, rfl, hp⟩ := isPr_iff.mp h1
      obtain ⟨m, rfl, m1, m2⟩ := fr_nat (by decide) h2
      have hp' := hp.pos
      have m30 : m ≤ 30 := by omega
      have q2 := k_need_integer (fl := fl) (sp := sp) (n := n - 1) (S := S) (x := z) H.need H.tab (by omega) (a := 0) (b := some (m : Int))
      simp only [mostP] at q2
      show ∃ i : Int, _ = if isFr 0 (some ((m : Nat) : Int)) z = true then _ else _
      by_cases h3 : isFr 0 (some ((m : Nat) : Int)) z = true
      · rw [if_pos h3] at q2
        simp only [if_pos h3]
        obtain ⟨k, rfl, k1, k2⟩ := fr_nat (by decide) h3
        have c1 := c_many_free (fl := fl) (sp := sp) (n := n - 1) (S := S) (p := p) H.cnt (by omega) (by omega) (m := m) (k := k) m30 (by omega)
        have c2 := c_many_spans (fl := fl) (sp := sp) (n := n - 1) (S := S) (p := p) H.cnt (by omega) (by omega) (m := m) (k := k) m30 (by omega)
        have a1 := sp_in (p := p) (by omega) (m := m) (k := k) m30 (by omega)
        have a2 := fr_pos (p := p) (by omega) (m := m) (k := k) m30 (by omega)
        generalize frI p m k / frI p k k = s1 at *
        have mu := o_mulB (S := S) (m := false) (a := s1) (b := frI p m k) (k := 2701) (abs_lt (by omega) a1.2) (abs_lt (by omega) a2.2) (by omega)
        refine ⟨s1 * frI p m k, gives H.count_rank (by omega) rfl ?_⟩
        rw [sh_count_rank]
        refine sz_go rfl q ?_
        simp [arrD, q2, c1, c2, mu]
      · rw [if_neg h3] at q2
        simp only [if_neg h3]
        refine ⟨0, raises H.count_rank (by omega) rfl ?_⟩
        rw [sh_count_rank]
        refine sz_go rfl q ?_
        simp [arrD, q2]
    · rw [if_neg h2] at q
      simp only [if_neg h2]
      refine ⟨0, raises H.count_rank (by omega) rfl ?_⟩
      rw [sh_count_rank]
      exact sz_ex (by simp [arrD, q])
  · rw [if_neg h1] at q
    simp only [if_neg h1]
    refine ⟨0, raises H.count_rank (by omega) rfl ?_⟩
    rw [sh_count_rank]
    exact sz_ex (by simp [arrD, q])
/-- the def that catches, of counts -/
structure HTold (dfs : List Df) (sp : Fns → Fns) : Prop where
  no : NoB dfs (Str.ofString "_law_told")
  ok : ∀ G x S, sp G (Str.ofString "_law_told") [.p x] S = .ok (.b (isIn x)) S
  w : ∀ G x S, sp G (Str.ofString "_law_told") [.s (Str.ofString "BadWord"), .p x] S = .ok (.p (.tuple [.list [.bool true, .bool false, .bool false, .bool false], x])) S
  p : ∀ G x S, sp G (Str.ofString "_law_told") [.s (Str.ofString "BadPrime"), .p x] S = .ok (.p (.tuple [.list [.bool false, .bool true, .bool false, .bool false], x])) S
  n : ∀ G x S, sp G (Str.ofString "_law_told") [.s (Str.ofString "BadNumber"), .p x] S = .ok (.p (.tuple [.list [.bool false, .bool false, .bool true, .bool false], x])) S
abbrev wP (x : PyData) : PyData := .tuple [.list [.bool true, .bool false, .bool false, .bool false], x]
abbrev pP (x : PyData) : PyData := .tuple [.list [.bool false, .bool true, .bool false, .bool false], x]
abbrev nP (x : PyData) : PyData := .tuple [.list [.bool false, .bool false, .bool true, .bool false], x]
/-- what is due -/
def dueA (w x y : PyData) : PyData := if isCw w then (if isPr x then (if isFr 1 (some 30) y then .bool true else nP y) else pP x) else wP w
def dueB (x y z : PyData) : PyData := if isPr x then (if isFr 1 (some 30) y then (if isFr 0 (some (toI y)) z then .bool true else nP z) else nP y) else pP x
theorem t_of (H : HCn dfs) (T : HTold dfs sp) (hn : 6 ≤ n) : rsdK (evF dfs fl sp n) (Str.ofString "_law_told") (evF dfs fl sp n (Str.ofString "count_of") [.p w, .p x, .p y] S) = .ok (.p (dueA w x y)) S := by
  obtain ⟨i, e⟩ := k_count_of (fl := fl) (sp := sp) (n := n) (S := S) (w := w) (x := x) (y := y) H hn
  have at_ := at_sp (fl := fl) (sp := sp) (n := n) T.no (by omega)
  rw [e]
  unfold dueA
  split
  · split
    · split
      · exact rsd_ok ((at_ _ _).trans (T.ok _ _ _))
      · exact rsd_ex ((at_ _ _).trans (T.n _ _ _))
    · exact rsd_ex ((at_ _ _).trans (T.p _ _ _))
  · exact rsd_ex ((at_ _ _).trans (T.w _ _ _))
theorem t_rank (H : HCn dfs) (T : HTold dfs sp) (hn : 6 ≤ n) : rsdK (evF dfs fl sp n) (Str.ofString "_law_told") (evF dfs fl sp n (Str.ofString "count_rank") [.p x, .p y, .p z] S) = .ok (.p (dueB x y z)) S := by
  obtain ⟨i, e⟩ := k_count_rank (fl := fl) (sp := sp) (n := n) (S := S) (x := x) (y := y) (z := z) H hn
  have at_ := at_sp (fl := fl) (sp := sp) (n := n) T.no (by omega)
  rw [e]
  unfold dueB
  split
  · split
    · split
      · exact rsd_ok ((at_ _ _).trans (T.ok _ _ _))
      · exact rsd_ex ((at_ _ _).trans (T.n _ _ _))
    · exact rsd_ex ((at_ _ _).trans (T.n _ _ _))
  · exact rsd_ex ((at_ _ _).trans (T.p _ _ _))
theorem t_free (H : HCn dfs) (T : HTold dfs sp) (hn : 6 ≤ n) : rsdK (evF dfs fl sp n) (Str.ofString "_law_told") (evF dfs fl sp n (Str.ofString "count_free") [.p x, .p y, .p z] S) = .ok (.p (dueB x y z)) S := by
  obtain ⟨i, e⟩ := k_count_free (fl := fl) (sp := sp) (n := n) (S := S) (x := x) (y := y) (z := z) H hn
  have at_ := at_sp (fl := fl) (sp := sp) (n := n) T.no (by omega)
  rw [e]
  unfold dueB
  split
  · split
    · split
      · exact rsd_ok ((at_ _ _).trans (T.ok _ _ _))
      · exact rsd_ex ((at_ _ _).trans (T.n _ _ _))
    · exact rsd_ex ((at_ _ _).trans (T.n _ _ _))
  · exact rsd_ex ((at_ _ _).trans (T.p _ _ _))
theorem k_is_from (H : HasB dfs (Str.ofString "_law_is_from") 3 3 B__law_is_from) (hn : 1 ≤ n) {a b : Int} : evF dfs fl sp n (Str.ofString "_law_is_from") [.p x, .p (.int a), .p (.int b)] S = .ok (.b (isFr a (some b) x)) S := by
  refine gives H hn rfl ?_
  rw [sh__law_is_from]
  refine seq_rt ?_
  cases x with
  | int i =>
    simp only [isFr]
    by_cases h : a ≤ i <;> simp [tyP, Ty.sub, h]
  | _ => simp [tyP, Ty.sub, isFr]
end
end Lb

set_option linter.all false
set_option maxRecDepth 100000
set_option maxHeartbeats 1000000
namespace Lb
open PySem PySem.Spec L2 Dl Lf
/-! LibTe: what is due of any values (k73). -/
section
variable {S : Sto}
/-- a list made here, at the store's end -/
theorem new_at {xs : List D} : (S ++ [Cell.lst xs])[S.length]? = some (.lst xs) := by simp
theorem set_end {xs ys : List D} : (S ++ [Cell.lst xs]).set S.length (.lst ys) = S ++ [.lst ys] := by
  rw [List.set_append_right (h := Nat.le_refl _)]
  simp
theorem app_new {xs : List D} {d : D} (hz : xs.length ≤ 100) : opMt false .append (.loc S.length) [d] (S ++ [.lst xs]) = .ok .n (S ++ [.lst (xs ++ [d])]) := by
  have lt : xs.length < sizeLine := Nat.lt_of_le_of_lt hz (by decide)
  simp only [opMt, cellL, new_at, lt, if_true, set_end]
theorem rcv_new {xs : List D} : rcv (.loc S.length) (S ++ [.lst xs]) = some "list" := by simp only [rcv, new_at]
theorem repr_loc {ds : List PyData} {m : Bool} {c : Nat} (h : S[c]? = some (.lst (ds.map D.p))) : opBn m .repr [.loc c] S = opBn m .repr [.p (.list ds)] S := by
  simp [opBn, asP, h]
theorem mul_l {d : PyData} {k : Nat} (hk : k ≤ 8) : opBin .Mult false (.p (.list [d])) (.p (.int (k : Nat))) S = .ok (.p (.list (List.replicate k d))) S := by
  have e : (List.replicate k [D.p d]).flatten = (List.replicate k d).map D.p := by simp
  show opMul false (.p (.list [d])) (.p (.int (k : Nat))) S = _
  have h1 : (1 : Nat) ≤ 1000 := by decide
  simp only [opMul, tupOf_list, lstOf_list, List.map_cons, List.map_nil, List.length_cons, List.length_nil, Int.toNat_natCast]
  rw [if_pos ⟨by omega, by omega, by omega⟩, e, mkL_map]
theorem add_l {a b : List PyData} (h : a.length + b.length ≤ 100) : opBin .Add false (.p (.list a)) (.p (.list b)) S = .ok (.p (.list (a ++ b))) S := by
  have lt : a.length + b.length ≤ sizeLine := Nat.le_trans h (by decide)
  show opAdd false (.p (.list a)) (.p (.list b)) S = _
  simp only [opAdd, tupOf_list, lstOf_list]
  rw [if_pos (by simpa using lt), ← List.map_append, mkL_map]
end
theorem Sh.str {x : Str} (h : (PyData.str x).showable = true) {b : Nat} (h2 : (PyData.str x).shown.length ≤ b) : Sh b 0 (.str x) := ⟨h, h2, by simp [PyData.depth]⟩
structure H73 (D : List Df) : Prop where
  cn : HCn D
  from_ : HasB D (Str.ofString "_law_is_from") 3 3 B__law_is_from
  due : HasB D (Str.ofString "_law_are_due") 4 12 B__law_are_due
section
variable {dfs : List Df} {fl : List (Str × Str)} {sp : Fns → Fns} {S : Sto} {n : Nat} {w x y z : PyData} {b : Nat}
theorem dueA_sh (hw : Sh b 9 w) (hx : Sh b 9 x) (hy : Sh b 9 y) (hb : 300 ≤ b) : Sh (2 * (b + 2) + 3) 10 (dueA w x y) := by
  have four : ∀ {c1 c2 c3 c4 : Bool}, Sh b 9 (.list [.bool c1, .bool c2, .bool c3, .bool c4]) := fun {c1 c2 c3 c4} => (Sh.lst (m := 4) (b := 70) (e := 0) (by
    intro d hd
    simp only [List.mem_cons, List.not_mem_nil, or_false] at hd
    rcases hd with rfl | rfl | rfl | rfl <;> exact Sh.bool) (by simp)).le (by omega) (by omega)
  have two : ∀ {l v : PyData}, Sh b 9 l → Sh b 9 v → Sh (2 * (b + 2) + 3) 10 (.tuple [l, v]) := fun {l v} h1 h2 => Sh.tup (m := 2) (by
    intro d hd
    simp only [List.mem_cons, List.not_mem_nil, or_false] at hd
    rcases hd with rfl | rfl
    · exact h1
    · exact h2) (by simp)
  unfold dueA
  split
  · split
    · split
      · exact Sh.bool.le (by omega) (by omega)
      · exact two four hy
    · exact two four hx
  · exact two four hw
theorem dueB_sh (hx : Sh b 9 x) (hy : Sh b 9 y) (hz : Sh b 9 z) (hb : 300 ≤ b) : Sh (2 * (b + 2) + 3) 10 (dueB x y z) := by
  have four : ∀ {c1 c2 c3 c4 : Bool}, Sh b 9 (.list [.bool c1, .bool c2, .bool c3, .bool c4]) := fun {c1 c2 c3 c4} => (Sh.lst (m := 4) (b := 70) (e := 0) (by
    intro d hd
    simp only [List.mem_cons, List.not_mem_nil, or_false] at hd
    rcases hd with rfl | rfl | rfl | rfl <;> exact Sh.bool) (by simp)).le (by omega) (by omega)
  have two : ∀ {l v : PyData}, Sh b 9 l → Sh b 9 v → Sh (2 * (b + 2) + 3) 10 (.tuple [l, v]) := fun {l v} h1 h2 => Sh.tup (m := 2) (by
    intro d hd
    simp only [List.mem_cons, List.not_mem_nil, or_false] at hd
    rcases hd with rfl | rfl
    · exact h1
    · exact h2) (by simp)
  unfold dueB
  split
  · split
    · split
      · exact Sh.bool.le (by omega) (by omega)
      · exact two four hz
    · exact two four hy
  · exact two four hx
theorem rep_sh {d : PyData} {k : Nat} (h : Sh b 10 d) (hk : k ≤ 4) : Sh (4 * (b + 2) + 3) 11 (.list (List.replicate k d)) := Sh.lst (m := 4) (fun y hy => by rw [List.eq_of_mem_replicate hy]; exact h) (by simpa using hk)
theorem k_are_due (H : H73 dfs) (T : HTold dfs sp) (hn : 7 ≤ n) (hw : Sh 100000 9 w) (hx : Sh 100000 9 x) (hy : Sh 100000 9 y) (hz : Sh 100000 9 z) :
    evF dfs fl sp n (Str.ofString "_law_are_due") [.p w, .p x, .p y, .p z] S = .ok (.b true) S := by
  have ta : ∀ S : Sto, rsdK (evF dfs fl sp (n - 1)) (Str.ofString "_law_told") (evF dfs fl sp (n - 1) (Str.ofString "count_of") [.p w, .p x, .p y] S) = .ok (.p (dueA w x y)) S := fun S => t_of H.cn T (by omega)
  have tb : ∀ S : Sto, rsdK (evF dfs fl sp (n - 1)) (Str.ofString "_law_told") (evF dfs fl sp (n - 1) (Str.ofString "count_rank") [.p x, .p y, .p z] S) = .ok (.p (dueB x y z)) S := fun S => t_rank H.cn T (by omega)
  have tc : ∀ S : Sto, rsdK (evF dfs fl sp (n - 1)) (Str.ofString "_law_told") (evF dfs fl sp (n - 1) (Str.ofString "count_free") [.p x, .p y, .p z] S) = .ok (.p (dueB x y z)) S := fun S => t_free H.cn T (by omega)
  have f1 := k_is_from (fl := fl) (sp := sp) (n := n - 1) (S := S) (x := x) H.from_ (by omega) (a := 2) (b := 7)
  have f2 := k_is_from (fl := fl) (sp := sp) (n := n - 1) (S := S) (x := y) H.from_ (by omega) (a := 1) (b := 30)
  have sz7 : (7 : Nat) ≤ sizeLine := by decide
  have sz4 : (4 : Nat) ≤ sizeLine := by decide
  have sz2 : (2 : Nat) ≤ sizeLine := by decide
  have sz1 : (1 : Nat) ≤ sizeLine := by decide
  have mk7 : ∀ a b c d e f g : PyData, mkT [.p a, .p b, .p c, .p d, .p e, .p f, .p g] = .p (.tuple [a, b, c, d, e, f, g]) := fun _ _ _ _ _ _ _ => rfl
  let ws : PyData := .tuple [(.str (Str.ofString "tables")), (.str (Str.ofString "undoable")), (.str (Str.ofString "folds")), (.str (Str.ofString "flips")), (.str (Str.ofString "fallers")), (.str (Str.ofString "at once")), (.str (Str.ofString "symmetric"))]
  -- the tests
  have e1 : fAnd (fIsi .str (fVar 0)) (fCmp .In (fVar 0) (fVar 4)) [some (.p w), some (.p x), some (.p y), some (.p z), some (.p ws), none, none, none, none, none, none, none] S = .ok (.b (isCw w)) S := by
    cases w with
    | str s =>
      have := o_inS (S := S) (x := s) wsK
      simp only [wsK, List.map_cons, List.map_nil] at this
      simp [tyP, Ty.sub, isCw, ws, this]
    | _ => simp [tyP, Ty.sub, isCw]
  have e2 : fAnd (fCall (evF dfs fl sp (n - 1) (Str.ofString "_law_is_from")) 3 0 [.inl 0, .inl 1, .inl 2] (fCons (fVar 1) (fCons (fC (.int 2)) (fCons (fC (.int 7)) fNil))) fNil) (fCmp .In (fVar 1) (fTup (fCons (fC (.int 2)) (fCons (fC (.int 3)) (fCons (fC (.int 5)) (fCons (fC (.int 7)) fNil)))))) [some (.p w), some (.p x), some (.p y), some (.p z), some (.p ws), none, none, none, none, none, none, none] S = .ok (.b (isPr x)) S := by
    cases x with
    | int i =>
      have h2 := o_inT (S := S) (x := i) [2, 3, 5, 7]
      simp only [List.map_cons, List.map_nil] at h2
      simp only [isFr] at f1
      by_cases c1 : 2 ≤ i <;> by_cases c2 : i ≤ 7
      · simp [arrD, f1, c1, c2, sz4, mk4, h2, isPr]
      all_goals (
        have : ¬ (i = 2 ∨ i = 3 ∨ i = 5 ∨ i = 7) := by omega
        simp [arrD, f1, c1, c2, isPr, this])
    | _ => simp [arrD, f1, isFr, isPr]
  have e3 : fCall (evF dfs fl sp (n - 1) (Str.ofString "_law_is_from")) 3 0 [.inl 0, .inl 1, .inl 2] (fCons (fVar 2) (fCons (fC (.int 1)) (fCons (fC (.int 30)) fNil))) fNil [some (.p w), some (.p x), some (.p y), some (.p z), some (.p ws), none, none, none, none, none, none, none] S = .ok (.b (isFr 1 (some 30) y)) S := by
    simp [arrD, f2]
  let nearF : Bool → Bool → List PyData := fun b2 b3 => (if b2 then [] else [pP x]) ++ (if b3 then [] else [nP y])
  let fstF : Bool → Bool → Bool → List PyData := fun b1 b2 b3 => (if b1 then [] else [wP w]) ++ nearF b2 b3 ++ [.bool true]
  let lstF : Bool → Bool → Bool → List PyData := fun b2 b3 b4 => nearF b2 b3 ++ (if b3 && b4 then [] else [nP z]) ++ [.bool true]
  have d1 : ∃ r, fstF (isCw w) (isPr x) (isFr 1 (some 30) y) = dueA w x y :: r := by
    have all : ∀ b1 b2 b3 : Bool, ∃ r, (if b1 then [] else [wP w]) ++ ((if b2 then [] else [pP x]) ++ (if b3 then [] else [nP y])) ++ [.bool true] = (if b1 then (if b2 then (if b3 then .bool true else nP y) else pP x) else wP w) :: r := by
      intro b1 b2 b3
      cases b1 <;> cases b2 <;> cases b3 <;> exact ⟨_, rfl⟩
    exact all _ _ _
  have d2 : ∃ r, lstF (isPr x) (isFr 1 (some 30) y) (isFr 0 (some (toI y)) z) = dueB x y z :: r := by
    have all : ∀ b2 b3 b4 : Bool, ∃ r, ((if b2 then [] else [pP x]) ++ (if b3 then [] else [nP y])) ++ (if b3 && b4 then [] else [nP z]) ++ [.bool true] = (if b2 then (if b3 then (if b4 then .bool true else nP z) else nP y) else pP x) :: r := by
      intro b2 b3 b4
      cases b2 <;> cases b3 <;> cases b4 <;> exact ⟨_, rfl⟩
    exact all _ _ _
  obtain ⟨r1, d1⟩ := d1
  obtain ⟨r2, d2⟩ := d2
  have sA := dueA_sh hw hx hy (by decide)
  have sB := dueB_sh hx hy hz (by decide)
  have pA : ∀ {m : Bool} {S : Sto}, opBn m .repr [.p (.list (List.replicate 2 (dueA w x y)))] S = .ok (.s (PyData.list (List.replicate 2 (dueA w x y))).shown) S := fun {m S} => (rep_sh (b := 200007) (sA.le (by decide) (by decide)) (by decide)).repr (by decide) (by decide)
  have pB : ∀ {m : Bool} {S : Sto}, opBn m .repr [.p (.list (List.replicate 4 (dueB x y z)))] S = .ok (.s (PyData.list (List.replicate 4 (dueB x y z))).shown) S := fun {m S} => (rep_sh (b := 200007) (sB.le (by decide) (by decide)) (by decide)).repr (by decide) (by decide)
  have e4 : isFr 1 (some 30) y = true → evF dfs fl sp (n - 1) (Str.ofString "_law_is_from") [.p z, .p (.int 0), .p y] S = .ok (.b (isFr 0 (some (toI y)) z)) S := fun h => by
    obtain ⟨m, rfl, _⟩ := fr_nat (by decide) h
    exact k_is_from H.from_ (by omega)
  generalize hA : dueA w x y = A at *
  generalize hB : dueB x y z = B at *
  clear hA hB
  generalize isCw w = b1 at *
  generalize isPr x = b2 at *
  generalize isFr 1 (some 30) y = b3 at *
  generalize isFr 0 (some (toI y)) z = b4 at *
  obtain ⟨near, hn0⟩ : ∃ l, l = nearF b2 b3 := ⟨_, rfl⟩
  obtain ⟨fst, hf0⟩ : ∃ l, l = fstF b1 b2 b3 := ⟨_, rfl⟩
  obtain ⟨lst, hl0⟩ : ∃ l, l = lstF b2 b3 b4 := ⟨_, rfl⟩
  have hf : fst = (if b1 then [] else [wP w]) ++ near ++ [.bool true] := by rw [hf0, hn0]
  have hl : lst = near ++ (if b3 && b4 then [] else [nP z]) ++ [.bool true] := by rw [hl0, hn0]
  rw [← hf0] at d1
  rw [← hl0] at d2
  have len : near.length ≤ 2 := by
    rw [hn0]
    cases b2 <;> cases b3 <;> simp [nearF]
  have key : evSs (evF dfs fl sp (n - 1)) fl B__law_are_due [some (.p w), some (.p x), some (.p y), some (.p z), none, none, none, none, none, none, none, none] S = .rt (.b true) (S ++ [.lst [.p A, .p A]] ++ [.lst [.p B, .p B, .p B, .p B]]) := by
    rw [sh__law_are_due]
    refine seq_nx (ρ' := [some (.p w), some (.p x), some (.p y), some (.p z), some (.p ws), none, none, none, none, none, none, none]) (S' := S) (by simp [sz7, mk7, ws]) ?_
    refine seq_nx (ρ' := [some (.p w), some (.p x), some (.p y), some (.p z), some (.p ws), none, none, none, none, some (.b b1), some (.b b2), some (.b b3)]) (S' := S) (by
      rw [s_par3]
      simp only [e_cons, e1, e2, e3, bind_ok, e_nil, out_ok]
      rfl) ?_
    refine seq_nx (ρ' := [some (.p w), some (.p x), some (.p y), some (.p z), some (.p ws), some (.p (.list (if b2 then [] else [pP x]))), none, none, none, some (.b b1), some (.b b2), some (.b b3)]) (S' := S) (by
      cases b2 <;> simp [sz4, sz2, sz1, mk2, mkL, allP]) ?_
    refine seq_nx (ρ' := [some (.p w), some (.p x), some (.p y), some (.p z), some (.p ws), some (.p (.list near)), none, none, none, some (.b b1), some (.b b2), some (.b b3)]) (S' := S) (by
      rw [hn0]
      cases b2 <;> cases b3 <;> simp [sz4, sz2, sz1, mk2, mkL, allP, opBin, opAdd, nearF]) ?_
    refine seq_nx (ρ' := [some (.p w), some (.p x), some (.p y), some (.p z), some (.p ws), some (.p (.list near)), some (.p (.list fst)), none, none, some (.b b1), some (.b b2), some (.b b3)]) (S' := S) (by
      have a1 := add_l (S := S) (a := if b1 then [] else [wP w]) (b := near) (by cases b1 <;> simp <;> omega)
      have a2 := add_l (S := S) (a := (if b1 then [] else [wP w]) ++ near) (b := [.bool true]) (by cases b1 <;> simp <;> omega)
      cases b1 <;> simp only [Bool.false_eq_true, if_false, if_true, List.nil_append, List.cons_append] at a1 a2 <;> simp [sz4, sz2, sz1, mk2, mkL, allP, a1, a2, hf]) ?_
    refine seq_nx (ρ' := [some (.p w), some (.p x), some (.p y), some (.p z), some (.p ws), some (.p (.list near)), some (.p (.list fst)), some (.p (.list lst)), none, some (.b b1), some (.b b2), some (.b b3)]) (S' := S) (by
      have a1 := add_l (S := S) (a := near) (b := if b3 && b4 then [] else [nP z]) (by cases b3 <;> cases b4 <;> simp <;> omega)
      have a2 := add_l (S := S) (a := near ++ (if b3 && b4 then [] else [nP z])) (b := [.bool true]) (by cases b3 <;> cases b4 <;> simp <;> omega)
      cases h3 : b3 with
      | false =>
        simp only [h3, Bool.false_and, Bool.false_eq_true, if_false] at a1 a2
        simp [sz4, sz2, sz1, mk2, mkL, allP, a1, a2, hl, h3]
      | true =>
        have e4 := e4 h3
        cases h4 : b4 <;> simp only [h3, h4, Bool.true_and, Bool.false_eq_true, if_false, if_true, List.append_nil] at a1 a2 e4 <;> simp [arrD, e4, sz4, sz2, sz1, mk2, mkL, allP, a1, a2, hl, h3, h4]) ?_
    rw [d1, d2]
    refine seq_nx (ρ' := [some (.p w), some (.p x), some (.p y), some (.p z), some (.p ws), some (.p (.list near)), some (.p (.list (A :: r1))), some (.p (.list (B :: r2))), some (.loc S.length), some (.b b1), some (.b b2), some (.b b3)]) (S' := S ++ [.lst [.p A]]) (by
      simp [e_rsd, arrD, ta, sz1]) ?_
    refine seq_nx (ρ' := [some (.p w), some (.p x), some (.p y), some (.p z), some (.p ws), some (.p (.list near)), some (.p (.list (A :: r1))), some (.p (.list (B :: r2))), some (.loc S.length), some (.b b1), some (.b b2), some (.b b3)]) (S' := S ++ [.lst [.p A, .p A]]) (by
      have a := app_new (S := S) (xs := [.p A]) (d := .p A) (by simp)
      have r := rcv_new (S := S) (xs := [.p A])
      simp [e_rsd, arrD, ta, a, r, Mt.ty]) ?_
    refine seq_nx (ρ' := [some (.p w), some (.p x), some (.p y), some (.p z), some (.p ws), some (.p (.list near)), some (.p (.list (A :: r1))), some (.p (.list (B :: r2))), some (.loc S.length), some (.b b1), some (.b b2), some (.b b3)]) (S' := S ++ [.lst [.p A, .p A]]) (by
      have r := repr_loc (S := S ++ [.lst [.p A, .p A]]) (ds := [A, A]) (m := false) (c := S.length) (by simp)
      have m2 : opBin .Mult false (.p (.list [A])) (.p (.int 2)) (S ++ [Cell.lst [.p A, .p A]]) = .ok (.p (.list (List.replicate 2 A))) (S ++ [Cell.lst [.p A, .p A]]) := mul_l (k := 2) (by decide)
      have p2 := pA (m := false) (S := S ++ [.lst [.p A, .p A]])
      have e : (List.replicate 2 A) = [A, A] := rfl
      rw [e] at m2 p2
      rw [p2] at r
      simp [r, m2, p2, sz1, mkL, allP]) ?_
    generalize S ++ [Cell.lst [D.p A, D.p A]] = T1
    refine seq_nx (ρ' := [some (.p w), some (.p x), some (.p y), some (.p z), some (.p ws), some (.p (.list near)), some (.p (.list (A :: r1))), some (.p (.list (B :: r2))), some (.loc T1.length), some (.b b1), some (.b b2), some (.b b3)]) (S' := T1 ++ [.lst [.p B]]) (by
      simp [e_rsd, arrD, tb, sz1]) ?_
    refine seq_nx (ρ' := [some (.p w), some (.p x), some (.p y), some (.p z), some (.p ws), some (.p (.list near)), some (.p (.list (A :: r1))), some (.p (.list (B :: r2))), some (.loc T1.length), some (.b b1), some (.b b2), some (.b b3)]) (S' := T1 ++ [.lst [.p B, .p B]]) (by
      have a := app_new (S := T1) (xs := [.p B]) (d := .p B) (by simp)
      have r := rcv_new (S := T1) (xs := [.p B])
      simp [e_rsd, arrD, tb, a, r, Mt.ty]) ?_
    refine seq_nx (ρ' := [some (.p w), some (.p x), some (.p y), some (.p z), some (.p ws), some (.p (.list near)), some (.p (.list (A :: r1))), some (.p (.list (B :: r2))), some (.loc T1.length), some (.b b1), some (.b b2), some (.b b3)]) (S' := T1 ++ [.lst [.p B, .p B, .p B]]) (by
      have a := app_new (S := T1) (xs := [.p B, .p B]) (d := .p B) (by simp)
      have r := rcv_new (S := T1) (xs := [.p B, .p B])
      simp [e_rsd, arrD, tc, a, r, Mt.ty]) ?_
    refine seq_nx (ρ' := [some (.p w), some (.p x), some (.p y), some (.p z), some (.p ws), some (.p (.list near)), some (.p (.list (A :: r1))), some (.p (.list (B :: r2))), some (.loc T1.length), some (.b b1), some (.b b2), some (.b b3)]) (S' := T1 ++ [.lst [.p B, .p B, .p B, .p B]]) (by
      have a := app_new (S := T1) (xs := [.p B, .p B, .p B]) (d := .p B) (by simp)
      have r := rcv_new (S := T1) (xs := [.p B, .p B, .p B])
      simp [e_rsd, arrD, tc, a, r, Mt.ty]) ?_
    refine seq_rt ?_
    have r := repr_loc (S := T1 ++ [.lst [.p B, .p B, .p B, .p B]]) (ds := [B, B, B, B]) (m := false) (c := T1.length) (by simp)
    have m2 : opBin .Mult false (.p (.list [B])) (.p (.int 4)) (T1 ++ [Cell.lst [.p B, .p B, .p B, .p B]]) = .ok (.p (.list (List.replicate 4 B))) (T1 ++ [Cell.lst [.p B, .p B, .p B, .p B]]) := mul_l (k := 4) (by decide)
    have p2 := pB (m := false) (S := T1 ++ [.lst [.p B, .p B, .p B, .p B]])
    have e : (List.replicate 4 B) = [B, B, B, B] := rfl
    rw [e] at m2 p2
    rw [p2] at r
    simp [r, m2, p2, sz1, mkL, allP]
  rw [at' H.due (by omega) rfl, show [D.p w, D.p x, D.p y, D.p z].map some ++ List.replicate (12 - 4) none = ([some (.p w), some (.p x), some (.p y), some (.p z), none, none, none, none, none, none, none, none] : Slots) from rfl, key, List.append_assoc, fin_rt]
end
end Lb

set_option linter.all false
set_option maxRecDepth 100000
set_option maxHeartbeats 1000000
namespace Lb
open PySem PySem.Spec L2 Dl Lf
/-! LibTf: drawn values of any kind (k73). -/
theorem Sh.dct2 {b e : Nat} {x : PyData} {k : Int} (h : Sh b e x) (hk : k.natAbs < 2 ^ 64) : Sh (b + 100) (e + 1) (.dict [(.str (Str.ofString "rows"), x), (.int 1, .int k)]) := by
  have hi := Sh.int hk
  refine ⟨?_, ?_, ?_⟩
  · simp only [PyData.showable, PyData.showableKv, h.ok, Bool.and_true, Bool.true_and]
    have := hi.ok
    simp only [PyData.showable] at this
    simpa using ⟨by decide +kernel, of_decide_eq_true this⟩
  · have e1 : (PyData.str (Str.ofString "rows")).shown.length = 6 := by decide +kernel
    have e2 : (PyData.int 1).shown.length = 1 := by decide +kernel
    have e3 := hi.len
    have e4 := h.len
    have c1 : ((": " : String) : Str).length = 2 := rfl
    have c2 : (("{" : String) : Str).length = 1 := rfl
    have c3 : (("}" : String) : Str).length = 1 := rfl
    simp only [PyData.shown, PyData.shownKv] at e1 e2 e3 ⊢
    have ne : ([reprText (Str.ofString "rows") ++ ": " ++ x.shown, (Str.ofString (toString (1 : Int))) ++ ": " ++ (Str.ofString (toString k))] : List Str) ≠ [] := by simp
    have jl := join_length_add _ ne
    simp only [dictText]
    rw [strLen_append, strLen_append]
    unfold piled at jl
    simp only [List.map_cons, List.map_nil, List.sum_cons, List.sum_nil, strLen_append] at jl
    omega
  · simp only [PyData.depth, PyData.depthKv]
    have := h.deep
    omega
def big50 : Int := 10 ^ 50
theorem pw50 {S : Sto} : opBin .Pow false (.p (.int 10)) (.p (.int 50)) S = .ok (.p (.int big50)) S := o_pow (by decide) (by decide)
theorem sh_big50 : Sh 100 4 (.int big50) := ⟨by decide +kernel, by decide +kernel, by decide⟩
def aB : Nat → Nat
  | 0 => 210
  | d + 1 => 3 * (aB d + 2) + 203
def aN : Nat → Nat
  | 0 => 2
  | d + 1 => 3 + 8 * aN d
theorem aB_mono (d : Nat) : 100 ≤ aB d := by
  cases d with
  | zero => decide
  | succ d => simp only [aB]; omega
theorem aB0 {d : Nat} {x : PyData} (h : Sh 100 4 x) : Sh (aB d) (4 + 2 * d) x := h.le (aB_mono d) (by omega)
theorem dcut {F1 F2 : Slots → Sto → Res D} {ρ : Slots} {S : Sto} {x : PyData} {k : Int} (h1 : F1 ρ (S ++ [.dK []]) = .ok (.p x) (S ++ [.dK []])) (h2 : F2 ρ (S ++ [.dK []]) = .ok (.i k) (S ++ [.dK []])) :
    fFrz (fDct [(fC (.str (Str.ofString "rows")), F1), (fC (.int 1), F2)]) ρ S = .ok (.p (.dict [(.str (Str.ofString "rows"), x), (.int 1, .int k)])) (S ++ [.dead]) := by
  have e : fDct [(fC (.str (Str.ofString "rows")), F1), (fC (.int 1), F2)] ρ S = .ok (.loc S.length) (S ++ [.dK [(.inr (Str.ofString "rows"), .p x), (.inl 1, .i k)]]) := by
    have g : (S ++ [Cell.dK []])[S.length]? = some (.dK []) := by simp
    simp only [fDct, pairsF, e_c, bind_ok, h1, h2, g, keysOf, Dl.keyOf]
    have st : (S ++ [Cell.dK []]).set S.length (.dK [(.inr (Str.ofString "rows"), .p x), (.inl 1, .i k)]) = S ++ [.dK [(.inr (Str.ofString "rows"), .p x), (.inl 1, .i k)]] := by
      rw [List.set_append_right (h := Nat.le_refl _)]
      simp
    have mg : mergeD [] [((.inr (Str.ofString "rows") : Key), D.p x), (.inl 1, .i k)] = [(.inr (Str.ofString "rows"), .p x), (.inl 1, .i k)] := rfl
    simp [mg, st]
  simp only [fFrz, e, bind_ok, opFrz]
  have g : (S ++ [Cell.dK [((.inr (Str.ofString "rows") : Key), D.p x), (.inl 1, .i k)]])[S.length]? = some (.dK [(.inr (Str.ofString "rows"), .p x), (.inl 1, .i k)]) := by simp
  rw [g]
  have st : (S ++ [Cell.dK [((.inr (Str.ofString "rows") : Key), D.p x), (.inl 1, .i k)]]).set S.length .dead = S ++ [.dead] := by
    rw [List.set_append_right (h := Nat.le_refl _)]
    simp
  simp [allPv, keyP, st]
section
variable {dfs : List Df} {fl : List (Str × Str)} {sp : Fns → Fns} {S S' : Sto} {n l c N : Nat} {q : DrK}
theorem l_anyD (H : HDrw dfs q) (H1 : HasB dfs (Str.ofString "_law_pick") 2 2 B__law_pick) (H2 : HasB dfs (Str.ofString "_law_any") 2 5 B__law_any73) {d : Nat} (hn : 4 ≤ n) (hd : Dk l c (N + aN d) S)
    (rec : ∀ (S1 : Sto) (x y : Option D), Go l c (N + aN d - 1) S S1 → ∃ vs S2, fIf (fTru (fCmp .Gt (fVar 1) (fC (.int 0)))) (fLc false (fRng1 (fCall (evF dfs fl sp (n - 1) (Str.ofString "_law_draw")) 2 0 [.inl 0, .inl 1] (fCons (fVar 0) (fCons (fC (.int 4)) fNil)) fNil)) (.nm 4) [4] fYes (fCall (evF dfs fl sp (n - 1) (Str.ofString "_law_any")) 2 0 [.inl 0, .inl 1] (fCons (fVar 0) (fCons (fBin .Sub false (fVar 1) (fC (.int 1))) fNil)) fNil)) (fLst false fNil)
        [some (.loc l), some (.i (d : Nat)), x, none, none] S1 = .ok (.p (.list vs)) S2 ∧ vs.length ≤ 3 ∧ Sh (aB d - 100) (3 + 2 * d) (.list vs) ∧ Sh (aB d - 100) (3 + 2 * d) (.tuple vs) ∧ Go l c N S1 S2) :
    ∃ r S', evF dfs fl sp n (Str.ofString "_law_any") [.loc l, .p (.int (d : Nat))] S = .ok (.p r) S' ∧ Sh (aB d) (4 + 2 * d) r ∧ Go l c N S S' := by
  refine give_dk H2 (by omega) rfl hd ?_
  rw [sh__law_any73]
  simp only [List.map_cons, List.map_nil, List.cons_append, List.nil_append, List.replicate]
  have aN2 : 2 ≤ aN d := by
    cases d with
    | zero => exact Nat.le_refl 2
    | succ d => simp only [aN]; omega
  have aB2 : 210 ≤ aB d := by
    cases d with
    | zero => decide
    | succ d => have := aB_mono d; simp only [aB]; omega
  obtain ⟨w, S1, t1, hw, g1⟩ := l_drawN (fl := fl) (sp := sp) (n := n - 1) (N := N + aN d - 1) (many := 8) H (by omega) (hd.le (by omega)) (by omega) (by omega)
  have t1' : evF dfs fl sp (n - 1) (Str.ofString "_law_draw") [.loc l, .p (.int 8)] S = .ok (.i (w : Nat)) S1 := t1
  have sz8 : 8 ≤ sizeLine := by decide
  have sz6 : 6 ≤ sizeLine := by decide
  have sz4 : 4 ≤ sizeLine := by decide
  have sz3 : 3 ≤ sizeLine := by decide
  have sz2 : 2 ≤ sizeLine := by decide
  have sz1 : 1 ≤ sizeLine := by decide
  refine en_nx (ρ' := [some (.loc l), some (.i (d : Nat)), some (.i (w : Nat)), none, none]) (S' := S1) (by simp [arrD, t1']) ?_
  -- a pick from a list
  have pick : ∀ (ds : List PyData), 0 < ds.length → ds.length < 1000 → (∀ x ∈ ds, Sh 100 4 x) → ∃ r S', evF dfs fl sp (n - 1) (Str.ofString "_law_pick") [.loc l, .p (.list ds)] S1 = .ok (.p r) S' ∧ Sh (aB d) (4 + 2 * d) r ∧ Go l c N S S' := fun ds h0 h1 hs => by
    obtain ⟨r, S', e1, e2, e3⟩ := l_pick (fl := fl) (sp := sp) (n := n - 1) (N := N) (ds := ds) H H1 (by omega) h0 (by omega) (g1.1.le (by omega))
    exact ⟨r, S', e1, aB0 (hs r e2), g1.trans e3⟩
  by_cases w01 : w < 2
  · have lt : ((w : Nat) : Int) < 2 := by omega
    obtain ⟨r, S', e1, e2, e3⟩ := pick [.int 0, .int 1, .int 2, .int (-1), .int 3, .int 5, .int 9, .int big50] (by simp) (by simp) (by
      intro x hx
      simp only [List.mem_cons, List.not_mem_nil, or_false] at hx
      rcases hx with rfl | rfl | rfl | rfl | rfl | rfl | rfl | rfl
      all_goals first | exact sh_big50 | exact ⟨by decide +kernel, by decide +kernel, by decide +kernel⟩)
    refine en_ift (S' := S1) (by simp [lt]) ?_
    refine en_rtA (d := .p r) (S' := S') ?_ ⟨r, rfl, e2, e3.1, e3.2.1⟩
    have k8 : ∀ a b c d e f g h : PyData, mkL false [.p a, .p b, .p c, .p d, .p e, .p f, .p g, .p h] S1 = .ok (.p (.list [a, b, c, d, e, f, g, h])) S1 := fun _ _ _ _ _ _ _ _ => rfl
    simp [sz8, pw50, k8, arrD, e1]
  · refine en_iff (S' := S1) (by simp; omega) (en_nil ?_)
    by_cases w2 : w = 2
    · subst w2
      obtain ⟨r, S', e1, e2, e3⟩ := pick [.str (Str.ofString ""), .str (Str.ofString "root"), .str (Str.ofString "bar"), .str (Str.ofString "symmetric"), .str (Str.ofString "table 2 1\n1"), .str (Str.ofString "folds")] (by simp) (by simp) (by
        intro x hx
        simp only [List.mem_cons, List.not_mem_nil, or_false] at hx
        rcases hx with rfl | rfl | rfl | rfl | rfl | rfl
        all_goals exact ⟨by decide +kernel, by decide +kernel, by decide +kernel⟩)
      refine en_ift (S' := S1) (by simp) ?_
      refine en_rtA (d := .p r) (S' := S') ?_ ⟨r, rfl, e2, e3.1, e3.2.1⟩
      have k6 : ∀ a b c d e f : PyData, mkL false [.p a, .p b, .p c, .p d, .p e, .p f] S1 = .ok (.p (.list [a, b, c, d, e, f])) S1 := fun _ _ _ _ _ _ => rfl
      simp [sz6, k6, arrD, e1]
    · have w2' : ¬ ((w : Nat) : Int) = 2 := by omega
      refine en_iff (S' := S1) (by simp [w2']) (en_nil ?_)
      by_cases w3 : w = 3
      · subst w3
        obtain ⟨r, S', e1, e2, e3⟩ := pick [.bool true, .bool false, .none] (by simp) (by simp) (by
          intro x hx
          simp only [List.mem_cons, List.not_mem_nil, or_false] at hx
          rcases hx with rfl | rfl | rfl
          all_goals exact ⟨by decide +kernel, by decide +kernel, by decide +kernel⟩)
        refine en_ift (S' := S1) (by simp) ?_
        refine en_rtA (d := .p r) (S' := S') ?_ ⟨r, rfl, e2, e3.1, e3.2.1⟩
        have k3 : ∀ a b c : PyData, mkL false [.p a, .p b, .p c] S1 = .ok (.p (.list [a, b, c])) S1 := fun _ _ _ => rfl
        simp [sz3, k3, arrD, e1]
      · have w3' : ¬ ((w : Nat) : Int) = 3 := by omega
        refine en_iff (S' := S1) (by simp [w3']) (en_nil ?_)
        by_cases w4 : w = 4
        · subst w4
          obtain ⟨r, S', e1, e2, e3⟩ := pick [.tuple [.int 2, .tuple [.tuple [.int 1]]], .tuple [.int 3, .tuple [.tuple [.int 0, .int 1], .tuple [.int 2, .int 0]]], .tuple [.int 0, .int 1], .tuple [.tuple [.int 1, .int 0], .tuple [.int 0, .int 1]]] (by simp) (by simp) (by
            intro x hx
            simp only [List.mem_cons, List.not_mem_nil, or_false] at hx
            rcases hx with rfl | rfl | rfl | rfl
            all_goals exact ⟨by decide +kernel, by decide +kernel, by decide +kernel⟩)
          refine en_ift (S' := S1) (by simp) ?_
          refine en_rtA (d := .p r) (S' := S') ?_ ⟨r, rfl, e2, e3.1, e3.2.1⟩
          have k4 : ∀ a b c d : PyData, mkL false [.p a, .p b, .p c, .p d] S1 = .ok (.p (.list [a, b, c, d])) S1 := fun _ _ _ _ => rfl
          simp [sz4, sz2, sz1, mk2, mkT1, k4, arrD, e1]
        · have w4' : ¬ ((w : Nat) : Int) = 4 := by omega
          refine en_iff (S' := S1) (by simp [w4']) (en_nil ?_)
          obtain ⟨vs, S2, e1, e2, e3, e4, e5⟩ := rec S1 (some (.i (w : Nat))) none (g1.le (by omega))
          refine en_nx (ρ' := [some (.loc l), some (.i (d : Nat)), some (.i (w : Nat)), some (.p (.list vs)), none]) (S' := S2) ?_ ?_
          · rw [s_asg, e1]
            rfl
          · have g2 : Go l c N S S2 := g1.trans e5
            by_cases w5 : w = 5
            · subst w5
              refine en_ift (S' := S2) (by simp) ?_
              exact en_rtA (d := .p (.list vs)) (S' := S2) (by simp) ⟨_, rfl, e3.le (by omega) (by omega), g2.1, g2.2.1⟩
            · have w5' : ¬ ((w : Nat) : Int) = 5 := by omega
              refine en_iff (S' := S2) (by simp [w5']) (en_nil ?_)
              by_cases w6 : w = 6
              · subst w6
                have dc := dcut (F1 := fVar 3) (F2 := fBn true .len (fCons (fVar 3) fNil)) (ρ := [some (.loc l), some (.i (d : Nat)), some (.i ((6 : Nat) : Int)), some (.p (.list vs)), none]) (S := S2) (x := .list vs) (k := vs.length) (by simp) (by simp)
                have shd := e3.dct2 (k := vs.length) (by omega)
                refine en_rt (d := .p (.dict [(.str (Str.ofString "rows"), .list vs), (.int 1, .int vs.length)])) (S' := S2 ++ [.dead]) ?_ ⟨_, rfl, shd.le (by omega) (by omega), g2.1.app, g2.2.1.trans Fr.app⟩
                rw [s_ret]
                have ei : fIf (fTru (fCmp .Eq (fVar 2) (fC (.int 6)))) (fFrz (fDct [((fC (.str (Str.ofString "rows"))), (fVar 3)), ((fC (.int 1)), (fBn true .len (fCons (fVar 3) fNil)))])) (fBn false .tup (fCons (fVar 3) fNil)) [some (.loc l), some (.i (d : Nat)), some (.i ((6 : Nat) : Int)), some (.p (.list vs)), none] S2 = .ok (.p (.dict [(.str (Str.ofString "rows"), .list vs), (.int 1, .int vs.length)])) (S2 ++ [.dead]) := by
                  rw [e_if]
                  have et : fTru (fCmp .Eq (fVar 2) (fC (.int 6))) [some (.loc l), some (.i (d : Nat)), some (.i ((6 : Nat) : Int)), some (.p (.list vs)), none] S2 = .ok true S2 := by simp
                  rw [et]
                  exact dc
                rw [ei]
                rfl
              · have w6' : ¬ ((w : Nat) : Int) = 6 := by omega
                exact en_rt (d := .p (.tuple vs)) (S' := S2) (by simp [w6']) ⟨_, rfl, e4.le (by omega) (by omega), g2.1, g2.2.1⟩
theorem l_any (H : HDrw dfs q) (H1 : HasB dfs (Str.ofString "_law_pick") 2 2 B__law_pick) (H2 : HasB dfs (Str.ofString "_law_any") 2 5 B__law_any73) :
    ∀ (d : Nat) {n l c N : Nat} {S : Sto}, 4 + d ≤ n → Dk l c (N + aN d) S → ∃ r S', evF dfs fl sp n (Str.ofString "_law_any") [.loc l, .p (.int (d : Nat))] S = .ok (.p r) S' ∧ Sh (aB d) (4 + 2 * d) r ∧ Go l c N S S' := by
  intro d
  induction d with
  | zero =>
    intro n l c N S hn hd
    refine l_anyD H H1 H2 (by omega) hd fun S1 x y g => ⟨[], S1, by simp; rfl, by simp, ?_, ?_, Go.refl (g.1.le (by simp [aN]))⟩
    · exact (Sh.lst (m := 0) (b := 0) (e := 0) (by simp) (by simp)).le (by decide) (by decide)
    · exact (Sh.tup (m := 0) (b := 0) (e := 0) (by simp) (by simp)).le (by decide) (by decide)
  | succ d ih =>
    intro n l c N S hn hd
    refine l_anyD H H1 H2 (by omega) hd fun S1 x y g => ?_
    obtain ⟨k, S2, t1, hk, g2⟩ := l_drawN (fl := fl) (sp := sp) (n := n - 1) (N := N + 8 * aN d) (many := 4) H (by omega) (g.1.le (by simp only [aN]; omega)) (by omega) (by omega)
    have t1' : evF dfs fl sp (n - 1) (Str.ofString "_law_draw") [.loc l, .p (.int 4)] S1 = .ok (.i (k : Nat)) S2 := t1
    let ρ : Slots := [some (.loc l), some (.i ((d + 1 : Nat) : Int)), x, none, none]
    have src : fRng1 (fCall (evF dfs fl sp (n - 1) (Str.ofString "_law_draw")) 2 0 [.inl 0, .inl 1] (fCons (fVar 0) (fCons (fC (.int 4)) fNil)) fNil) ρ S1 = fRng1 (fC (.int (k : Nat))) ρ S2 := by
      simp [fRng1, arrD, t1', ρ]
    obtain ⟨vs, S3, e1, e2, e3, e4⟩ := lcG_r1 (ρ := ρ) (own := [4]) (v := 4) (F := fC (.int (k : Nat))) (Fe := fCall (evF dfs fl sp (n - 1) (Str.ofString "_law_any")) 2 0 [.inl 0, .inl 1] (fCons (fVar 0) (fCons (fBin .Sub false (fVar 1) (fC (.int 1))) fNil)) fNil) (l := l) (c := c) (S := S2)
      (fun v => Sh (aB d) (4 + 2 * d) v) (aN d) N rfl (by omega) (g2.1.le (by omega)) fun j hj M S3 g3 => by
        obtain ⟨r, S4, u1, u2, u3⟩ := ih (n := n - 1) (N := M) (by omega) g3.1
        have e : ((d : Int) + 1 - 1) = d := by omega
        exact ⟨r, S4, by simp [wipeD, ρ, arrD, e, u1], u2, u3⟩
    refine ⟨vs, S3, ?_, by omega, ?_, ?_, g2.trans e4⟩
    · have gt : (0 : Int) < ((d + 1 : Nat) : Int) := by omega
      have et : fTru (fCmp .Gt (fVar 1) (fC (.int 0))) ρ S1 = .ok true S1 := by simp [ρ]
      show fIf _ _ _ ρ S1 = _
      rw [e_if, et]
      show fLc _ _ _ _ _ _ ρ S1 = _
      have := e1
      unfold fLc at this ⊢
      rw [src]
      exact this
    · exact (Sh.lst e3 (m := 3) (by omega)).le (by simp only [aB]; omega) (by omega)
    · exact (Sh.tup e3 (m := 3) (by omega)).le (by simp only [aB]; omega) (by omega)
end
end Lb

set_option linter.all false
set_option maxRecDepth 100000
set_option maxHeartbeats 1000000
namespace Lb
open PySem PySem.Spec L2 Dl Lf
/-! LibTg: the law of k73, whole. -/
structure H73L (D : List Df) (q : DrK) : Prop where
  h73 : H73 D
  drw : HDrw D q
  pick : HasB D (Str.ofString "_law_pick") 2 2 B__law_pick
  any_ : HasB D (Str.ofString "_law_any") 2 5 B__law_any73
  deck : HasB D (Str.ofString "_law_deck") 1 3 (B_deck q)
  law : HasB D (Str.ofString "law") 1 8 B_law73
abbrev V73 (x : PyData) : Prop := Sh 100000 9 x
def big61 : Int := 2 ^ 61
def big30 : Int := 10 ^ 30
def big40 : Int := 10 ^ 40
theorem pw61 {S : Sto} : opBin .Pow false (.p (.int 2)) (.p (.int 61)) S = .ok (.p (.int big61)) S := o_pow (by decide) (by decide)
theorem pw30 {S : Sto} : opBin .Pow false (.p (.int 10)) (.p (.int 30)) S = .ok (.p (.int big30)) S := o_pow (by decide) (by decide)
theorem pw40 {S : Sto} : opBin .Pow false (.p (.int 10)) (.p (.int 40)) S = .ok (.p (.int big40)) S := o_pow (by decide) (by decide)
theorem v_small {x : PyData} (h1 : x.showable = true) (h2 : x.shown.length ≤ 100) (h3 : x.depth ≤ 4) : V73 x := ⟨h1, Nat.le_trans h2 (by decide), Nat.le_trans h3 (by decide)⟩
section
variable {dfs : List Df} {fl : List (Str × Str)} {sp : Fns → Fns} {S : Sto} {n N : Nat} {q : DrK}
/-- with one chance of three another value -/
theorem opt_step (H : H73L dfs q) (hn : 3 ≤ n) {i : Nat} {Fl : Slots → Sto → Res D} {ρ : Slots} (hρ : ρ[1]? = some (some (.loc 0))) (d : Dk 0 1 (N + 200) S)
    (hl : ∀ S1, Dk 0 1 (N + 199) S1 → ∃ ds S2, Fl ρ S1 = .ok (.p (.list ds)) S2 ∧ Dk 0 1 (N + 1) S2 ∧ 0 < ds.length ∧ ds.length ≤ 20 ∧ ∀ x ∈ ds, V73 x) :
    ∃ ρ' S3, sIf (fTru (fCmp .Eq (fCall (evF dfs fl sp n (Str.ofString "_law_draw")) 2 0 [.inl 0, .inl 1] (fCons (fVar 1) (fCons (fC (.int 3)) fNil)) fNil) (fC (.int 0)))) (sSeq (sAsg (fCall (evF dfs fl sp n (Str.ofString "_law_pick")) 2 0 [.inl 0, .inl 1] (fCons (fVar 1) (fCons Fl fNil)) fNil) (tgNm i)) sNil) sNil ρ S = .nx ρ' S3 ∧
      Dk 0 1 N S3 ∧ (ρ' = ρ ∨ ∃ x, V73 x ∧ ρ' = ρ.set i (some (.p x))) := by
  obtain ⟨w, S1, t1, hw, g1⟩ := l_drawN (fl := fl) (sp := sp) (n := n) (N := N + 199) (many := 3) H.drw (by omega) d (by omega) (by omega)
  have t1' : evF dfs fl sp n (Str.ofString "_law_draw") [.loc 0, .p (.int 3)] S = .ok (.i (w : Nat)) S1 := t1
  by_cases w0 : w = 0
  · subst w0
    obtain ⟨ds, S2, e1, e2, e3, e4, e5⟩ := hl S1 g1.1
    obtain ⟨r, S3, u1, u2, u3⟩ := l_pick (fl := fl) (sp := sp) (n := n) (N := N) (ds := ds) H.drw H.pick (by omega) e3 (by omega) e2
    refine ⟨ρ.set i (some (.p r)), S3, ?_, u3.1, .inr ⟨r, e5 r u2, rfl⟩⟩
    rw [if_t (S' := S1) (by simp [arrD, hρ, t1'])]
    refine seq_nx (ρ' := ρ.set i (some (.p r))) (S' := S3) ?_ s_nil
    simp [arrD, hρ, e1, u1]
  · refine ⟨ρ, S1, ?_, g1.1.le (by omega), .inl rfl⟩
    have w0' : ¬ ((w : Nat) : Int) = 0 := by omega
    rw [if_f (S' := S1) (by simp [arrD, hρ, t1', w0])]
theorem law73 (H : H73L dfs q) (T : HTold dfs sp) (hn : 12 ≤ n) {ns : List Int} (h : ns.length ≤ 63) : ∃ S', evF dfs fl sp n (Str.ofString "law") [.p (.list (ns.map PyData.int))] [] = .ok (.b true) S' := by
  obtain ⟨S1, e1, d1, len1⟩ := c_deck (fl := fl) (sp := sp) (n := n - 1) (S := []) H.deck H.drw.ok (by omega) h
  simp only [List.length_nil, Nat.zero_add] at e1 d1
  have sz : 1000 ≤ sizeLine := by decide
  have s1 : 1 ≤ sizeLine := by decide
  have s7 : 7 ≤ sizeLine := by decide
  have k7 : ∀ (a b c d e f g : PyData) (S : Sto), mkL false [.p a, .p b, .p c, .p d, .p e, .p f, .p g] S = .ok (.p (.list [a, b, c, d, e, f, g])) S := fun _ _ _ _ _ _ _ _ => rfl
  let W : PyData := .list (wsK.map PyData.str)
  have key : Ends (fun d S' => d = .b true) (evSs (evF dfs fl sp (n - 1)) fl B_law73 [some (.p (.list (ns.map PyData.int))), none, none, none, none, none, none, none] []) := by
    rw [sh_law73]
    refine en_nx (ρ' := [some (.p (.list (ns.map PyData.int))), some (.loc 0), none, none, none, none, none, none]) (S' := S1) (by simp [arrD, e1]) ?_
    refine en_nx (ρ' := [some (.p (.list (ns.map PyData.int))), some (.loc 0), some (.p W), none, none, none, none, none]) (S' := S1) (by simp [s7, k7, W]) ?_
    refine en_for (k := 10) (fun i => D.i (i : Nat)) (w := []) (fun i ρ S' => ∃ x3 x4 x5 x6 x7, ρ = [some (.p (.list (ns.map PyData.int))), some (.loc 0), some (.p W), x3, x4, x5, x6, x7] ∧ Dk 0 1 (1000 * (10 - i)) S') (i_r1 (n := 10) (by simp) (by omega)) (fun _ _ _ _ => by simp) ⟨_, _, _, _, _, rfl, d1.le (by omega)⟩ ?_ ?_
    · rintro i ρ S hi ⟨x3, x4, x5, x6, x7, rfl, d⟩
      have k4 : ∀ (a b c d : PyData) (S : Sto), mkL false [.p a, .p b, .p c, .p d] S = .ok (.p (.list [a, b, c, d])) S := fun _ _ _ _ _ => rfl
      have k5 : ∀ (a b c d e : PyData) (S : Sto), mkL false [.p a, .p b, .p c, .p d, .p e] S = .ok (.p (.list [a, b, c, d, e])) S := fun _ _ _ _ _ _ => rfl
      have s4 : 4 ≤ sizeLine := by decide
      have s5 : 5 ≤ sizeLine := by decide
      have s11 : 11 ≤ sizeLine := by decide
      have s15 : 15 ≤ sizeLine := by decide
      have s10 : 10 ≤ sizeLine := by decide
      have any2 : ∀ (M : Nat) (S1 : Sto), Dk 0 1 (M + 155) S1 → ∃ r S2, evF dfs fl sp (n - 1) (Str.ofString "_law_any") [.loc 0, .p (.int 2)] S1 = .ok (.p r) S2 ∧ V73 r ∧ Dk 0 1 M S2 := fun M S1 d1 => by
        obtain ⟨r, S2, u1, u2, u3⟩ := l_any H.drw H.pick H.any_ 2 (n := n - 1) (l := 0) (c := 1) (N := M) (S := S1) (by omega) (d1.le (by simp [aN]))
        exact ⟨r, S2, u1, u2.le (by simp [aB]) (by omega), u3.1⟩
      obtain ⟨wv, T1, t1, hw1, g1⟩ := l_pick (fl := fl) (sp := sp) (n := n - 1) (N := 1000 * (10 - i) - 1) (ds := wsK.map PyData.str) H.drw H.pick (by omega) (by simp) (by simp) (d.le (by omega))
      obtain ⟨pv, T2, t2, hp1, g2⟩ := l_pick (fl := fl) (sp := sp) (n := n - 1) (N := 1000 * (10 - i) - 2) (ds := [.int 2, .int 3, .int 5, .int 7]) H.drw H.pick (by omega) (by simp) (by simp) (g1.1.le (by omega))
      obtain ⟨nv, T3, t3, hn1, g3⟩ := l_pick (fl := fl) (sp := sp) (n := n - 1) (N := 1000 * (10 - i) - 3) (ds := [.int 1, .int 2, .int 3, .int 5, .int 30]) H.drw H.pick (by omega) (by simp) (by simp) (g2.1.le (by omega))
      have t1' := t1
      simp only [wsK, List.map_cons, List.map_nil] at t1'
      have vw : V73 wv := by
        simp only [wsK, List.map_cons, List.map_nil, List.mem_cons, List.not_mem_nil, or_false] at hw1
        rcases hw1 with rfl | rfl | rfl | rfl | rfl | rfl | rfl
        all_goals exact v_small (by decide +kernel) (by decide +kernel) (by decide +kernel)
      have vp : V73 pv := by
        simp only [List.mem_cons, List.not_mem_nil, or_false] at hp1
        rcases hp1 with rfl | rfl | rfl | rfl
        all_goals exact v_small (by decide +kernel) (by decide +kernel) (by decide +kernel)
      obtain ⟨m, rfl, hm⟩ : ∃ m : Nat, nv = .int (m : Nat) ∧ m ≤ 30 := by
        simp only [List.mem_cons, List.not_mem_nil, or_false] at hn1
        rcases hn1 with rfl | rfl | rfl | rfl | rfl
        · exact ⟨1, rfl, by omega⟩
        · exact ⟨2, rfl, by omega⟩
        · exact ⟨3, rfl, by omega⟩
        · exact ⟨5, rfl, by omega⟩
        · exact ⟨30, rfl, by omega⟩
      have vn : V73 (.int (m : Nat)) := (Sh.int (by omega)).le (by omega) (by omega)
      obtain ⟨kk, T4, t4, hk, g4⟩ := l_drawN (fl := fl) (sp := sp) (n := n - 1) (N := 1000 * (10 - i) - 4) (many := m + 1) H.drw (by omega) (g3.1.le (by omega)) (by omega) (by omega)
      have t4' : evF dfs fl sp (n - 1) (Str.ofString "_law_draw") [.loc 0, .p (.int ((m : Int) + 1))] T3 = .ok (.i (kk : Nat)) T4 := t4
      have vk : V73 (.int (kk : Nat)) := (Sh.int (by omega)).le (by omega) (by omega)
      let R : PyData → PyData → PyData → PyData → Slots := fun k w p n => [some (.p (.list (ns.map PyData.int))), some (.loc 0), some (.p W), some (.i (i : Nat)), some (.p k), some (.p w), some (.p p), some (.p n)]
      obtain ⟨ρ5, T5, st5, d5, r5⟩ := opt_step (fl := fl) (sp := sp) (n := n - 1) (N := 1000 * (10 - i) - 204) (i := 5) (S := T4) (Fl := (fLst false (fCons (fC (.str (Str.ofString "Folds"))) (fCons (fC (.str (Str.ofString "fold"))) (fCons (fC (.str (Str.ofString ""))) (fCons (fC (.str (Str.ofString " folds"))) (fCons (fC (.str (Str.ofString "atonce"))) (fCons (fC (.str (Str.ofString "shears"))) (fCons (fC .none) (fCons (fTup (fCons (fC (.str (Str.ofString "folds"))) fNil)) (fCons (fLst false (fCons (fC (.str (Str.ofString "folds"))) fNil)) (fCons (fC (.int 1)) (fCons (fCall (evF dfs fl sp (n - 1) (Str.ofString "_law_any")) 2 0 [.inl 0, .inl 1] (fCons (fVar 1) (fCons (fC (.int 2)) fNil)) fNil) fNil))))))))))))) (ρ := R (.int (kk : Nat)) wv pv (.int (m : Nat))) H (by omega) rfl (g4.1.le (by omega)) (fun S1 dd => by
        obtain ⟨r, S2, u1, u2, u3⟩ := any2 (1000 * (10 - i) - 204 + 1) S1 (dd.le (by omega))
        have kk11 : ∀ (a b c d e f g h i j k : PyData) (S : Sto), mkL false [.p a, .p b, .p c, .p d, .p e, .p f, .p g, .p h, .p i, .p j, .p k] S = .ok (.p (.list [a, b, c, d, e, f, g, h, i, j, k])) S := fun _ _ _ _ _ _ _ _ _ _ _ _ => rfl
        have kk1 : ∀ (a : PyData) (S : Sto), mkL false [.p a] S = .ok (.p (.list [a])) S := fun _ _ => rfl
        refine ⟨[.str (Str.ofString "Folds"), .str (Str.ofString "fold"), .str (Str.ofString ""), .str (Str.ofString " folds"), .str (Str.ofString "atonce"), .str (Str.ofString "shears"), .none, .tuple [.str (Str.ofString "folds")], .list [.str (Str.ofString "folds")], .int 1, r], S2, by simp [R, arrD, u1, s1, s11, mkT1, kk1, kk11], u3, by simp, by simp, fun x hx => ?_⟩
        simp only [List.mem_cons, List.not_mem_nil, or_false] at hx
        rcases hx with rfl | rfl | rfl | rfl | rfl | rfl | rfl | rfl | rfl | rfl | rfl
        all_goals first | exact u2 | exact v_small (by decide +kernel) (by decide +kernel) (by decide +kernel))
      obtain ⟨wv', vw', rfl⟩ : ∃ x, V73 x ∧ ρ5 = R (.int (kk : Nat)) x pv (.int (m : Nat)) := by
        rcases r5 with rfl | ⟨x, hx, rfl⟩
        · exact ⟨_, vw, rfl⟩
        · exact ⟨x, hx, rfl⟩
      obtain ⟨ρ6, T6, st6, d6, r6⟩ := opt_step (fl := fl) (sp := sp) (n := n - 1) (N := 1000 * (10 - i) - 404) (i := 6) (S := T5) (Fl := (fLst false (fCons (fC (.int 0)) (fCons (fC (.int 1)) (fCons (fC (.int 4)) (fCons (fC (.int 6)) (fCons (fC (.int 8)) (fCons (fC (.int 9)) (fCons (fC (.int 11)) (fCons (fNeg (fC (.int 2))) (fCons (fC (.bool true)) (fCons (fC (.str (Str.ofString "2"))) (fCons (fC .none) (fCons (fTup (fCons (fC (.int 2)) fNil)) (fCons (fLst false (fCons (fC (.int 2)) fNil)) (fCons (fBin .Pow false (fC (.int 2)) (fC (.int 61))) (fCons (fCall (evF dfs fl sp (n - 1) (Str.ofString "_law_any")) 2 0 [.inl 0, .inl 1] (fCons (fVar 1) (fCons (fC (.int 2)) fNil)) fNil) fNil))))))))))))))))) (ρ := R (.int (kk : Nat)) wv' pv (.int (m : Nat))) H (by omega) rfl (d5.le (by omega)) (fun S1 dd => by
        obtain ⟨r, S2, u1, u2, u3⟩ := any2 (1000 * (10 - i) - 404 + 1) S1 (dd.le (by omega))
        have kk15 : ∀ (a b c d e f g h i j k l m n o : PyData) (S : Sto), mkL false [.p a, .p b, .p c, .p d, .p e, .p f, .p g, .p h, .p i, .p j, .p k, .p l, .p m, .p n, .p o] S = .ok (.p (.list [a, b, c, d, e, f, g, h, i, j, k, l, m, n, o])) S := fun _ _ _ _ _ _ _ _ _ _ _ _ _ _ _ _ => rfl
        have kk1 : ∀ (a : PyData) (S : Sto), mkL false [.p a] S = .ok (.p (.list [a])) S := fun _ _ => rfl
        refine ⟨[.int 0, .int 1, .int 4, .int 6, .int 8, .int 9, .int 11, .int (-2), .bool true, .str (Str.ofString "2"), .none, .tuple [.int 2], .list [.int 2], .int big61, r], S2, by simp [R, arrD, u1, s1, s15, mkT1, kk1, kk15, pw61], u3, by simp, by simp, fun x hx => ?_⟩
        simp only [List.mem_cons, List.not_mem_nil, or_false] at hx
        rcases hx with rfl | rfl | rfl | rfl | rfl | rfl | rfl | rfl | rfl | rfl | rfl | rfl | rfl | rfl | rfl
        all_goals first | exact u2 | exact v_small (by decide +kernel) (by decide +kernel) (by decide +kernel))
      obtain ⟨pv', vp', rfl⟩ : ∃ x, V73 x ∧ ρ6 = R (.int (kk : Nat)) wv' x (.int (m : Nat)) := by
        rcases r6 with rfl | ⟨x, hx, rfl⟩
        · exact ⟨_, vp, rfl⟩
        · exact ⟨x, hx, rfl⟩
      obtain ⟨ρ7, T7, st7, d7, r7⟩ := opt_step (fl := fl) (sp := sp) (n := n - 1) (N := 1000 * (10 - i) - 604) (i := 7) (S := T6) (Fl := (fLst false (fCons (fC (.int 0)) (fCons (fC (.int 31)) (fCons (fNeg (fC (.int 1))) (fCons (fC (.bool true)) (fCons (fC (.str (Str.ofString "1"))) (fCons (fC .none) (fCons (fTup (fCons (fC (.int 1)) fNil)) (fCons (fLst false fNil) (fCons (fFrz (fun _ S => .ok (.loc S.length) (S ++ [.dK []]))) (fCons (fBin .Pow false (fC (.int 10)) (fC (.int 30))) (fCons (fCall (evF dfs fl sp (n - 1) (Str.ofString "_law_any")) 2 0 [.inl 0, .inl 1] (fCons (fVar 1) (fCons (fC (.int 2)) fNil)) fNil) fNil))))))))))))) (ρ := R (.int (kk : Nat)) wv' pv' (.int (m : Nat))) H (by omega) rfl (d6.le (by omega)) (fun S1 dd => by
        obtain ⟨r, S2, u1, u2, u3⟩ := any2 (1000 * (10 - i) - 604 + 1) (S1 ++ [.dead]) ((dd.le (by omega)).app)
        have kk11 : ∀ (a b c d e f g h i j k : PyData) (S : Sto), mkL false [.p a, .p b, .p c, .p d, .p e, .p f, .p g, .p h, .p i, .p j, .p k] S = .ok (.p (.list [a, b, c, d, e, f, g, h, i, j, k])) S := fun _ _ _ _ _ _ _ _ _ _ _ _ => rfl
        have kk0 : ∀ (S : Sto), mkL false [] S = .ok (.p (.list [])) S := fun _ => rfl
        refine ⟨[.int 0, .int 31, .int (-1), .bool true, .str (Str.ofString "1"), .none, .tuple [.int 1], .list [], .dict [], .int big30, r], S2, by simp [R, arrD, u1, s1, s11, mkT1, kk0, kk11, pw30, fFrz, o_frz0], u3, by simp, by simp, fun x hx => ?_⟩
        simp only [List.mem_cons, List.not_mem_nil, or_false] at hx
        rcases hx with rfl | rfl | rfl | rfl | rfl | rfl | rfl | rfl | rfl | rfl | rfl
        all_goals first | exact u2 | exact v_small (by decide +kernel) (by decide +kernel) (by decide +kernel))
      obtain ⟨nv', vn', rfl⟩ : ∃ x, V73 x ∧ ρ7 = R (.int (kk : Nat)) wv' pv' x := by
        rcases r7 with rfl | ⟨x, hx, rfl⟩
        · exact ⟨_, vn, rfl⟩
        · exact ⟨x, hx, rfl⟩
      obtain ⟨ρ8, T8, st8, d8, r8⟩ := opt_step (fl := fl) (sp := sp) (n := n - 1) (N := 1000 * (10 - i) - 804) (i := 4) (S := T7) (Fl := (fLst false (fCons (fNeg (fC (.int 1))) (fCons (fC (.int 31)) (fCons (fC (.bool true)) (fCons (fC (.bool false)) (fCons (fC .none) (fCons (fC (.str (Str.ofString "0"))) (fCons (fTup (fCons (fC (.int 0)) fNil)) (fCons (fLst false (fCons (fC (.int 0)) fNil)) (fCons (fBin .Pow false (fC (.int 10)) (fC (.int 40))) (fCons (fCall (evF dfs fl sp (n - 1) (Str.ofString "_law_any")) 2 0 [.inl 0, .inl 1] (fCons (fVar 1) (fCons (fC (.int 2)) fNil)) fNil) fNil)))))))))))) (ρ := R (.int (kk : Nat)) wv' pv' nv') H (by omega) rfl (d7.le (by omega)) (fun S1 dd => by
        obtain ⟨r, S2, u1, u2, u3⟩ := any2 (1000 * (10 - i) - 804 + 1) S1 (dd.le (by omega))
        have kk10 : ∀ (a b c d e f g h i j : PyData) (S : Sto), mkL false [.p a, .p b, .p c, .p d, .p e, .p f, .p g, .p h, .p i, .p j] S = .ok (.p (.list [a, b, c, d, e, f, g, h, i, j])) S := fun _ _ _ _ _ _ _ _ _ _ _ => rfl
        have kk1 : ∀ (a : PyData) (S : Sto), mkL false [.p a] S = .ok (.p (.list [a])) S := fun _ _ => rfl
        refine ⟨[.int (-1), .int 31, .bool true, .bool false, .none, .str (Str.ofString "0"), .tuple [.int 0], .list [.int 0], .int big40, r], S2, by simp [R, arrD, u1, s1, s10, mkT1, kk1, kk10, pw40], u3, by simp, by simp, fun x hx => ?_⟩
        simp only [List.mem_cons, List.not_mem_nil, or_false] at hx
        rcases hx with rfl | rfl | rfl | rfl | rfl | rfl | rfl | rfl | rfl | rfl
        all_goals first | exact u2 | exact v_small (by decide +kernel) (by decide +kernel) (by decide +kernel))
      obtain ⟨kv', vk', rfl⟩ : ∃ x, V73 x ∧ ρ8 = R x wv' pv' nv' := by
        rcases r8 with rfl | ⟨x, hx, rfl⟩
        · exact ⟨_, vk, rfl⟩
        · exact ⟨x, hx, rfl⟩
      have due := k_are_due (fl := fl) (sp := sp) (n := n - 1) (S := T8) (w := wv') (x := pv') (y := nv') (z := kv') H.h73 T (by omega) vw' vp' vn' vk'
      refine ⟨[some (.p (.list (ns.map PyData.int))), some (.loc 0), some (.p W), some (.i (i : Nat)), x4, x5, x6, x7], S, R kv' wv' pv' nv', T8, by simp, .inl ?_, ⟨_, _, _, _, _, rfl, d8.le (by omega)⟩⟩
      refine seq_nx (ρ' := [some (.p (.list (ns.map PyData.int))), some (.loc 0), some (.p W), some (.i (i : Nat)), x4, some (.p wv), some (.p pv), some (.p (.int (m : Nat)))]) (S' := T3) (by simp [arrD, s4, s5, k4, k5, W, t1', t2, t3]) ?_
      refine seq_nx (ρ' := R (.int (kk : Nat)) wv pv (.int (m : Nat))) (S' := T4) (by simp [arrD, t4', R]) ?_
      refine seq_nx st5 (seq_nx st6 (seq_nx st7 (seq_nx st8 ?_)))
      refine seq_nx (ρ' := R kv' wv' pv' nv') (S' := T8) ?_ s_nil
      rw [if_f (S' := T8) (by simp [arrD, R, due])]
    · rintro ρ S ⟨x3, x4, x5, x6, x7, rfl, d⟩
      exact en_rt (d := .b true) (S' := S) (by simp) rfl
  obtain ⟨d, S', e, rfl⟩ := key
  refine ⟨S'.take 0, ?_⟩
  rw [at' H.law (by omega) rfl, show [D.p (.list (ns.map PyData.int))].map some ++ List.replicate (8 - 1) none = ([some (.p (.list (ns.map PyData.int))), none, none, none, none, none, none, none] : Slots) from rfl, e]
  simp only [fin]
  rw [if_pos ⟨⟨by simp, fun i c hi => by simp at hi⟩, by simp [D.closed]⟩]
  rfl
end
end Lb

set_option Elab.async false
set_option linter.all false
set_option maxRecDepth 100000
set_option maxHeartbeats 16000000
namespace Lw
open PySem PySem.Spec PyProof.Rows L2 Dl

/-! the text by places -/
def top (i : Nat) : Stmt := PySem.Challenge.pw_fewfolds_k73_refusals_of_counts.main.body.getD i (.Pass ⟨0, 0, 0, 0⟩)
def b_law : Sms := (.cons (.asg (.nm 1) (.call (Str.ofString "_law_deck") [.inl 0] (.cons (.var 0) .nil) .nil)) (.cons (.asg (.nm 2) (.lst false (.cons (.c (.str (Str.ofString "tables"))) (.cons (.c (.str (Str.ofString "undoable"))) (.cons (.c (.str (Str.ofString "folds"))) (.cons (.c (.str (Str.ofString "flips"))) (.cons (.c (.str (Str.ofString "fallers"))) (.cons (.c (.str (Str.ofString "at once"))) (.cons (.c (.str (Str.ofString "symmetric"))) .nil))))))))) (.cons (.for_ (.nm 3) (.r1 (.c (.int 10))) (.cons (.par3 5 6 7 (.cons (.call (Str.ofString "_law_pick") [.inl 0, .inl 1] (.cons (.var 1) (.cons (.var 2) .nil)) .nil) (.cons (.call (Str.ofString "_law_pick") [.inl 0, .inl 1] (.cons (.var 1) (.cons (.lst false (.cons (.c (.int 2)) (.cons (.c (.int 3)) (.cons (.c (.int 5)) (.cons (.c (.int 7)) .nil))))) .nil)) .nil) (.cons (.call (Str.ofString "_law_pick") [.inl 0, .inl 1] (.cons (.var 1) (.cons (.lst false (.cons (.c (.int 1)) (.cons (.c (.int 2)) (.cons (.c (.int 3)) (.cons (.c (.int 5)) (.cons (.c (.int 30)) .nil)))))) .nil)) .nil) .nil)))) (.cons (.asg (.nm 4) (.call (Str.ofString "_law_draw") [.inl 0, .inl 1] (.cons (.var 1) (.cons (.bin .Add false (.var 7) (.c (.int 1))) .nil)) .nil)) (.cons (.ite (.cmp .Eq (.call (Str.ofString "_law_draw") [.inl 0, .inl 1] (.cons (.var 1) (.cons (.c (.int 3)) .nil)) .nil) (.c (.int 0))) (.cons (.asg (.nm 5) (.call (Str.ofString "_law_pick") [.inl 0, .inl 1] (.cons (.var 1) (.cons (.lst false (.cons (.c (.str (Str.ofString "Folds"))) (.cons (.c (.str (Str.ofString "fold"))) (.cons (.c (.str (Str.ofString ""))) (.cons (.c (.str (Str.ofString " folds"))) (.cons (.c (.str (Str.ofString "atonce"))) (.cons (.c (.str (Str.ofString "shears"))) (.cons (.c .none) (.cons (.tup (.cons (.c (.str (Str.ofString "folds"))) .nil)) (.cons (.lst false (.cons (.c (.str (Str.ofString "folds"))) .nil)) (.cons (.c (.int 1)) (.cons (.call (Str.ofString "_law_any") [.inl 0, .inl 1] (.cons (.var 1) (.cons (.c (.int 2)) .nil)) .nil) .nil)))))))))))) .nil)) .nil)) .nil) .nil) (.cons (.ite (.cmp .Eq (.call (Str.ofString "_law_draw") [.inl 0, .inl 1] (.cons (.var 1) (.cons (.c (.int 3)) .nil)) .nil) (.c (.int 0))) (.cons (.asg (.nm 6) (.call (Str.ofString "_law_pick") [.inl 0, .inl 1] (.cons (.var 1) (.cons (.lst false (.cons (.c (.int 0)) (.cons (.c (.int 1)) (.cons (.c (.int 4)) (.cons (.c (.int 6)) (.cons (.c (.int 8)) (.cons (.c (.int 9)) (.cons (.c (.int 11)) (.cons (.neg (.c (.int 2))) (.cons (.c (.bool true)) (.cons (.c (.str (Str.ofString "2"))) (.cons (.c .none) (.cons (.tup (.cons (.c (.int 2)) .nil)) (.cons (.lst false (.cons (.c (.int 2)) .nil)) (.cons (.bin .Pow false (.c (.int 2)) (.c (.int 61))) (.cons (.call (Str.ofString "_law_any") [.inl 0, .inl 1] (.cons (.var 1) (.cons (.c (.int 2)) .nil)) .nil) .nil)))))))))))))))) .nil)) .nil)) .nil) .nil) (.cons (.ite (.cmp .Eq (.call (Str.ofString "_law_draw") [.inl 0, .inl 1] (.cons (.var 1) (.cons (.c (.int 3)) .nil)) .nil) (.c (.int 0))) (.cons (.asg (.nm 7) (.call (Str.ofString "_law_pick") [.inl 0, .inl 1] (.cons (.var 1) (.cons (.lst false (.cons (.c (.int 0)) (.cons (.c (.int 31)) (.cons (.neg (.c (.int 1))) (.cons (.c (.bool true)) (.cons (.c (.str (Str.ofString "1"))) (.cons (.c .none) (.cons (.tup (.cons (.c (.int 1)) .nil)) (.cons (.lst false .nil) (.cons (.frz (.dct .nil)) (.cons (.bin .Pow false (.c (.int 10)) (.c (.int 30))) (.cons (.call (Str.ofString "_law_any") [.inl 0, .inl 1] (.cons (.var 1) (.cons (.c (.int 2)) .nil)) .nil) .nil)))))))))))) .nil)) .nil)) .nil) .nil) (.cons (.ite (.cmp .Eq (.call (Str.ofString "_law_draw") [.inl 0, .inl 1] (.cons (.var 1) (.cons (.c (.int 3)) .nil)) .nil) (.c (.int 0))) (.cons (.asg (.nm 4) (.call (Str.ofString "_law_pick") [.inl 0, .inl 1] (.cons (.var 1) (.cons (.lst false (.cons (.neg (.c (.int 1))) (.cons (.c (.int 31)) (.cons (.c (.bool true)) (.cons (.c (.bool false)) (.cons (.c .none) (.cons (.c (.str (Str.ofString "0"))) (.cons (.tup (.cons (.c (.int 0)) .nil)) (.cons (.lst false (.cons (.c (.int 0)) .nil)) (.cons (.bin .Pow false (.c (.int 10)) (.c (.int 40))) (.cons (.call (Str.ofString "_law_any") [.inl 0, .inl 1] (.cons (.var 1) (.cons (.c (.int 2)) .nil)) .nil) .nil))))))))))) .nil)) .nil)) .nil) .nil) (.cons (.ite (.not (.call (Str.ofString "_law_are_due") [.inl 0, .inl 1, .inl 2, .inl 3] (.cons (.var 5) (.cons (.var 6) (.cons (.var 7) (.cons (.var 4) .nil)))) .nil)) (.cons (.ret (.c (.bool false))) .nil) .nil) .nil)))))))) (.cons (.ret (.c (.bool true))) .nil))))
def d_law : Df := ⟨(Str.ofString "law"), top 33, [(Str.ofString "script")], [(Str.ofString "script"), (Str.ofString "deck"), (Str.ofString "words"), (Str.ofString "turn"), (Str.ofString "k"), (Str.ofString "word"), (Str.ofString "p"), (Str.ofString "n")], b_law, (Str.ofString "law")⟩
def b__law_are_due : Sms := (.cons (.asg (.nm 4) (.tup (.cons (.c (.str (Str.ofString "tables"))) (.cons (.c (.str (Str.ofString "undoable"))) (.cons (.c (.str (Str.ofString "folds"))) (.cons (.c (.str (Str.ofString "flips"))) (.cons (.c (.str (Str.ofString "fallers"))) (.cons (.c (.str (Str.ofString "at once"))) (.cons (.c (.str (Str.ofString "symmetric"))) .nil))))))))) (.cons (.par3 9 10 11 (.cons (.and (.isi .str (.var 0)) (.cons (.cmp .In (.var 0) (.var 4)) .nil)) (.cons (.and (.call (Str.ofString "_law_is_from") [.inl 0, .inl 1, .inl 2] (.cons (.var 1) (.cons (.c (.int 2)) (.cons (.c (.int 7)) .nil))) .nil) (.cons (.cmp .In (.var 1) (.tup (.cons (.c (.int 2)) (.cons (.c (.int 3)) (.cons (.c (.int 5)) (.cons (.c (.int 7)) .nil)))))) .nil)) (.cons (.call (Str.ofString "_law_is_from") [.inl 0, .inl 1, .inl 2] (.cons (.var 2) (.cons (.c (.int 1)) (.cons (.c (.int 30)) .nil))) .nil) .nil)))) (.cons (.asg (.nm 5) (.ite (.var 10) (.lst false .nil) (.lst false (.cons (.tup (.cons (.lst false (.cons (.c (.bool false)) (.cons (.c (.bool true)) (.cons (.c (.bool false)) (.cons (.c (.bool false)) .nil))))) (.cons (.var 1) .nil))) .nil)))) (.cons (.asg (.nm 5) (.bin .Add false (.var 5) (.ite (.var 11) (.lst false .nil) (.lst false (.cons (.tup (.cons (.lst false (.cons (.c (.bool false)) (.cons (.c (.bool false)) (.cons (.c (.bool true)) (.cons (.c (.bool false)) .nil))))) (.cons (.var 2) .nil))) .nil))))) (.cons (.asg (.nm 6) (.bin .Add false (.bin .Add false (.ite (.var 9) (.lst false .nil) (.lst false (.cons (.tup (.cons (.lst false (.cons (.c (.bool true)) (.cons (.c (.bool false)) (.cons (.c (.bool false)) (.cons (.c (.bool false)) .nil))))) (.cons (.var 0) .nil))) .nil))) (.var 5)) (.lst false (.cons (.c (.bool true)) .nil)))) (.cons (.asg (.nm 7) (.bin .Add false (.bin .Add false (.var 5) (.ite (.and (.var 11) (.cons (.call (Str.ofString "_law_is_from") [.inl 0, .inl 1, .inl 2] (.cons (.var 3) (.cons (.c (.int 0)) (.cons (.var 2) .nil))) .nil) .nil)) (.lst false .nil) (.lst false (.cons (.tup (.cons (.lst false (.cons (.c (.bool false)) (.cons (.c (.bool false)) (.cons (.c (.bool true)) (.cons (.c (.bool false)) .nil))))) (.cons (.var 3) .nil))) .nil)))) (.lst false (.cons (.c (.bool true)) .nil)))) (.cons (.asg (.nm 8) (.lst true (.cons (.rsd (Str.ofString "_law_told") (Str.ofString "count_of") [.inl 0, .inl 1, .inl 2] [0, 1, 2] []) .nil))) (.cons (.exp (.mt false .append (.var 8) (.cons (.rsd (Str.ofString "_law_told") (Str.ofString "count_of") [.inl 2, .inl 1, .inl 0] [] [2, 1, 0]) .nil))) (.cons (.ite (.cmp .NotEq (.bn false .repr (.cons (.var 8) .nil)) (.bn false .repr (.cons (.bin .Mult false (.lst false (.cons (.idx (.var 6) (.c (.int 0))) .nil)) (.c (.int 2))) .nil))) (.cons (.ret (.c (.bool false))) .nil) .nil) (.cons (.asg (.nm 8) (.lst true (.cons (.rsd (Str.ofString "_law_told") (Str.ofString "count_rank") [.inl 0, .inl 1, .inl 2] [1, 2, 3] []) .nil))) (.cons (.exp (.mt false .append (.var 8) (.cons (.rsd (Str.ofString "_law_told") (Str.ofString "count_rank") [.inl 2, .inl 1, .inl 0] [] [3, 2, 1]) .nil))) (.cons (.exp (.mt false .append (.var 8) (.cons (.rsd (Str.ofString "_law_told") (Str.ofString "count_free") [.inl 0, .inl 1, .inl 2] [1, 2, 3] []) .nil))) (.cons (.exp (.mt false .append (.var 8) (.cons (.rsd (Str.ofString "_law_told") (Str.ofString "count_free") [.inl 2, .inl 1, .inl 0] [] [3, 2, 1]) .nil))) (.cons (.ret (.cmp .Eq (.bn false .repr (.cons (.var 8) .nil)) (.bn false .repr (.cons (.bin .Mult false (.lst false (.cons (.idx (.var 7) (.c (.int 0))) .nil)) (.c (.int 4))) .nil)))) .nil))))))))))))))
def d__law_are_due : Df := ⟨(Str.ofString "_law_are_due"), top 32, [(Str.ofString "word"), (Str.ofString "p"), (Str.ofString "n"), (Str.ofString "k")], [(Str.ofString "word"), (Str.ofString "p"), (Str.ofString "n"), (Str.ofString "k"), (Str.ofString "words"), (Str.ofString "near"), (Str.ofString "first"), (Str.ofString "last"), (Str.ofString "told"), (Str.ofString "is_word"), (Str.ofString "is_p"), (Str.ofString "is_n")], b__law_are_due, (Str.ofString "_law_are_due")⟩
def b__law_draw : Sms := (.cons (.asg (.sub (.var 0) (.c (.str (Str.ofString "draws")))) (.bin .Add true (.idx (.var 0) (.c (.str (Str.ofString "draws")))) (.c (.int 1)))) (.cons (.asg (.nm 2) (.bin .Add false (.idx (.var 0) (.c (.str (Str.ofString "mixed")))) (.bin .Mult false (.c (.int 75403)) (.idx (.var 0) (.c (.str (Str.ofString "draws"))))))) (.cons (.ite (.cmp .NotEq (.idx (.var 0) (.c (.str (Str.ofString "cells")))) (.lst false .nil)) (.cons (.asg (.nm 3) (.mt false .pop (.idx (.var 0) (.c (.str (Str.ofString "cells")))) .nil)) (.cons (.ite (.cmp .GtE (.var 3) (.bin .Pow false (.c (.int 10)) (.c (.int 18)))) (.cons (.exp (.mt false .append (.idx (.var 0) (.c (.str (Str.ofString "cells")))) (.cons (.bin .FloorDiv false (.var 3) (.bn false .mx (.cons (.c (.int 2)) (.cons (.var 1) .nil)))) .nil))) (.cons (.ret (.bin .Mod false (.bn false .int (.cons (.var 3) .nil)) (.var 1))) .nil)) .nil) (.cons (.asg (.nm 2) (.bin .Add false (.var 2) (.bin .Mod false (.bn false .int (.cons (.var 3) .nil)) (.c (.int 2147483629))))) .nil))) .nil) (.cons (.asg (.nm 2) (.bin .Mod false (.bn false .int (.cons (.bin .Add false (.bin .Mult false (.var 2) (.c (.int 39373))) (.c (.int 101))) .nil)) (.c (.int 2147483647)))) (.cons (.asg (.nm 2) (.bin .Mod false (.bn false .int (.cons (.bin .Add false (.bin .Add false (.bin .Mult false (.var 2) (.var 2)) (.bin .Mult false (.c (.int 36299)) (.idx (.var 0) (.c (.str (Str.ofString "draws")))))) (.c (.int 19))) .nil)) (.c (.int 2147483587)))) (.cons (.asg (.nm 2) (.bin .Mod false (.bn false .int (.cons (.bin .Mult false (.var 2) (.c (.int 40692))) .nil)) (.c (.int 2147483563)))) (.cons (.ret (.bin .Mod false (.bn false .int (.cons (.bin .FloorDiv false (.var 2) (.c (.int 64))) .nil)) (.var 1))) .nil)))))))
def d__law_draw : Df := ⟨(Str.ofString "_law_draw"), top 27, [(Str.ofString "deck"), (Str.ofString "many")], [(Str.ofString "deck"), (Str.ofString "many"), (Str.ofString "number"), (Str.ofString "cell")], b__law_draw, (Str.ofString "_law_draw")⟩
def b__law_pick : Sms := (.cons (.ret (.idx (.var 1) (.call (Str.ofString "_law_draw") [.inl 0, .inl 1] (.cons (.var 0) (.cons (.bn false .len (.cons (.var 1) .nil)) .nil)) .nil))) .nil)
def d__law_pick : Df := ⟨(Str.ofString "_law_pick"), top 28, [(Str.ofString "deck"), (Str.ofString "some")], [(Str.ofString "deck"), (Str.ofString "some")], b__law_pick, (Str.ofString "_law_pick")⟩
def b__law_any : Sms := (.cons (.asg (.nm 2) (.call (Str.ofString "_law_draw") [.inl 0, .inl 1] (.cons (.var 0) (.cons (.c (.int 8)) .nil)) .nil)) (.cons (.ite (.cmp .Lt (.var 2) (.c (.int 2))) (.cons (.ret (.call (Str.ofString "_law_pick") [.inl 0, .inl 1] (.cons (.var 0) (.cons (.lst false (.cons (.c (.int 0)) (.cons (.c (.int 1)) (.cons (.c (.int 2)) (.cons (.neg (.c (.int 1))) (.cons (.c (.int 3)) (.cons (.c (.int 5)) (.cons (.c (.int 9)) (.cons (.bin .Pow false (.c (.int 10)) (.c (.int 50))) .nil))))))))) .nil)) .nil)) .nil) .nil) (.cons (.ite (.cmp .Eq (.var 2) (.c (.int 2))) (.cons (.ret (.call (Str.ofString "_law_pick") [.inl 0, .inl 1] (.cons (.var 0) (.cons (.lst false (.cons (.c (.str (Str.ofString ""))) (.cons (.c (.str (Str.ofString "root"))) (.cons (.c (.str (Str.ofString "bar"))) (.cons (.c (.str (Str.ofString "symmetric"))) (.cons (.c (.str (Str.ofString "table 2 1\n1"))) (.cons (.c (.str (Str.ofString "folds"))) .nil))))))) .nil)) .nil)) .nil) .nil) (.cons (.ite (.cmp .Eq (.var 2) (.c (.int 3))) (.cons (.ret (.call (Str.ofString "_law_pick") [.inl 0, .inl 1] (.cons (.var 0) (.cons (.lst false (.cons (.c (.bool true)) (.cons (.c (.bool false)) (.cons (.c .none) .nil)))) .nil)) .nil)) .nil) .nil) (.cons (.ite (.cmp .Eq (.var 2) (.c (.int 4))) (.cons (.ret (.call (Str.ofString "_law_pick") [.inl 0, .inl 1] (.cons (.var 0) (.cons (.lst false (.cons (.tup (.cons (.c (.int 2)) (.cons (.tup (.cons (.tup (.cons (.c (.int 1)) .nil)) .nil)) .nil))) (.cons (.tup (.cons (.c (.int 3)) (.cons (.tup (.cons (.tup (.cons (.c (.int 0)) (.cons (.c (.int 1)) .nil))) (.cons (.tup (.cons (.c (.int 2)) (.cons (.c (.int 0)) .nil))) .nil))) .nil))) (.cons (.tup (.cons (.c (.int 0)) (.cons (.c (.int 1)) .nil))) (.cons (.tup (.cons (.tup (.cons (.c (.int 1)) (.cons (.c (.int 0)) .nil))) (.cons (.tup (.cons (.c (.int 0)) (.cons (.c (.int 1)) .nil))) .nil))) .nil))))) .nil)) .nil)) .nil) .nil) (.cons (.asg (.nm 3) (.ite (.cmp .Gt (.var 1) (.c (.int 0))) (.lc false (.r1 (.call (Str.ofString "_law_draw") [.inl 0, .inl 1] (.cons (.var 0) (.cons (.c (.int 4)) .nil)) .nil)) (.nm 4) [((Str.ofString "turn"), 4)] .no (.call (Str.ofString "_law_any") [.inl 0, .inl 1] (.cons (.var 0) (.cons (.bin .Sub false (.var 1) (.c (.int 1))) .nil)) .nil)) (.lst false .nil))) (.cons (.ite (.cmp .Eq (.var 2) (.c (.int 5))) (.cons (.ret (.var 3)) .nil) .nil) (.cons (.ret (.ite (.cmp .Eq (.var 2) (.c (.int 6))) (.frz (.dct (.cons (.c (.str (Str.ofString "rows"))) (.var 3) (.cons (.c (.int 1)) (.bn true .len (.cons (.var 3) .nil)) .nil)))) (.bn false .tup (.cons (.var 3) .nil)))) .nil))))))))
def d__law_any : Df := ⟨(Str.ofString "_law_any"), top 29, [(Str.ofString "deck"), (Str.ofString "deep")], [(Str.ofString "deck"), (Str.ofString "deep"), (Str.ofString "way"), (Str.ofString "some"), (Str.ofString "turn")], b__law_any, (Str.ofString "_law_any")⟩
def b__law_deck : Sms := (.cons (.asg (.nm 1) (.c (.int 10899073))) (.cons (.for_ (.nm 2) (.seq (.sli false (.var 0) .no (.so (.c (.int 63))))) (.cons (.asg (.nm 1) (.bin .Mod false (.bn false .int (.cons (.bin .Add false (.bin .Add false (.bin .Mult false (.var 1) (.c (.int 48271))) (.bin .Mod false (.bn false .int (.cons (.var 2) .nil)) (.c (.int 2147483629)))) (.c (.int 101))) .nil)) (.c (.int 2147483587)))) .nil)) (.cons (.ret (.dct (.cons (.c (.str (Str.ofString "cells"))) (.rev true (.bn false .lst (.cons (.sli false (.var 0) .no (.so (.c (.int 63)))) .nil))) (.cons (.c (.str (Str.ofString "mixed"))) (.var 1) (.cons (.c (.str (Str.ofString "draws"))) (.c (.int 0)) .nil))))) .nil)))
def d__law_deck : Df := ⟨(Str.ofString "_law_deck"), top 26, [(Str.ofString "script")], [(Str.ofString "script"), (Str.ofString "mixed"), (Str.ofString "cell")], b__law_deck, (Str.ofString "_law_deck")⟩
def b_count_free : Sms := (.cons (.exp (.call (Str.ofString "need_size") [.inl 0, .inl 1] (.cons (.var 0) (.cons (.var 1) .nil)) .nil)) (.cons (.exp (.call (Str.ofString "need_integer") [.inl 0, .inl 1, .inl 2] (.cons (.var 2) (.cons (.c (.int 0)) (.cons (.var 1) .nil))) .nil)) (.cons (.ret (.call (Str.ofString "many_free") [.inl 0, .inl 1, .inl 2] (.cons (.var 0) (.cons (.var 1) (.cons (.var 2) .nil))) .nil)) .nil)))
def d_count_free : Df := ⟨(Str.ofString "count_free"), top 24, [(Str.ofString "p"), (Str.ofString "n"), (Str.ofString "k")], [(Str.ofString "p"), (Str.ofString "n"), (Str.ofString "k")], b_count_free, (Str.ofString "count_free")⟩
def b_count_rank : Sms := (.cons (.exp (.call (Str.ofString "need_size") [.inl 0, .inl 1] (.cons (.var 0) (.cons (.var 1) .nil)) .nil)) (.cons (.exp (.call (Str.ofString "need_integer") [.inl 0, .inl 1, .inl 2] (.cons (.var 2) (.cons (.c (.int 0)) (.cons (.var 1) .nil))) .nil)) (.cons (.ret (.bin .Mult false (.call (Str.ofString "many_spans") [.inl 0, .inl 1, .inl 2] (.cons (.var 0) (.cons (.var 1) (.cons (.var 2) .nil))) .nil) (.call (Str.ofString "many_free") [.inl 0, .inl 1, .inl 2] (.cons (.var 0) (.cons (.var 1) (.cons (.var 2) .nil))) .nil))) .nil)))
def d_count_rank : Df := ⟨(Str.ofString "count_rank"), top 23, [(Str.ofString "p"), (Str.ofString "n"), (Str.ofString "r")], [(Str.ofString "p"), (Str.ofString "n"), (Str.ofString "r")], b_count_rank, (Str.ofString "count_rank")⟩
def b_count_of : Sms := (.cons (.ite (.or (.not (.isi .str (.var 0))) (.cons (.cmp .NotIn (.var 0) (.glob (.tuple [(.str (Str.ofString "tables")), (.str (Str.ofString "undoable")), (.str (Str.ofString "folds")), (.str (Str.ofString "flips")), (.str (Str.ofString "fallers")), (.str (Str.ofString "at once")), (.str (Str.ofString "symmetric"))]))) .nil)) (.cons (.rais (Str.ofString "BadWord") (.var 0)) .nil) .nil) (.cons (.exp (.call (Str.ofString "need_size") [.inl 0, .inl 1] (.cons (.var 1) (.cons (.var 2) .nil)) .nil)) (.cons (.ite (.cmp .Eq (.var 0) (.c (.str (Str.ofString "undoable")))) (.cons (.ret (.call (Str.ofString "many_free") [.inl 0, .inl 1, .inl 2] (.cons (.var 1) (.cons (.var 2) (.cons (.var 2) .nil))) .nil)) .nil) .nil) (.cons (.ite (.cmp .Eq (.var 0) (.c (.str (Str.ofString "folds")))) (.cons (.ret (.call (Str.ofString "many_folds") [.inl 0, .inl 1] (.cons (.var 1) (.cons (.var 2) .nil)) .nil)) .nil) .nil) (.cons (.ite (.cmp .Eq (.var 0) (.c (.str (Str.ofString "flips")))) (.cons (.ret (.call (Str.ofString "many_flips") [.inl 0, .inl 1] (.cons (.var 1) (.cons (.var 2) .nil)) .nil)) .nil) .nil) (.cons (.ite (.cmp .Eq (.var 0) (.c (.str (Str.ofString "at once")))) (.cons (.ret (.call (Str.ofString "many_at_once") [.inl 0, .inl 1] (.cons (.var 1) (.cons (.var 2) .nil)) .nil)) .nil) .nil) (.cons (.ite (.cmp .Eq (.var 0) (.c (.str (Str.ofString "fallers")))) (.cons (.ret (.call (Str.ofString "powered") [.inl 0, .inl 1] (.cons (.var 1) (.cons (.bin .Sub false (.bin .Mult false (.var 2) (.var 2)) (.var 2)) .nil)) .nil)) .nil) .nil) (.cons (.ret (.call (Str.ofString "powered") [.inl 0, .inl 1] (.cons (.var 1) (.cons (.ite (.cmp .Eq (.var 0) (.c (.str (Str.ofString "tables")))) (.bin .Mult false (.var 2) (.var 2)) (.bin .FloorDiv false (.bin .Mult false (.var 2) (.bin .Add false (.var 2) (.c (.int 1)))) (.c (.int 2)))) .nil)) .nil)) .nil))))))))
def d_count_of : Df := ⟨(Str.ofString "count_of"), top 22, [(Str.ofString "word"), (Str.ofString "p"), (Str.ofString "n")], [(Str.ofString "word"), (Str.ofString "p"), (Str.ofString "n")], b_count_of, (Str.ofString "count_of")⟩
def b__law_is_from : Sms := (.cons (.ret (.and (.isi .int (.var 0)) (.cons (.not (.isi .bl (.var 0))) (.cons (.chain .LtE .LtE (.var 1) (.var 0) (.var 2)) .nil)))) .nil)
def d__law_is_from : Df := ⟨(Str.ofString "_law_is_from"), top 31, [(Str.ofString "thing"), (Str.ofString "low"), (Str.ofString "high")], [(Str.ofString "thing"), (Str.ofString "low"), (Str.ofString "high")], b__law_is_from, (Str.ofString "_law_is_from")⟩
def b_many_free : Sms := (.cons (.asg (.nm 3) (.c (.int 1))) (.cons (.for_ (.nm 4) (.r1 (.var 2)) (.cons (.asg (.nm 3) (.bin .Mult false (.var 3) (.bin .Sub false (.call (Str.ofString "powered") [.inl 0, .inl 1] (.cons (.var 0) (.cons (.var 1) .nil)) .nil) (.call (Str.ofString "powered") [.inl 0, .inl 1] (.cons (.var 0) (.cons (.var 4) .nil)) .nil)))) .nil)) (.cons (.ret (.var 3)) .nil)))
def d_many_free : Df := ⟨(Str.ofString "many_free"), top 17, [(Str.ofString "p"), (Str.ofString "n"), (Str.ofString "k")], [(Str.ofString "p"), (Str.ofString "n"), (Str.ofString "k"), (Str.ofString "found"), (Str.ofString "at")], b_many_free, (Str.ofString "many_free")⟩
def b_need_integer : Sms := (.cons (.ite (.or (.not (.call (Str.ofString "is_integer") [.inl 0] (.cons (.var 0) .nil) .nil)) (.cons (.cmp .Lt (.var 0) (.var 1)) (.cons (.and (.cmp .IsNot (.var 2) (.c .none)) (.cons (.cmp .Gt (.var 0) (.var 2)) .nil)) .nil))) (.cons (.rais (Str.ofString "BadNumber") (.var 0)) .nil) .nil) .nil)
def d_need_integer : Df := ⟨(Str.ofString "need_integer"), top 11, [(Str.ofString "thing"), (Str.ofString "least"), (Str.ofString "most")], [(Str.ofString "thing"), (Str.ofString "least"), (Str.ofString "most")], b_need_integer, (Str.ofString "need_integer")⟩
def b_need_size : Sms := (.cons (.exp (.call (Str.ofString "need_prime") [.inl 0] (.cons (.var 0) .nil) .nil)) (.cons (.exp (.call (Str.ofString "need_integer") [.inl 0, .inl 1, .inl 2] (.cons (.var 1) (.cons (.c (.int 1)) (.cons (.glob (.int 30)) .nil))) .nil)) .nil))
def d_need_size : Df := ⟨(Str.ofString "need_size"), top 16, [(Str.ofString "p"), (Str.ofString "n")], [(Str.ofString "p"), (Str.ofString "n")], b_need_size, (Str.ofString "need_size")⟩
def b_many_spans : Sms := (.cons (.ret (.bin .FloorDiv false (.call (Str.ofString "many_free") [.inl 0, .inl 1, .inl 2] (.cons (.var 0) (.cons (.var 1) (.cons (.var 2) .nil))) .nil) (.call (Str.ofString "many_free") [.inl 0, .inl 1, .inl 2] (.cons (.var 0) (.cons (.var 2) (.cons (.var 2) .nil))) .nil))) .nil)
def d_many_spans : Df := ⟨(Str.ofString "many_spans"), top 18, [(Str.ofString "p"), (Str.ofString "n"), (Str.ofString "k")], [(Str.ofString "p"), (Str.ofString "n"), (Str.ofString "k")], b_many_spans, (Str.ofString "many_spans")⟩
def b_powered : Sms := (.cons (.asg (.nm 2) (.c (.int 1))) (.cons (.for_ (.nm 3) (.r1 (.var 1)) (.cons (.asg (.nm 2) (.bin .Mult false (.var 2) (.var 0))) .nil)) (.cons (.ret (.var 2)) .nil)))
def d_powered : Df := ⟨(Str.ofString "powered"), top 12, [(Str.ofString "number"), (Str.ofString "k")], [(Str.ofString "number"), (Str.ofString "k"), (Str.ofString "found"), (Str.ofString "turn")], b_powered, (Str.ofString "powered")⟩
def b_many_at_once : Sms := (.cons (.asg (.nm 2) (.c (.int 0))) (.cons (.for_ (.nm 3) (.r1 (.bin .Add false (.bin .FloorDiv false (.var 1) (.c (.int 2))) (.c (.int 1)))) (.cons (.aug 2 .Add (.bin .Mult false (.bin .Mult false (.call (Str.ofString "many_spans") [.inl 0, .inl 1, .inl 2] (.cons (.var 0) (.cons (.var 1) (.cons (.bin .Sub false (.var 1) (.var 3)) .nil))) .nil) (.call (Str.ofString "many_spans") [.inl 0, .inl 1, .inl 2] (.cons (.var 0) (.cons (.bin .Sub false (.var 1) (.var 3)) (.cons (.var 3) .nil))) .nil)) (.call (Str.ofString "many_free") [.inl 0, .inl 1, .inl 2] (.cons (.var 0) (.cons (.var 3) (.cons (.var 3) .nil))) .nil))) .nil)) (.cons (.ret (.var 2)) .nil)))
def d_many_at_once : Df := ⟨(Str.ofString "many_at_once"), top 20, [(Str.ofString "p"), (Str.ofString "n")], [(Str.ofString "p"), (Str.ofString "n"), (Str.ofString "found"), (Str.ofString "r")], b_many_at_once, (Str.ofString "many_at_once")⟩
def b_many_flips : Sms := (.cons (.ret (.ite (.cmp .Eq (.var 0) (.c (.int 2))) (.call (Str.ofString "many_at_once") [.inl 0, .inl 1] (.cons (.var 0) (.cons (.var 1) .nil)) .nil) (.call (Str.ofString "many_folds") [.inl 0, .inl 1] (.cons (.var 0) (.cons (.var 1) .nil)) .nil))) .nil)
def d_many_flips : Df := ⟨(Str.ofString "many_flips"), top 21, [(Str.ofString "p"), (Str.ofString "n")], [(Str.ofString "p"), (Str.ofString "n")], b_many_flips, (Str.ofString "many_flips")⟩
def b_many_folds : Sms := (.cons (.asg (.nm 2) (.call (Str.ofString "many_free") [.inl 0, .inl 1, .inl 2] (.cons (.var 0) (.cons (.var 1) (.cons (.var 1) .nil))) .nil)) (.cons (.ret (.bn false .sum (.cons (.lc false (.r1 (.bin .Add false (.var 1) (.c (.int 1)))) (.nm 3) [((Str.ofString "r"), 3)] .no (.bin .FloorDiv false (.var 2) (.bin .Mult false (.call (Str.ofString "many_free") [.inl 0, .inl 1, .inl 2] (.cons (.var 0) (.cons (.var 3) (.cons (.var 3) .nil))) .nil) (.call (Str.ofString "many_free") [.inl 0, .inl 1, .inl 2] (.cons (.var 0) (.cons (.bin .Sub false (.var 1) (.var 3)) (.cons (.bin .Sub false (.var 1) (.var 3)) .nil))) .nil)))) .nil))) .nil))
def d_many_folds : Df := ⟨(Str.ofString "many_folds"), top 19, [(Str.ofString "p"), (Str.ofString "n")], [(Str.ofString "p"), (Str.ofString "n"), (Str.ofString "whole"), (Str.ofString "r")], b_many_folds, (Str.ofString "many_folds")⟩
def b_is_integer : Sms := (.cons (.ret (.and (.isi .int (.var 0)) (.cons (.not (.isi .bl (.var 0))) .nil))) .nil)
def d_is_integer : Df := ⟨(Str.ofString "is_integer"), top 8, [(Str.ofString "thing")], [(Str.ofString "thing")], b_is_integer, (Str.ofString "is_integer")⟩
def b_need_prime : Sms := (.cons (.ite (.not (.call (Str.ofString "is_prime_value") [.inl 0] (.cons (.var 0) .nil) .nil)) (.cons (.rais (Str.ofString "BadPrime") (.var 0)) .nil) .nil) .nil)
def d_need_prime : Df := ⟨(Str.ofString "need_prime"), top 10, [(Str.ofString "p")], [(Str.ofString "p")], b_need_prime, (Str.ofString "need_prime")⟩
def b_is_prime_value : Sms := (.cons (.ret (.and (.call (Str.ofString "is_integer") [.inl 0] (.cons (.var 0) .nil) .nil) (.cons (.cmp .In (.var 0) (.glob (.tuple [(.int 2), (.int 3), (.int 5), (.int 7)]))) .nil))) .nil)
def d_is_prime_value : Df := ⟨(Str.ofString "is_prime_value"), top 9, [(Str.ofString "thing")], [(Str.ofString "thing")], b_is_prime_value, (Str.ofString "is_prime_value")⟩
def defs : List Df := [d_law, d__law_are_due, d__law_draw, d__law_pick, d__law_any, d__law_deck, d_count_free, d_count_rank, d_count_of, d__law_is_from, d_many_free, d_need_integer, d_need_size, d_many_spans, d_powered, d_many_at_once, d_many_flips, d_many_folds, d_is_integer, d_need_prime, d_is_prime_value]
def tab : Tab := { blt := [(Str.ofString "range"), (Str.ofString "repr"), (Str.ofString "isinstance"), (Str.ofString "int"), (Str.ofString "bool"), (Str.ofString "str"), (Str.ofString "max"), (Str.ofString "len"), (Str.ofString "tuple"), (Str.ofString "list"), (Str.ofString "sum")], cst := [((Str.ofString "WORDS"), (.tuple [(.str (Str.ofString "tables")), (.str (Str.ofString "undoable")), (.str (Str.ofString "folds")), (.str (Str.ofString "flips")), (.str (Str.ofString "fallers")), (.str (Str.ofString "at once")), (.str (Str.ofString "symmetric"))])), ((Str.ofString "MOST"), (.int 30)), ((Str.ofString "PRIMES"), (.tuple [(.int 2), (.int 3), (.int 5), (.int 7)]))], shp := [((Str.ofString "_law_are_due"), 4, [], [.inl 0, .inl 1, .inl 2, .inl 3]),
  ((Str.ofString "_law_draw"), 2, [], [.inl 0, .inl 1]),
  ((Str.ofString "_law_pick"), 2, [], [.inl 0, .inl 1]),
  ((Str.ofString "_law_any"), 2, [], [.inl 0, .inl 1]),
  ((Str.ofString "_law_deck"), 1, [], [.inl 0]),
  ((Str.ofString "count_free"), 0, [(Str.ofString "k"), (Str.ofString "n"), (Str.ofString "p")], [.inl 2, .inl 1, .inl 0]),
  ((Str.ofString "count_free"), 3, [], [.inl 0, .inl 1, .inl 2]),
  ((Str.ofString "count_rank"), 0, [(Str.ofString "r"), (Str.ofString "n"), (Str.ofString "p")], [.inl 2, .inl 1, .inl 0]),
  ((Str.ofString "count_rank"), 3, [], [.inl 0, .inl 1, .inl 2]),
  ((Str.ofString "count_of"), 0, [(Str.ofString "n"), (Str.ofString "p"), (Str.ofString "word")], [.inl 2, .inl 1, .inl 0]),
  ((Str.ofString "count_of"), 3, [], [.inl 0, .inl 1, .inl 2]),
  ((Str.ofString "_law_is_from"), 3, [], [.inl 0, .inl 1, .inl 2]),
  ((Str.ofString "many_free"), 3, [], [.inl 0, .inl 1, .inl 2]),
  ((Str.ofString "need_integer"), 3, [], [.inl 0, .inl 1, .inl 2]),
  ((Str.ofString "need_size"), 2, [], [.inl 0, .inl 1]),
  ((Str.ofString "many_spans"), 3, [], [.inl 0, .inl 1, .inl 2]),
  ((Str.ofString "powered"), 2, [], [.inl 0, .inl 1]),
  ((Str.ofString "many_at_once"), 2, [], [.inl 0, .inl 1]),
  ((Str.ofString "many_flips"), 2, [], [.inl 0, .inl 1]),
  ((Str.ofString "many_folds"), 2, [], [.inl 0, .inl 1]),
  ((Str.ofString "is_integer"), 1, [], [.inl 0]),
  ((Str.ofString "need_prime"), 1, [], [.inl 0]),
  ((Str.ofString "is_prime_value"), 1, [], [.inl 0])], fl := [], mks := [], mth := [], exs := [(Str.ofString "BadWord"), (Str.ofString "BadNumber"), (Str.ofString "BadPrime")], cats := [(Str.ofString "_law_told")], lmk := [(Str.ofString "_law_are_due")], sub := [((Str.ofString "BadWord"), (Str.ofString "BadWord")), ((Str.ofString "BadWord"), (Str.ofString "TableError")), ((Str.ofString "BadNumber"), (Str.ofString "BadNumber")), ((Str.ofString "BadNumber"), (Str.ofString "TableError")), ((Str.ofString "BadPrime"), (Str.ofString "BadPrime")), ((Str.ofString "BadPrime"), (Str.ofString "TableError"))], fx := [], knm := [(Str.ofString "BadTable"), (Str.ofString "BadNumber"), (Str.ofString "BadPrime"), (Str.ofString "BadWord"), (Str.ofString "TableError")] }
def c__law_told : Ctr := ⟨(Str.ofString "_law_told"), top 30, [(Str.ofString "deed"), (Str.ofString "e"), (Str.ofString "found")], (.st 2), (.cons (.ret (.and (.isi .int (.var 2)) (.cons (.not (.isi .bl (.var 2))) .nil))) .nil), [⟨(Str.ofString "TableError"), (some 1), [.ret (.tup (.cons (.lst (.cons (.isi (Str.ofString "BadWord")) (.cons (.isi (Str.ofString "BadPrime")) (.cons (.isi (Str.ofString "BadNumber")) (.cons (.isi (Str.ofString "BadTable")) .nil))))) (.cons (.th (Str.ofString "thing")) .nil)))]⟩], .nil⟩
def cts : List Ctr := [c__law_told]
theorem cc__law_told : c__law_told.ck tab = true := by decide +kernel
theorem ck_law : dfC tab d_law = true := by decide +kernel
theorem ck__law_are_due : dfC tab d__law_are_due = true := by decide +kernel
theorem ck__law_draw : dfC tab d__law_draw = true := by decide +kernel
theorem ck__law_pick : dfC tab d__law_pick = true := by decide +kernel
theorem ck__law_any : dfC tab d__law_any = true := by decide +kernel
theorem ck__law_deck : dfC tab d__law_deck = true := by decide +kernel
theorem ck_count_free : dfC tab d_count_free = true := by decide +kernel
theorem ck_count_rank : dfC tab d_count_rank = true := by decide +kernel
theorem ck_count_of : dfC tab d_count_of = true := by decide +kernel
theorem ck__law_is_from : dfC tab d__law_is_from = true := by decide +kernel
theorem ck_many_free : dfC tab d_many_free = true := by decide +kernel
theorem ck_need_integer : dfC tab d_need_integer = true := by decide +kernel
theorem ck_need_size : dfC tab d_need_size = true := by decide +kernel
theorem ck_many_spans : dfC tab d_many_spans = true := by decide +kernel
theorem ck_powered : dfC tab d_powered = true := by decide +kernel
theorem ck_many_at_once : dfC tab d_many_at_once = true := by decide +kernel
theorem ck_many_flips : dfC tab d_many_flips = true := by decide +kernel
theorem ck_many_folds : dfC tab d_many_folds = true := by decide +kernel
theorem ck_is_integer : dfC tab d_is_integer = true := by decide +kernel
theorem ck_need_prime : dfC tab d_need_prime = true := by decide +kernel
theorem ck_is_prime_value : dfC tab d_is_prime_value = true := by decide +kernel
section
variable {K : PySem.W.Frag} {mg : Str → Option Value} {fd : FdT} {f : Addr} {fdt : FuncData}
theorem bd_0 (F : FnAt K mg fd d__law_are_due [] f fdt) : BndOk K mg fd fdt d__law_are_due.ps 4 [] [.inl 0, .inl 1, .inl 2, .inl 3] := F.bnd0 fun kV doc pm an cdv ct us ws h1 h2 => match us, ws, h1, h2 with
  | [u0, u1, u2, u3], [], _, _ => ⟨[u0, u1, u2, u3], rfl, rfl, (.cons rfl (.cons rfl (.cons rfl (.cons rfl .nil))))⟩
theorem bd_1 (F : FnAt K mg fd d__law_draw [] f fdt) : BndOk K mg fd fdt d__law_draw.ps 2 [] [.inl 0, .inl 1] := F.bnd0 fun kV doc pm an cdv ct us ws h1 h2 => match us, ws, h1, h2 with
  | [u0, u1], [], _, _ => ⟨[u0, u1], rfl, rfl, (.cons rfl (.cons rfl .nil))⟩
theorem bd_2 (F : FnAt K mg fd d__law_pick [] f fdt) : BndOk K mg fd fdt d__law_pick.ps 2 [] [.inl 0, .inl 1] := F.bnd0 fun kV doc pm an cdv ct us ws h1 h2 => match us, ws, h1, h2 with
  | [u0, u1], [], _, _ => ⟨[u0, u1], rfl, rfl, (.cons rfl (.cons rfl .nil))⟩
theorem bd_3 (F : FnAt K mg fd d__law_any [] f fdt) : BndOk K mg fd fdt d__law_any.ps 2 [] [.inl 0, .inl 1] := F.bnd0 fun kV doc pm an cdv ct us ws h1 h2 => match us, ws, h1, h2 with
  | [u0, u1], [], _, _ => ⟨[u0, u1], rfl, rfl, (.cons rfl (.cons rfl .nil))⟩
theorem bd_4 (F : FnAt K mg fd d__law_deck [] f fdt) : BndOk K mg fd fdt d__law_deck.ps 1 [] [.inl 0] := F.bnd0 fun kV doc pm an cdv ct us ws h1 h2 => match us, ws, h1, h2 with
  | [u0], [], _, _ => ⟨[u0], rfl, rfl, (.cons rfl .nil)⟩
theorem bd_5 (F : FnAt K mg fd d_count_free [] f fdt) : BndOk K mg fd fdt d_count_free.ps 0 [(Str.ofString "k"), (Str.ofString "n"), (Str.ofString "p")] [.inl 2, .inl 1, .inl 0] := F.bnd0 fun kV doc pm an cdv ct us ws h1 h2 => match us, ws, h1, h2 with
  | [], [w0, w1, w2], _, _ => ⟨[w2, w1, w0], rfl, rfl, (.cons rfl (.cons rfl (.cons rfl .nil)))⟩
theorem bd_6 (F : FnAt K mg fd d_count_free [] f fdt) : BndOk K mg fd fdt d_count_free.ps 3 [] [.inl 0, .inl 1, .inl 2] := F.bnd0 fun kV doc pm an cdv ct us ws h1 h2 => match us, ws, h1, h2 with
  | [u0, u1, u2], [], _, _ => ⟨[u0, u1, u2], rfl, rfl, (.cons rfl (.cons rfl (.cons rfl .nil)))⟩
theorem bd_7 (F : FnAt K mg fd d_count_rank [] f fdt) : BndOk K mg fd fdt d_count_rank.ps 0 [(Str.ofString "r"), (Str.ofString "n"), (Str.ofString "p")] [.inl 2, .inl 1, .inl 0] := F.bnd0 fun kV doc pm an cdv ct us ws h1 h2 => match us, ws, h1, h2 with
  | [], [w0, w1, w2], _, _ => ⟨[w2, w1, w0], rfl, rfl, (.cons rfl (.cons rfl (.cons rfl .nil)))⟩
theorem bd_8 (F : FnAt K mg fd d_count_rank [] f fdt) : BndOk K mg fd fdt d_count_rank.ps 3 [] [.inl 0, .inl 1, .inl 2] := F.bnd0 fun kV doc pm an cdv ct us ws h1 h2 => match us, ws, h1, h2 with
  | [u0, u1, u2], [], _, _ => ⟨[u0, u1, u2], rfl, rfl, (.cons rfl (.cons rfl (.cons rfl .nil)))⟩
theorem bd_9 (F : FnAt K mg fd d_count_of [] f fdt) : BndOk K mg fd fdt d_count_of.ps 0 [(Str.ofString "n"), (Str.ofString "p"), (Str.ofString "word")] [.inl 2, .inl 1, .inl 0] := F.bnd0 fun kV doc pm an cdv ct us ws h1 h2 => match us, ws, h1, h2 with
  | [], [w0, w1, w2], _, _ => ⟨[w2, w1, w0], rfl, rfl, (.cons rfl (.cons rfl (.cons rfl .nil)))⟩
theorem bd_10 (F : FnAt K mg fd d_count_of [] f fdt) : BndOk K mg fd fdt d_count_of.ps 3 [] [.inl 0, .inl 1, .inl 2] := F.bnd0 fun kV doc pm an cdv ct us ws h1 h2 => match us, ws, h1, h2 with
  | [u0, u1, u2], [], _, _ => ⟨[u0, u1, u2], rfl, rfl, (.cons rfl (.cons rfl (.cons rfl .nil)))⟩
theorem bd_11 (F : FnAt K mg fd d__law_is_from [] f fdt) : BndOk K mg fd fdt d__law_is_from.ps 3 [] [.inl 0, .inl 1, .inl 2] := F.bnd0 fun kV doc pm an cdv ct us ws h1 h2 => match us, ws, h1, h2 with
  | [u0, u1, u2], [], _, _ => ⟨[u0, u1, u2], rfl, rfl, (.cons rfl (.cons rfl (.cons rfl .nil)))⟩
theorem bd_12 (F : FnAt K mg fd d_many_free [] f fdt) : BndOk K mg fd fdt d_many_free.ps 3 [] [.inl 0, .inl 1, .inl 2] := F.bnd0 fun kV doc pm an cdv ct us ws h1 h2 => match us, ws, h1, h2 with
  | [u0, u1, u2], [], _, _ => ⟨[u0, u1, u2], rfl, rfl, (.cons rfl (.cons rfl (.cons rfl .nil)))⟩
theorem bd_13 (F : FnAt K mg fd d_need_integer [.none] f fdt) : BndOk K mg fd fdt d_need_integer.ps 3 [] [.inl 0, .inl 1, .inl 2] := F.bndD (by simp) fun Tt kV doc pm an cdv ct us ws its h1 h2 h3 => match us, ws, its, h1, h2, h3 with
  | [u0, u1, u2], [], [t0], _, _, _ => ⟨[u0, u1, u2], _, rfl, rfl, rfl, (.cons rfl (.cons rfl (.cons rfl .nil)))⟩
theorem bd_14 (F : FnAt K mg fd d_need_size [] f fdt) : BndOk K mg fd fdt d_need_size.ps 2 [] [.inl 0, .inl 1] := F.bnd0 fun kV doc pm an cdv ct us ws h1 h2 => match us, ws, h1, h2 with
  | [u0, u1], [], _, _ => ⟨[u0, u1], rfl, rfl, (.cons rfl (.cons rfl .nil))⟩
theorem bd_15 (F : FnAt K mg fd d_many_spans [] f fdt) : BndOk K mg fd fdt d_many_spans.ps 3 [] [.inl 0, .inl 1, .inl 2] := F.bnd0 fun kV doc pm an cdv ct us ws h1 h2 => match us, ws, h1, h2 with
  | [u0, u1, u2], [], _, _ => ⟨[u0, u1, u2], rfl, rfl, (.cons rfl (.cons rfl (.cons rfl .nil)))⟩
theorem bd_16 (F : FnAt K mg fd d_powered [] f fdt) : BndOk K mg fd fdt d_powered.ps 2 [] [.inl 0, .inl 1] := F.bnd0 fun kV doc pm an cdv ct us ws h1 h2 => match us, ws, h1, h2 with
  | [u0, u1], [], _, _ => ⟨[u0, u1], rfl, rfl, (.cons rfl (.cons rfl .nil))⟩
theorem bd_17 (F : FnAt K mg fd d_many_at_once [] f fdt) : BndOk K mg fd fdt d_many_at_once.ps 2 [] [.inl 0, .inl 1] := F.bnd0 fun kV doc pm an cdv ct us ws h1 h2 => match us, ws, h1, h2 with
  | [u0, u1], [], _, _ => ⟨[u0, u1], rfl, rfl, (.cons rfl (.cons rfl .nil))⟩
theorem bd_18 (F : FnAt K mg fd d_many_flips [] f fdt) : BndOk K mg fd fdt d_many_flips.ps 2 [] [.inl 0, .inl 1] := F.bnd0 fun kV doc pm an cdv ct us ws h1 h2 => match us, ws, h1, h2 with
  | [u0, u1], [], _, _ => ⟨[u0, u1], rfl, rfl, (.cons rfl (.cons rfl .nil))⟩
theorem bd_19 (F : FnAt K mg fd d_many_folds [] f fdt) : BndOk K mg fd fdt d_many_folds.ps 2 [] [.inl 0, .inl 1] := F.bnd0 fun kV doc pm an cdv ct us ws h1 h2 => match us, ws, h1, h2 with
  | [u0, u1], [], _, _ => ⟨[u0, u1], rfl, rfl, (.cons rfl (.cons rfl .nil))⟩
theorem bd_20 (F : FnAt K mg fd d_is_integer [] f fdt) : BndOk K mg fd fdt d_is_integer.ps 1 [] [.inl 0] := F.bnd0 fun kV doc pm an cdv ct us ws h1 h2 => match us, ws, h1, h2 with
  | [u0], [], _, _ => ⟨[u0], rfl, rfl, (.cons rfl .nil)⟩
theorem bd_21 (F : FnAt K mg fd d_need_prime [] f fdt) : BndOk K mg fd fdt d_need_prime.ps 1 [] [.inl 0] := F.bnd0 fun kV doc pm an cdv ct us ws h1 h2 => match us, ws, h1, h2 with
  | [u0], [], _, _ => ⟨[u0], rfl, rfl, (.cons rfl .nil)⟩
theorem bd_22 (F : FnAt K mg fd d_is_prime_value [] f fdt) : BndOk K mg fd fdt d_is_prime_value.ps 1 [] [.inl 0] := F.bnd0 fun kV doc pm an cdv ct us ws h1 h2 => match us, ws, h1, h2 with
  | [u0], [], _, _ => ⟨[u0], rfl, rfl, (.cons rfl .nil)⟩
end
section
def i_BadWord : Df := ⟨(Str.ofString "BadWord.__init__"), inCls (top 5) 0, [(Str.ofString "self"), (Str.ofString "thing")], [(Str.ofString "self"), (Str.ofString "thing")], .nil, "__init__"⟩
def i_BadNumber : Df := ⟨(Str.ofString "BadNumber.__init__"), inCls (top 3) 0, [(Str.ofString "self"), (Str.ofString "thing")], [(Str.ofString "self"), (Str.ofString "thing")], .nil, "__init__"⟩
def i_BadPrime : Df := ⟨(Str.ofString "BadPrime.__init__"), inCls (top 4) 0, [(Str.ofString "self"), (Str.ofString "thing")], [(Str.ofString "self"), (Str.ofString "thing")], .nil, "__init__"⟩
def e__law_told : Df := ⟨(Str.ofString "_law_told"), top 30, [(Str.ofString "deed")], [(Str.ofString "deed"), (Str.ofString "e"), (Str.ofString "found")], .nil, (Str.ofString "_law_told")⟩
variable {l : PySem.W.OpenLaw} {w : World} {K : PySem.W.Frag} {h : Heap} {mg : Str → Option Value} {fa : Addr} {C_BadWord : Addr} {C_BadNumber : Addr} {C_BadPrime : Addr} {C_BadTable : Addr} {C_TableError : Addr}
variable  {c__law_are_due P__law_are_due : Addr}
theorem mk_pro (X : K.In h) (G : h.Ns mainGlobals mg) (hfa : mg "law" = some (.ref fa))
    (r_law : Raw K d_law [])
    (r__law_are_due : Raw K d__law_are_due [])
    (r__law_draw : Raw K d__law_draw [])
    (r__law_pick : Raw K d__law_pick [])
    (r__law_any : Raw K d__law_any [])
    (r__law_deck : Raw K d__law_deck [])
    (r_count_free : Raw K d_count_free [])
    (r_count_rank : Raw K d_count_rank [])
    (r_count_of : Raw K d_count_of [])
    (r__law_is_from : Raw K d__law_is_from [])
    (r_many_free : Raw K d_many_free [])
    (r_need_integer : Raw K d_need_integer [.none])
    (r_need_size : Raw K d_need_size [])
    (r_many_spans : Raw K d_many_spans [])
    (r_powered : Raw K d_powered [])
    (r_many_at_once : Raw K d_many_at_once [])
    (r_many_flips : Raw K d_many_flips [])
    (r_many_folds : Raw K d_many_folds [])
    (r_is_integer : Raw K d_is_integer [])
    (r_need_prime : Raw K d_need_prime [])
    (r_is_prime_value : Raw K d_is_prime_value [])
    (z_range : PySem.W.nsIn K mainGlobals (Str.ofString "range") = some none)
    (z_repr : PySem.W.nsIn K mainGlobals (Str.ofString "repr") = some none)
    (z_isinstance : PySem.W.nsIn K mainGlobals (Str.ofString "isinstance") = some none)
    (z_int : PySem.W.nsIn K mainGlobals (Str.ofString "int") = some none)
    (z_bool : PySem.W.nsIn K mainGlobals (Str.ofString "bool") = some none)
    (z_str : PySem.W.nsIn K mainGlobals (Str.ofString "str") = some none)
    (z_max : PySem.W.nsIn K mainGlobals (Str.ofString "max") = some none)
    (z_len : PySem.W.nsIn K mainGlobals (Str.ofString "len") = some none)
    (z_tuple : PySem.W.nsIn K mainGlobals (Str.ofString "tuple") = some none)
    (z_list : PySem.W.nsIn K mainGlobals (Str.ofString "list") = some none)
    (z_sum : PySem.W.nsIn K mainGlobals (Str.ofString "sum") = some none)
    (c_WORDS : RawC K (Str.ofString "WORDS") (.tuple [(.str (Str.ofString "tables")), (.str (Str.ofString "undoable")), (.str (Str.ofString "folds")), (.str (Str.ofString "flips")), (.str (Str.ofString "fallers")), (.str (Str.ofString "at once")), (.str (Str.ofString "symmetric"))]))
    (c_MOST : RawC K (Str.ofString "MOST") (.int 30))
    (c_PRIMES : RawC K (Str.ofString "PRIMES") (.tuple [(.int 2), (.int 3), (.int 5), (.int 7)]))
    (x_BadWord : RawX K (Str.ofString "BadWord") (Str.ofString "thing") C_BadWord)
    (x_BadNumber : RawX K (Str.ofString "BadNumber") (Str.ofString "thing") C_BadNumber)
    (x_BadPrime : RawX K (Str.ofString "BadPrime") (Str.ofString "thing") C_BadPrime)
    (y_BadTable : PySem.W.nsIn K mainGlobals (Str.ofString "BadTable") = some (some (.ref C_BadTable)))
    (y_TableError : PySem.W.nsIn K mainGlobals (Str.ofString "TableError") = some (some (.ref C_TableError)))
    (u_BadWord_BadTable : PySem.W.kitOne K (.ref C_BadWord) (.ref C_BadTable) = some false ∧ PySem.W.exmOne K (.ref C_BadWord) (.ref C_BadTable) = some false)
    (u_BadWord_BadNumber : PySem.W.kitOne K (.ref C_BadWord) (.ref C_BadNumber) = some false ∧ PySem.W.exmOne K (.ref C_BadWord) (.ref C_BadNumber) = some false)
    (u_BadWord_BadPrime : PySem.W.kitOne K (.ref C_BadWord) (.ref C_BadPrime) = some false ∧ PySem.W.exmOne K (.ref C_BadWord) (.ref C_BadPrime) = some false)
    (u_BadWord_BadWord : PySem.W.kitOne K (.ref C_BadWord) (.ref C_BadWord) = some true ∧ PySem.W.exmOne K (.ref C_BadWord) (.ref C_BadWord) = some true)
    (u_BadWord_TableError : PySem.W.kitOne K (.ref C_BadWord) (.ref C_TableError) = some true ∧ PySem.W.exmOne K (.ref C_BadWord) (.ref C_TableError) = some true)
    (u_BadNumber_BadTable : PySem.W.kitOne K (.ref C_BadNumber) (.ref C_BadTable) = some false ∧ PySem.W.exmOne K (.ref C_BadNumber) (.ref C_BadTable) = some false)
    (u_BadNumber_BadNumber : PySem.W.kitOne K (.ref C_BadNumber) (.ref C_BadNumber) = some true ∧ PySem.W.exmOne K (.ref C_BadNumber) (.ref C_BadNumber) = some true)
    (u_BadNumber_BadPrime : PySem.W.kitOne K (.ref C_BadNumber) (.ref C_BadPrime) = some false ∧ PySem.W.exmOne K (.ref C_BadNumber) (.ref C_BadPrime) = some false)
    (u_BadNumber_BadWord : PySem.W.kitOne K (.ref C_BadNumber) (.ref C_BadWord) = some false ∧ PySem.W.exmOne K (.ref C_BadNumber) (.ref C_BadWord) = some false)
    (u_BadNumber_TableError : PySem.W.kitOne K (.ref C_BadNumber) (.ref C_TableError) = some true ∧ PySem.W.exmOne K (.ref C_BadNumber) (.ref C_TableError) = some true)
    (u_BadPrime_BadTable : PySem.W.kitOne K (.ref C_BadPrime) (.ref C_BadTable) = some false ∧ PySem.W.exmOne K (.ref C_BadPrime) (.ref C_BadTable) = some false)
    (u_BadPrime_BadNumber : PySem.W.kitOne K (.ref C_BadPrime) (.ref C_BadNumber) = some false ∧ PySem.W.exmOne K (.ref C_BadPrime) (.ref C_BadNumber) = some false)
    (u_BadPrime_BadPrime : PySem.W.kitOne K (.ref C_BadPrime) (.ref C_BadPrime) = some true ∧ PySem.W.exmOne K (.ref C_BadPrime) (.ref C_BadPrime) = some true)
    (u_BadPrime_BadWord : PySem.W.kitOne K (.ref C_BadPrime) (.ref C_BadWord) = some false ∧ PySem.W.exmOne K (.ref C_BadPrime) (.ref C_BadWord) = some false)
    (u_BadPrime_TableError : PySem.W.kitOne K (.ref C_BadPrime) (.ref C_TableError) = some true ∧ PySem.W.exmOne K (.ref C_BadPrime) (.ref C_TableError) = some true)
    (r__law_told : Raw K e__law_told [])
    (g__law_are_due : RawL K d__law_are_due c__law_are_due)
    (uniq : ([(c__law_are_due, P__law_are_due)].map (·.2)).Nodup)
    : ∃ fdt : FuncData, (∀ (s : Shared) (u : Value), BindsTo s fdt ⟨[u], []⟩ [("script", u)]) ∧ ∀ base : Heap, K.In base → base.Ns mainGlobals mg → (∃ o, base.get? sysModules = some o) → (∀ p ∈ [(c__law_are_due, P__law_are_due)], LamX.TabB base mg p.1 p.2) →
      FnG l.prog w K mg base (L2.CX l.prog w) 124 fa fdt ["script"] (spD ⟨K, mg, (FdT.mk tab.fld (lamT [(c__law_are_due, P__law_are_due)] [(Str.ofString "_law_are_due")]))⟩ 1 (evF defs tab.fl (spC tab cts) 41 "law")) := by
  obtain ⟨f_law, t_law, a_law⟩ := r_law.at_ (fd := (FdT.mk tab.fld (lamT [(c__law_are_due, P__law_are_due)] [(Str.ofString "_law_are_due")]))) X G
  obtain ⟨f__law_are_due, t__law_are_due, a__law_are_due⟩ := r__law_are_due.at_ (fd := (FdT.mk tab.fld (lamT [(c__law_are_due, P__law_are_due)] [(Str.ofString "_law_are_due")]))) X G
  obtain ⟨f__law_draw, t__law_draw, a__law_draw⟩ := r__law_draw.at_ (fd := (FdT.mk tab.fld (lamT [(c__law_are_due, P__law_are_due)] [(Str.ofString "_law_are_due")]))) X G
  obtain ⟨f__law_pick, t__law_pick, a__law_pick⟩ := r__law_pick.at_ (fd := (FdT.mk tab.fld (lamT [(c__law_are_due, P__law_are_due)] [(Str.ofString "_law_are_due")]))) X G
  obtain ⟨f__law_any, t__law_any, a__law_any⟩ := r__law_any.at_ (fd := (FdT.mk tab.fld (lamT [(c__law_are_due, P__law_are_due)] [(Str.ofString "_law_are_due")]))) X G
  obtain ⟨f__law_deck, t__law_deck, a__law_deck⟩ := r__law_deck.at_ (fd := (FdT.mk tab.fld (lamT [(c__law_are_due, P__law_are_due)] [(Str.ofString "_law_are_due")]))) X G
  obtain ⟨f_count_free, t_count_free, a_count_free⟩ := r_count_free.at_ (fd := (FdT.mk tab.fld (lamT [(c__law_are_due, P__law_are_due)] [(Str.ofString "_law_are_due")]))) X G
  obtain ⟨f_count_rank, t_count_rank, a_count_rank⟩ := r_count_rank.at_ (fd := (FdT.mk tab.fld (lamT [(c__law_are_due, P__law_are_due)] [(Str.ofString "_law_are_due")]))) X G
  obtain ⟨f_count_of, t_count_of, a_count_of⟩ := r_count_of.at_ (fd := (FdT.mk tab.fld (lamT [(c__law_are_due, P__law_are_due)] [(Str.ofString "_law_are_due")]))) X G
  obtain ⟨f__law_is_from, t__law_is_from, a__law_is_from⟩ := r__law_is_from.at_ (fd := (FdT.mk tab.fld (lamT [(c__law_are_due, P__law_are_due)] [(Str.ofString "_law_are_due")]))) X G
  obtain ⟨f_many_free, t_many_free, a_many_free⟩ := r_many_free.at_ (fd := (FdT.mk tab.fld (lamT [(c__law_are_due, P__law_are_due)] [(Str.ofString "_law_are_due")]))) X G
  obtain ⟨f_need_integer, t_need_integer, a_need_integer⟩ := r_need_integer.at_ (fd := (FdT.mk tab.fld (lamT [(c__law_are_due, P__law_are_due)] [(Str.ofString "_law_are_due")]))) X G
  obtain ⟨f_need_size, t_need_size, a_need_size⟩ := r_need_size.at_ (fd := (FdT.mk tab.fld (lamT [(c__law_are_due, P__law_are_due)] [(Str.ofString "_law_are_due")]))) X G
  obtain ⟨f_many_spans, t_many_spans, a_many_spans⟩ := r_many_spans.at_ (fd := (FdT.mk tab.fld (lamT [(c__law_are_due, P__law_are_due)] [(Str.ofString "_law_are_due")]))) X G
  obtain ⟨f_powered, t_powered, a_powered⟩ := r_powered.at_ (fd := (FdT.mk tab.fld (lamT [(c__law_are_due, P__law_are_due)] [(Str.ofString "_law_are_due")]))) X G
  obtain ⟨f_many_at_once, t_many_at_once, a_many_at_once⟩ := r_many_at_once.at_ (fd := (FdT.mk tab.fld (lamT [(c__law_are_due, P__law_are_due)] [(Str.ofString "_law_are_due")]))) X G
  obtain ⟨f_many_flips, t_many_flips, a_many_flips⟩ := r_many_flips.at_ (fd := (FdT.mk tab.fld (lamT [(c__law_are_due, P__law_are_due)] [(Str.ofString "_law_are_due")]))) X G
  obtain ⟨f_many_folds, t_many_folds, a_many_folds⟩ := r_many_folds.at_ (fd := (FdT.mk tab.fld (lamT [(c__law_are_due, P__law_are_due)] [(Str.ofString "_law_are_due")]))) X G
  obtain ⟨f_is_integer, t_is_integer, a_is_integer⟩ := r_is_integer.at_ (fd := (FdT.mk tab.fld (lamT [(c__law_are_due, P__law_are_due)] [(Str.ofString "_law_are_due")]))) X G
  obtain ⟨f_need_prime, t_need_prime, a_need_prime⟩ := r_need_prime.at_ (fd := (FdT.mk tab.fld (lamT [(c__law_are_due, P__law_are_due)] [(Str.ofString "_law_are_due")]))) X G
  obtain ⟨f_is_prime_value, t_is_prime_value, a_is_prime_value⟩ := r_is_prime_value.at_ (fd := (FdT.mk tab.fld (lamT [(c__law_are_due, P__law_are_due)] [(Str.ofString "_law_are_due")]))) X G
  obtain ⟨f__law_told, t__law_told, a__law_told⟩ := r__law_told.at_ (fd := (FdT.mk tab.fld (lamT [(c__law_are_due, P__law_are_due)] [(Str.ofString "_law_are_due")]))) X G
  have hf : fa = f_law := by
    have q := hfa.symm.trans (a_law.mgf rfl)
    injection q with q
    injection q
  subst hf
  refine ⟨t_law, bind_one a_law (fun kV doc pm an cdv ct u => rfl), fun base inB nsB sys tbs => ?_⟩
  have fx_BadWord : XFx K mg (FdT.mk tab.fld (lamT [(c__law_are_due, P__law_are_due)] [(Str.ofString "_law_are_due")])) tab (Str.ofString "BadWord") := x_BadWord.fx X G rfl (by intro q hq; simp only [tab, List.mem_cons, List.not_mem_nil, or_false] at hq; rcases hq with rfl | rfl | rfl | rfl | rfl; exact ⟨_, y_BadTable, u_BadWord_BadTable⟩; exact ⟨_, x_BadNumber.at_, u_BadWord_BadNumber⟩; exact ⟨_, x_BadPrime.at_, u_BadWord_BadPrime⟩; exact ⟨_, x_BadWord.at_, u_BadWord_BadWord⟩; exact ⟨_, y_TableError, u_BadWord_TableError⟩)
  have fx_BadNumber : XFx K mg (FdT.mk tab.fld (lamT [(c__law_are_due, P__law_are_due)] [(Str.ofString "_law_are_due")])) tab (Str.ofString "BadNumber") := x_BadNumber.fx X G rfl (by intro q hq; simp only [tab, List.mem_cons, List.not_mem_nil, or_false] at hq; rcases hq with rfl | rfl | rfl | rfl | rfl; exact ⟨_, y_BadTable, u_BadNumber_BadTable⟩; exact ⟨_, x_BadNumber.at_, u_BadNumber_BadNumber⟩; exact ⟨_, x_BadPrime.at_, u_BadNumber_BadPrime⟩; exact ⟨_, x_BadWord.at_, u_BadNumber_BadWord⟩; exact ⟨_, y_TableError, u_BadNumber_TableError⟩)
  have fx_BadPrime : XFx K mg (FdT.mk tab.fld (lamT [(c__law_are_due, P__law_are_due)] [(Str.ofString "_law_are_due")])) tab (Str.ofString "BadPrime") := x_BadPrime.fx X G rfl (by intro q hq; simp only [tab, List.mem_cons, List.not_mem_nil, or_false] at hq; rcases hq with rfl | rfl | rfl | rfl | rfl; exact ⟨_, y_BadTable, u_BadPrime_BadTable⟩; exact ⟨_, x_BadNumber.at_, u_BadPrime_BadNumber⟩; exact ⟨_, x_BadPrime.at_, u_BadPrime_BadPrime⟩; exact ⟨_, x_BadWord.at_, u_BadPrime_BadWord⟩; exact ⟨_, y_TableError, u_BadPrime_TableError⟩)
  have blt : ∀ x ∈ tab.blt, mg x = none := by
    intro x hx
    simp only [tab, List.mem_cons, List.not_mem_nil, or_false] at hx
    rcases hx with rfl | rfl | rfl | rfl | rfl | rfl | rfl | rfl | rfl | rfl | rfl
    · exact PySem.W.mg_none_of X G z_range
    · exact PySem.W.mg_none_of X G z_repr
    · exact PySem.W.mg_none_of X G z_isinstance
    · exact PySem.W.mg_none_of X G z_int
    · exact PySem.W.mg_none_of X G z_bool
    · exact PySem.W.mg_none_of X G z_str
    · exact PySem.W.mg_none_of X G z_max
    · exact PySem.W.mg_none_of X G z_len
    · exact PySem.W.mg_none_of X G z_tuple
    · exact PySem.W.mg_none_of X G z_list
    · exact PySem.W.mg_none_of X G z_sum
  have cst : ∀ x d, tab.cst.lookup x = some d → ∃ v u, mg x = some u ∧ RelV v u ∧ ∀ H, Pd ⟨K, mg, (FdT.mk tab.fld (lamT [(c__law_are_due, P__law_are_due)] [(Str.ofString "_law_are_due")]))⟩ H v d := cst_of tab.cst (.cons (c_WORDS.at_ X G) (.cons (c_MOST.at_ X G) (.cons (c_PRIMES.at_ X G) .nil)))
  have cat : ∀ c ∈ cts, CatAt l.prog w K mg base (FdT.mk tab.fld (lamT [(c__law_are_due, P__law_are_due)] [(Str.ofString "_law_are_due")])) tab c := by
    intro c hc
    refine ⟨blt, cst, (fun C f z => by cases z), fun x => rfl, ?_, ?_, ?_⟩
    · intro k hk; simp only [tab, List.mem_cons, List.not_mem_nil, or_false] at hk; rcases hk with rfl | rfl | rfl
      · exact fx_BadWord
      · exact fx_BadNumber
      · exact fx_BadPrime
    · intro q hq; simp only [tab, List.mem_cons, List.not_mem_nil, or_false] at hq; rcases hq with rfl | rfl | rfl | rfl | rfl
      · exact ⟨_, PySem.W.mg_of X G y_BadTable⟩
      · exact ⟨_, PySem.W.mg_of X G x_BadNumber.at_⟩
      · exact ⟨_, PySem.W.mg_of X G x_BadPrime.at_⟩
      · exact ⟨_, PySem.W.mg_of X G x_BadWord.at_⟩
      · exact ⟨_, PySem.W.mg_of X G y_TableError⟩
    · simp only [cts, List.mem_cons, List.not_mem_nil, or_false] at hc; rcases hc with rfl
      · exact cc__law_told
  have pro : Pro defs tab (spC tab cts) l.prog w K mg base (FdT.mk tab.fld (lamT [(c__law_are_due, P__law_are_due)] [(Str.ofString "_law_are_due")])) (L2.CX l.prog w) := by
    refine ⟨by decide +kernel, ?_, ?_, fun q hq => by revert q; decide +kernel, ?_, ?_, ?_, ?_, ?_, sys, ?_, fun _ => cx_tks, cx_pas, cx_no, ?_, ?_⟩
    · intro d hd
      simp only [defs, List.mem_cons, List.not_mem_nil, or_false] at hd
      rcases hd with rfl | rfl | rfl | rfl | rfl | rfl | rfl | rfl | rfl | rfl | rfl | rfl | rfl | rfl | rfl | rfl | rfl | rfl | rfl | rfl | rfl
      · exact ck_law
      · exact ck__law_are_due
      · exact ck__law_draw
      · exact ck__law_pick
      · exact ck__law_any
      · exact ck__law_deck
      · exact ck_count_free
      · exact ck_count_rank
      · exact ck_count_of
      · exact ck__law_is_from
      · exact ck_many_free
      · exact ck_need_integer
      · exact ck_need_size
      · exact ck_many_spans
      · exact ck_powered
      · exact ck_many_at_once
      · exact ck_many_flips
      · exact ck_many_folds
      · exact ck_is_integer
      · exact ck_need_prime
      · exact ck_is_prime_value
    · intro d hd
      simp only [defs, List.mem_cons, List.not_mem_nil, or_false] at hd
      rcases hd with rfl | rfl | rfl | rfl | rfl | rfl | rfl | rfl | rfl | rfl | rfl | rfl | rfl | rfl | rfl | rfl | rfl | rfl | rfl | rfl | rfl
      · refine ⟨fa, t_law, _, a_law, shp_of tab.shp ?_⟩
        exact .cons_no (by decide +kernel) (.cons_no (by decide +kernel) (.cons_no (by decide +kernel) (.cons_no (by decide +kernel) (.cons_no (by decide +kernel) (.cons_no (by decide +kernel) (.cons_no (by decide +kernel) (.cons_no (by decide +kernel) (.cons_no (by decide +kernel) (.cons_no (by decide +kernel) (.cons_no (by decide +kernel) (.cons_no (by decide +kernel) (.cons_no (by decide +kernel) (.cons_no (by decide +kernel) (.cons_no (by decide +kernel) (.cons_no (by decide +kernel) (.cons_no (by decide +kernel) (.cons_no (by decide +kernel) (.cons_no (by decide +kernel) (.cons_no (by decide +kernel) (.cons_no (by decide +kernel) (.cons_no (by decide +kernel) (.cons_no (by decide +kernel) (.nil)))))))))))))))))))))))
      · refine ⟨f__law_are_due, t__law_are_due, _, a__law_are_due, shp_of tab.shp ?_⟩
        exact .cons_yes ⟨rfl, bd_0 a__law_are_due⟩ (.cons_no (by decide +kernel) (.cons_no (by decide +kernel) (.cons_no (by decide +kernel) (.cons_no (by decide +kernel) (.cons_no (by decide +kernel) (.cons_no (by decide +kernel) (.cons_no (by decide +kernel) (.cons_no (by decide +kernel) (.cons_no (by decide +kernel) (.cons_no (by decide +kernel) (.cons_no (by decide +kernel) (.cons_no (by decide +kernel) (.cons_no (by decide +kernel) (.cons_no (by decide +kernel) (.cons_no (by decide +kernel) (.cons_no (by decide +kernel) (.cons_no (by decide +kernel) (.cons_no (by decide +kernel) (.cons_no (by decide +kernel) (.cons_no (by decide +kernel) (.cons_no (by decide +kernel) (.cons_no (by decide +kernel) (.nil)))))))))))))))))))))))
      · refine ⟨f__law_draw, t__law_draw, _, a__law_draw, shp_of tab.shp ?_⟩
        exact .cons_no (by decide +kernel) (.cons_yes ⟨rfl, bd_1 a__law_draw⟩ (.cons_no (by decide +kernel) (.cons_no (by decide +kernel) (.cons_no (by decide +kernel) (.cons_no (by decide +kernel) (.cons_no (by decide +kernel) (.cons_no (by decide +kernel) (.cons_no (by decide +kernel) (.cons_no (by decide +kernel) (.cons_no (by decide +kernel) (.cons_no (by decide +kernel) (.cons_no (by decide +kernel) (.cons_no (by decide +kernel) (.cons_no (by decide +kernel) (.cons_no (by decide +kernel) (.cons_no (by decide +kernel) (.cons_no (by decide +kernel) (.cons_no (by decide +kernel) (.cons_no (by decide +kernel) (.cons_no (by decide +kernel) (.cons_no (by decide +kernel) (.cons_no (by decide +kernel) (.nil)))))))))))))))))))))))
      · refine ⟨f__law_pick, t__law_pick, _, a__law_pick, shp_of tab.shp ?_⟩
        exact .cons_no (by decide +kernel) (.cons_no (by decide +kernel) (.cons_yes ⟨rfl, bd_2 a__law_pick⟩ (.cons_no (by decide +kernel) (.cons_no (by decide +kernel) (.cons_no (by decide +kernel) (.cons_no (by decide +kernel) (.cons_no (by decide +kernel) (.cons_no (by decide +kernel) (.cons_no (by decide +kernel) (.cons_no (by decide +kernel) (.cons_no (by decide +kernel) (.cons_no (by decide +kernel) (.cons_no (by decide +kernel) (.cons_no (by decide +kernel) (.cons_no (by decide +kernel) (.cons_no (by decide +kernel) (.cons_no (by decide +kernel) (.cons_no (by decide +kernel) (.cons_no (by decide +kernel) (.cons_no (by decide +kernel) (.cons_no (by decide +kernel) (.cons_no (by decide +kernel) (.nil)))))))))))))))))))))))
      · refine ⟨f__law_any, t__law_any, _, a__law_any, shp_of tab.shp ?_⟩
        exact .cons_no (by decide +kernel) (.cons_no (by decide +kernel) (.cons_no (by decide +kernel) (.cons_yes ⟨rfl, bd_3 a__law_any⟩ (.cons_no (by decide +kernel) (.cons_no (by decide +kernel) (.cons_no (by decide +kernel) (.cons_no (by decide +kernel) (.cons_no (by decide +kernel) (.cons_no (by decide +kernel) (.cons_no (by decide +kernel) (.cons_no (by decide +kernel) (.cons_no (by decide +kernel) (.cons_no (by decide +kernel) (.cons_no (by decide +kernel) (.cons_no (by decide +kernel) (.cons_no (by decide +kernel) (.cons_no (by decide +kernel) (.cons_no (by decide +kernel) (.cons_no (by decide +kernel) (.cons_no (by decide +kernel) (.cons_no (by decide +kernel) (.cons_no (by decide +kernel) (.nil)))))))))))))))))))))))
      · refine ⟨f__law_deck, t__law_deck, _, a__law_deck, shp_of tab.shp ?_⟩
        exact .cons_no (by decide +kernel) (.cons_no (by decide +kernel) (.cons_no (by decide +kernel) (.cons_no (by decide +kernel) (.cons_yes ⟨rfl, bd_4 a__law_deck⟩ (.cons_no (by decide +kernel) (.cons_no (by decide +kernel) (.cons_no (by decide +kernel) (.cons_no (by decide +kernel) (.cons_no (by decide +kernel) (.cons_no (by decide +kernel) (.cons_no (by decide +kernel) (.cons_no (by decide +kernel) (.cons_no (by decide +kernel) (.cons_no (by decide +kernel) (.cons_no (by decide +kernel) (.cons_no (by decide +kernel) (.cons_no (by decide +kernel) (.cons_no (by decide +kernel) (.cons_no (by decide +kernel) (.cons_no (by decide +kernel) (.cons_no (by decide +kernel) (.cons_no (by decide +kernel) (.nil)))))))))))))))))))))))
      · refine ⟨f_count_free, t_count_free, _, a_count_free, shp_of tab.shp ?_⟩
        exact .cons_no (by decide +kernel) (.cons_no (by decide +kernel) (.cons_no (by decide +kernel) (.cons_no (by decide +kernel) (.cons_no (by decide +kernel) (.cons_yes ⟨rfl, bd_5 a_count_free⟩ (.cons_yes ⟨rfl, bd_6 a_count_free⟩ (.cons_no (by decide +kernel) (.cons_no (by decide +kernel) (.cons_no (by decide +kernel) (.cons_no (by decide +kernel) (.cons_no (by decide +kernel) (.cons_no (by decide +kernel) (.cons_no (by decide +kernel) (.cons_no (by decide +kernel) (.cons_no (by decide +kernel) (.cons_no (by decide +kernel) (.cons_no (by decide +kernel) (.cons_no (by decide +kernel) (.cons_no (by decide +kernel) (.cons_no (by decide +kernel) (.cons_no (by decide +kernel) (.cons_no (by decide +kernel) (.nil)))))))))))))))))))))))
      · refine ⟨f_count_rank, t_count_rank, _, a_count_rank, shp_of tab.shp ?_⟩
        exact .cons_no (by decide +kernel) (.cons_no (by decide +kernel) (.cons_no (by decide +kernel) (.cons_no (by decide +kernel) (.cons_no (by decide +kernel) (.cons_no (by decide +kernel) (.cons_no (by decide +kernel) (.cons_yes ⟨rfl, bd_7 a_count_rank⟩ (.cons_yes ⟨rfl, bd_8 a_count_rank⟩ (.cons_no (by decide +kernel) (.cons_no (by decide +kernel) (.cons_no (by decide +kernel) (.cons_no (by decide +kernel) (.cons_no (by decide +kernel) (.cons_no (by decide +kernel) (.cons_no (by decide +kernel) (.cons_no (by decide +kernel) (.cons_no (by decide +kernel) (.cons_no (by decide +kernel) (.cons_no (by decide +kernel) (.cons_no (by decide +kernel) (.cons_no (by decide +kernel) (.cons_no (by decide +kernel) (.nil)))))))))))))))))))))))
      · refine ⟨f_count_of, t_count_of, _, a_count_of, shp_of tab.shp ?_⟩
        exact .cons_no (by decide +kernel) (.cons_no (by decide +kernel) (.cons_no (by decide +kernel) (.cons_no (by decide +kernel) (.cons_no (by decide +kernel) (.cons_no (by decide +kernel) (.cons_no (by decide +kernel) (.cons_no (by decide +kernel) (.cons_no (by decide +kernel) (.cons_yes ⟨rfl, bd_9 a_count_of⟩ (.cons_yes ⟨rfl, bd_10 a_count_of⟩ (.cons_no (by decide +kernel) (.cons_no (by decide +kernel) (.cons_no (by decide +kernel) (.cons_no (by decide +kernel) (.cons_no (by decide +kernel) (.cons_no (by decide +kernel) (.cons_no (by decide +kernel) (.cons_no (by decide +kernel) (.cons_no (by decide +kernel) (.cons_no (by decide +kernel) (.cons_no (by decide +kernel) (.cons_no (by decide +kernel) (.nil)))))))))))))))))))))))
      · refine ⟨f__law_is_from, t__law_is_from, _, a__law_is_from, shp_of tab.shp ?_⟩
        exact .cons_no (by decide +kernel) (.cons_no (by decide +kernel) (.cons_no (by decide +kernel) (.cons_no (by decide +kernel) (.cons_no (by decide +kernel) (.cons_no (by decide +kernel) (.cons_no (by decide +kernel) (.cons_no (by decide +kernel) (.cons_no (by decide +kernel) (.cons_no (by decide +kernel) (.cons_no (by decide +kernel) (.cons_yes ⟨rfl, bd_11 a__law_is_from⟩ (.cons_no (by decide +kernel) (.cons_no (by decide +kernel) (.cons_no (by decide +kernel) (.cons_no (by decide +kernel) (.cons_no (by decide +kernel) (.cons_no (by decide +kernel) (.cons_no (by decide +kernel) (.cons_no (by decide +kernel) (.cons_no (by decide +kernel) (.cons_no (by decide +kernel) (.cons_no (by decide +kernel) (.nil)))))))))))))))))))))))
      · refine ⟨f_many_free, t_many_free, _, a_many_free, shp_of tab.shp ?_⟩
        exact .cons_no (by decide +kernel) (.cons_no (by decide +kernel) (.cons_no (by decide +kernel) (.cons_no (by decide +kernel) (.cons_no (by decide +kernel) (.cons_no (by decide +kernel) (.cons_no (by decide +kernel) (.cons_no (by decide +kernel) (.cons_no (by decide +kernel) (.cons_no (by decide +kernel) (.cons_no (by decide +kernel) (.cons_no (by decide +kernel) (.cons_yes ⟨rfl, bd_12 a_many_free⟩ (.cons_no (by decide +kernel) (.cons_no (by decide +kernel) (.cons_no (by decide +kernel) (.cons_no (by decide +kernel) (.cons_no (by decide +kernel) (.cons_no (by decide +kernel) (.cons_no (by decide +kernel) (.cons_no (by decide +kernel) (.cons_no (by decide +kernel) (.cons_no (by decide +kernel) (.nil)))))))))))))))))))))))
      · refine ⟨f_need_integer, t_need_integer, _, a_need_integer, shp_of tab.shp ?_⟩
        exact .cons_no (by decide +kernel) (.cons_no (by decide +kernel) (.cons_no (by decide +kernel) (.cons_no (by decide +kernel) (.cons_no (by decide +kernel) (.cons_no (by decide +kernel) (.cons_no (by decide +kernel) (.cons_no (by decide +kernel) (.cons_no (by decide +kernel) (.cons_no (by decide +kernel) (.cons_no (by decide +kernel) (.cons_no (by decide +kernel) (.cons_no (by decide +kernel) (.cons_yes ⟨rfl, bd_13 a_need_integer⟩ (.cons_no (by decide +kernel) (.cons_no (by decide +kernel) (.cons_no (by decide +kernel) (.cons_no (by decide +kernel) (.cons_no (by decide +kernel) (.cons_no (by decide +kernel) (.cons_no (by decide +kernel) (.cons_no (by decide +kernel) (.cons_no (by decide +kernel) (.nil)))))))))))))))))))))))
      · refine ⟨f_need_size, t_need_size, _, a_need_size, shp_of tab.shp ?_⟩
        exact .cons_no (by decide +kernel) (.cons_no (by decide +kernel) (.cons_no (by decide +kernel) (.cons_no (by decide +kernel) (.cons_no (by decide +kernel) (.cons_no (by decide +kernel) (.cons_no (by decide +kernel) (.cons_no (by decide +kernel) (.cons_no (by decide +kernel) (.cons_no (by decide +kernel) (.cons_no (by decide +kernel) (.cons_no (by decide +kernel) (.cons_no (by decide +kernel) (.cons_no (by decide +kernel) (.cons_yes ⟨rfl, bd_14 a_need_size⟩ (.cons_no (by decide +kernel) (.cons_no (by decide +kernel) (.cons_no (by decide +kernel) (.cons_no (by decide +kernel) (.cons_no (by decide +kernel) (.cons_no (by decide +kernel) (.cons_no (by decide +kernel) (.cons_no (by decide +kernel) (.nil)))))))))))))))))))))))
      · refine ⟨f_many_spans, t_many_spans, _, a_many_spans, shp_of tab.shp ?_⟩
        exact .cons_no (by decide +kernel) (.cons_no (by decide +kernel) (.cons_no (by decide +kernel) (.cons_no (by decide +kernel) (.cons_no (by decide +kernel) (.cons_no (by decide +kernel) (.cons_no (by decide +kernel) (.cons_no (by decide +kernel) (.cons_no (by decide +kernel) (.cons_no (by decide +kernel) (.cons_no (by decide +kernel) (.cons_no (by decide +kernel) (.cons_no (by decide +kernel) (.cons_no (by decide +kernel) (.cons_no (by decide +kernel) (.cons_yes ⟨rfl, bd_15 a_many_spans⟩ (.cons_no (by decide +kernel) (.cons_no (by decide +kernel) (.cons_no (by decide +kernel) (.cons_no (by decide +kernel) (.cons_no (by decide +kernel) (.cons_no (by decide +kernel) (.cons_no (by decide +kernel) (.nil)))))))))))))))))))))))
      · refine ⟨f_powered, t_powered, _, a_powered, shp_of tab.shp ?_⟩
        exact .cons_no (by decide +kernel) (.cons_no (by decide +kernel) (.cons_no (by decide +kernel) (.cons_no (by decide +kernel) (.cons_no (by decide +kernel) (.cons_no (by decide +kernel) (.cons_no (by decide +kernel) (.cons_no (by decide +kernel) (.cons_no (by decide +kernel) (.cons_no (by decide +kernel) (.cons_no (by decide +kernel) (.cons_no (by decide +kernel) (.cons_no (by decide +kernel) (.cons_no (by decide +kernel) (.cons_no (by decide +kernel) (.cons_no (by decide +kernel) (.cons_yes ⟨rfl, bd_16 a_powered⟩ (.cons_no (by decide +kernel) (.cons_no (by decide +kernel) (.cons_no (by decide +kernel) (.cons_no (by decide +kernel) (.cons_no (by decide +kernel) (.cons_no (by decide +kernel) (.nil)))))))))))))))))))))))
      · refine ⟨f_many_at_once, t_many_at_once, _, a_many_at_once, shp_of tab.shp ?_⟩
        exact .cons_no (by decide +kernel) (.cons_no (by decide +kernel) (.cons_no (by decide +kernel) (.cons_no (by decide +kernel) (.cons_no (by decide +kernel) (.cons_no (by decide +kernel) (.cons_no (by decide +kernel) (.cons_no (by decide +kernel) (.cons_no (by decide +kernel) (.cons_no (by decide +kernel) (.cons_no (by decide +kernel) (.cons_no (by decide +kernel) (.cons_no (by decide +kernel) (.cons_no (by decide +kernel) (.cons_no (by decide +kernel) (.cons_no (by decide +kernel) (.cons_no (by decide +kernel) (.cons_yes ⟨rfl, bd_17 a_many_at_once⟩ (.cons_no (by decide +kernel) (.cons_no (by decide +kernel) (.cons_no (by decide +kernel) (.cons_no (by decide +kernel) (.cons_no (by decide +kernel) (.nil)))))))))))))))))))))))
      · refine ⟨f_many_flips, t_many_flips, _, a_many_flips, shp_of tab.shp ?_⟩
        exact .cons_no (by decide +kernel) (.cons_no (by decide +kernel) (.cons_no (by decide +kernel) (.cons_no (by decide +kernel) (.cons_no (by decide +kernel) (.cons_no (by decide +kernel) (.cons_no (by decide +kernel) (.cons_no (by decide +kernel) (.cons_no (by decide +kernel) (.cons_no (by decide +kernel) (.cons_no (by decide +kernel) (.cons_no (by decide +kernel) (.cons_no (by decide +kernel) (.cons_no (by decide +kernel) (.cons_no (by decide +kernel) (.cons_no (by decide +kernel) (.cons_no (by decide +kernel) (.cons_no (by decide +kernel) (.cons_yes ⟨rfl, bd_18 a_many_flips⟩ (.cons_no (by decide +kernel) (.cons_no (by decide +kernel) (.cons_no (by decide +kernel) (.cons_no (by decide +kernel) (.nil)))))))))))))))))))))))
      · refine ⟨f_many_folds, t_many_folds, _, a_many_folds, shp_of tab.shp ?_⟩
        exact .cons_no (by decide +kernel) (.cons_no (by decide +kernel) (.cons_no (by decide +kernel) (.cons_no (by decide +kernel) (.cons_no (by decide +kernel) (.cons_no (by decide +kernel) (.cons_no (by decide +kernel) (.cons_no (by decide +kernel) (.cons_no (by decide +kernel) (.cons_no (by decide +kernel) (.cons_no (by decide +kernel) (.cons_no (by decide +kernel) (.cons_no (by decide +kernel) (.cons_no (by decide +kernel) (.cons_no (by decide +kernel) (.cons_no (by decide +kernel) (.cons_no (by decide +kernel) (.cons_no (by decide +kernel) (.cons_no (by decide +kernel) (.cons_yes ⟨rfl, bd_19 a_many_folds⟩ (.cons_no (by decide +kernel) (.cons_no (by decide +kernel) (.cons_no (by decide +kernel) (.nil)))))))))))))))))))))))
      · refine ⟨f_is_integer, t_is_integer, _, a_is_integer, shp_of tab.shp ?_⟩
        exact .cons_no (by decide +kernel) (.cons_no (by decide +kernel) (.cons_no (by decide +kernel) (.cons_no (by decide +kernel) (.cons_no (by decide +kernel) (.cons_no (by decide +kernel) (.cons_no (by decide +kernel) (.cons_no (by decide +kernel) (.cons_no (by decide +kernel) (.cons_no (by decide +kernel) (.cons_no (by decide +kernel) (.cons_no (by decide +kernel) (.cons_no (by decide +kernel) (.cons_no (by decide +kernel) (.cons_no (by decide +kernel) (.cons_no (by decide +kernel) (.cons_no (by decide +kernel) (.cons_no (by decide +kernel) (.cons_no (by decide +kernel) (.cons_no (by decide +kernel) (.cons_yes ⟨rfl, bd_20 a_is_integer⟩ (.cons_no (by decide +kernel) (.cons_no (by decide +kernel) (.nil)))))))))))))))))))))))
      · refine ⟨f_need_prime, t_need_prime, _, a_need_prime, shp_of tab.shp ?_⟩
        exact .cons_no (by decide +kernel) (.cons_no (by decide +kernel) (.cons_no (by decide +kernel) (.cons_no (by decide +kernel) (.cons_no (by decide +kernel) (.cons_no (by decide +kernel) (.cons_no (by decide +kernel) (.cons_no (by decide +kernel) (.cons_no (by decide +kernel) (.cons_no (by decide +kernel) (.cons_no (by decide +kernel) (.cons_no (by decide +kernel) (.cons_no (by decide +kernel) (.cons_no (by decide +kernel) (.cons_no (by decide +kernel) (.cons_no (by decide +kernel) (.cons_no (by decide +kernel) (.cons_no (by decide +kernel) (.cons_no (by decide +kernel) (.cons_no (by decide +kernel) (.cons_no (by decide +kernel) (.cons_yes ⟨rfl, bd_21 a_need_prime⟩ (.cons_no (by decide +kernel) (.nil)))))))))))))))))))))))
      · refine ⟨f_is_prime_value, t_is_prime_value, _, a_is_prime_value, shp_of tab.shp ?_⟩
        exact .cons_no (by decide +kernel) (.cons_no (by decide +kernel) (.cons_no (by decide +kernel) (.cons_no (by decide +kernel) (.cons_no (by decide +kernel) (.cons_no (by decide +kernel) (.cons_no (by decide +kernel) (.cons_no (by decide +kernel) (.cons_no (by decide +kernel) (.cons_no (by decide +kernel) (.cons_no (by decide +kernel) (.cons_no (by decide +kernel) (.cons_no (by decide +kernel) (.cons_no (by decide +kernel) (.cons_no (by decide +kernel) (.cons_no (by decide +kernel) (.cons_no (by decide +kernel) (.cons_no (by decide +kernel) (.cons_no (by decide +kernel) (.cons_no (by decide +kernel) (.cons_no (by decide +kernel) (.cons_no (by decide +kernel) (.cons_yes ⟨rfl, bd_22 a_is_prime_value⟩ (.nil)))))))))))))))))))))))
    · intro q hq; cases hq
    · intro q hq; cases hq
    · exact blt
    · exact cst
    · intro C f z; cases z
    · intro c hc; simp only [tab, List.mem_cons, List.not_mem_nil, or_false] at hc; rcases hc with rfl | rfl | rfl
      · obtain ⟨fI, fdI, ps, e1, e2, e3, e4⟩ := x_BadWord.ini; exact ⟨_, fI, fdI, ps, PySem.W.mg_of X G x_BadWord.at_, x_BadWord.cls, x_BadWord.no, e1, e2, e3 _ _ _ _ _, e4⟩
      · obtain ⟨fI, fdI, ps, e1, e2, e3, e4⟩ := x_BadNumber.ini; exact ⟨_, fI, fdI, ps, PySem.W.mg_of X G x_BadNumber.at_, x_BadNumber.cls, x_BadNumber.no, e1, e2, e3 _ _ _ _ _, e4⟩
      · obtain ⟨fI, fdI, ps, e1, e2, e3, e4⟩ := x_BadPrime.ini; exact ⟨_, fI, fdI, ps, PySem.W.mg_of X G x_BadPrime.at_, x_BadPrime.cls, x_BadPrime.no, e1, e2, e3 _ _ _ _ _, e4⟩
    · intro g hg; simp only [tab, List.mem_cons, List.not_mem_nil, or_false] at hg; rcases hg with rfl
      · exact ⟨c__law_told, (Str.ofString "deed"), f__law_told, t__law_told, rfl, cat _ (by simp [cts]), rfl, a__law_told, a__law_told.binds (fun kV doc pm an cdv ct us hu => match us, hu with | [u], _ => rfl), by decide +kernel, fun _ _ _ => rfl, fun _ _ _ _ => rfl⟩
    · intro d hd hl
      simp only [defs, List.mem_cons, List.not_mem_nil, or_false] at hd
      rcases hd with rfl | rfl | rfl | rfl | rfl | rfl | rfl | rfl | rfl | rfl | rfl | rfl | rfl | rfl | rfl | rfl | rfl | rfl | rfl | rfl | rfl
      · exact absurd hl (by decide)
      · exact fun f fdt dfl A => lam_at g__law_are_due X G rfl A uniq (tbs (c__law_are_due, P__law_are_due) (by simp)) (by simp [lamT, d__law_are_due])
      · exact absurd hl (by decide)
      · exact absurd hl (by decide)
      · exact absurd hl (by decide)
      · exact absurd hl (by decide)
      · exact absurd hl (by decide)
      · exact absurd hl (by decide)
      · exact absurd hl (by decide)
      · exact absurd hl (by decide)
      · exact absurd hl (by decide)
      · exact absurd hl (by decide)
      · exact absurd hl (by decide)
      · exact absurd hl (by decide)
      · exact absurd hl (by decide)
      · exact absurd hl (by decide)
      · exact absurd hl (by decide)
      · exact absurd hl (by decide)
      · exact absurd hl (by decide)
      · exact absurd hl (by decide)
      · exact absurd hl (by decide)
  exact pro_fn pro 41 (d := d_law) (by simp [defs]) a_law
end
/-! the plain claim of this law -/
open Lb
def dK : DrK := ⟨75403, 2147483629, 39373, 101, 2147483647, 36299, 19, 2147483587, 40692, 2147483563, 10899073, 48271, 2147483629, 101, 2147483587⟩
def extra : List Df := [addD (Str.ofString "is_between") 3 3 B_is_between,
  addD (Str.ofString "is_row_value") 3 4 B_is_row_value,
  addD (Str.ofString "is_table_value") 1 2 B_is_table_value,
  addD (Str.ofString "need_table") 1 1 B_need_table]
theorem nd : ((defs ++ extra).map (·.name)).Nodup := by decide +kernel
theorem okc : okCc defs extra tab.cats = true := by decide +kernel
theorem hb {d : Df} (h : d ∈ defs) : HasB (defs ++ extra) d.name d.ps.length d.N.length d.body := ⟨d, find_name nd (List.mem_append_left _ h), rfl, rfl, rfl⟩
theorem hx {d : Df} (h : d ∈ extra) : HasB (defs ++ extra) d.name d.ps.length d.N.length d.body := ⟨d, find_name nd (List.mem_append_right _ h), rfl, rfl, rfl⟩
theorem h_HCnt : HCnt (defs ++ extra) where
  powered := hb (d := d_powered) (by simp [defs])
  many_free := hb (d := d_many_free) (by simp [defs])
  many_spans := hb (d := d_many_spans) (by simp [defs])
  many_folds := hb (d := d_many_folds) (by simp [defs])
  many_at_once := hb (d := d_many_at_once) (by simp [defs])
  many_flips := hb (d := d_many_flips) (by simp [defs])
theorem h_HTab : HTab (defs ++ extra) where
  is_integer := hb (d := d_is_integer) (by simp [defs])
  is_between := hx (d := addD (Str.ofString "is_between") 3 3 B_is_between) (by simp [extra])
  is_prime_value := hb (d := d_is_prime_value) (by simp [defs])
  is_row_value := hx (d := addD (Str.ofString "is_row_value") 3 4 B_is_row_value) (by simp [extra])
  is_table_value := hx (d := addD (Str.ofString "is_table_value") 1 2 B_is_table_value) (by simp [extra])
  need_table := hx (d := addD (Str.ofString "need_table") 1 1 B_need_table) (by simp [extra])
theorem h_HNeed : HNeed (defs ++ extra) where
  need_prime := hb (d := d_need_prime) (by simp [defs])
  need_integer := hb (d := d_need_integer) (by simp [defs])
theorem h_HCn : HCn (defs ++ extra) where
  cnt := h_HCnt
  tab := h_HTab
  need := h_HNeed
  size := hb (d := d_need_size) (by simp [defs])
  count_of := hb (d := d_count_of) (by simp [defs])
  count_rank := hb (d := d_count_rank) (by simp [defs])
  count_free := hb (d := d_count_free) (by simp [defs])
theorem h_H73 : H73 (defs ++ extra) where
  cn := h_HCn
  from_ := hb (d := d__law_is_from) (by simp [defs])
  due := hb (d := d__law_are_due) (by simp [defs])
theorem h_HDrw : HDrw (defs ++ extra) dK where
  ok := by constructor <;> decide
  draw := hb (d := d__law_draw) (by simp [defs])
theorem h_H73L : H73L (defs ++ extra) dK where
  h73 := h_H73
  drw := h_HDrw
  pick := hb (d := d__law_pick) (by simp [defs])
  any_ := hb (d := d__law_any) (by simp [defs])
  deck := hb (d := d__law_deck) (by simp [defs])
  law := hb (d := d_law) (by simp [defs])
theorem told_ok (G : Fns) (x : PyData) (S : Sto) : spC tab cts G (Str.ofString "_law_told") [.p x] S = .ok (.b (isIn x)) S := by
  show c__law_told.ok tab G (.p x) S = _
  have e : evSs G tab.fl c__law_told.tb (c__law_told.fst.go (.p x) (List.replicate c__law_told.N.length none)) S = .rt (.b (isIn x)) S := by
    cases x <;> simp [c__law_told, Fst.go, evSs, evS, ev, evAnd, tyP, Ty.sub, isIn]
  unfold Ctr.ok
  rw [e]
  exact fin_rt0 S _
theorem told_ex (G : Fns) (k : Str) (x v : PyData) (S : Sto) (h : k ∈ tab.exs) (h2 : c__law_told.cls.find? (fun q => decide ((k, q.k) ∈ tab.sub)) = some (c__law_told.cls.getD 0 ⟨"", none, []⟩))
    (e : xSs tab.sub tab.fld k (.p x) (c__law_told.cls.getD 0 ⟨"", none, []⟩).body (List.replicate c__law_told.N.length none) S = .rt (.p v) S) : spC tab cts G (Str.ofString "_law_told") [.s k, .p x] S = .ok (.p v) S := by
  show c__law_told.ex tab G k (.p x) S = _
  unfold Ctr.ex
  rw [if_pos h, h2]
  dsimp only
  rw [e]
  exact fin_rt0 S _
theorem h_told : HTold (defs ++ extra) (spC tab cts) where
  no := by
    unfold NoB
    rw [List.find?_eq_none]
    decide +kernel
  ok := told_ok
  w := fun G x S => told_ex G _ x _ S (by decide +kernel) rfl (by rfl)
  p := fun G x S => told_ex G _ x _ S (by decide +kernel) rfl (by rfl)
  n := fun G x S => told_ex G _ x _ S (by decide +kernel) rfl (by rfl)
theorem law_true (ns : List Int) (h : ns.length ≤ 63) : ∃ S', evF defs tab.fl (spC tab cts) 41 "law" [scr ns] [] = .ok (.b true) S' := by
  show ∃ S', evF defs tab.fl (spC tab cts) 41 (Str.ofString "law") [scr ns] [] = .ok (.b true) S'
  rw [evF_extC extra (cats := tab.cats) (fun G G' g _ => spC_in (by decide +kernel) G G' g) okc 41 (Str.ofString "law") (by decide +kernel)]
  exact law73 h_H73L h_told (by omega) h


end Lw
open PySem PySem.W PyProof.Rows in
set_option maxRecDepth 100000 in
set_option maxHeartbeats 0 in
theorem PySem.Challenge.cw_fewfolds_k73_refusals_of_counts_holds : PySem.Challenge.rw_fewfolds_k73_refusals_of_counts.Holds := by
  w_on; o_law; k_head; (case hw => w_witness2)
  k_fill
  refine' Dl.walk_gT (cs := [(_, _)]) (fd := Dl.FdT.mk Lw.tab.fld (Dl.lamT _ [(Str.ofString "_law_are_due")])) Dl.lamT_fst (x := "script") (k := 124) (l := PySem.Challenge.rw_fewfolds_k73_refusals_of_counts) (CX := fun w => L2.CX (PySem.W.OpenLaw.prog PySem.Challenge.rw_fewfolds_k73_refusals_of_counts) w) (g := Dl.evF Lw.defs Lw.tab.fl (Dl.spC Lw.tab Lw.cts) 41 "law") rfl (by decide) rfl ⟨rfl, by decide, by decide⟩ (by decide +kernel) (fun w h Y => PySem.W.km_in_of Y) ?T ?F Lw.law_true (fun _ _ _ _ _ z => Dl.cx_no _ _ _ _ _ z)
  case T =>
    intro w h Y
    refine' (Dl.tbat_cons (Str.ofString "_law_are_due") (PySem.W.km_in_of Y) ?a0 ?f0 ?c0 ?l0 ?e0 ?d0 ?t0 ?o0 Dl.tbat_nil)
    (case a0 => k_is)
    (case f0 => k_is)
    (case c0 => rfl)
    (case l0 => k_is)
    (case e0 => rfl)
    (case d0 => kernel_rfl)
    (case t0 => exact PySem.W.km_tabs_of Y _ (by decide))
    (case o0 => kernel_rfl)
  case F =>
    intro w mg fa h KX G hmg
    refine' Lw.mk_pro KX G hmg (Dl.raw_mk ?a_law ?l_law ?c_law ?k_law) (Dl.raw_mk ?a__law_are_due ?l__law_are_due ?c__law_are_due ?k__law_are_due) (Dl.raw_mk ?a__law_draw ?l__law_draw ?c__law_draw ?k__law_draw) (Dl.raw_mk ?a__law_pick ?l__law_pick ?c__law_pick ?k__law_pick) (Dl.raw_mk ?a__law_any ?l__law_any ?c__law_any ?k__law_any) (Dl.raw_mk ?a__law_deck ?l__law_deck ?c__law_deck ?k__law_deck) (Dl.raw_mk ?a_count_free ?l_count_free ?c_count_free ?k_count_free) (Dl.raw_mk ?a_count_rank ?l_count_rank ?c_count_rank ?k_count_rank) (Dl.raw_mk ?a_count_of ?l_count_of ?c_count_of ?k_count_of) (Dl.raw_mk ?a__law_is_from ?l__law_is_from ?c__law_is_from ?k__law_is_from) (Dl.raw_mk ?a_many_free ?l_many_free ?c_many_free ?k_many_free) (Dl.raw_mkD ?a_need_integer ?l_need_integer ?t_need_integer ?d_need_integer ?c_need_integer ?k_need_integer) (Dl.raw_mk ?a_need_size ?l_need_size ?c_need_size ?k_need_size) (Dl.raw_mk ?a_many_spans ?l_many_spans ?c_many_spans ?k_many_spans) (Dl.raw_mk ?a_powered ?l_powered ?c_powered ?k_powered) (Dl.raw_mk ?a_many_at_once ?l_many_at_once ?c_many_at_once ?k_many_at_once) (Dl.raw_mk ?a_many_flips ?l_many_flips ?c_many_flips ?k_many_flips) (Dl.raw_mk ?a_many_folds ?l_many_folds ?c_many_folds ?k_many_folds) (Dl.raw_mk ?a_is_integer ?l_is_integer ?c_is_integer ?k_is_integer) (Dl.raw_mk ?a_need_prime ?l_need_prime ?c_need_prime ?k_need_prime) (Dl.raw_mk ?a_is_prime_value ?l_is_prime_value ?c_is_prime_value ?k_is_prime_value) ?z_range ?z_repr ?z_isinstance ?z_int ?z_bool ?z_str ?z_max ?z_len ?z_tuple ?z_list ?z_sum (Dl.rawc_tup ?q_WORDS ?p_WORDS ?i_WORDS ?y_WORDS) (Dl.rawc_int ?q_MOST) (Dl.rawc_tup ?q_PRIMES ?p_PRIMES ?i_PRIMES ?y_PRIMES) (Dl.rawx_mk (dI := Lw.i_BadWord) ?xa_BadWord ?xo_BadWord ?xsa_BadWord ?xib_BadWord ?xty_BadWord ?xkp_BadWord ?xno_BadWord ?xga_BadWord ?xgg_BadWord ?xhd_BadWord ?xha_BadWord ?xhn_BadWord ?xht_BadWord ?xhm_BadWord ?xii_BadWord ?xti_BadWord ?xlI_BadWord ?xcI_BadWord ?m_BadWord (by decide +kernel) (fun kV doc pm an cdv ct us hu => match us, hu with | [u0, u1], _ => rfl)) (Dl.rawx_mk (dI := Lw.i_BadNumber) ?xa_BadNumber ?xo_BadNumber ?xsa_BadNumber ?xib_BadNumber ?xty_BadNumber ?xkp_BadNumber ?xno_BadNumber ?xga_BadNumber ?xgg_BadNumber ?xhd_BadNumber ?xha_BadNumber ?xhn_BadNumber ?xht_BadNumber ?xhm_BadNumber ?xii_BadNumber ?xti_BadNumber ?xlI_BadNumber ?xcI_BadNumber ?m_BadNumber (by decide +kernel) (fun kV doc pm an cdv ct us hu => match us, hu with | [u0, u1], _ => rfl)) (Dl.rawx_mk (dI := Lw.i_BadPrime) ?xa_BadPrime ?xo_BadPrime ?xsa_BadPrime ?xib_BadPrime ?xty_BadPrime ?xkp_BadPrime ?xno_BadPrime ?xga_BadPrime ?xgg_BadPrime ?xhd_BadPrime ?xha_BadPrime ?xhn_BadPrime ?xht_BadPrime ?xhm_BadPrime ?xii_BadPrime ?xti_BadPrime ?xlI_BadPrime ?xcI_BadPrime ?m_BadPrime (by decide +kernel) (fun kV doc pm an cdv ct us hu => match us, hu with | [u0, u1], _ => rfl)) ?y_BadTable ?y_TableError ?u_BadWord_BadTable ?u_BadWord_BadNumber ?u_BadWord_BadPrime ?u_BadWord_BadWord ?u_BadWord_TableError ?u_BadNumber_BadTable ?u_BadNumber_BadNumber ?u_BadNumber_BadPrime ?u_BadNumber_BadWord ?u_BadNumber_TableError ?u_BadPrime_BadTable ?u_BadPrime_BadNumber ?u_BadPrime_BadPrime ?u_BadPrime_BadWord ?u_BadPrime_TableError (Dl.raw_mk ?a__law_told ?l__law_told ?c__law_told ?k__law_told) (Dl.rawl_mk ?ga__law_are_due ?gl__law_are_due) ?uniq
    (case a_law => k_is)
    (case l_law => k_is)
    (case c_law => k_is)
    (case k_law => k_is)
    (case a__law_are_due => k_is)
    (case l__law_are_due => k_is)
    (case c__law_are_due => k_is)
    (case k__law_are_due => k_is)
    (case a__law_draw => k_is)
    (case l__law_draw => k_is)
    (case c__law_draw => k_is)
    (case k__law_draw => k_is)
    (case a__law_pick => k_is)
    (case l__law_pick => k_is)
    (case c__law_pick => k_is)
    (case k__law_pick => k_is)
    (case a__law_any => k_is)
    (case l__law_any => k_is)
    (case c__law_any => k_is)
    (case k__law_any => k_is)
    (case a__law_deck => k_is)
    (case l__law_deck => k_is)
    (case c__law_deck => k_is)
    (case k__law_deck => k_is)
    (case a_count_free => k_is)
    (case l_count_free => k_is)
    (case c_count_free => k_is)
    (case k_count_free => k_is)
    (case a_count_rank => k_is)
    (case l_count_rank => k_is)
    (case c_count_rank => k_is)
    (case k_count_rank => k_is)
    (case a_count_of => k_is)
    (case l_count_of => k_is)
    (case c_count_of => k_is)
    (case k_count_of => k_is)
    (case a__law_is_from => k_is)
    (case l__law_is_from => k_is)
    (case c__law_is_from => k_is)
    (case k__law_is_from => k_is)
    (case a_many_free => k_is)
    (case l_many_free => k_is)
    (case c_many_free => k_is)
    (case k_many_free => k_is)
    (case a_need_integer => k_is)
    (case l_need_integer => k_is)
    (case t_need_integer => k_is)
    (case c_need_integer => k_is)
    (case k_need_integer => k_is)
    (case a_need_size => k_is)
    (case l_need_size => k_is)
    (case c_need_size => k_is)
    (case k_need_size => k_is)
    (case a_many_spans => k_is)
    (case l_many_spans => k_is)
    (case c_many_spans => k_is)
    (case k_many_spans => k_is)
    (case a_powered => k_is)
    (case l_powered => k_is)
    (case c_powered => k_is)
    (case k_powered => k_is)
    (case a_many_at_once => k_is)
    (case l_many_at_once => k_is)
    (case c_many_at_once => k_is)
    (case k_many_at_once => k_is)
    (case a_many_flips => k_is)
    (case l_many_flips => k_is)
    (case c_many_flips => k_is)
    (case k_many_flips => k_is)
    (case a_many_folds => k_is)
    (case l_many_folds => k_is)
    (case c_many_folds => k_is)
    (case k_many_folds => k_is)
    (case a_is_integer => k_is)
    (case l_is_integer => k_is)
    (case c_is_integer => k_is)
    (case k_is_integer => k_is)
    (case a_need_prime => k_is)
    (case l_need_prime => k_is)
    (case c_need_prime => k_is)
    (case k_need_prime => k_is)
    (case a_is_prime_value => k_is)
    (case l_is_prime_value => k_is)
    (case c_is_prime_value => k_is)
    (case k_is_prime_value => k_is)
    (case z_range => k_is)
    (case z_repr => k_is)
    (case z_isinstance => k_is)
    (case z_int => k_is)
    (case z_bool => k_is)
    (case z_str => k_is)
    (case z_max => k_is)
    (case z_len => k_is)
    (case z_tuple => k_is)
    (case z_list => k_is)
    (case z_sum => k_is)
    (case q_WORDS => k_is)
    (case p_WORDS => k_is)
    (case q_MOST => k_is)
    (case q_PRIMES => k_is)
    (case p_PRIMES => k_is)
    (case xa_BadWord => k_is)
    (case xo_BadWord => k_is)
    (case xsa_BadWord => k_is)
    (case xib_BadWord => k_is)
    (case xty_BadWord => k_is)
    (case xkp_BadWord => k_is)
    (case xno_BadWord => k_is)
    (case xga_BadWord => k_is)
    (case xgg_BadWord => k_is)
    (case xhd_BadWord => k_is)
    (case xha_BadWord => k_is)
    (case xhn_BadWord => k_is)
    (case xht_BadWord => k_is)
    (case xhm_BadWord => k_is)
    (case xii_BadWord => k_is)
    (case xti_BadWord => k_is)
    (case xlI_BadWord => k_is)
    (case xcI_BadWord => k_is)
    (case xa_BadNumber => k_is)
    (case xo_BadNumber => k_is)
    (case xsa_BadNumber => k_is)
    (case xib_BadNumber => k_is)
    (case xty_BadNumber => k_is)
    (case xkp_BadNumber => k_is)
    (case xno_BadNumber => k_is)
    (case xga_BadNumber => k_is)
    (case xgg_BadNumber => k_is)
    (case xhd_BadNumber => k_is)
    (case xha_BadNumber => k_is)
    (case xhn_BadNumber => k_is)
    (case xht_BadNumber => k_is)
    (case xhm_BadNumber => k_is)
    (case xii_BadNumber => k_is)
    (case xti_BadNumber => k_is)
    (case xlI_BadNumber => k_is)
    (case xcI_BadNumber => k_is)
    (case xa_BadPrime => k_is)
    (case xo_BadPrime => k_is)
    (case xsa_BadPrime => k_is)
    (case xib_BadPrime => k_is)
    (case xty_BadPrime => k_is)
    (case xkp_BadPrime => k_is)
    (case xno_BadPrime => k_is)
    (case xga_BadPrime => k_is)
    (case xgg_BadPrime => k_is)
    (case xhd_BadPrime => k_is)
    (case xha_BadPrime => k_is)
    (case xhn_BadPrime => k_is)
    (case xht_BadPrime => k_is)
    (case xhm_BadPrime => k_is)
    (case xii_BadPrime => k_is)
    (case xti_BadPrime => k_is)
    (case xlI_BadPrime => k_is)
    (case xcI_BadPrime => k_is)
    (case y_BadTable => k_is)
    (case y_TableError => k_is)
    (case a__law_told => k_is)
    (case l__law_told => k_is)
    (case c__law_told => k_is)
    (case k__law_told => k_is)
    (case ga__law_are_due => k_is)
    (case gl__law_are_due => k_is)
    (case d_need_integer => exact (.cons ⟨.non, rfl, fun _ => .non⟩ .nil))
    (case i_WORDS => exact (.cons ⟨.str _, ⟨_, rfl⟩, fun _ => .str _⟩ (.cons ⟨.str _, ⟨_, rfl⟩, fun _ => .str _⟩ (.cons ⟨.str _, ⟨_, rfl⟩, fun _ => .str _⟩ (.cons ⟨.str _, ⟨_, rfl⟩, fun _ => .str _⟩ (.cons ⟨.str _, ⟨_, rfl⟩, fun _ => .str _⟩ (.cons ⟨.str _, ⟨_, rfl⟩, fun _ => .str _⟩ (.cons ⟨.str _, ⟨_, rfl⟩, fun _ => .str _⟩ .nil))))))))
    (case y_WORDS => decide)
    (case i_PRIMES => exact (.cons ⟨.int _, ⟨_, rfl⟩, fun _ => .int _⟩ (.cons ⟨.int _, ⟨_, rfl⟩, fun _ => .int _⟩ (.cons ⟨.int _, ⟨_, rfl⟩, fun _ => .int _⟩ (.cons ⟨.int _, ⟨_, rfl⟩, fun _ => .int _⟩ .nil)))))
    (case y_PRIMES => decide)
    (case m_BadWord => exact ⟨[_], rfl⟩)
    (case m_BadNumber => exact ⟨[_], rfl⟩)
    (case m_BadPrime => exact ⟨[_], rfl⟩)
    (case u_BadWord_BadTable => exact ⟨by kernel_rfl, by kernel_rfl⟩)
    (case u_BadWord_BadNumber => exact ⟨by kernel_rfl, by kernel_rfl⟩)
    (case u_BadWord_BadPrime => exact ⟨by kernel_rfl, by kernel_rfl⟩)
    (case u_BadWord_BadWord => exact ⟨by kernel_rfl, by kernel_rfl⟩)
    (case u_BadWord_TableError => exact ⟨by kernel_rfl, by kernel_rfl⟩)
    (case u_BadNumber_BadTable => exact ⟨by kernel_rfl, by kernel_rfl⟩)
    (case u_BadNumber_BadNumber => exact ⟨by kernel_rfl, by kernel_rfl⟩)
    (case u_BadNumber_BadPrime => exact ⟨by kernel_rfl, by kernel_rfl⟩)
    (case u_BadNumber_BadWord => exact ⟨by kernel_rfl, by kernel_rfl⟩)
    (case u_BadNumber_TableError => exact ⟨by kernel_rfl, by kernel_rfl⟩)
    (case u_BadPrime_BadTable => exact ⟨by kernel_rfl, by kernel_rfl⟩)
    (case u_BadPrime_BadNumber => exact ⟨by kernel_rfl, by kernel_rfl⟩)
    (case u_BadPrime_BadPrime => exact ⟨by kernel_rfl, by kernel_rfl⟩)
    (case u_BadPrime_BadWord => exact ⟨by kernel_rfl, by kernel_rfl⟩)
    (case u_BadPrime_TableError => exact ⟨by kernel_rfl, by kernel_rfl⟩)
    (case uniq => decide)
#print axioms PySem.Challenge.cw_fewfolds_k73_refusals_of_counts_holds

