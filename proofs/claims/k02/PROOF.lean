import PyProof.Rows.All
import HandS.ForMost
import HandS.ForExc
import HandS.TupAny
import HandS.TupMul
import HandS.Wide
import HandS.WideMore
import HandS.IsInst
import HandS.Deep
import HandS.Conv
import HandS.Flow
import HandS.Style
import HandS.Zip
import HandS.Walk
import HandS.NoneIn
import HandS.RaiseMore
import HandS.WordsDict
import PyProof.ReprRoads
import KE.GoesEnum
import HandS.Defaults
import OpenK.KMore
import HandS.Ends
import HandS.Words
import PySem.Challenge.RW_fewfolds_k02_whole_sums_products_and_row
set_option Elab.async false
set_option linter.all false
/-! Dl1: plain values, a store of cells, results. -/
namespace Dl
open PySem L2

/-- a value: frozen data, a cell of the store, or a tuple that holds cells -/
inductive D where
  | p (d : PyData)
  | loc (l : Nat)
  | tup (xs : List D)
  | fn (x : Str)

abbrev D.i (n : Int) : D := .p (.int n)
abbrev D.b (c : Bool) : D := .p (.bool c)
abbrev D.s (x : Str) : D := .p (.str x)
abbrev D.n : D := .p .none

/-- what stands in a cell -/
inductive Cell where
  | lst (xs : List D)
  | dK (kvs : List (Key × D))
  | lk (kvs : List (Key × D))
  | ins (C : Str) (fs : List (Str × D))
  | dead

abbrev Sto := List Cell
abbrev Slots := List (Option D)

inductive Res (α : Type) where
  | ok (a : α) (S : Sto)
  | ex (c : Str) (v : D) (S : Sto)
  | st

def Res.bind {α β : Type} : Res α → (α → Sto → Res β) → Res β
  | .ok a S, f => f a S
  | .ex c v S, _ => .ex c v S
  | .st, _ => .st

/-- where a block ends -/
inductive Out where
  | nx (ρ : Slots) (S : Sto)
  | rt (d : D) (S : Sto)
  | bk (ρ : Slots) (S : Sto)
  | ct (ρ : Slots) (S : Sto)
  | ex (c : Str) (v : D) (S : Sto)
  | st

def Res.out {α : Type} : Res α → (α → Sto → Out) → Out
  | .ok a S, f => f a S
  | .ex c v S, _ => .ex c v S
  | .st, _ => .st

@[simp] theorem bind_ok {α β : Type} (a : α) (S : Sto) (f : α → Sto → Res β) : (Res.ok a S).bind f = f a S := rfl
@[simp] theorem bind_ex {α β : Type} (c : Str) (v : D) (S : Sto) (f : α → Sto → Res β) : (Res.ex c v S).bind f = .ex c v S := rfl
@[simp] theorem bind_st {α β : Type} (f : α → Sto → Res β) : (Res.st : Res α).bind f = .st := rfl
@[simp] theorem out_ok {α : Type} (a : α) (S : Sto) (f : α → Sto → Out) : (Res.ok a S).out f = f a S := rfl
@[simp] theorem out_ex {α : Type} (c : Str) (v : D) (S : Sto) (f : α → Sto → Out) : (Res.ex c v S : Res α).out f = .ex c v S := rfl
@[simp] theorem out_st {α : Type} (f : α → Sto → Out) : (Res.st : Res α).out f = .st := rfl

/-! ### values -/
def D.pure? : D → Option PyData
  | .p d => some d
  | _ => none
def allP : List D → Option (List PyData)
  | [] => some []
  | .p d :: r => (allP r).map (d :: ·)
  | _ :: _ => none
@[simp] theorem allP_map (l : List PyData) : allP (l.map D.p) = some l := by
  induction l with
  | nil => rfl
  | cons a l ih => simp [allP, ih]
theorem allP_eq : ∀ {xs : List D} {ds : List PyData}, allP xs = some ds → xs = ds.map D.p
  | [], ds, h => by simp [allP] at h; subst h; rfl
  | .p d :: r, ds, h => by
    simp only [allP, Option.map_eq_some_iff] at h
    obtain ⟨r', h1, h2⟩ := h
    subst h2
    simp [allP_eq h1]
  | .loc _ :: _, _, h => by simp [allP] at h
  | .tup _ :: _, _, h => by simp [allP] at h
  | .fn _ :: _, _, h => by simp [allP] at h

/-- the tuple of some values -/
def mkT (xs : List D) : D := match allP xs with
  | some ds => .p (.tuple ds)
  | none => .tup xs
@[simp] theorem mkT_map (l : List PyData) : mkT (l.map D.p) = .p (.tuple l) := by simp [mkT]
@[simp] theorem mkT_nil : mkT [] = .p (.tuple []) := rfl

/-- a new list: frozen, where that is asked and all is frozen; else a cell -/
def mkL (m : Bool) (xs : List D) (S : Sto) : Res D :=
  match m, allP xs with
  | false, some ds => .ok (.p (.list ds)) S
  | _, _ => .ok (.loc S.length) (S ++ [.lst xs])
@[simp] theorem mkL_map (l : List PyData) (S : Sto) : mkL false (l.map D.p) S = .ok (.p (.list l)) S := by simp [mkL]
@[simp] theorem mkL_true (xs : List D) (S : Sto) : mkL true xs S = .ok (.loc S.length) (S ++ [.lst xs]) := by simp [mkL]

/-- the items of a list, and whether it is one; of a tuple -/
def lstOf (d : D) (S : Sto) : Option (List D) := match d with
  | .p (.list ds) => some (ds.map D.p)
  | .loc l => match S[l]? with
    | some (.lst xs) => some xs
    | _ => none
  | _ => none
def tupOf (d : D) : Option (List D) := match d with
  | .p (.tuple ds) => some (ds.map D.p)
  | .tup xs => some xs
  | _ => none
def seqOf (d : D) (S : Sto) : Option (List D) := (tupOf d).orElse fun _ => lstOf d S
@[simp] theorem seqOf_tuple (ds : List PyData) (S : Sto) : seqOf (.p (.tuple ds)) S = some (ds.map D.p) := rfl
@[simp] theorem seqOf_list (ds : List PyData) (S : Sto) : seqOf (.p (.list ds)) S = some (ds.map D.p) := rfl
@[simp] theorem seqOf_tup (xs : List D) (S : Sto) : seqOf (.tup xs) S = some xs := rfl
@[simp] theorem tupOf_tuple (ds : List PyData) : tupOf (.p (.tuple ds)) = some (ds.map D.p) := rfl
@[simp] theorem tupOf_tup (xs : List D) : tupOf (.tup xs) = some xs := rfl
@[simp] theorem tupOf_list (ds : List PyData) : tupOf (.p (.list ds)) = none := rfl
@[simp] theorem tupOf_loc (l : Nat) : tupOf (.loc l) = none := rfl
@[simp] theorem lstOf_list (ds : List PyData) (S : Sto) : lstOf (.p (.list ds)) S = some (ds.map D.p) := rfl

/-- frozen data of a value: a cell that holds a list of frozen data counts as one -/
def asP (d : D) (S : Sto) : Option PyData := match d with
  | .p d => some d
  | .loc l => match S[l]? with
    | some (.lst xs) => (allP xs).map PyData.list
    | _ => none
  | .tup _ => none
  | .fn _ => none
@[simp] theorem asP_p (d : PyData) (S : Sto) : asP (.p d) S = some d := rfl

/-- truth -/
def truP : PyData → Bool
  | .none => false
  | .bool c => c
  | .int i => i != 0
  | .str x => x.length != 0
  | .list xs => !xs.isEmpty
  | .tuple xs => !xs.isEmpty
  | .dict kvs => !kvs.isEmpty
def tru (d : D) (S : Sto) : Option Bool := match d with
  | .p (.dict _) => none
  | .p (.str x) => if x.length ≤ sizeLine then some (x.length != 0) else none
  | .p d => some (truP d)
  | .tup xs => some (!xs.isEmpty)
  | .loc l => match S[l]? with
    | some (.lst xs) => some (!xs.isEmpty)
    | some (.dK kvs) => some (!kvs.isEmpty)
    | _ => none
  | .fn _ => none
@[simp] theorem tru_b (c : Bool) (S : Sto) : tru (.p (.bool c)) S = some c := rfl
@[simp] theorem tru_i (i : Int) (S : Sto) : tru (.p (.int i)) S = some (i != 0) := rfl

/-! ### closed values: nothing of the cells behind the n-th one -/
mutual
def D.closed (n : Nat) : D → Bool
  | .p _ => true
  | .loc l => decide (l < n)
  | .tup xs => closedAll n xs
  | .fn _ => true
def closedAll (n : Nat) : List D → Bool
  | [] => true
  | x :: xs => x.closed n && closedAll n xs
end
def Cell.closed (n : Nat) : Cell → Bool
  | .lst xs => closedAll n xs
  | .dK kvs => kvs.all fun kv => kv.2.closed n
  | .lk kvs => kvs.all fun kv => kv.2.closed n
  | .ins _ fs => fs.all fun kv => kv.2.closed n
  | .dead => true
/-- of the first cells each is as it was, or closed -/
def TrimOk (S S' : Sto) : Prop := S.length ≤ S'.length ∧ ∀ (i : Nat) (c : Cell), i < S.length → S'[i]? = some c → S[i]? = some c ∨ c.closed S.length = true
open Classical in
/-- what a def hands back: its own cells go where none of them is seen -/
noncomputable def fin (S : Sto) : Out → Res D
  | .nx _ S' => if TrimOk S S' then .ok .n (S'.take S.length) else .ok .n S'
  | .rt d S' => if TrimOk S S' ∧ d.closed S.length = true then .ok d (S'.take S.length) else .ok d S'
  | .ex c v S' => if TrimOk S S' ∧ v.closed S.length = true then .ex c v (S'.take S.length) else .ex c v S'
  | _ => .st
theorem TrimOk.app (S L : Sto) : TrimOk S (S ++ L) := ⟨by simp, fun i c hi h => .inl (by rwa [List.getElem?_append_left hi] at h)⟩
theorem TrimOk.refl (S : Sto) : TrimOk S S := ⟨Nat.le_refl _, fun i c hi h => .inl h⟩
theorem fin_rt (S L : Sto) (d : PyData) : fin S (.rt (.p d) (S ++ L)) = .ok (.p d) S := by
  simp only [fin]
  rw [if_pos ⟨TrimOk.app S L, by simp [D.closed]⟩]
  simp
theorem fin_rt0 (S : Sto) (d : PyData) : fin S (.rt (.p d) S) = .ok (.p d) S := by
  have := fin_rt S [] d
  simpa using this
theorem fin_nx0 (S : Sto) (ρ : Slots) : fin S (.nx ρ S) = .ok .n S := by
  simp only [fin]
  rw [if_pos (TrimOk.refl S)]
  simp
theorem fin_ex0 (S : Sto) (c : Str) (d : PyData) : fin S (.ex c (.p d) S) = .ex c (.p d) S := by
  simp only [fin]
  rw [if_pos ⟨TrimOk.refl S, by simp [D.closed]⟩]
  simp

end Dl

set_option linter.all false
set_option maxHeartbeats 1000000
/-! Dl2: how values and cells stand in the abstract heap; steps. -/
namespace Dl
open PySem L2

/-- the classes of the text by their names, the module's names -/
structure Nm where
  K : PySem.W.Frag
  mg : Str → Option Value
  fd : Str → Str

/-- a list among the written part's own objects -/
def KL (K : PySem.W.Frag) (a : Addr) (vs : List V) : Prop := ∃ (its : List Value) (n : Nat), K.lookup a = some { cls := .type "list", data := .seq its.toArray n } ∧ vs.length ≤ sizeLine ∧ Vals vs its
/-- a list that stays as it is -/
def FzL (K : PySem.W.Frag) (H : Hp) (a : Addr) (vs : List V) : Prop := (∃ o, H a = some (.frz o (.lst vs))) ∨ KL K a vs
theorem KL.sq {K : PySem.W.Frag} {H : Hp} {a : Addr} {vs : List V} (h : KL K a vs) : SqL K H a vs := by
  obtain ⟨its, n, hk, hz, r⟩ := h
  exact .inr ⟨_, its.toArray, n, hk, rfl, rfl, rfl, by rw [List.size_toArray, ← r.length]; exact hz, by simpa using r⟩
theorem FzL.sq {K : PySem.W.Frag} {H : Hp} {a : Addr} {vs : List V} (h : FzL K H a vs) : SqL K H a vs := by
  rcases h with ⟨o, h⟩ | h
  · exact .inl (.inr ⟨o, h⟩)
  · exact h.sq
/-- the entries of a frozen dict -/
def DctAt (h : Heap) (a : Addr) (ks vs : List V) : Prop := ∃ (o : Obj) (es : Array DictEntry) (n : Nat), h.get? a = some o ∧ o.cls = .type "dict" ∧ o.data = .dict es n ∧
  Vals ks (es.toList.map (·.key)) ∧ Vals vs (es.toList.map (·.val))

mutual
inductive Pd (N : Nm) (H : Hp) : V → PyData → Prop where
  | non : Pd N H .non .none
  | bl (b : Bool) : Pd N H (.bl b) (.bool b)
  | int (i : Int) : Pd N H (.int i) (.int i)
  | str (x : Str) : Pd N H (.str x) (.str x)
  | tup {a : Addr} {vs : List V} {ds : List PyData} : SqT N.K H a vs → PdAll N H vs ds → Pd N H (.ref a) (.tuple ds)
  | lst {a : Addr} {vs : List V} {ds : List PyData} : FzL N.K H a vs → a ≠ sysModules → PdAll N H vs ds → Pd N H (.ref a) (.list ds)
  | dct {a : Addr} {φ : Heap → Prop} {ks vs : List V} {dk dv : List PyData} : H a = some (.ext φ) → (∀ h, φ h → DctAt h a ks vs) → a ≠ sysModules → PdAll N H ks dk → PdAll N H vs dv → dk.length = dv.length →
      Pd N H (.ref a) (.dict (dk.zip dv))
inductive PdAll (N : Nm) (H : Hp) : List V → List PyData → Prop where
  | nil : PdAll N H [] []
  | cons {v : V} {vs : List V} {d : PyData} {ds : List PyData} : Pd N H v d → PdAll N H vs ds → PdAll N H (v :: vs) (d :: ds)
end

mutual
inductive Rp (N : Nm) (H : Hp) (α : List Addr) : V → D → Prop where
  | p {v : V} {d : PyData} : Pd N H v d → Rp N H α v (.p d)
  | loc {a : Addr} {l : Nat} : α[l]? = some a → Rp N H α (.ref a) (.loc l)
  | tup {a : Addr} {vs : List V} {xs : List D} : SqT N.K H a vs → RpAll N H α vs xs → Rp N H α (.ref a) (.tup xs)
  | fn {f : Addr} {x : Str} : N.mg x = some (.ref f) → Rp N H α (.ref f) (.fn x)
inductive RpAll (N : Nm) (H : Hp) (α : List Addr) : List V → List D → Prop where
  | nil : RpAll N H α [] []
  | cons {v : V} {vs : List V} {d : D} {ds : List D} : Rp N H α v d → RpAll N H α vs ds → RpAll N H α (v :: vs) (d :: ds)
end

def CellOk (N : Nm) (H : Hp) (α : List Addr) (a : Addr) : Cell → Prop
  | .lst xs => ∃ vs, H a = some (.lst vs) ∧ RpAll N H α vs xs
  | .dK kvs => ∃ (ks : List Key) (vs : List V) (xs : List D), H a = some (.dK (ks.zip vs)) ∧ kvs = ks.zip xs ∧ ks.length = vs.length ∧ RpAll N H α vs xs
  | .lk kvs => ∃ (o : Obj) (ks : List Key) (vs : List V) (xs : List D), H a = some (.frz o (.dK (ks.zip vs))) ∧ kvs = ks.zip xs ∧ ks.length = vs.length ∧ RpAll N H α vs xs
  | .ins C fs => ∃ (Ca dx : Addr) (ks : List Str) (vs : List V) (xs : List D), N.mg C = some (.ref Ca) ∧ H a = some (.ins Ca dx (ks.zip vs)) ∧ fs = ks.zip xs ∧ ks.length = vs.length ∧ RpAll N H α vs xs ∧ Cls N.K Ca ∧ ∀ f ∈ ks, NoAttr N.K Ca f
  | .dead => H a ≠ none

structure StoOk (N : Nm) (H : Hp) (α : List Addr) (S : Sto) : Prop where
  len : α.length = S.length
  nd : α.Nodup
  cell : ∀ (l : Nat) (a : Addr) (c : Cell), α[l]? = some a → S[l]? = some c → CellOk N H α a c

/-- a live cell stands at a -/
def Live (α : List Addr) (S : Sto) (a : Addr) : Prop := ∃ (l : Nat) (c : Cell), α[l]? = some a ∧ S[l]? = some c ∧ (match c with | .dead => False | _ => True)

structure Stp (α : List Addr) (S : Sto) (H : Hp) (α' : List Addr) (S' : Sto) (H' : Hp) : Prop where
  pre : ∃ β, α' = α ++ β ∧ ∀ a ∈ β, H a = none
  dead : ∀ l : Nat, S[l]? = some Cell.dead → S'[l]? = some Cell.dead
  keep : ∀ a u, H a = some u → ¬ Live α S a → H' a = some u
  there : ∀ a, H a ≠ none → H' a ≠ none

/-- objects that never are live cells -/
def Fix : HO → Prop
  | .tup _ => True
  | .frz _ (.lst _) => True
  | .frz _ (.tup _) => True
  | .ext _ => True
  | _ => False

section
variable {N : Nm} {H H' H1 H2 : Hp} {α α' α1 α2 : List Addr} {S S' S1 S2 : Sto}

theorem StoOk.notLive (ok : StoOk N H α S) {a : Addr} {u : HO} (e : H a = some u) (hf : Fix u) : ¬ Live α S a := by
  rintro ⟨l, c, h1, h2, h3⟩
  have q := ok.cell l a c h1 h2
  cases c with
  | lst xs => obtain ⟨vs, q, _⟩ := q; rw [e] at q; cases q; exact hf
  | dK kvs => obtain ⟨ks, vs, xs, q, _⟩ := q; rw [e] at q; cases q; exact hf
  | lk kvs => obtain ⟨o, ks, vs, xs, q, _⟩ := q; rw [e] at q; cases q; exact hf
  | ins C fs => obtain ⟨Ca, dx, ks, vs, xs, _, q, _⟩ := q; rw [e] at q; cases q; exact hf
  | dead => exact h3
theorem StoOk.tracked (ok : StoOk N H α S) {l : Nat} {a : Addr} (h : α[l]? = some a) : H a ≠ none := by
  have hl : l < S.length := by
    rw [← ok.len]
    exact (List.getElem?_eq_some_iff.mp h).1
  have q := ok.cell l a S[l] h (List.getElem?_eq_getElem hl)
  generalize S[l] = c at q
  cases c with
  | lst xs => obtain ⟨vs, q, _⟩ := q; rw [q]; exact fun z => nomatch z
  | dK kvs => obtain ⟨ks, vs, xs, q, _⟩ := q; rw [q]; exact fun z => nomatch z
  | lk kvs => obtain ⟨o, ks, vs, xs, q, _⟩ := q; rw [q]; exact fun z => nomatch z
  | ins C fs => obtain ⟨Ca, dx, ks, vs, xs, _, q, _⟩ := q; rw [q]; exact fun z => nomatch z
  | dead => exact q
theorem StoOk.fresh (ok : StoOk N H α S) {a : Addr} (h : H a = none) : a ∉ α := fun hm => by
  obtain ⟨l, hl⟩ := List.getElem?_of_mem hm
  exact ok.tracked hl h
theorem Live.mem {a : Addr} (h : Live α S a) : a ∈ α := by
  obtain ⟨l, c, h1, _⟩ := h
  exact List.mem_of_getElem? h1

theorem Stp.refl : Stp α S H α S H := ⟨⟨[], by simp, by simp⟩, fun _ h => h, fun _ _ h _ => h, fun _ h => h⟩
theorem Stp.trans (ok : StoOk N H α S) (a : Stp α S H α1 S1 H1) (b : Stp α1 S1 H1 α2 S2 H2) : Stp α S H α2 S2 H2 := by
  obtain ⟨β, e1, f1⟩ := a.pre
  obtain ⟨γ, e2, f2⟩ := b.pre
  refine ⟨⟨β ++ γ, by rw [e2, e1, List.append_assoc], fun x hx => ?_⟩, fun l h => b.dead l (a.dead l h), fun x u e nl => ?_, fun x h => b.there x (a.there x h)⟩
  · rcases List.mem_append.mp hx with h | h
    · exact f1 x h
    · have := f2 x h
      cases q : H x with
      | none => rfl
      | some u => exact absurd this (a.there x (by rw [q]; exact fun z => nomatch z))
  · refine b.keep x u (a.keep x u e nl) ?_
    rintro ⟨l, c, h1, h2, h3⟩
    by_cases hl : l < α.length
    · rw [e1, List.getElem?_append_left hl] at h1
      have hs : l < S.length := by rw [← ok.len]; exact hl
      have q : S[l]? = some S[l] := List.getElem?_eq_getElem hs
      by_cases hd : S[l] = .dead
      · rw [hd] at q
        have := a.dead l q
        rw [h2] at this
        cases this
        exact h3
      · refine nl ⟨l, S[l], h1, q, ?_⟩
        generalize S[l] = c' at hd
        cases c' <;> first | trivial | exact hd rfl
    · rw [e1, List.getElem?_append_right (by omega)] at h1
      have := f1 x (List.mem_of_getElem? h1)
      rw [this] at e
      cases e
theorem Stp.fix (ok : StoOk N H α S) (a : Stp α S H α' S' H') {x : Addr} {u : HO} (e : H x = some u) (hf : Fix u) : H' x = some u := a.keep x u e (ok.notLive e hf)
theorem Stp.loc (a : Stp α S H α' S' H') {l : Nat} {x : Addr} (e : α[l]? = some x) : α'[l]? = some x := by
  obtain ⟨β, e1, _⟩ := a.pre
  rw [e1, List.getElem?_append_left (List.getElem?_eq_some_iff.mp e).1]
  exact e
theorem Stp.sqT (ok : StoOk N H α S) (a : Stp α S H α' S' H') {x : Addr} {vs : List V} (h : SqT N.K H x vs) : SqT N.K H' x vs := by
  rcases h with (h | ⟨o, h⟩) | h
  · exact .inl (.inl (a.fix ok h trivial))
  · exact .inl (.inr ⟨o, a.fix ok h trivial⟩)
  · exact .inr h
/-- what values lean on stays: the places of cells, the objects that never change -/
structure Up (α : List Addr) (H : Hp) (α' : List Addr) (H' : Hp) : Prop where
  loc : ∀ (l : Nat) (x : Addr), α[l]? = some x → α'[l]? = some x
  fix : ∀ (x : Addr) (u : HO), H x = some u → Fix u → H' x = some u
theorem Stp.up (ok : StoOk N H α S) (a : Stp α S H α' S' H') : Up α H α' H' := ⟨fun _ _ e => a.loc e, fun _ _ e f => a.fix ok e f⟩
theorem Up.sqT (a : Up α H α' H') {x : Addr} {vs : List V} (h : SqT N.K H x vs) : SqT N.K H' x vs := by
  rcases h with (h | ⟨o, h⟩) | h
  · exact .inl (.inl (a.fix _ _ h trivial))
  · exact .inl (.inr ⟨o, a.fix _ _ h trivial⟩)
  · exact .inr h
theorem Up.fzL (a : Up α H α' H') {K : PySem.W.Frag} {x : Addr} {vs : List V} (h : FzL K H x vs) : FzL K H' x vs := by
  rcases h with ⟨o, h⟩ | h
  · exact .inl ⟨o, a.fix _ _ h trivial⟩
  · exact .inr h
mutual
theorem Up.pd (a : Up α H α' H') : ∀ {d : PyData} {v : V}, Pd N H v d → Pd N H' v d
  | .none, _, h => by cases h; exact .non
  | .bool b, _, h => by cases h; exact .bl b
  | .int i, _, h => by cases h; exact .int i
  | .str x, _, h => by cases h; exact .str x
  | .tuple ds, _, h => by
    cases h with
    | tup h1 h2 => exact .tup (a.sqT h1) (a.pdAll h2)
  | .list ds, _, h => by
    cases h with
    | lst h1 h2 h3 => exact .lst (a.fzL h1) h2 (a.pdAll h3)
  | .dict kvs, v, h => by
    generalize hk : PyData.dict kvs = d at h
    cases h with
    | @dct b φ ks vs dk dv h1 h2 h3 h4 h5 h6 =>
      exact .dct (a.fix _ _ h1 trivial) h2 h3 (a.pdAll' kvs dk true (by injection hk with e; rw [e]; exact (List.map_fst_zip (by omega)).symm) h4) (a.pdAll' kvs dv false (by injection hk with e; rw [e]; exact (List.map_snd_zip (by omega)).symm) h5) h6
    | _ => cases hk
theorem Up.pdAll (a : Up α H α' H') : ∀ {ds : List PyData} {vs : List V}, PdAll N H vs ds → PdAll N H' vs ds
  | [], _, h => by cases h; exact .nil
  | d :: ds, _, h => by
    cases h with
    | cons h1 h2 => exact .cons (a.pd h1) (a.pdAll h2)
theorem Up.pdAll' (a : Up α H α' H') : ∀ (kvs : List (PyData × PyData)) (ds : List PyData) (k : Bool), ds = kvs.map (fun q => if k then q.1 else q.2) → ∀ {vs : List V}, PdAll N H vs ds → PdAll N H' vs ds
  | [], ds, k, e, _, h => by
    subst e
    cases h
    exact .nil
  | (x, y) :: r, ds, true, e, _, h => by
    subst e
    cases h with
    | cons h1 h2 => exact .cons (a.pd (d := x) h1) (a.pdAll' r _ true rfl h2)
  | (x, y) :: r, ds, false, e, _, h => by
    subst e
    cases h with
    | cons h1 h2 => exact .cons (a.pd (d := y) h1) (a.pdAll' r _ false rfl h2)
end
mutual
theorem Up.rp (a : Up α H α' H') : ∀ {d : D} {v : V}, Rp N H α v d → Rp N H' α' v d
  | .p d, _, h => by
    cases h with
    | p h => exact .p (a.pd h)
  | .loc l, _, h => by
    cases h with
    | loc h => exact .loc (a.loc _ _ h)
  | .tup xs, _, h => by
    cases h with
    | tup h1 h2 => exact .tup (a.sqT h1) (a.rpAll h2)
  | .fn x, _, h => by
    cases h with
    | fn h => exact .fn h
theorem Up.rpAll (a : Up α H α' H') : ∀ {ds : List D} {vs : List V}, RpAll N H α vs ds → RpAll N H' α' vs ds
  | [], _, h => by cases h; exact .nil
  | d :: ds, _, h => by
    cases h with
    | cons h1 h2 => exact .cons (a.rp h1) (a.rpAll h2)
end
theorem Stp.rp (ok : StoOk N H α S) (a : Stp α S H α' S' H') {d : D} {v : V} (h : Rp N H α v d) : Rp N H' α' v d := (a.up ok).rp h
theorem Stp.rpAll (ok : StoOk N H α S) (a : Stp α S H α' S' H') {ds : List D} {vs : List V} (h : RpAll N H α vs ds) : RpAll N H' α' vs ds := (a.up ok).rpAll h

/-! ### lists of values -/
theorem RpAll.length : ∀ {vs : List V} {ds : List D}, RpAll N H α vs ds → vs.length = ds.length
  | _, _, .nil => rfl
  | _, _, .cons _ t => congrArg Nat.succ t.length
theorem RpAll.get : ∀ {vs : List V} {ds : List D} {i : Nat} {d : D}, RpAll N H α vs ds → ds[i]? = some d → ∃ v, vs[i]? = some v ∧ Rp N H α v d
  | _, _, _, _, .nil, e => by simp at e
  | _, _, 0, _, .cons r _, e => by simp at e; subst e; exact ⟨_, rfl, r⟩
  | _, _, i + 1, d, .cons _ t, e => by
    obtain ⟨v, h1, h2⟩ := RpAll.get (i := i) (d := d) t (by simpa using e)
    exact ⟨v, by simpa using h1, h2⟩
theorem RpAll.get' : ∀ {vs : List V} {ds : List D} {i : Nat} {v : V}, RpAll N H α vs ds → vs[i]? = some v → ∃ d, ds[i]? = some d ∧ Rp N H α v d
  | _, _, _, _, .nil, e => by simp at e
  | _, _, 0, _, .cons r _, e => by simp at e; subst e; exact ⟨_, rfl, r⟩
  | _, _, i + 1, d, .cons _ t, e => by
    obtain ⟨v, h1, h2⟩ := RpAll.get' (i := i) (v := d) t (by simpa using e)
    exact ⟨v, by simpa using h1, h2⟩
theorem RpAll.append : ∀ {vs ws : List V} {ds es : List D}, RpAll N H α vs ds → RpAll N H α ws es → RpAll N H α (vs ++ ws) (ds ++ es)
  | _, _, _, _, .nil, s => s
  | _, _, _, _, .cons r t, s => .cons r (t.append s)
theorem RpAll.take : ∀ {vs : List V} {ds : List D} (n : Nat), RpAll N H α vs ds → RpAll N H α (vs.take n) (ds.take n)
  | _, _, 0, _ => .nil
  | _, _, _ + 1, .nil => .nil
  | _, _, n + 1, .cons r t => .cons r (t.take n)
theorem RpAll.drop : ∀ {vs : List V} {ds : List D} (n : Nat), RpAll N H α vs ds → RpAll N H α (vs.drop n) (ds.drop n)
  | _, _, 0, r => r
  | _, _, _ + 1, .nil => .nil
  | _, _, n + 1, .cons _ t => t.drop n
theorem RpAll.set {v : V} {d : D} (r : Rp N H α v d) : ∀ {vs : List V} {ds : List D} (i : Nat), RpAll N H α vs ds → RpAll N H α (vs.set i v) (ds.set i d)
  | _, _, _, .nil => .nil
  | _, _, 0, .cons _ t => .cons r t
  | _, _, i + 1, .cons q t => .cons q (t.set r i)
theorem RpAll.reverse : ∀ {vs : List V} {ds : List D}, RpAll N H α vs ds → RpAll N H α vs.reverse ds.reverse
  | _, _, .nil => .nil
  | _, _, .cons r t => by
    rw [List.reverse_cons, List.reverse_cons]
    exact t.reverse.append (.cons r .nil)
theorem RpAll.ofP : ∀ {vs : List V} {ds : List PyData}, PdAll N H vs ds → RpAll N H α vs (ds.map D.p)
  | _, [], h => by cases h; exact .nil
  | _, d :: ds, h => by
    cases h with
    | cons h1 h2 => exact .cons (.p h1) (RpAll.ofP h2)
theorem RpAll.toP : ∀ {vs : List V} {ds : List PyData}, RpAll N H α vs (ds.map D.p) → PdAll N H vs ds
  | _, [], h => by cases h; exact .nil
  | _, d :: ds, h => by
    cases h with
    | cons h1 h2 =>
      cases h1 with
      | p h1 => exact .cons h1 (RpAll.toP h2)
theorem rp_mkT {a : Addr} {vs : List V} {xs : List D} (h : SqT N.K H a vs) (r : RpAll N H α vs xs) : Rp N H α (.ref a) (mkT xs) := by
  unfold mkT
  cases e : allP xs with
  | none => exact .tup h r
  | some ds =>
    have := allP_eq e
    subst this
    exact .p (.tup h r.toP)
theorem Rp.int_inv {v : V} {i : Int} (h : Rp N H α v (.p (.int i))) : v = .int i := by
  cases h with | p h => cases h; rfl
theorem Rp.str_inv {v : V} {x : Str} (h : Rp N H α v (.p (.str x))) : v = .str x := by
  cases h with | p h => cases h; rfl
theorem Rp.bool_inv {v : V} {b : Bool} (h : Rp N H α v (.p (.bool b))) : v = .bl b := by
  cases h with | p h => cases h; rfl
theorem Rp.none_inv {v : V} (h : Rp N H α v (.p .none)) : v = .non := by
  cases h with | p h => cases h; rfl
theorem Rp.tup_inv {v : V} {d : D} {xs : List D} (h : Rp N H α v d) (e : tupOf d = some xs) : ∃ a vs, v = .ref a ∧ SqT N.K H a vs ∧ RpAll N H α vs xs := by
  cases h with
  | @p v d h =>
    cases d <;> simp [tupOf] at e
    subst e
    cases h with
    | tup h1 h2 => exact ⟨_, _, rfl, h1, RpAll.ofP h2⟩
  | loc h => simp [tupOf] at e
  | tup h1 h2 => simp at e; subst e; exact ⟨_, _, rfl, h1, h2⟩
  | fn h => simp [tupOf] at e
/-- a list as it stands: a cell, or frozen -/
theorem Rp.lst_inv (ok : StoOk N H α S) {v : V} {d : D} {xs : List D} (h : Rp N H α v d) (e : lstOf d S = some xs) : ∃ a vs, v = .ref a ∧ SqL N.K H a vs ∧ RpAll N H α vs xs := by
  cases h with
  | @p v d h =>
    cases d <;> simp [lstOf] at e
    subst e
    cases h with
    | lst h1 h2 h3 => exact ⟨_, _, rfl, h1.sq, RpAll.ofP h3⟩
  | @loc a l h =>
    unfold lstOf at e
    cases q : S[l]? with
    | none => simp [q] at e
    | some c =>
      cases c <;> simp [q] at e
      subst e
      obtain ⟨vs, h1, h2⟩ := ok.cell l a _ h q
      exact ⟨_, _, rfl, .inl (.inl h1), h2⟩
  | tup h1 h2 => simp [lstOf] at e
  | fn h => simp [lstOf] at e
theorem Rp.seq_inv (ok : StoOk N H α S) {v : V} {d : D} {xs : List D} (h : Rp N H α v d) (e : seqOf d S = some xs) : ∃ a vs, v = .ref a ∧ (SqL N.K H a vs ∨ SqT N.K H a vs) ∧ RpAll N H α vs xs := by
  unfold seqOf at e
  cases q : tupOf d with
  | some ys =>
    rw [q] at e
    simp at e
    subst e
    obtain ⟨a, vs, h1, h2, h3⟩ := h.tup_inv q
    exact ⟨a, vs, h1, .inr h2, h3⟩
  | none =>
    rw [q] at e
    simp at e
    obtain ⟨a, vs, h1, h2, h3⟩ := h.lst_inv ok e
    exact ⟨a, vs, h1, .inl h2, h3⟩

/-! ### steps that the rules make -/
/-- nothing changed but a new tracked object that is no cell -/
theorem step_new (ok : StoOk N H α S) {p : Addr} {o : HO} (hp : H p = none) : Stp α S H α S (upd H p o) := by
  refine ⟨⟨[], by simp, by simp⟩, fun _ h => h, fun a u e _ => ?_, fun a h => ?_⟩
  · rw [upd_ne (ne_of_none e hp)]
    exact e
  · by_cases q : a = p
    · subst q
      exact absurd hp h
    · rw [upd_ne q]
      exact h
theorem CellOk.up (st : Up α H α' H') {a : Addr} {c : Cell} (h : CellOk N H α a c) (e : H' a = H a) : CellOk N H' α' a c := by
  cases c with
  | lst xs => obtain ⟨vs, q, r⟩ := h; exact ⟨vs, e.trans q, st.rpAll r⟩
  | dK kvs => obtain ⟨ks, vs, xs, q, e1, e2, r⟩ := h; exact ⟨ks, vs, xs, e.trans q, e1, e2, st.rpAll r⟩
  | lk kvs => obtain ⟨o, ks, vs, xs, q, e1, e2, r⟩ := h; exact ⟨o, ks, vs, xs, e.trans q, e1, e2, st.rpAll r⟩
  | ins C fs => obtain ⟨Ca, dx, ks, vs, xs, q0, q, e1, e2, r⟩ := h; exact ⟨Ca, dx, ks, vs, xs, q0, e.trans q, e1, e2, st.rpAll r.1, r.2⟩
  | dead => show H' a ≠ none; rw [e]; exact h
theorem CellOk.step (ok : StoOk N H α S) (st : Stp α S H α' S' H') {a : Addr} {c : Cell} (h : CellOk N H α a c) (e : H' a = H a) : CellOk N H' α' a c := by
  exact h.up (st.up ok) e
theorem sto_new (ok : StoOk N H α S) {p : Addr} {o : HO} (hp : H p = none) : StoOk N (upd H p o) α S := by
  refine ⟨ok.len, ok.nd, fun l a c h1 h2 => ?_⟩
  refine (ok.cell l a c h1 h2).step ok (step_new ok hp) (upd_ne ?_)
  intro q
  subst q
  exact ok.tracked h1 hp
/-- a new cell -/
theorem step_alloc (ok : StoOk N H α S) {p : Addr} {o : HO} {c : Cell} (hp : H p = none) : Stp α S H (α ++ [p]) (S ++ [c]) (upd H p o) := by
  have st := step_new ok (o := o) hp
  refine ⟨⟨[p], rfl, by simpa using hp⟩, fun l h => ?_, st.keep, st.there⟩
  rw [List.getElem?_append_left (List.getElem?_eq_some_iff.mp h).1]
  exact h
theorem sto_alloc (ok : StoOk N H α S) {p : Addr} {o : HO} {c : Cell} (hp : H p = none) (hc : CellOk N (upd H p o) (α ++ [p]) p c) : StoOk N (upd H p o) (α ++ [p]) (S ++ [c]) := by
  refine ⟨by simp [ok.len], ?_, fun l a c' h1 h2 => ?_⟩
  · rw [List.nodup_append]
    refine ⟨ok.nd, by simp, fun a ha b hb => ?_⟩
    simp at hb
    subst hb
    intro e
    subst e
    exact ok.fresh hp ha
  · by_cases hl : l < α.length
    · rw [List.getElem?_append_left hl] at h1
      rw [List.getElem?_append_left (by rw [← ok.len]; exact hl)] at h2
      refine (ok.cell l a c' h1 h2).step ok (step_alloc (c := c) ok hp) (upd_ne ?_)
      intro q
      subst q
      exact ok.tracked h1 hp
    · have hl' : l = α.length := by
        have := (List.getElem?_eq_some_iff.mp h1).1
        simp at this
        omega
      subst hl'
      simp at h1
      rw [ok.len] at h2
      simp at h2
      subst h1
      subst h2
      exact hc
/-- a live cell is changed -/
theorem step_set (ok : StoOk N H α S) {l : Nat} {a : Addr} {o : HO} {c c' : Cell} (hl : α[l]? = some a) (hs : S[l]? = some c) (hd : c ≠ .dead) : Stp α S H α (S.set l c') (upd H a o) := by
  have live : Live α S a := ⟨l, c, hl, hs, by cases c <;> first | trivial | exact hd rfl⟩
  refine ⟨⟨[], by simp, by simp⟩, fun k h => ?_, fun b u e nl => ?_, fun b h => ?_⟩
  · by_cases q : l = k
    · subst q
      rw [hs] at h
      cases h
      exact absurd rfl hd
    · rw [List.getElem?_set_ne q]
      exact h
  · have : b ≠ a := fun q => nl (q ▸ live)
    rw [upd_ne this]
    exact e
  · by_cases q : b = a
    · subst q
      rw [upd_same]
      exact fun z => nomatch z
    · rw [upd_ne q]
      exact h
theorem nodup_at (nd : α.Nodup) {k l : Nat} {a : Addr} (h1 : α[k]? = some a) (h2 : α[l]? = some a) : k = l := by
  obtain ⟨q1, e1⟩ := List.getElem?_eq_some_iff.mp h1
  obtain ⟨q2, e2⟩ := List.getElem?_eq_some_iff.mp h2
  exact (List.getElem_inj nd).mp (e1.trans e2.symm)
theorem sto_set (ok : StoOk N H α S) {l : Nat} {a : Addr} {o : HO} {c c' : Cell} (hl : α[l]? = some a) (hs : S[l]? = some c) (hd : c ≠ .dead) (hc : CellOk N (upd H a o) α a c') : StoOk N (upd H a o) α (S.set l c') := by
  refine ⟨by simp [ok.len], ok.nd, fun k b c'' h1 h2 => ?_⟩
  by_cases q : l = k
  · subst q
    rw [hl] at h1
    cases h1
    rw [List.getElem?_set_self (List.getElem?_eq_some_iff.mp hs).1] at h2
    cases h2
    exact hc
  · rw [List.getElem?_set_ne q] at h2
    refine (ok.cell k b c'' h1 h2).step ok (step_set ok hl hs hd (c' := c')) (upd_ne ?_)
    intro e
    subst e
    exact q (nodup_at ok.nd hl h1)
/-! the first n cells -/
mutual
theorem Rp.cut {n : Nat} : ∀ {d : D} {v : V}, Rp N H α v d → d.closed n = true → Rp N H (α.take n) v d
  | .p d, _, h, _ => by
    cases h with
    | p h => exact .p h
  | .loc l, _, h, c => by
    cases h with
    | loc h =>
      refine .loc ?_
      have : l < n := by simpa [D.closed] using c
      rw [List.getElem?_take_of_lt this]
      exact h
  | .tup xs, _, h, c => by
    cases h with
    | tup h1 h2 => exact .tup h1 (h2.cut (by simpa [D.closed] using c))
  | .fn x, _, h, _ => by
    cases h with
    | fn h => exact .fn h
theorem RpAll.cut {n : Nat} : ∀ {ds : List D} {vs : List V}, RpAll N H α vs ds → closedAll n ds = true → RpAll N H (α.take n) vs ds
  | [], _, h, _ => by cases h; exact .nil
  | d :: ds, _, h, c => by
    have c' : d.closed n = true ∧ closedAll n ds = true := by simpa [closedAll] using c
    cases h with
    | cons h1 h2 => exact .cons (h1.cut c'.1) (h2.cut c'.2)
end
theorem closedAll_all : ∀ {n : Nat} {xs : List D}, closedAll n xs = xs.all (·.closed n)
  | _, [] => rfl
  | n, x :: xs => by simp [closedAll, closedAll_all (xs := xs)]
theorem closed_zip {κ : Type} {n : Nat} : ∀ {ks : List κ} {xs : List D}, ks.length = xs.length → (ks.zip xs).all (fun kv => kv.2.closed n) = closedAll n xs
  | [], [], _ => rfl
  | k :: ks, x :: xs, h => by simp [closedAll, closed_zip (ks := ks) (xs := xs) (by simpa using h)]
  | [], _ :: _, h => by simp at h
  | _ :: _, [], h => by simp at h
theorem CellOk.cut {n : Nat} {a : Addr} {c : Cell} (h : CellOk N H α a c) (hc : c.closed n = true) : CellOk N H (α.take n) a c := by
  cases c with
  | lst xs => obtain ⟨vs, q, r⟩ := h; exact ⟨vs, q, r.cut hc⟩
  | dK kvs =>
    obtain ⟨ks, vs, xs, q, e1, e2, r⟩ := h
    subst e1
    exact ⟨ks, vs, xs, q, rfl, e2, r.cut (by rw [← closed_zip (ks := ks) (by rw [e2, r.length])]; exact hc)⟩
  | lk kvs =>
    obtain ⟨o, ks, vs, xs, q, e1, e2, r⟩ := h
    subst e1
    exact ⟨o, ks, vs, xs, q, rfl, e2, r.cut (by rw [← closed_zip (ks := ks) (by rw [e2, r.length])]; exact hc)⟩
  | ins C fs =>
    obtain ⟨Ca, dx, ks, vs, xs, q0, q, e1, e2, r⟩ := h
    subst e1
    exact ⟨Ca, dx, ks, vs, xs, q0, q, rfl, e2, r.1.cut (by rw [← closed_zip (ks := ks) (by rw [e2, r.1.length])]; exact hc), r.2⟩
  | dead => exact h
end
end Dl

set_option linter.all false
set_option maxHeartbeats 1000000
/-! Dl3: the readings of expressions, arguments, tests, statements by plain values; how they join. -/
namespace Dl
open PySem L2

/-- the slots of a frame -/
structure Rho (N : Nm) (H : Hp) (α : List Addr) (σ : St) (ρ : Slots) : Prop where
  len : σ.length = ρ.length
  at_ : ∀ (i : Nat) (d : D), ρ[i]? = some (some d) → ∃ v, σ[i]? = some (some v) ∧ Rp N H α v d
/-- an exception of the class named c with the value e -/
def XOk (N : Nm) (H : Hp) (α : List Addr) (cls : Value) (dx : Option Addr) (c : Str) (e : D) : Prop :=
  ∃ (Ca d : Addr) (w : V), cls = .ref Ca ∧ dx = some d ∧ N.mg c = some (.ref Ca) ∧ H d = some (.xd [(N.fd c, w)]) ∧ Rp N H α w e

section
variable (N : Nm) (E : XK)
def dRes (α : List Addr) (S : Sto) (H : Hp) (r : Res D) (Q : VK) : Prop := match r with
  | .ok d S' => ∀ v H' α', Stp α S H α' S' H' → StoOk N H' α' S' → Rp N H' α' v d → Q v H'
  | .ex c e S' => ∀ cls dx H' α', Stp α S H α' S' H' → StoOk N H' α' S' → XOk N H' α' cls dx c e → E cls dx H'
  | .st => False
def dResA (α : List Addr) (S : Sto) (H : Hp) (r : Res (List D)) (Q : List V → Hp → Prop) : Prop := match r with
  | .ok d S' => ∀ v H' α', Stp α S H α' S' H' → StoOk N H' α' S' → RpAll N H' α' v d → Q v H'
  | .ex c e S' => ∀ cls dx H' α', Stp α S H α' S' H' → StoOk N H' α' S' → XOk N H' α' cls dx c e → E cls dx H'
  | .st => False
def dResT (α : List Addr) (S : Sto) (H : Hp) (r : Res Bool) (Q : Bool → Hp → Prop) : Prop := match r with
  | .ok d S' => ∀ H' α', Stp α S H α' S' H' → StoOk N H' α' S' → Q d H'
  | .ex c e S' => ∀ cls dx H' α', Stp α S H α' S' H' → StoOk N H' α' S' → XOk N H' α' cls dx c e → E cls dx H'
  | .st => False
def dOut (α : List Addr) (S : Sto) (H : Hp) (r : Out) (Dn : Ends) : Prop := match r with
  | .nx ρ S' => ∀ σ H' α', Stp α S H α' S' H' → StoOk N H' α' S' → Rho N H' α' σ ρ → Dn.nx σ H'
  | .bk ρ S' => ∀ σ H' α', Stp α S H α' S' H' → StoOk N H' α' S' → Rho N H' α' σ ρ → Dn.bk σ H'
  | .ct ρ S' => ∀ σ H' α', Stp α S H α' S' H' → StoOk N H' α' S' → Rho N H' α' σ ρ → Dn.ct σ H'
  | .rt d S' => ∀ v H' α', Stp α S H α' S' H' → StoOk N H' α' S' → Rp N H' α' v d → Dn.rt v H'
  | .ex c e S' => ∀ cls dx H' α', Stp α S H α' S' H' → StoOk N H' α' S' → XOk N H' α' cls dx c e → E cls dx H'
  | .st => False
def dE (F : Slots → Sto → Res D) : TE := fun σ H Q => ∃ ρ S α, Rho N H α σ ρ ∧ StoOk N H α S ∧ dRes N E α S H (F ρ S) Q
def dA (F : Slots → Sto → Res (List D)) : TA := fun σ H Q => ∃ ρ S α, Rho N H α σ ρ ∧ StoOk N H α S ∧ dResA N E α S H (F ρ S) Q
def dT (F : Slots → Sto → Res Bool) : TT := fun σ H Q => ∃ ρ S α, Rho N H α σ ρ ∧ StoOk N H α S ∧ dResT N E α S H (F ρ S) Q
def dS (F : Slots → Sto → Out) : TS := fun Dn σ H => ∃ ρ S α, Rho N H α σ ρ ∧ StoOk N H α S ∧ dOut N E α S H (F ρ S) Dn
end

section
variable {N : Nm} {E : XK} {H H1 : Hp} {α α1 : List Addr} {S S1 : Sto} {σ : St} {ρ : Slots}
theorem Rho.step (ok : StoOk N H α S) (a : Stp α S H α1 S1 H1) (r : Rho N H α σ ρ) : Rho N H1 α1 σ ρ :=
  ⟨r.len, fun i d h => let ⟨v, h1, h2⟩ := r.at_ i d h; ⟨v, h1, a.rp ok h2⟩⟩
theorem Rho.set (r : Rho N H α σ ρ) {v : V} {d : D} (i : Nat) (h : Rp N H α v d) : Rho N H α (σ.set i (some v)) (ρ.set i (some d)) := by
  refine ⟨by simp [r.len], fun j e hj => ?_⟩
  by_cases q : i = j
  · subst q
    by_cases hi : i < ρ.length
    · rw [List.getElem?_set_self hi] at hj
      cases hj
      exact ⟨v, by rw [List.getElem?_set_self (by rw [r.len]; exact hi)], h⟩
    · rw [List.getElem?_eq_none (by simpa using hi)] at hj
      cases hj
  · rw [List.getElem?_set_ne q] at hj ⊢
    exact r.at_ j e hj
theorem dRes.shift (ok : StoOk N H α S) (a : Stp α S H α1 S1 H1) {r : Res D} {Q : VK} (h : dRes N E α S H r Q) : dRes N E α1 S1 H1 r Q := by
  cases r with
  | ok d S' => exact fun v H' α' st o r => h v H' α' (a.trans ok st) o r
  | ex c e S' => exact fun cls dx H' α' st o r => h cls dx H' α' (a.trans ok st) o r
  | st => exact h
theorem dResA.shift (ok : StoOk N H α S) (a : Stp α S H α1 S1 H1) {r : Res (List D)} {Q : List V → Hp → Prop} (h : dResA N E α S H r Q) : dResA N E α1 S1 H1 r Q := by
  cases r with
  | ok d S' => exact fun v H' α' st o r => h v H' α' (a.trans ok st) o r
  | ex c e S' => exact fun cls dx H' α' st o r => h cls dx H' α' (a.trans ok st) o r
  | st => exact h
theorem dResT.shift (ok : StoOk N H α S) (a : Stp α S H α1 S1 H1) {r : Res Bool} {Q : Bool → Hp → Prop} (h : dResT N E α S H r Q) : dResT N E α1 S1 H1 r Q := by
  cases r with
  | ok d S' => exact fun H' α' st o => h H' α' (a.trans ok st) o
  | ex c e S' => exact fun cls dx H' α' st o r => h cls dx H' α' (a.trans ok st) o r
  | st => exact h
theorem dOut.shift (ok : StoOk N H α S) (a : Stp α S H α1 S1 H1) {r : Out} {Q : Ends} (h : dOut N E α S H r Q) : dOut N E α1 S1 H1 r Q := by
  cases r with
  | nx d S' => exact fun v H' α' st o r => h v H' α' (a.trans ok st) o r
  | rt d S' => exact fun v H' α' st o r => h v H' α' (a.trans ok st) o r
  | bk d S' => exact fun v H' α' st o r => h v H' α' (a.trans ok st) o r
  | ct d S' => exact fun v H' α' st o r => h v H' α' (a.trans ok st) o r
  | ex c e S' => exact fun cls dx H' α' st o r => h cls dx H' α' (a.trans ok st) o r
  | st => exact h

/-! ### two values by an operator -/
def dOp (N : Nm) (E : XK) (g : D → D → Sto → Res D) : R2 := fun x y H Q => ∃ S α a b, StoOk N H α S ∧ Rp N H α x a ∧ Rp N H α y b ∧ dRes N E α S H (g a b S) Q
def dU (N : Nm) (E : XK) (g : D → Sto → Res D) : V → Hp → VK → Prop := fun x H Q => ∃ S α a, StoOk N H α S ∧ Rp N H α x a ∧ dRes N E α S H (g a S) Q
def dN (N : Nm) (E : XK) (g : List D → Sto → Res D) : List V → Hp → VK → Prop := fun xs H Q => ∃ S α ds, StoOk N H α S ∧ RpAll N H α xs ds ∧ dRes N E α S H (g ds S) Q
theorem dE_op {Fa Fb : Slots → Sto → Res D} {g : D → D → Sto → Res D} {Q : VK} (h : dE N E (fun ρ S => (Fa ρ S).bind fun a S1 => (Fb ρ S1).bind fun b S2 => g a b S2) σ H Q) :
    tOp (dOp N E g) (dE N E Fa) (dE N E Fb) σ H Q := by
  show dE N E Fa σ H fun x H1 => dE N E Fb σ H1 fun y H2 => dOp N E g x y H2 Q
  obtain ⟨ρ, S, α, r, ok, h⟩ := h
  try dsimp only at h
  refine ⟨ρ, S, α, r, ok, ?_⟩
  cases e : Fa ρ S with
  | ok a S1 =>
    rw [e] at h
    intro x H1 α1 st ok1 rx
    refine ⟨ρ, S1, α1, r.step ok st, ok1, ?_⟩
    have h := dRes.shift ok st h
    simp only [bind_ok] at h
    cases e2 : Fb ρ S1 with
    | ok b S2 =>
      rw [e2] at h
      intro y H2 α2 st2 ok2 ry
      exact ⟨S2, α2, a, b, ok2, st2.rp ok1 rx, ry, dRes.shift ok1 st2 h⟩
    | ex c e' S' => rw [e2] at h; exact h
    | st => rw [e2] at h; exact h
  | ex c e' S' => rw [e] at h; exact h
  | st => rw [e] at h; exact h
theorem dE_un {Fa : Slots → Sto → Res D} {g : D → Sto → Res D} {Q : VK} (h : dE N E (fun ρ S => (Fa ρ S).bind g) σ H Q) : tUn (dU N E g) (dE N E Fa) σ H Q := by
  show dE N E Fa σ H fun x H1 => dU N E g x H1 Q
  obtain ⟨ρ, S, α, r, ok, h⟩ := h
  try dsimp only at h
  refine ⟨ρ, S, α, r, ok, ?_⟩
  cases e : Fa ρ S with
  | ok a S1 =>
    rw [e] at h
    intro x H1 α1 st ok1 rx
    exact ⟨S1, α1, a, ok1, rx, dRes.shift ok st h⟩
  | ex c e' S' => rw [e] at h; exact h
  | st => rw [e] at h; exact h
theorem dE_args {Fs : Slots → Sto → Res (List D)} {g : List D → Sto → Res D} {Q : VK} (h : dE N E (fun ρ S => (Fs ρ S).bind g) σ H Q) : dA N E Fs σ H fun xs H1 => dN N E g xs H1 Q := by
  obtain ⟨ρ, S, α, r, ok, h⟩ := h
  try dsimp only at h
  refine ⟨ρ, S, α, r, ok, ?_⟩
  cases e : Fs ρ S with
  | ok a S1 =>
    rw [e] at h
    intro x H1 α1 st ok1 rx
    exact ⟨S1, α1, a, ok1, rx, dRes.shift ok st h⟩
  | ex c e' S' => rw [e] at h; exact h
  | st => rw [e] at h; exact h
theorem dA_nil {Q : List V → Hp → Prop} (h : dA N E (fun _ S => .ok [] S) σ H Q) : tNil σ H Q := by
  obtain ⟨ρ, S, α, r, ok, h⟩ := h
  try dsimp only at h
  exact h [] H α .refl ok .nil
theorem dA_cons {Fa : Slots → Sto → Res D} {Fs : Slots → Sto → Res (List D)} {Q : List V → Hp → Prop} (h : dA N E (fun ρ S => (Fa ρ S).bind fun a S1 => (Fs ρ S1).bind fun as S2 => .ok (a :: as) S2) σ H Q) :
    tCons (dE N E Fa) (dA N E Fs) σ H Q := by
  show dE N E Fa σ H fun x H1 => dA N E Fs σ H1 fun xs H2 => Q (x :: xs) H2
  obtain ⟨ρ, S, α, r, ok, h⟩ := h
  try dsimp only at h
  refine ⟨ρ, S, α, r, ok, ?_⟩
  cases e : Fa ρ S with
  | ok a S1 =>
    rw [e] at h
    intro x H1 α1 st ok1 rx
    refine ⟨ρ, S1, α1, r.step ok st, ok1, ?_⟩
    have h := dResA.shift ok st h
    simp only [bind_ok] at h
    cases e2 : Fs ρ S1 with
    | ok b S2 =>
      rw [e2] at h
      intro y H2 α2 st2 ok2 ry
      exact h (x :: y) H2 α2 st2 ok2 (.cons (st2.rp ok1 rx) ry)
    | ex c e' S' => rw [e2] at h; exact h
    | st => rw [e2] at h; exact h
  | ex c e' S' => rw [e] at h; exact h
  | st => rw [e] at h; exact h

/-! ### weaker readings -/
theorem PE.imp {X : Cx} {e : Expr} {t t' : TE} (h : PE X e t) (i : ∀ σ H Q, t' σ H Q → t σ H Q) : PE X e t' := ⟨fun pins s σ H Q I q => h.run pins s σ H Q I (i σ H Q q)⟩
theorem PT.imp {X : Cx} {e : Expr} {t t' : TT} (h : PT X e t) (i : ∀ σ H Q, t' σ H Q → t σ H Q) : PT X e t' := ⟨fun pins s σ H Q I q => h.run pins s σ H Q I (i σ H Q q)⟩
theorem PW.imp {X : Cx} {e : Expr} {t t' : TT} (h : PW X e t) (i : ∀ σ H Q, t' σ H Q → t σ H Q) : PW X e t' := ⟨fun wh pins s σ H Q I q => h.run wh pins s σ H Q I (i σ H Q q)⟩
theorem PA.imp {X : Cx} {e : List Expr} {t t' : TA} (h : PA X e t) (i : ∀ σ H Q, t' σ H Q → t σ H Q) : PA X e t' := ⟨fun pos pins s σ H Q I q => h.run pos pins s σ H Q I (i σ H Q q)⟩
theorem PS.imp {X : Cx} {e : Stmt} {t t' : TS} (h : PS X e t) (i : ∀ D σ H, t' D σ H → t D σ H) : PS X e t' := ⟨fun pins s σ H D I q => h.run pins s σ H D I (i D σ H q)⟩
theorem PSs.imp {X : Cx} {e : List Stmt} {t t' : TS} (h : PSs X e t) (i : ∀ D σ H, t' D σ H → t D σ H) : PSs X e t' := ⟨fun pins s σ H D I q => h.run pins s σ H D I (i D σ H q)⟩
end
end Dl

set_option linter.all false
set_option maxHeartbeats 1000000
/-! Dl4: a new list may be frozen. -/
namespace Dl
open PySem L2

section
variable {X : Cx} {pins : List (Addr × Obj)} {σ : St} {H : Hp} {s : Shared} {a : Addr} {u u' : HO}
/-- an object that nothing leans on is told otherwise -/
theorem hok_relab (ok : HOk X.prog X.w H s.heap) (e : H a = some u) (h1 : ∀ x, u ≠ .own x) (h2 : ∀ xs, u ≠ .tup xs) (new : ObjOk X.prog X.w (upd H a u') s.heap a u') : HOk X.prog X.w (upd H a u') s.heap := fun b w q => by
  by_cases hb : b = a
  · subst hb
    rw [upd_same] at q
    cases q
    exact new
  · rw [upd_ne hb] at q
    refine (ok b w q).stay (fun c v _ z => z) (fun c z => ?_) fun c xs z => ?_
    · rw [upd_ne]
      · exact z
      · rintro rfl
        rw [e] at z
        exact h1 _ (Option.some.inj z)
    · rw [upd_ne]
      · exact z
      · rintro rfl
        rw [e] at z
        exact h2 _ (Option.some.inj z)
theorem inv_relab (I : Inv X pins σ H s) (e : H a = some u) (h1 : ∀ x, u ≠ .own x) (h2 : ∀ xs, u ≠ .tup xs) (h3 : ∀ o w, u ≠ .frz o w) (h4 : ∀ ps, u ≠ .tbl ps) (new : ObjOk X.prog X.w (upd H a u') s.heap a u') : Inv X pins σ (upd H a u') s := by
  have ne : ∀ b, H b = none → b ≠ a := fun b z q => by
    subst q
    rw [e] at z
    cases z
  refine ⟨I.ok, I.os, I.bare, ⟨I.base.keep, I.base.slot, fun b o q n hx => ?_, I.base.there, fun b xs q => ?_, fun b o w q => ?_, fun b ps q => ?_⟩, I.loc, I.cell, ?_, fun x c q => ?_, fun p hp => ?_, hok_relab I.hok e h1 h2 new, I.len⟩
  · have z := I.base.free b o q n hx
    rw [upd_ne (ne b z)]
    exact z
  · have z := I.base.tups b xs q
    rw [upd_ne (by rintro rfl; rw [e] at z; exact h2 _ (Option.some.inj z))]
    exact z
  · have z := I.base.frzs b o w q
    rw [upd_ne (by rintro rfl; rw [e] at z; exact h3 _ _ (Option.some.inj z))]
    exact z
  · obtain ⟨m, z⟩ := I.base.tbls b ps q
    refine ⟨m, ?_⟩
    rw [upd_ne (by rintro rfl; rw [e] at z; exact h4 _ (Option.some.inj z))]
    exact z
  · rw [upd_ne (ne _ I.free)]
    exact I.free
  · have z := I.freeC x c q
    rw [upd_ne (ne c z)]
    exact z
  · obtain ⟨z1, z2, z3⟩ := I.pin p hp
    refine ⟨z1, ?_, z3⟩
    rw [upd_ne (ne _ z2)]
    exact z2
/-- the module's dict of modules stands in the base -/
def SysIn (X : Cx) : Prop := ∃ o, X.base.get? sysModules = some o
theorem not_sys (hs : SysIn X) (I : Inv X pins σ H s) (e : H a = some u) : a ≠ sysModules := by
  rintro rfl
  obtain ⟨o, q⟩ := hs
  rw [(I.bs _ o q).2] at e
  cases e
/-- a tracked list is frozen -/
theorem inv_freeze {vs : List V} (I : Inv X pins σ H s) (e : H a = some (.lst vs)) : ∃ o, Inv X pins σ (upd H a (.frz o (.lst vs))) s := by
  have hx := I.hok a _ e
  obtain ⟨z, its, n, r, q⟩ := id hx
  exact ⟨_, inv_relab I e (fun _ z => nomatch z) (fun _ z => nomatch z) (fun _ _ z => nomatch z) (fun _ z => nomatch z) ⟨q, z, its, n, r, q⟩⟩
end

/-- as it is, or frozen -/
def FzOr (Q : VK) : VK := fun v H => Q v H ∨ ∃ a vs, v = .ref a ∧ H a = some (.lst vs) ∧ ∀ o, a ≠ sysModules → Q v (upd H a (.frz o (.lst vs)))
theorem ep_fz {X : Cx} {pins : List (Addr × Obj)} {σ : St} {Q : VK} {u : Value} {s' : Shared} (hs : SysIn X) (h : EP X pins σ (FzOr Q) u s') : EP X pins σ Q u s' := by
  obtain ⟨v, H', I, r, q | ⟨a, vs, e, ha, q⟩⟩ := h
  · exact ⟨v, H', I, r, q⟩
  · obtain ⟨o, J⟩ := inv_freeze I ha
    exact ⟨v, _, J, r, q o (not_sys hs I ha)⟩
section
variable {X : Cx}
theorem pe_fz (hs : SysIn X) {e : Expr} {t : TE} (h : PE X e t) : PE X e fun σ H Q => t σ H (FzOr Q) :=
  ⟨fun pins s σ H Q I q => thn (h.run pins s σ H _ I q) fun u s' z => ep_fz hs z⟩
end

section
variable {N : Nm} {E : XK} {H : Hp} {α : List Addr} {S : Sto}
/-- a new list at p -/
theorem newL {m : Bool} {xs : List D} {vs : List V} {Q : VK} (ok : StoOk N H α S) (r : RpAll N H α vs xs) (h : dRes N E α S H (mkL m xs S) Q) : ∀ p, H p = none → FzOr Q (.ref p) (upd H p (.lst vs)) := fun p hp => by
  have cell : dRes N E α S H (.ok (.loc S.length) (S ++ [.lst xs])) Q → Q (.ref p) (upd H p (.lst vs)) := fun h => by
    have st := step_alloc (c := .lst xs) (o := .lst vs) ok hp
    refine h _ _ (α ++ [p]) st (sto_alloc ok hp ⟨vs, upd_same, st.rpAll ok r⟩) (.loc ?_)
    rw [← ok.len]
    simp
  cases m with
  | true =>
    rw [mkL_true] at h
    exact .inl (cell h)
  | false =>
    unfold mkL at h
    cases e : allP xs with
    | none =>
      rw [e] at h
      exact .inl (cell h)
    | some ds =>
      rw [e] at h
      refine .inr ⟨p, vs, rfl, upd_same, fun o ho => ?_⟩
      rw [upd_upd]
      have st : Stp α S H α S (upd H p (.frz o (.lst vs))) := step_new ok hp
      have := allP_eq e
      subst this
      exact h _ _ α st (sto_new ok hp) (.p (.lst (.inl ⟨_, upd_same⟩) ho (st.rpAll ok r).toP))
/-- a new tuple at p -/
theorem newT {xs : List D} {vs : List V} {Q : VK} (ok : StoOk N H α S) (r : RpAll N H α vs xs) (h : dRes N E α S H (.ok (mkT xs) S) Q) : ∀ p, H p = none → Q (.ref p) (upd H p (.tup vs)) := fun p hp => by
  have st : Stp α S H α S (upd H p (.tup vs)) := step_new ok hp
  exact h _ _ α st (sto_new ok hp) (rp_mkT (.inl (.inl upd_same)) (st.rpAll ok r))
end
end Dl

set_option linter.all false
set_option maxRecDepth 100000
set_option maxHeartbeats 4000000
/-! Dl5: operators by plain values. -/
namespace Dl
open PySem PySem.Spec PyProof.Rows L2

abbrev nm (X : Cx) (fd : Str → Str) : Nm := ⟨X.K, X.mg, fd⟩

/-! ### what the operators give -/
def opAdd (m : Bool) (x y : D) (S : Sto) : Res D := match x, y with
  | .p (.int i), .p (.int j) => .ok (.i (i + j)) S
  | .p (.str a), .p (.str b) => if a.length + b.length ≤ sizeLine then .ok (.s (a ++ b)) S else .st
  | x, y => match tupOf x, tupOf y, lstOf x S, lstOf y S with
    | some xs, some ys, _, _ => if xs.length + ys.length ≤ sizeLine then .ok (mkT (xs ++ ys)) S else .st
    | _, _, some xs, some ys => if xs.length + ys.length ≤ sizeLine then mkL m (xs ++ ys) S else .st
    | _, _, _, _ => .st
def opSub (x y : D) (S : Sto) : Res D := match x, y with
  | .p (.int i), .p (.int j) => .ok (.i (i - j)) S
  | _, _ => .st
def opMul (m : Bool) (x y : D) (S : Sto) : Res D := match x, y with
  | .p (.int i), .p (.int j) => if i.natAbs.log2 + j.natAbs.log2 < 1000000 then .ok (.i (i * j)) S else .st
  | x, .p (.int k) => match tupOf x, lstOf x S with
    | some xs, _ => if xs.length ≤ 1000 ∧ k ≤ 1000 ∧ -1000 ≤ k then .ok (mkT (List.replicate k.toNat xs).flatten) S else .st
    | _, some xs => if xs.length ≤ 1000 ∧ k ≤ 1000 ∧ -1000 ≤ k then mkL m (List.replicate k.toNat xs).flatten S else .st
    | _, _ => .st
  | _, _ => .st
def opDiv (x y : D) (S : Sto) : Res D := match x, y with
  | .p (.int i), .p (.int j) => if 0 < j ∧ j.natAbs.log2 < 9000 then .ok (.i (i / j)) S else .st
  | _, _ => .st
def opMod (x y : D) (S : Sto) : Res D := match x, y with
  | .p (.int i), .p (.int j) => if 0 < j then .ok (.i (i % j)) S else .st
  | _, _ => .st
def opPow (x y : D) (S : Sto) : Res D := match x, y with
  | .p (.int i), .p (.int j) => if 0 ≤ j ∧ j ≤ 1000000 ∧ i.natAbs < 2 ^ 64 then .ok (.i (i ^ j.toNat)) S else .st
  | _, _ => .st
def opAnd (x y : D) (S : Sto) : Res D := match x, y with
  | .p (.int i), .p (.int j) => .ok (.i (Builtin.bitAnd i j)) S
  | _, _ => .st
def opShr (x y : D) (S : Sto) : Res D := match x, y with
  | .p (.int i), .p (.int j) => if 0 ≤ j then .ok (.i (i / 2 ^ j.toNat)) S else .st
  | _, _ => .st
def opBin (op : Operator) (m : Bool) (x y : D) (S : Sto) : Res D := match op with
  | .Add => opAdd m x y S
  | .Sub => opSub x y S
  | .Mult => opMul m x y S
  | .FloorDiv => opDiv x y S
  | .Mod => opMod x y S
  | .Pow => opPow x y S
  | .BitAnd => opAnd x y S
  | .RShift => opShr x y S
  | _ => .st

section
variable {X : Cx} {fd : Str → Str} {E : XK}
/-! ### lists that are read: tracked or frozen -/
def RdL (K : PySem.W.Frag) (H : Hp) (l : Addr) (xs : List V) : Prop := Rd H l (.lst xs) ∨ KL K l xs
theorem rd_list {pins : List (Addr × Obj)} {σ : L2.St} {H : Hp} {s : Shared} {l : Addr} {xs : List V} (I : Inv X pins σ H s) (r : RdL X.K H l xs) :
    xs.length ≤ sizeLine ∧ ∃ (its : List Value) (n : Nat), Vals xs its ∧ s.heap.get? l = some { cls := .type "list", data := .seq its.toArray n } := by
  rcases r with r | ⟨its, n, hk, hz, r⟩
  · exact r.ok I.hok
  · exact ⟨hz, its, n, r, I.kIn _ _ hk⟩
theorem Rp.lst_rd {N : Nm} {H : Hp} {α : List Addr} {S : Sto} (ok : StoOk N H α S) {v : V} {d : D} {xs : List D} (h : Rp N H α v d) (e : lstOf d S = some xs) : ∃ a vs, v = .ref a ∧ RdL N.K H a vs ∧ RpAll N H α vs xs := by
  cases h with
  | @p v d h =>
    cases d <;> simp [lstOf] at e
    subst e
    cases h with
    | lst h1 h2 h3 =>
      refine ⟨_, _, rfl, ?_, RpAll.ofP h3⟩
      rcases h1 with h1 | h1
      · exact .inl (.inr h1)
      · exact .inr h1
  | @loc a l h =>
    unfold lstOf at e
    cases q : S[l]? with
    | none => simp [q] at e
    | some c =>
      cases c <;> simp [q] at e
      subst e
      obtain ⟨vs, h1, h2⟩ := ok.cell l a _ h q
      exact ⟨_, _, rfl, .inl (.inl h1), h2⟩
  | tup h1 h2 => simp [lstOf] at e
  | fn h => simp [lstOf] at e
def rCatR (K : PySem.W.Frag) : R2 := fun x y H Q => ∃ (l b : Addr) (xs ys : List V), x = .ref l ∧ y = .ref b ∧ RdL K H l xs ∧ RdL K H b ys ∧ xs.length + ys.length ≤ sizeLine ∧ ∀ p, H p = none → Q (.ref p) (upd H p (.lst (xs ++ ys)))
theorem op_catR : OpR X (binaryOp .Add) (rCatR X.K) := by
  intro pins s σ H x y v u Q I rx ry ⟨l, b, xs, ys, ex, ey, hl, hb, hsz, q⟩
  subst ex ey
  cases rx
  cases ry
  obtain ⟨z1, i1, n1, r1, g1⟩ := rd_list I hl
  obtain ⟨z2, i2, n2, r2, g2⟩ := rd_list I hb
  have a1 := r1.length
  have a2 := r2.length
  refine PySem.P.add_list g1 g2 ?_ (by simp; omega)
  have e : i1.toArray ++ i2.toArray = (i1 ++ i2).toArray := by simp
  rw [e]
  have new := I.lnew (t' := s.toks) (r1.append r2) (by simp; omega)
  exact ⟨.ref _, _, new, rfl, q _ I.fresh⟩
def rRepR (K : PySem.W.Frag) : R2 := fun x y H Q => ∃ (l : Addr) (k : Int) (xs : List V), x = .ref l ∧ y = .int k ∧ RdL K H l xs ∧ xs.length ≤ 1000 ∧ k ≤ 1000 ∧ -1000 ≤ k ∧ ∀ p, H p = none → Q (.ref p) (upd H p (.lst (List.replicate k.toNat xs).flatten))
theorem op_repR : OpR X (binaryOp .Mult) (rRepR X.K) := by
  intro pins s σ H x y v u Q I rx ry ⟨l, k, xs, ex, ey, hl, h1, h2, h3, q⟩
  subst ex ey
  cases rx
  obtain ⟨t, rfl⟩ := ry
  obtain ⟨z, its, n, r, g⟩ := rd_list I hl
  have el := r.length
  have prod : its.length * k.toNat ≤ 1000 * 1000 := Nat.mul_le_mul (by omega) (by omega)
  have big : 1000 * 1000 ≤ sizeLine := by decide
  have cap : ¬ its.toArray.size * k.toNat > (2 ^ 63 - 1) / 8 := by simp only [List.size_toArray]; omega
  have fit : ¬ (!Builtin.List.listFitsIndex k) = true := by rw [fitsIndex_both (by omega) (by omega)]; decide
  have long : ¬ Builtin.List.listTooLong (its.toArray.size * k.toNat) = true := by
    rw [notLongL (by simp only [List.size_toArray]; omega)]
    decide
  have new : List.foldl (fun x1 x2 => x1 ++ x2) #[] (List.replicate (if its.toArray.isEmpty = true then 0 else k.toNat) its.toArray) = (List.replicate k.toNat its).flatten.toArray := by
    rw [size_rep]
    cases its with
    | nil => simp
    | cons a b => simp
  refine wpAny_binaryOp_repeat_ref (T := "list") (U := "int") (by decide) ⟨_, g, rfl⟩ (fun z => typeIs_int z k t) noFill_list_mul F.fills_int_mul F.slot_int_rmul repeat_list F.slot_int_index.lookup ?_
  refine call_meets F.slot_int_rmul (typeIs_int s k t) F.entry_int_rmul (F.args_int_rmul_2 _ _) (int___rmul___int_list k t l its.toArray n) ⟨g, rfl, ⟨_, g, rfl⟩, ?_⟩
  refine call_meets F.slot_list_mul ⟨_, g, rfl⟩ F.entry_list_mul (F.args_list_mul_2 _ _) (AutoListH.list___mul___list_int_3 l its.toArray n k t fit cap long) ⟨g, ?_⟩
  rw [new]
  exact ⟨.ref _, _, I.lnew (t' := s.toks) (r.rep k.toNat) (by rw [PyProof.Rows.lm_len_rep_flat, Nat.mul_comm, el]; omega), rfl, q _ I.fresh⟩
end
/-! ### a tuple so many times -/
theorem tup_mul_same (l : Addr) (its : Array Value) (n : Nat) (dd : Option Addr) (sl : Array (Option Value)) (x : Int) (u : Tok) (h0 : (decide (x < -(2 ^ 63)) || decide (x ≥ 2 ^ 63)) = false) (h1 : (its.isEmpty || x == 1) = true) :
    Meets (Builtin.«tuple.__mul__» ⟨[.ref l, .int x u], []⟩) (fun _ R s => s.heap.get? l = some { cls := .type "tuple", dict := dd, data := .seq its n, slots := sl } ∧ R (.ok (.ret (Value.ref l))) s) :=
  .of_wp fun prog w A R s h => by
    obtain ⟨hp, g, d, tk, os⟩ := s
    obtain ⟨hl, h⟩ := h
    have f1 := AutoSeq1.idx_int
    wp_walk using wpAny_loadPart' hl
    refine wpAny_ite_false (decide_eq_false (by rw [h0]; decide)) ?_
    wp_walk using wpAny_loadPart' hl
    exact ⟨_, rfl, h⟩
theorem tup_mul_none (l : Addr) (its : Array Value) (n : Nat) (dd : Option Addr) (sl : Array (Option Value)) (x : Int) (u : Tok) (h0 : (decide (x < -(2 ^ 63)) || decide (x ≥ 2 ^ 63)) = false) (h1 : (its.isEmpty || x == 1) = false) (h2 : x ≤ 0) :
    Meets (Builtin.«tuple.__mul__» ⟨[.ref l, .int x u], []⟩) (fun _ R s => s.heap.get? l = some { cls := .type "tuple", dict := dd, data := .seq its n, slots := sl } ∧
      R (.ok (.ret (Value.ref s.heap.objs.size))) { s with heap := s.heap.push { cls := .type "tuple", data := .seq #[] } }) :=
  .of_wp fun prog w A R s h => by
    obtain ⟨hp, g, d, tk, os⟩ := s
    obtain ⟨hl, h⟩ := h
    have f1 := AutoSeq1.idx_int
    have c2 : (decide (x ≤ 0) || its.isEmpty) = true := by rw [decide_eq_true h2]; rfl
    wp_walk using wpAny_loadPart' hl
    refine wpAny_ite_false (decide_eq_false (by rw [h0]; decide)) ?_
    wp_walk using wpAny_loadPart' hl
    first
      | exact ⟨_, rfl, h⟩
      | (refine wpAny_ite_false (decide_eq_false (by rw [h1]; decide)) ?_
         wp_walk using wpAny_loadPart' hl
         first
           | exact ⟨_, rfl, h⟩
           | (refine wpAny_ite_true (decide_eq_true (by rw [c2])) ?_
              wp_walk using wpAny_loadPart' hl
              exact ⟨_, rfl, h⟩))
/-- t * k -/
def rRepA (K : PySem.W.Frag) : R2 := fun x y H Q => ∃ (l : Addr) (k : Int) (xs : List V), x = .ref l ∧ y = .int k ∧ SqT K H l xs ∧ xs.length ≤ 1000 ∧ k ≤ 1000 ∧ -1000 ≤ k ∧
  ((List.replicate k.toNat xs).flatten = xs → Q (.ref l) H) ∧ ∀ p, H p = none → Q (.ref p) (upd H p (.tup (List.replicate k.toNat xs).flatten))
section
variable {X : Cx} {fd : Str → Str} {E : XK}
theorem op_repA : OpR X (binaryOp .Mult) (rRepA X.K) := by
  intro pins s σ H x y v u Q I rx ry ⟨l, k, xs, ex, ey, hl, h1, h2, h3, q1, q2⟩
  by_cases big : xs ≠ [] ∧ 2 ≤ k
  · exact op_repT pins s σ H x y v u Q I rx ry ⟨l, k, xs, ex, ey, hl, big.1, big.2, h2, h1, q2⟩
  · subst ex ey
    cases rx
    obtain ⟨t, rfl⟩ := ry
    obtain ⟨its, r, ⟨⟨cls, dd, data, sl⟩, ho, hc, n, hd⟩, _⟩ := I.tuple hl
    simp only at hc hd
    subst hc hd
    have el := r.length
    have fit : (decide (k < -(2 ^ 63)) || decide (k ≥ 2 ^ 63)) = false := by
      rw [decide_eq_false (by omega), decide_eq_false (by omega)]
      rfl
    refine wpAny_binaryOp_repeat_ref (T := "tuple") (U := "int") (by decide) ⟨_, ho, rfl⟩ (fun z => typeIs_int z k t) noFill_tuple_mul F.fills_int_mul F.slot_int_rmul repeat_tuple F.slot_int_index.lookup ?_
    refine call_meets F.slot_int_rmul (typeIs_int s k t) F.entry_int_rmul (F.args_int_rmul_2 _ _) (int_rmul_tuple k t l its.toArray n dd sl) ⟨ho, rfl, ⟨_, ho, rfl⟩, ?_⟩
    by_cases same : (its.toArray.isEmpty || k == 1) = true
    · refine call_meets F.slot_tuple_mul ⟨_, ho, rfl⟩ F.entry_tuple_mul (F.args_tuple_mul_2 _ _) (tup_mul_same l its.toArray n dd sl k t fit same) ⟨ho, ?_⟩
      refine ⟨.ref l, H, I, rfl, q1 ?_⟩
      simp only [Bool.or_eq_true, beq_iff_eq] at same
      rcases same with e | e
      · have : xs = [] := by
          cases its with
          | nil => cases r; rfl
          | cons a b => simp at e
        subst this
        simp
      · subst e
        show (List.replicate 1 xs).flatten = xs
        simp
    · have same' : (its.toArray.isEmpty || k == 1) = false := by simpa using same
      have ne : xs ≠ [] := by
        rintro rfl
        cases r
        simp at same'
      have k0 : k ≤ 0 := by
        have k1 : k ≠ 1 := by
          rintro rfl
          simp at same'
        have k2 : ¬ 2 ≤ k := fun z => big ⟨ne, z⟩
        omega
      refine call_meets F.slot_tuple_mul ⟨_, ho, rfl⟩ F.entry_tuple_mul (F.args_tuple_mul_2 _ _) (tup_mul_none l its.toArray n dd sl k t fit same' k0) ⟨ho, ?_⟩
      have e0 : (List.replicate k.toNat xs).flatten = [] := by
        rw [show k.toNat = 0 by omega]
        rfl
      have q := q2 s.heap.objs.size I.fresh
      rw [e0] at q
      exact ⟨.ref _, _, I.laid (t' := s.toks) (o := .tup []) (fun _ _ z => Heap.get?_push_of_some _ z) (Nat.le_refl _) ⟨Nat.zero_le _, [], .nil, IsTup.new _ _⟩, rfl, q⟩

/-! ### the operators -/
theorem RpAll.rep {N : Nm} {H : Hp} {α : List Addr} {vs : List V} {ds : List D} (r : RpAll N H α vs ds) : ∀ n : Nat, RpAll N H α (List.replicate n vs).flatten (List.replicate n ds).flatten
  | 0 => .nil
  | n + 1 => by
    rw [List.replicate_succ, List.replicate_succ, List.flatten_cons, List.flatten_cons]
    exact r.append (r.rep n)
/-- the same value again -/
theorem again {N : Nm} {α : List Addr} {S : Sto} {H : Hp} {Q : VK} {v : V} {d : D} (ok : StoOk N H α S) (r : Rp N H α v d) (h : dRes N E α S H (.ok d S) Q) : Q v H := h v H α .refl ok r

theorem opr_add (hs : SysIn X) (m : Bool) : OpR X (binaryOp .Add) (dOp (nm X fd) E (opAdd m)) := by
  intro pins s σ H x y v u Q I rx ry ⟨S, α, a, b, ok, ra, rb, h⟩
  have seqs : dRes (nm X fd) E α S H (match tupOf a, tupOf b, lstOf a S, lstOf b S with
      | some xs, some ys, _, _ => if xs.length + ys.length ≤ sizeLine then .ok (mkT (xs ++ ys)) S else .st
      | _, _, some xs, some ys => if xs.length + ys.length ≤ sizeLine then mkL m (xs ++ ys) S else .st
      | _, _, _, _ => .st) Q → wpAny (model X.prog X.w) X.A (binaryOp .Add v u) (EP X pins σ Q) X.xe s := fun h => by
    split at h
    · rename_i xs ys e1 e2
      split at h
      · rename_i hz
        obtain ⟨p, vs, e3, t1, r1⟩ := ra.tup_inv e1
        obtain ⟨q, ws, e4, t2, r2⟩ := rb.tup_inv e2
        have l1 := r1.length
        have l2 := r2.length
        refine op_catA pins s σ H x y v u Q I rx ry ⟨p, q, vs, ws, e3, e4, t1, t2, by omega, fun z => ?_, fun _ z => ?_, fun _ _ => newT ok (r1.append r2) h⟩
        · subst z
          cases r1
          exact again (v := .ref q) ok (rp_mkT t2 r2) h
        · subst z
          cases r2
          rw [List.append_nil] at h
          exact again ok (v := .ref p) (rp_mkT t1 r1) h
      · exact h.elim
    · rename_i xs ys e1 e2 _
      split at h
      · rename_i hz
        obtain ⟨p, vs, e3, t1, r1⟩ := ra.lst_rd ok e1
        obtain ⟨q, ws, e4, t2, r2⟩ := rb.lst_rd ok e2
        have l1 := r1.length
        have l2 := r2.length
        exact thn (op_catR pins s σ H x y v u (FzOr Q) I rx ry ⟨p, q, vs, ws, e3, e4, t1, t2, by omega, newL ok (r1.append r2) h⟩) fun _ _ z => ep_fz hs z
      · exact h.elim
    · exact h.elim
  unfold opAdd at h
  split at h
  · exact op_add pins s σ H x y v u Q I rx ry ⟨_, _, ra.int_inv, rb.int_inv, again ok (.p (.int _)) h⟩
  · split at h
    · rename_i hz
      exact op_add_str pins s σ H x y v u Q I rx ry ⟨_, _, ra.str_inv, rb.str_inv, hz, again ok (.p (.str _)) h⟩
    · exact h.elim
  · exact seqs h
theorem opr_sub : OpR X (binaryOp .Sub) (dOp (nm X fd) E opSub) := by
  intro pins s σ H x y v u Q I rx ry ⟨S, α, a, b, ok, ra, rb, h⟩
  unfold opSub at h
  split at h
  · exact op_sub pins s σ H x y v u Q I rx ry ⟨_, _, ra.int_inv, rb.int_inv, again ok (.p (.int _)) h⟩
  · exact h.elim
theorem opr_mul (hs : SysIn X) (m : Bool) : OpR X (binaryOp .Mult) (dOp (nm X fd) E (opMul m)) := by
  intro pins s σ H x y v u Q I rx ry ⟨S, α, a, b, ok, ra, rb, h⟩
  unfold opMul at h
  split at h
  · split at h
    · rename_i hz
      exact op_mulW pins s σ H x y v u Q I rx ry ⟨_, _, ra.int_inv, rb.int_inv, hz, again ok (.p (.int _)) h⟩
    · exact h.elim
  · rename_i a k _
    split at h
    · rename_i xs e1
      split at h
      · rename_i hz
        obtain ⟨p, vs, e3, t1, r1⟩ := ra.tup_inv e1
        have l1 := r1.length
        refine op_repA pins s σ H x y v u Q I rx ry ⟨p, k, vs, e3, rb.int_inv, t1, by omega, hz.2.1, hz.2.2, fun z => ?_, newT ok (r1.rep _) h⟩
        exact again ok (v := .ref p) (rp_mkT (by rw [z]; exact t1) (r1.rep k.toNat)) h
      · exact h.elim
    · rename_i xs e1 _
      split at h
      · rename_i hz
        obtain ⟨p, vs, e3, t1, r1⟩ := ra.lst_rd ok e1
        have l1 := r1.length
        exact thn (op_repR pins s σ H x y v u (FzOr Q) I rx ry ⟨p, k, vs, e3, rb.int_inv, t1, by omega, hz.2.1, hz.2.2, newL ok (r1.rep _) h⟩) fun _ _ z => ep_fz hs z
      · exact h.elim
    · exact h.elim
  · exact h.elim
theorem opr_div : OpR X (binaryOp .FloorDiv) (dOp (nm X fd) E opDiv) := by
  intro pins s σ H x y v u Q I rx ry ⟨S, α, a, b, ok, ra, rb, h⟩
  unfold opDiv at h
  split at h
  · split at h
    · rename_i hz
      exact op_fdivW pins s σ H x y v u Q I rx ry ⟨_, _, ra.int_inv, rb.int_inv, hz, again ok (.p (.int _)) h⟩
    · exact h.elim
  · exact h.elim
theorem opr_mod : OpR X (binaryOp .Mod) (dOp (nm X fd) E opMod) := by
  intro pins s σ H x y v u Q I rx ry ⟨S, α, a, b, ok, ra, rb, h⟩
  unfold opMod at h
  split at h
  · split at h
    · rename_i hz
      exact op_mod pins s σ H x y v u Q I rx ry ⟨_, _, ra.int_inv, rb.int_inv, hz, again ok (.p (.int _)) h⟩
    · exact h.elim
  · exact h.elim
theorem opr_pow : OpR X (binaryOp .Pow) (dOp (nm X fd) E opPow) := by
  intro pins s σ H x y v u Q I rx ry ⟨S, α, a, b, ok, ra, rb, h⟩
  unfold opPow at h
  split at h
  · split at h
    · rename_i hz
      exact op_pow pins s σ H x y v u Q I rx ry ⟨_, _, ra.int_inv, rb.int_inv, hz, again ok (.p (.int _)) h⟩
    · exact h.elim
  · exact h.elim
theorem opr_and : OpR X (binaryOp .BitAnd) (dOp (nm X fd) E opAnd) := by
  intro pins s σ H x y v u Q I rx ry ⟨S, α, a, b, ok, ra, rb, h⟩
  unfold opAnd at h
  split at h
  · exact L2.op_and pins s σ H x y v u Q I rx ry ⟨_, _, ra.int_inv, rb.int_inv, again ok (.p (.int _)) h⟩
  · exact h.elim
theorem opr_shr : OpR X (binaryOp .RShift) (dOp (nm X fd) E opShr) := by
  intro pins s σ H x y v u Q I rx ry ⟨S, α, a, b, ok, ra, rb, h⟩
  unfold opShr at h
  split at h
  · split at h
    · rename_i hz
      exact op_shr pins s σ H x y v u Q I rx ry ⟨_, _, ra.int_inv, rb.int_inv, hz, again ok (.p (.int _)) h⟩
    · exact h.elim
  · exact h.elim
theorem opr_bin (hs : SysIn X) (op : Operator) (m : Bool) : OpR X (binaryOp op) (dOp (nm X fd) E (opBin op m)) := by
  cases op with
  | Add => exact opr_add hs m
  | Sub => exact opr_sub
  | Mult => exact opr_mul hs m
  | FloorDiv => exact opr_div
  | Mod => exact opr_mod
  | Pow => exact opr_pow
  | BitAnd => exact opr_and
  | RShift => exact opr_shr
  | _ => intro pins s σ H x y v u Q I rx ry ⟨S, α, a, b, ok, ra, rb, h⟩; exact h.elim
end
end Dl

set_option linter.all false
set_option maxRecDepth 100000
set_option maxHeartbeats 4000000
/-! Dl6: comparisons, items, slices, attributes by plain values. -/
namespace Dl
open PySem PySem.Spec PyProof.Rows L2

def flatP : PyData → Bool
  | .none => true
  | .bool _ => true
  | .int _ => true
  | .str _ => true
  | _ => false
def valD {κ : Type} [DecidableEq κ] (kvs : List (κ × D)) (k : κ) : Option D := (kvs.find? fun q => decide (q.1 = k)).map (·.2)
def keyOf : D → Option Key
  | .p (.int i) => some (.inl i)
  | .p (.str x) => some (.inr x)
  | _ => none
/-- a dict that is read -/
def dctOf (d : D) (S : Sto) : Option (List (Key × D)) := match d with
  | .loc l => match S[l]? with
    | some (.dK kvs) => some kvs
    | some (.lk kvs) => some kvs
    | _ => none
  | _ => none
def opOrd (f : Int → Int → Bool) (x y : D) (S : Sto) : Res D := match x, y with
  | .p (.int i), .p (.int j) => .ok (.b (f i j)) S
  | _, _ => .st
/-- == and != -/
def opEq (neg : Bool) (x y : D) (S : Sto) : Res D := match x, y with
  | .p (.str a), .p (.str b) => .ok (.b (neg ^^ decide (a = b))) S
  | x, y => match asP x S, asP y S with
    | some a, some b => if SeqAt.shaped a = true ∧ SeqAt.shaped b = true then .ok (.b (neg ^^ PyData.eqv a b)) S else .st
    | _, _ => .st
def isNoneP : D → Bool
  | .p .none => true
  | _ => false
def opIs (neg : Bool) (x y : D) (S : Sto) : Res D := match y with
  | .p .none => .ok (.b (neg ^^ isNoneP x)) S
  | _ => .st
def opIn (neg : Bool) (x y : D) (S : Sto) : Res D := match dctOf y S, keyOf x with
  | some kvs, some k => .ok (.b (neg ^^ (valD kvs k).isSome)) S
  | _, _ => match x, y with
    | .p (.str c), .p (.str z) => match c.cps.toList with
      | [n] => .ok (.b (neg ^^ decide (n ∈ z.cps.toList))) S
      | _ => .st
    | x, .p (.tuple ds) => match x with
      | .p d => if flatP d = true ∧ ds.all flatP = true then .ok (.b (neg ^^ ds.any fun z => PyData.eqv z d)) S else .st
      | _ => .st
    | x, y => match x, asP y S with
      | .p d, some (.list ds) => if SeqAt.shaped d = true ∧ SeqAt.shaped (.list ds) = true then .ok (.b (neg ^^ ds.any fun z => PyData.eqv z d)) S else .st
      | _, _ => .st
def opCmp (op : CmpOp) (x y : D) (S : Sto) : Res D := match op with
  | .Lt => opOrd (fun i j => decide (i < j)) x y S
  | .LtE => opOrd (fun i j => decide (i ≤ j)) x y S
  | .Gt => opOrd (fun i j => decide (j < i)) x y S
  | .GtE => opOrd (fun i j => decide (j ≤ i)) x y S
  | .Eq => opEq false x y S
  | .NotEq => opEq true x y S
  | .Is => opIs false x y S
  | .IsNot => opIs true x y S
  | .In => opIn false x y S
  | .NotIn => opIn true x y S
def cutD {α : Type} (xs : List α) (lo hi : Option Int) : List α := (xs.drop (HT.sIx xs.length 0 lo)).take (HT.sIx xs.length xs.length hi - HT.sIx xs.length 0 lo)
def opIdx (x i : D) (S : Sto) : Res D := match dctOf x S, keyOf i with
  | some kvs, some k => match valD kvs k with
    | some d => .ok d S
    | none => .st
  | _, _ => match seqOf x S, i with
    | some xs, .p (.int j) => match atI xs j with
      | some d => .ok d S
      | none => .st
    | _, _ => match x, i with
      | .p (.str z), .p (.int j) => if z.length ≤ sizeLine then match atI z.cps.toList j with
          | some c => .ok (.s ⟨#[c]⟩) S
          | none => .st
        else .st
      | _, _ => .st
def opSli (m : Bool) (x : D) (lo hi : Option Int) (S : Sto) : Res D := match tupOf x, lstOf x S, x with
  | some xs, _, _ => .ok (mkT (cutD xs lo hi)) S
  | _, some xs, _ => mkL m (cutD xs lo hi) S
  | _, _, .p (.str z) => if z.length ≤ sizeLine then .ok (.s (cutS z lo hi)) S else .st
  | _, _, _ => .st
def opFld (f : Str) (x : D) (S : Sto) : Res D := match x with
  | .loc l => match S[l]? with
    | some (.ins _ fs) => match List.lookup f fs with
      | some d => .ok d S
      | none => .st
    | _ => .st
  | _ => .st

section
variable {X : Cx} {fd : Str → Str} {E : XK}
/-! ### frozen data as the library reads it -/
mutual
theorem Pd.dp {N : Nm} {H : Hp} : ∀ {a : PyData} {v : V}, Pd N H v a → a.canLay0 = true → Dp N.K H v a
  | .none, _, h, _ => by cases h; exact .non
  | .bool b, _, h, _ => by cases h; exact .bl b
  | .int i, _, h, _ => by cases h; exact .int i
  | .str x, _, h, _ => by cases h; exact .str x
  | .tuple ds, _, h, c => by
    cases h with
    | tup h1 h2 => exact .tup h1 (PdAll.dp h2 (by simpa [PyData.canLay0] using c))
  | .list ds, _, h, c => by
    cases h with
    | lst h1 h2 h3 => exact .lst h1.sq (PdAll.dp h3 (by simpa [PyData.canLay0] using c))
  | .dict kvs, _, _, c => by simp [PyData.canLay0] at c
theorem PdAll.dp {N : Nm} {H : Hp} : ∀ {ds : List PyData} {vs : List V}, PdAll N H vs ds → PyData.canLayAll0 ds = true → DpAll N.K H vs ds
  | [], _, h, _ => by cases h; exact .nil
  | d :: ds, _, h, c => by
    have c' : d.canLay0 = true ∧ PyData.canLayAll0 ds = true := by simpa [PyData.canLayAll0] using c
    cases h with
    | cons h1 h2 => exact .cons (Pd.dp h1 c'.1) (PdAll.dp h2 c'.2)
end
theorem asP_dp {N : Nm} {H : Hp} {α : List Addr} {S : Sto} (ok : StoOk N H α S) {v : V} {x : D} {a : PyData} (r : Rp N H α v x) (e : asP x S = some a) (c : a.canLay0 = true) : Dp N.K H v a := by
  cases r with
  | p h =>
    simp at e
    subst e
    exact h.dp c
  | @loc b l h =>
    unfold asP at e
    cases q : S[l]? with
    | none => simp [q] at e
    | some cl =>
      cases cl <;> simp [q] at e
      rename_i xs
      obtain ⟨ds, e1, e2⟩ := e
      subst e2
      have := allP_eq e1
      subst this
      obtain ⟨vs, h1, h2⟩ := ok.cell l b _ h q
      exact .lst (.inl (.inl h1)) (PdAll.dp h2.toP (by simpa [PyData.canLay0] using c))
  | tup h1 h2 => simp [asP] at e
  | fn h => simp [asP] at e
theorem Pd.flat {N : Nm} {H : Hp} {v : V} {a : PyData} (h : Pd N H v a) (f : flatP a = true) : flatV v = true := by
  cases a <;> first | (simp [flatP] at f; done) | (cases h; rfl)
theorem Pd.eqv {N : Nm} {H : Hp} {v w : V} {a b : PyData} (h : Pd N H v a) (g : Pd N H w b) (f : flatP a = true) (f' : flatP b = true) : eqV v w = PyData.eqv a b := by
  cases a <;> first | (simp [flatP] at f; done) | skip
  all_goals cases h
  all_goals cases b <;> first | (simp [flatP] at f'; done) | skip
  all_goals cases g
  all_goals simp [eqV, PyData.eqv]
theorem PdAll.flat {N : Nm} {H : Hp} : ∀ {vs : List V} {ds : List PyData}, PdAll N H vs ds → ds.all flatP = true → vs.all flatV = true
  | _, [], h, _ => by cases h; rfl
  | _, d :: ds, h, f => by
    cases h with
    | cons h1 h2 =>
      simp only [List.all_cons, Bool.and_eq_true] at f ⊢
      exact ⟨h1.flat f.1, PdAll.flat h2 f.2⟩
theorem PdAll.inV {N : Nm} {H : Hp} {w : V} {b : PyData} (g : Pd N H w b) (f' : flatP b = true) : ∀ {vs : List V} {ds : List PyData}, PdAll N H vs ds → ds.all flatP = true → inV w vs = ds.any fun z => PyData.eqv z b
  | _, [], h, _ => by cases h; rfl
  | _, d :: ds, h, f => by
    cases h with
    | @cons v vs _ _ h1 h2 =>
      simp only [List.all_cons, Bool.and_eq_true] at f
      have := PdAll.inV g f' h2 f.2
      unfold L2.inV at this ⊢
      rw [List.any_cons, List.any_cons, this, h1.eqv g f.1 f']

theorem opr_ord {op : CmpOp} {f : Int → Int → Bool} (h0 : OpR X (compareOp op) (rI0 fun i j => .bl (f i j))) : OpR X (compareOp op) (dOp (nm X fd) E (opOrd f)) := by
  intro pins s σ H x y v u Q I rx ry ⟨S, α, a, b, ok, ra, rb, h⟩
  unfold opOrd at h
  split at h
  · exact h0 pins s σ H x y v u Q I rx ry ⟨_, _, ra.int_inv, rb.int_inv, again ok (.p (.bl _)) h⟩
  · exact h.elim
theorem opr_eq (hu : X.A.units + 64 < cLine) : OpR X (compareOp .Eq) (dOp (nm X fd) E (opEq false)) := by
  intro pins s σ H x y v u Q I rx ry ⟨S, α, a, b, ok, ra, rb, h⟩
  unfold opEq at h
  split at h
  · refine op_eq pins s σ H x y v u Q I rx ry ?_
    rw [ra.str_inv, rb.str_inv]
    refine ⟨rfl, ?_⟩
    have := again ok (.p (.bl _)) h
    simpa using this
  · split at h
    · rename_i a' b' e1 e2
      split at h
      · rename_i hz
        refine op_eqD hu pins s σ H x y v u Q I rx ry ⟨a', b', asP_dp ok ra e1 (SeqAt.canLay_of_shaped hz.1), asP_dp ok rb e2 (SeqAt.canLay_of_shaped hz.2), hz.1, hz.2, ?_⟩
        have := again ok (.p (.bl _)) h
        simpa using this
      · exact h.elim
    · exact h.elim
theorem opr_ne (hu : X.A.units + 64 < cLine) : OpR X (compareOp .NotEq) (dOp (nm X fd) E (opEq true)) := by
  intro pins s σ H x y v u Q I rx ry ⟨S, α, a, b, ok, ra, rb, h⟩
  unfold opEq at h
  split at h
  · refine op_ne pins s σ H x y v u Q I rx ry ?_
    rw [ra.str_inv, rb.str_inv]
    refine ⟨rfl, ?_⟩
    have := again ok (.p (.bl _)) h
    simpa using this
  · split at h
    · rename_i a' b' e1 e2
      split at h
      · rename_i hz
        refine op_neD hu pins s σ H x y v u Q I rx ry ⟨a', b', asP_dp ok ra e1 (SeqAt.canLay_of_shaped hz.1), asP_dp ok rb e2 (SeqAt.canLay_of_shaped hz.2), hz.1, hz.2, ?_⟩
        have := again ok (.p (.bl _)) h
        simpa using this
      · exact h.elim
    · exact h.elim
theorem Rp.isNone {N : Nm} {H : Hp} {α : List Addr} {v : V} {x : D} (r : Rp N H α v x) : decide (v = .non) = isNoneP x := by
  cases r with
  | p h => cases h <;> simp [isNoneP]
  | loc h => simp [isNoneP]
  | tup h1 h2 => simp [isNoneP]
  | fn h => simp [isNoneP]
theorem opr_is : OpR X (compareOp .Is) (dOp (nm X fd) E (opIs false)) := by
  intro pins s σ H x y v u Q I rx ry ⟨S, α, a, b, ok, ra, rb, h⟩
  unfold opIs at h
  split at h
  · refine op_isN pins s σ H x y v u Q I rx ry ⟨rb.none_inv, ?_⟩
    rw [ra.isNone]
    have := again ok (.p (.bl _)) h
    simpa using this
  · exact h.elim
theorem opr_isnot : OpR X (compareOp .IsNot) (dOp (nm X fd) E (opIs true)) := by
  intro pins s σ H x y v u Q I rx ry ⟨S, α, a, b, ok, ra, rb, h⟩
  unfold opIs at h
  split at h
  · refine op_notN pins s σ H x y v u Q I rx ry ⟨rb.none_inv, ?_⟩
    rw [ra.isNone]
    have := again ok (.p (.bl _)) h
    simpa using this
  · exact h.elim
/-! ### dicts -/
theorem valD_zip {N : Nm} {H : Hp} {α : List Addr} {κ : Type} [DecidableEq κ] {k : κ} : ∀ {ks : List κ} {vs : List V} {xs : List D}, ks.length = vs.length → RpAll N H α vs xs →
    (valV (ks.zip vs) k).isSome = (valD (ks.zip xs) k).isSome ∧ ∀ d, valD (ks.zip xs) k = some d → ∃ v, valV (ks.zip vs) k = some v ∧ Rp N H α v d
  | [], vs, xs, _, _ => by simp [valV, valD]
  | q :: ks, [], _, e, _ => by simp at e
  | q :: ks, v :: vs, _, e, .cons (d := d) (ds := ds) r rs => by
    by_cases z : q = k
    · subst z
      refine ⟨by simp [valV, valD], fun d' h => ⟨v, by simp [valV], ?_⟩⟩
      simp [valD] at h
      subst h
      exact r
    · have := valD_zip (k := k) (ks := ks) (by simpa using e) rs
      simpa [valV, valD, z] using this
theorem Rp.key {N : Nm} {H : Hp} {α : List Addr} {v : V} {x : D} {k : Key} (r : Rp N H α v x) (e : keyOf x = some k) : v = kV k := by
  cases r with
  | p h =>
    cases h <;> simp [keyOf] at e
    all_goals subst e; rfl
  | loc h => simp [keyOf] at e
  | tup h1 h2 => simp [keyOf] at e
  | fn h => simp [keyOf] at e
/-- a dict as it stands -/
theorem Rp.dct {N : Nm} {H : Hp} {α : List Addr} {S : Sto} (ok : StoOk N H α S) {v : V} {x : D} {kvs : List (Key × D)} (r : Rp N H α v x) (e : dctOf x S = some kvs) :
    ∃ (a : Addr) (ks : List Key) (vs : List V) (xs : List D), v = .ref a ∧ Rd H a (.dK (ks.zip vs)) ∧ kvs = ks.zip xs ∧ ks.length = vs.length ∧ RpAll N H α vs xs := by
  cases r with
  | p h => cases h <;> simp [dctOf] at e
  | @loc a l h =>
    unfold dctOf at e
    cases q : S[l]? with
    | none => simp [q] at e
    | some c =>
      cases c <;> simp [q] at e
      · subst e
        obtain ⟨ks, vs, xs, h1, h2, h3, h4⟩ := ok.cell l a _ h q
        exact ⟨a, ks, vs, xs, rfl, .inl h1, h2, h3, h4⟩
      · subst e
        obtain ⟨o, ks, vs, xs, h1, h2, h3, h4⟩ := ok.cell l a _ h q
        exact ⟨a, ks, vs, xs, rfl, .inr ⟨o, h1⟩, h2, h3, h4⟩
  | tup h1 h2 => simp [dctOf] at e
  | fn h => simp [dctOf] at e
theorem opr_in (hu : X.A.units + 65 < cLine) : OpR X (compareOp .In) (dOp (nm X fd) E (opIn false)) := by
  intro pins s σ H x y v u Q I rx ry ⟨S, α, a, b, ok, ra, rb, h⟩
  unfold opIn at h
  split at h
  · rename_i kvs k e1 e2
    obtain ⟨p, ks, vs, xs, e3, h1, h2, h3, h4⟩ := rb.dct ok e1
    have e4 := ra.key e2
    subst e3 e4 h2
    cases ry
    refine d_in (by omega) I (.inl ⟨_, k, h1, rfl, rfl⟩) rx fun s' J => ⟨.bl _, H, J, rfl, ?_⟩
    rw [(valD_zip h3 h4).1]
    simpa using again ok (.p (.bl _)) h
  · split at h
    · split at h
      · rename_i c z _ _ n e
        refine op_in_sign pins s σ H x y v u Q I rx ry ⟨n, z, ?_, rb.str_inv, ?_⟩
        · rw [ra.str_inv]
          congr 1
          obtain ⟨c⟩ := c
          congr 1
          rw [← Array.toArray_toList (xs := c), e]
        · simpa using again ok (.p (.bl _)) h
      · exact h.elim
    · split at h
      · split at h
        · rename_i ds _ d hz
          cases ra with
          | p hd =>
            cases rb with
            | p hb =>
              cases hb with
              | @tup p vs _ h1 h2 =>
                refine op_in_seq pins s σ H x _ v u Q I rx ry ⟨p, vs, rfl, .inr h1, hd.flat hz.1, PdAll.flat h2 hz.2, ?_⟩
                rw [if_neg (by decide), PdAll.inV hd hz.1 h2 hz.2]
                simpa using again ok (.p (.bl _)) h
        · exact h.elim
      · exact h.elim
    · split at h
      · rename_i ds e _ _
        split at h
        · rename_i hz
          refine op_inD hu pins s σ H x y v u Q I rx ry ⟨_, ds, asP_dp ok ra rfl (SeqAt.canLay_of_shaped hz.1), asP_dp ok rb e (SeqAt.canLay_of_shaped hz.2), hz.1, hz.2, ?_⟩
          simpa using again ok (.p (.bl _)) h
        · exact h.elim
      · exact h.elim
theorem opr_notin (hu : X.A.units + 65 < cLine) : OpR X (compareOp .NotIn) (dOp (nm X fd) E (opIn true)) := by
  intro pins s σ H x y v u Q I rx ry ⟨S, α, a, b, ok, ra, rb, h⟩
  unfold opIn at h
  split at h
  · rename_i kvs k e1 e2
    obtain ⟨p, ks, vs, xs, e3, h1, h2, h3, h4⟩ := rb.dct ok e1
    have e4 := ra.key e2
    subst e3 e4 h2
    cases ry
    refine d_notIn (by omega) I (.inl ⟨_, k, h1, rfl, rfl⟩) rx fun s' J => ⟨.bl _, H, J, rfl, ?_⟩
    rw [(valD_zip h3 h4).1]
    simpa using again ok (.p (.bl _)) h
  · split at h
    · split at h
      · rename_i c z _ _ n e
        refine op_notIn_sign pins s σ H x y v u Q I rx ry ⟨n, z, ?_, rb.str_inv, ?_⟩
        · rw [ra.str_inv]
          congr 1
          obtain ⟨c⟩ := c
          congr 1
          rw [← Array.toArray_toList (xs := c), e]
        · simpa using again ok (.p (.bl _)) h
      · exact h.elim
    · split at h
      · split at h
        · rename_i ds _ d hz
          cases ra with
          | p hd =>
            cases rb with
            | p hb =>
              cases hb with
              | @tup p vs _ h1 h2 =>
                refine op_notIn_seq pins s σ H x _ v u Q I rx ry ⟨p, vs, rfl, .inr h1, hd.flat hz.1, PdAll.flat h2 hz.2, ?_⟩
                rw [if_pos rfl, PdAll.inV hd hz.1 h2 hz.2]
                simpa using again ok (.p (.bl _)) h
        · exact h.elim
      · exact h.elim
    · split at h
      · rename_i ds e _ _
        split at h
        · rename_i hz
          refine op_notInD hu pins s σ H x y v u Q I rx ry ⟨_, ds, asP_dp ok ra rfl (SeqAt.canLay_of_shaped hz.1), asP_dp ok rb e (SeqAt.canLay_of_shaped hz.2), hz.1, hz.2, ?_⟩
          simpa using again ok (.p (.bl _)) h
        · exact h.elim
      · exact h.elim
theorem opr_cmp (hu : X.A.units + 65 < cLine) (op : CmpOp) : OpR X (compareOp op) (dOp (nm X fd) E (opCmp op)) := by
  cases op with
  | Lt => exact opr_ord op_lt
  | LtE => exact opr_ord op_le
  | Gt => exact opr_ord op_gt
  | GtE => exact opr_ord op_ge
  | Eq => exact opr_eq (by omega)
  | NotEq => exact opr_ne (by omega)
  | Is => exact opr_is
  | IsNot => exact opr_isnot
  | In => exact opr_in hu
  | NotIn => exact opr_notin hu
end
end Dl

set_option linter.all false
set_option maxRecDepth 100000
set_option maxHeartbeats 4000000
/-! Dl7: expressions by plain values. -/
namespace Dl
open PySem PySem.Spec PyProof.Rows L2

section
variable {X : Cx} {fd : Str → Str} {E : XK}
/-! ### items -/
theorem RpAll.atI {N : Nm} {H : Hp} {α : List Addr} {vs : List V} {xs : List D} {i : Int} {d : D} (r : RpAll N H α vs xs) (e : atI xs i = some d) : ∃ v, atI vs i = some v ∧ Rp N H α v d := by
  unfold L2.atI at e ⊢
  rw [r.length]
  cases q : ixN xs.length i with
  | none => rw [q] at e; cases e
  | some j =>
    rw [q] at e
    exact r.get e
theorem ix_dict (hu : X.A.units + 1 < cLine) : IxR X (fun x y H Q => ∃ a v, x = .ref a ∧ DGet H a y (some v) ∧ Q v H) := by
  intro value slice pins s σ H x y v u Q I rx ry ⟨a, w, ex, g, q⟩ hs
  subst ex
  cases rx
  have hT := dict_typeIs I g
  unfold subscriptTail
  refine wpAny_bind ?_
  rw [getitemInPython_of_ne hT.not_modules]
  refine wpAny_bind (wpAny_specialOf hT PySem.F.slot_dict_getitem.lookup ?_)
  have fin : wpAny (model X.prog X.w) X.A (subscripted slice false (.ref a) u) (fun r s3 => wpAny (model X.prog X.w) X.A (letTemporaryGo value (.ref a) r >>= fun _ => pure r) (EP X pins σ Q) X.xe s3) X.xe s := by
    rw [hs]
    refine wpAny_operating (d_getItem hu I g ry fun w' s' J rw' => ?_)
    exact wpAny_bind (wpAny_letTemporaryGo (wpAny_pure ⟨w, H, J, rw', q⟩))
  first
    | exact wpAny_pure (wpAny_bind fin)
    | exact wpAny_bind (wpAny_pure (wpAny_bind fin))
    | exact wpAny_bind fin
theorem ixr_idx (hu : X.A.units + 1 < cLine) : IxR X (dOp (nm X fd) E opIdx) := by
  intro value slice pins s σ H x y v u Q I rx ry ⟨S, α, a, b, ok, ra, rb, h⟩ hs
  unfold opIdx at h
  split at h
  · rename_i kvs k e1 e2
    split at h
    · rename_i d e3
      obtain ⟨p, ks, vs, xs, e4, h1, h2, h3, h4⟩ := ra.dct ok e1
      have e5 := rb.key e2
      subst h2
      obtain ⟨w, e6, rw'⟩ := (valD_zip h3 h4).2 d e3
      exact ix_dict hu value slice pins s σ H x y v u Q I rx ry ⟨p, w, e4, .inl ⟨_, k, h1, e5, e6.symm⟩, again ok rw' h⟩ hs
    · exact h.elim
  · split at h
    · rename_i xs j e1 _
      split at h
      · rename_i d e2
        obtain ⟨p, vs, e3, t, r⟩ := ra.seq_inv ok e1
        obtain ⟨w, e4, rw'⟩ := r.atI e2
        refine ix_seq value slice pins s σ H x y v u Q I rx ry ?_ hs
        rcases t with t | t
        · exact .inl ⟨p, vs, j, w, e3, rb.int_inv, t, e4, again ok rw' h⟩
        · exact .inr (.inl ⟨p, vs, j, w, e3, rb.int_inv, t, e4, again ok rw' h⟩)
      · exact h.elim
    · split at h
      · split at h
        · rename_i hz
          split at h
          · rename_i c e1
            exact ix_seq value slice pins s σ H x y v u Q I rx ry (.inr (.inr ⟨_, _, c, ra.str_inv, rb.int_inv, hz, e1, again ok (.p (.str _)) h⟩)) hs
          · exact h.elim
        · exact h.elim
      · exact h.elim
/-! ### slices -/
theorem RpAll.cut2 {N : Nm} {H : Hp} {α : List Addr} {vs : List V} {xs : List D} (r : RpAll N H α vs xs) (lo hi : Option Int) : RpAll N H α (cutV vs lo hi) (cutD xs lo hi) := by
  unfold cutV cutD
  rw [r.length]
  exact (r.drop _).take _
theorem slr_sli (m : Bool) : SlR X (fun x lo hi H Q => ∃ S α a, StoOk (nm X fd) H α S ∧ Rp (nm X fd) H α x a ∧ ∃ Q', dRes (nm X fd) E α S H (opSli m a lo hi S) Q' ∧ Q = FzOr Q') := by
  intro pins s σ H x v vl vu lo hi sl Q I rx h0 h1 h2 ⟨S, α, a, ok, ra, Q', h, eQ⟩
  subst eQ
  unfold opSli at h
  split at h
  · rename_i xs e1
    obtain ⟨p, vs, e3, t, r⟩ := ra.tup_inv e1
    refine sl_tupA pins s σ H x v vl vu lo hi sl _ I rx h0 h1 h2 ⟨p, vs, e3, t, fun z => .inl ?_, fun _ q hq => .inl (newT ok (r.cut2 lo hi) h q hq)⟩
    have e : cutV vs lo hi = vs := by
      unfold cutV
      rw [z.1, z.2]
      simp
    have := r.cut2 lo hi
    rw [e] at this
    exact again ok (v := .ref p) (rp_mkT t this) h
  · rename_i xs e1 _
    obtain ⟨p, vs, e3, t, r⟩ := ra.lst_inv ok e1
    exact sl_list pins s σ H x v vl vu lo hi sl _ I rx h0 h1 h2 ⟨p, vs, e3, t, newL ok (r.cut2 lo hi) h⟩
  · split at h
    · rename_i hz
      exact sl_str pins s σ H x v vl vu lo hi sl _ I rx h0 h1 h2 ⟨_, ra.str_inv, hz, .inl (again ok (.p (.str _)) h)⟩
    · exact h.elim
  · exact h.elim

/-! ### expressions -/
variable {a b c : Expr} {Fa Fb Fc : Slots → Sto → Res D} {pos : Pos}
abbrev fBin (op : Operator) (m : Bool) (Fa Fb : Slots → Sto → Res D) : Slots → Sto → Res D := fun ρ S => (Fa ρ S).bind fun x S1 => (Fb ρ S1).bind fun y S2 => opBin op m x y S2
abbrev fCmp (op : CmpOp) (Fa Fb : Slots → Sto → Res D) : Slots → Sto → Res D := fun ρ S => (Fa ρ S).bind fun x S1 => (Fb ρ S1).bind fun y S2 => opCmp op x y S2
abbrev fIdx (Fa Fb : Slots → Sto → Res D) : Slots → Sto → Res D := fun ρ S => (Fa ρ S).bind fun x S1 => (Fb ρ S1).bind fun y S2 => opIdx x y S2
def fVar (i : Nat) : Slots → Sto → Res D := fun ρ S => match ρ[i]? with
  | some (some d) => .ok d S
  | _ => .st
def fC (d : PyData) : Slots → Sto → Res D := fun _ S => .ok (.p d) S
theorem dv_var {i : Nat} {x : Str} (hN : X.N[i]? = some x) (hv : Vis X.env.scope x) (hd : (x == ("__debug__" : Str)) = false) (hcd : (x == ("__classdict__" : Str)) = false) : PE X (.Name x pos) (dE (nm X fd) E (fVar i)) := by
  refine PE.imp (pe_var hN hv hd hcd) fun σ H Q ⟨ρ, S, α, r, ok, h⟩ => ?_
  unfold fVar at h
  split at h
  · rename_i d e
    obtain ⟨v, e1, rv⟩ := r.at_ i d e
    exact ⟨v, e1, again ok rv h⟩
  · exact h.elim
theorem dv_c {e : Expr} {v : V} {d : PyData} (h : PE X e (tC v)) (hp : ∀ H, Pd (nm X fd) H v d) : PE X e (dE (nm X fd) E (fC d)) :=
  PE.imp h fun σ H Q ⟨ρ, S, α, r, ok, q⟩ => again ok (.p (hp H)) q
theorem dv_bin (hs : SysIn X) {op : Operator} {m : Bool} (ha : PE X a (dE (nm X fd) E Fa)) (hb : PE X b (dE (nm X fd) E Fb)) : PE X (.BinOp a op b pos) (dE (nm X fd) E (fBin op m Fa Fb)) :=
  PE.imp (pe_op (opr_bin hs op m) ha hb) fun σ H Q h => dE_op h
theorem dv_cmp (hu : X.A.units + 65 < cLine) {op : CmpOp} (ha : PE X a (dE (nm X fd) E Fa)) (hb : PE X b (dE (nm X fd) E Fb)) (hm : behindInMarks op b = false) : PE X (.Compare a [op] [b] pos) (dE (nm X fd) E (fCmp op Fa Fb)) :=
  PE.imp (pe_cmpR (opr_cmp hu op) ha hb hm) fun σ H Q h => dE_op h
theorem dv_idx (hu : X.A.units + 1 < cLine) (ha : PE X a (dE (nm X fd) E Fa)) (hb : PE X b (dE (nm X fd) E Fb)) (hs : PlainIx b) : PE X (.Subscript a b pos) (dE (nm X fd) E (fIdx Fa Fb)) :=
  PE.imp (pe_ix (ixr_idx hu) ha hb hs) fun σ H Q h => dE_op h
abbrev fNeg (Fa : Slots → Sto → Res D) : Slots → Sto → Res D := fun ρ S => (Fa ρ S).bind fun x S1 => match x with
  | .p (.int i) => .ok (.i (-i)) S1
  | _ => .st
theorem dv_neg (ha : PE X a (dE (nm X fd) E Fa)) : PE X (.UnaryOp .USub a pos) (dE (nm X fd) E (fNeg Fa)) := by
  refine PE.imp (pe_un un_neg ha) fun σ H Q h => ?_
  obtain ⟨ρ, S, α, r, ok, h⟩ := dE_un h
  refine ⟨ρ, S, α, r, ok, ?_⟩
  cases e : Fa ρ S with
  | ok x S1 =>
    rw [e] at h
    intro v H' α' st ok' rv
    obtain ⟨S2, α2, d, ok2, rd, h2⟩ := h v H' α' st ok' rv
    dsimp only at h2
    split at h2
    · exact ⟨_, rd.int_inv, again ok2 (.p (.int _)) h2⟩
    · exact h2.elim
  | ex c' e' S' => rw [e] at h; exact h
  | st => rw [e] at h; exact h

/-! ### tests -/
abbrev fTru (Fa : Slots → Sto → Res D) : Slots → Sto → Res Bool := fun ρ S => (Fa ρ S).bind fun x S1 => match tru x S1 with
  | some k => .ok k S1
  | none => .st
theorem Rp.tru {N : Nm} {H : Hp} {α : List Addr} {S : Sto} (ok : StoOk N H α S) {v : V} {x : D} {k : Bool} (r : Rp N H α v x) (e : tru x S = some k) : TruV N.K v H k := by
  cases r with
  | p h =>
    cases h with
    | non => simp [Dl.tru, truP] at e; exact e
    | bl b => simp [Dl.tru, truP] at e; exact e.symm
    | int i => simp [Dl.tru] at e; exact e.symm
    | str y =>
      simp [Dl.tru] at e
      refine ⟨e.1, ?_⟩
      rw [← e.2]
      have : ((y.length : Int) == 0) = (y.length == 0) := by
        by_cases z : y.length = 0
        · rw [z]; rfl
        · rw [beq_eq_false_iff_ne.mpr z, beq_eq_false_iff_ne.mpr (by omega)]
      simp [bne, this]
    | @tup a vs ds h1 h2 =>
      simp [Dl.tru, truP] at e
      refine .inr (.inl ⟨vs, h1, ?_⟩)
      rw [show k = !(!k) by simp, ← e]
      cases h2 <;> rfl
    | @lst a vs ds h1 h2 h3 =>
      simp [Dl.tru, truP] at e
      refine .inl ⟨vs, h1.sq, ?_⟩
      rw [show k = !(!k) by simp, ← e]
      cases h3 <;> rfl
    | dct => simp [Dl.tru] at e
  | @loc a l h =>
    unfold Dl.tru at e
    cases q : S[l]? with
    | none => simp [q] at e
    | some c =>
      cases c <;> simp [q] at e
      · obtain ⟨vs, h1, h2⟩ := ok.cell l a _ h q
        refine .inl ⟨vs, .inl (.inl h1), ?_⟩
        rw [show k = !(!k) by simp, ← e]
        cases h2 <;> rfl
      · obtain ⟨ks, vs, xs, h1, h2, h3, h4⟩ := ok.cell l a _ h q
        refine .inr (.inr ⟨_, h1, ?_⟩)
        rw [show k = !(!k) by simp, ← e, h2]
        have := h4.length
        cases ks <;> cases vs <;> cases xs <;> simp at h3 this ⊢
  | tup h1 h2 =>
    simp [Dl.tru] at e
    refine .inr (.inl ⟨_, h1, ?_⟩)
    rw [show k = !(!k) by simp, ← e]
    cases h2 <;> rfl
  | fn h => simp [Dl.tru] at e
/-- an expression as a test -/
def PlainT (X : Cx) (a : Expr) : Prop := ∀ whole, isTrue a X.env whole = (do let v ← whole; standAt a.pos; holding [v] (truthy v))
theorem dt_val (ha : PE X a (dE (nm X fd) E Fa)) (he : PlainT X a) : PT X a (dT (nm X fd) E (fTru Fa)) := by
  refine PT.imp (pt_truth ha he) fun σ H Q ⟨ρ, S, α, r, ok, h⟩ => ⟨ρ, S, α, r, ok, ?_⟩
  cases e : Fa ρ S with
  | ok x S1 =>
    simp only [fTru, e, bind_ok] at h
    intro v H' α' st ok' rv
    split at h
    · rename_i k e2
      exact ⟨k, rv.tru ok' e2, h H' α' st ok'⟩
    · exact h.elim
  | ex c' e' S' => simp only [fTru, e, bind_ex] at h; exact h
  | st => simp only [fTru, e, bind_st] at h; exact h
/-- an expression that gives nothing but truth values -/
def Bools (F : Slots → Sto → Res D) : Prop := ∀ ρ S d S', F ρ S = .ok d S' → ∃ k, d = .b k
theorem dT_bools {F : Slots → Sto → Res D} (hB : Bools F) {σ : L2.St} {H : Hp} {Q : Bool → Hp → Prop} (h : dT (nm X fd) E (fTru F) σ H Q) : dE (nm X fd) E F σ H fun x H' => ∃ k, x = .bl k ∧ Q k H' := by
  obtain ⟨ρ, S, α, r, ok, h⟩ := h
  refine ⟨ρ, S, α, r, ok, ?_⟩
  cases e : F ρ S with
  | ok x S1 =>
    obtain ⟨k, rfl⟩ := hB _ _ _ _ e
    simp only [fTru, e, bind_ok, tru_b] at h
    intro v H' α' st ok' rv
    exact ⟨k, rv.bool_inv, h H' α' st ok'⟩
  | ex c' e' S' => simp only [fTru, e, bind_ex] at h; exact h
  | st => simp only [fTru, e, bind_st] at h; exact h
theorem opCmp_bool {op : CmpOp} {x y d : D} {S S' : Sto} (h : opCmp op x y S = .ok d S') : ∃ k, d = .b k := by
  cases op <;> simp only [opCmp, opOrd, opEq, opIs, opIn] at h <;> (repeat' split at h) <;> first | (cases h; exact ⟨_, rfl⟩) | cases h
theorem bools_cmp {op : CmpOp} : Bools (fCmp op Fa Fb) := fun ρ S d S' h => by
  unfold fCmp at h
  cases e : Fa ρ S with
  | ok x S1 =>
    rw [e] at h
    simp only [bind_ok] at h
    cases e2 : Fb ρ S1 with
    | ok y S2 =>
      rw [e2] at h
      exact opCmp_bool h
    | ex c e' S' => rw [e2] at h; cases h
    | st => rw [e2] at h; cases h
  | ex c e' S' => rw [e] at h; cases h
  | st => rw [e] at h; cases h
theorem dt_cmp (hu : X.A.units + 65 < cLine) {op : CmpOp} (ha : PE X a (dE (nm X fd) E Fa)) (hb : PE X b (dE (nm X fd) E Fb)) (hm : behindInMarks op b = false) : PT X (.Compare a [op] [b] pos) (dT (nm X fd) E (fTru (fCmp op Fa Fb))) :=
  PT.imp (pt_cmpR (opr_cmp hu op) ha hb hm) fun σ H Q h => dE_op (dT_bools bools_cmp h)
/-- a op b op' c -/
abbrev fChain (op op' : CmpOp) (Fa Fb Fc : Slots → Sto → Res D) : Slots → Sto → Res D := fun ρ S => (Fa ρ S).bind fun x S1 => (Fb ρ S1).bind fun y S2 => (opCmp op x y S2).bind fun z S3 => match z with
  | .p (.bool true) => (Fc ρ S3).bind fun w S4 => opCmp op' y w S4
  | .p (.bool false) => .ok (.b false) S3
  | _ => .st
theorem bools_chain {op op' : CmpOp} : Bools (fChain op op' Fa Fb Fc) := fun ρ S d S' h => by
  unfold fChain at h
  cases e : Fa ρ S with
  | ok x S1 =>
    rw [e] at h
    simp only [bind_ok] at h
    cases e2 : Fb ρ S1 with
    | ok y S2 =>
      rw [e2] at h
      simp only [bind_ok] at h
      cases e3 : opCmp op x y S2 with
      | ok z S3 =>
        rw [e3] at h
        simp only [bind_ok] at h
        split at h
        · cases e4 : Fc ρ S3 with
          | ok w S4 => rw [e4] at h; exact opCmp_bool h
          | ex c e' S' => rw [e4] at h; cases h
          | st => rw [e4] at h; cases h
        · cases h; exact ⟨_, rfl⟩
        · cases h
      | ex c e' S' => rw [e3] at h; cases h
      | st => rw [e3] at h; cases h
    | ex c e' S' => rw [e2] at h; cases h
    | st => rw [e2] at h; cases h
  | ex c e' S' => rw [e] at h; cases h
  | st => rw [e] at h; cases h
theorem dE_chain {op op' : CmpOp} {σ : L2.St} {H : Hp} {Q : VK} (h : dE (nm X fd) E (fChain op op' Fa Fb Fc) σ H Q) :
    tChain (dOp (nm X fd) E (opCmp op)) (dOp (nm X fd) E (opCmp op')) (dE (nm X fd) E Fa) (dE (nm X fd) E Fb) (dE (nm X fd) E Fc) σ H Q := by
  obtain ⟨ρ, S, α, r, ok, h⟩ := h
  refine ⟨ρ, S, α, r, ok, ?_⟩
  unfold fChain at h
  cases e : Fa ρ S with
  | ok x S1 =>
    rw [e] at h
    intro v1 H1 α1 st1 ok1 r1
    refine ⟨ρ, S1, α1, r.step ok st1, ok1, ?_⟩
    have h := dRes.shift ok st1 h
    simp only [bind_ok] at h
    cases e2 : Fb ρ S1 with
    | ok y S2 =>
      rw [e2] at h
      intro v2 H2 α2 st2 ok2 r2
      refine ⟨S2, α2, x, y, ok2, st2.rp ok1 r1, r2, ?_⟩
      have h := dRes.shift ok1 st2 h
      simp only [bind_ok] at h
      cases e3 : opCmp op x y S2 with
      | ok z S3 =>
        rw [e3] at h
        intro v3 H3 α3 st3 ok3 r3
        have h := dRes.shift ok2 st3 h
        simp only [bind_ok] at h
        obtain ⟨k, rfl⟩ := opCmp_bool e3
        refine ⟨k, r3.bool_inv, ?_⟩
        cases k with
        | true =>
          refine iteT ?_
          refine ⟨ρ, S3, α3, ((r.step ok st1).step ok1 st2).step ok2 st3, ok3, ?_⟩
          simp only at h
          cases e4 : Fc ρ S3 with
          | ok w S4 =>
            rw [e4] at h
            intro v4 H4 α4 st4 ok4 r4
            exact ⟨S4, α4, y, w, ok4, st4.rp ok3 (st3.rp ok2 r2), r4, dRes.shift ok3 st4 h⟩
          | ex c e' S' => rw [e4] at h; exact h
          | st => rw [e4] at h; exact h
        | false =>
          refine iteF ?_
          exact again ok3 (.p (.bl _)) h
      | ex c e' S' => rw [e3] at h; exact h
      | st => rw [e3] at h; exact h
    | ex c e' S' => rw [e2] at h; exact h
    | st => rw [e2] at h; exact h
  | ex c e' S' => rw [e] at h; exact h
  | st => rw [e] at h; exact h
theorem dv_chain (hu : X.A.units + 65 < cLine) {op op' : CmpOp} (ha : PE X a (dE (nm X fd) E Fa)) (hb : PE X b (dE (nm X fd) E Fb)) (hc : PE X c (dE (nm X fd) E Fc)) (hm : behindInMarks op' c = false) :
    PE X (.Compare a [op, op'] [b, c] pos) (dE (nm X fd) E (fChain op op' Fa Fb Fc)) :=
  PE.imp (pe_chain (opr_cmp hu op) (opr_cmp hu op') ha hb hc (by simp only [lastMarks]; exact hm)) fun σ H Q h => dE_chain h
theorem dt_chain (hu : X.A.units + 65 < cLine) {op op' : CmpOp} (ha : PE X a (dE (nm X fd) E Fa)) (hb : PE X b (dE (nm X fd) E Fb)) (hc : PE X c (dE (nm X fd) E Fc)) (hm : behindInMarks op' c = false) :
    PT X (.Compare a [op, op'] [b, c] pos) (dT (nm X fd) E (fTru (fChain op op' Fa Fb Fc))) :=
  PT.imp (pt_chain (opr_cmp hu op) (opr_cmp hu op') ha hb hc (by simp only [lastMarks]; exact hm)) fun σ H Q h => dE_chain (dT_bools bools_chain h)
/-! ### not, and, or, a choice -/
variable {Ta Tb Tc : Slots → Sto → Res Bool} {rest : List Expr}
abbrev fNot (Fa : Slots → Sto → Res D) : Slots → Sto → Res D := fun ρ S => (Fa ρ S).bind fun x S1 => match x with
  | .p (.bool k) => .ok (.b (!k)) S1
  | _ => .st
abbrev fAnd (Fa Fb : Slots → Sto → Res D) : Slots → Sto → Res D := fun ρ S => (Fa ρ S).bind fun x S1 => match x with
  | .p (.bool true) => Fb ρ S1
  | .p (.bool false) => .ok (.b false) S1
  | _ => .st
abbrev fOr (Fa Fb : Slots → Sto → Res D) : Slots → Sto → Res D := fun ρ S => (Fa ρ S).bind fun x S1 => match x with
  | .p (.bool false) => Fb ρ S1
  | .p (.bool true) => .ok (.b true) S1
  | _ => .st
abbrev gNot (Ta : Slots → Sto → Res Bool) : Slots → Sto → Res Bool := fun ρ S => (Ta ρ S).bind fun k S1 => .ok (!k) S1
abbrev gAnd (Ta Tb : Slots → Sto → Res Bool) : Slots → Sto → Res Bool := fun ρ S => (Ta ρ S).bind fun k S1 => match k with
  | true => Tb ρ S1
  | false => .ok false S1
abbrev gOr (Ta Tb : Slots → Sto → Res Bool) : Slots → Sto → Res Bool := fun ρ S => (Ta ρ S).bind fun k S1 => match k with
  | false => Tb ρ S1
  | true => .ok true S1
abbrev fIf (Tc : Slots → Sto → Res Bool) (Fa Fb : Slots → Sto → Res D) : Slots → Sto → Res D := fun ρ S => (Tc ρ S).bind fun k S1 => match k with
  | true => Fa ρ S1
  | false => Fb ρ S1
theorem dv_not (ha : PE X a (dE (nm X fd) E Fa)) : PE X (.UnaryOp .Not a pos) (dE (nm X fd) E (fNot Fa)) := by
  refine PE.imp (pe_not ha) fun σ H Q ⟨ρ, S, α, r, ok, h⟩ => ⟨ρ, S, α, r, ok, ?_⟩
  unfold fNot at h
  cases e : Fa ρ S with
  | ok x S1 =>
    rw [e] at h
    simp only [bind_ok] at h
    intro v H' α' st ok' rv
    have h := dRes.shift ok st h
    split at h
    · exact ⟨_, rv.bool_inv, again ok' (.p (.bl _)) h⟩
    · exact h.elim
  | ex c e' S' => rw [e] at h; exact h
  | st => rw [e] at h; exact h
theorem dv_and (ha : PE X a (dE (nm X fd) E Fa)) (hb : PE X (.BoolOp .And (b :: rest) pos) (dE (nm X fd) E Fb)) : PE X (.BoolOp .And (a :: b :: rest) pos) (dE (nm X fd) E (fAnd Fa Fb)) := by
  refine PE.imp (pe_and ha hb) fun σ H Q ⟨ρ, S, α, r, ok, h⟩ => ⟨ρ, S, α, r, ok, ?_⟩
  unfold fAnd at h
  cases e : Fa ρ S with
  | ok x S1 =>
    rw [e] at h
    simp only [bind_ok] at h
    intro v H' α' st ok' rv
    have h := dRes.shift ok st h
    split at h
    · exact ⟨_, rv.bool_inv, iteT ⟨ρ, S1, α', r.step ok st, ok', h⟩⟩
    · exact ⟨_, rv.bool_inv, iteF (again ok' (.p (.bl _)) h)⟩
    · exact h.elim
  | ex c e' S' => rw [e] at h; exact h
  | st => rw [e] at h; exact h
theorem dv_or (ha : PE X a (dE (nm X fd) E Fa)) (hb : PE X (.BoolOp .Or (b :: rest) pos) (dE (nm X fd) E Fb)) : PE X (.BoolOp .Or (a :: b :: rest) pos) (dE (nm X fd) E (fOr Fa Fb)) := by
  refine PE.imp (pe_or ha hb) fun σ H Q ⟨ρ, S, α, r, ok, h⟩ => ⟨ρ, S, α, r, ok, ?_⟩
  unfold fOr at h
  cases e : Fa ρ S with
  | ok x S1 =>
    rw [e] at h
    simp only [bind_ok] at h
    intro v H' α' st ok' rv
    have h := dRes.shift ok st h
    split at h
    · exact ⟨_, rv.bool_inv, iteF ⟨ρ, S1, α', r.step ok st, ok', h⟩⟩
    · exact ⟨_, rv.bool_inv, iteT (again ok' (.p (.bl _)) h)⟩
    · exact h.elim
  | ex c e' S' => rw [e] at h; exact h
  | st => rw [e] at h; exact h
theorem againT {N : Nm} {α : List Addr} {S : Sto} {H : Hp} {Q : Bool → Hp → Prop} {k : Bool} (ok : StoOk N H α S) (h : dResT N E α S H (.ok k S) Q) : Q k H := h H α .refl ok
theorem dt_not (ha : PT X a (dT (nm X fd) E Ta)) : PT X (.UnaryOp .Not a pos) (dT (nm X fd) E (gNot Ta)) := by
  refine PT.imp (pt_not ha) fun σ H Q ⟨ρ, S, α, r, ok, h⟩ => ⟨ρ, S, α, r, ok, ?_⟩
  unfold gNot at h
  cases e : Ta ρ S with
  | ok x S1 =>
    rw [e] at h
    intro H' α' st ok'
    exact againT ok' (dResT.shift ok st h)
  | ex c e' S' => rw [e] at h; exact h
  | st => rw [e] at h; exact h
theorem dt_and (ha : PT X a (dT (nm X fd) E Ta)) (hb : PW X (.BoolOp .And (b :: rest) pos) (dT (nm X fd) E Tb)) : PW X (.BoolOp .And (a :: b :: rest) pos) (dT (nm X fd) E (gAnd Ta Tb)) := by
  refine PW.imp (pw_and ha hb) fun σ H Q ⟨ρ, S, α, r, ok, h⟩ => ⟨ρ, S, α, r, ok, ?_⟩
  unfold gAnd at h
  cases e : Ta ρ S with
  | ok k S1 =>
    rw [e] at h
    intro H' α' st ok'
    have h := dResT.shift ok st h
    cases k with
    | true => exact iteT ⟨ρ, S1, α', r.step ok st, ok', h⟩
    | false => exact iteF (againT ok' h)
  | ex c e' S' => rw [e] at h; exact h
  | st => rw [e] at h; exact h
theorem dt_or (ha : PT X a (dT (nm X fd) E Ta)) (hb : PW X (.BoolOp .Or (b :: rest) pos) (dT (nm X fd) E Tb)) : PW X (.BoolOp .Or (a :: b :: rest) pos) (dT (nm X fd) E (gOr Ta Tb)) := by
  refine PW.imp (pw_or ha hb) fun σ H Q ⟨ρ, S, α, r, ok, h⟩ => ⟨ρ, S, α, r, ok, ?_⟩
  unfold gOr at h
  cases e : Ta ρ S with
  | ok k S1 =>
    rw [e] at h
    intro H' α' st ok'
    have h := dResT.shift ok st h
    cases k with
    | true => exact iteT (againT ok' h)
    | false => exact iteF ⟨ρ, S1, α', r.step ok st, ok', h⟩
  | ex c e' S' => rw [e] at h; exact h
  | st => rw [e] at h; exact h
theorem dv_if (hc : PT X c (dT (nm X fd) E Tc)) (ha : PE X a (dE (nm X fd) E Fa)) (hb : PE X b (dE (nm X fd) E Fb)) : PE X (.IfExp c a b pos) (dE (nm X fd) E (fIf Tc Fa Fb)) := by
  refine PE.imp (pe_ifExp hc ha hb) fun σ H Q ⟨ρ, S, α, r, ok, h⟩ => ⟨ρ, S, α, r, ok, ?_⟩
  unfold fIf at h
  cases e : Tc ρ S with
  | ok k S1 =>
    rw [e] at h
    intro H' α' st ok'
    have h := dRes.shift ok st h
    cases k with
    | true => exact iteT ⟨ρ, S1, α', r.step ok st, ok', h⟩
    | false => exact iteF ⟨ρ, S1, α', r.step ok st, ok', h⟩
  | ex c e' S' => rw [e] at h; exact h
  | st => rw [e] at h; exact h

/-! ### argument lists, displays -/
variable {es : List Expr} {Fs : Slots → Sto → Res (List D)}
def nsE : Expr → Bool
  | .Starred _ _ => false
  | _ => true
theorem starEach_ns {e : Expr} {es : List Expr} {env : Env} (h : nsE e = true) : starEach (e :: es) env = (false, eval e env) :: starEach es env := by
  cases e <;> first | rfl | cases h
theorem starEach_all {env : Env} {pos : Pos} : ∀ {es : List Expr}, es.all nsE = true → (backTo pos (starEach es env)).any (·.1) = false
  | [], _ => rfl
  | e :: es, h => by
    simp only [List.all_cons, Bool.and_eq_true] at h
    rw [starEach_ns h.1]
    have := starEach_all (env := env) (pos := pos) h.2
    show (false || (backTo pos (starEach es env)).any (·.1)) = false
    rw [this]
    rfl
abbrev fNil : Slots → Sto → Res (List D) := fun _ S => .ok [] S
abbrev fCons (Fa : Slots → Sto → Res D) (Fs : Slots → Sto → Res (List D)) : Slots → Sto → Res (List D) := fun ρ S => (Fa ρ S).bind fun x S1 => (Fs ρ S1).bind fun xs S2 => .ok (x :: xs) S2
theorem da_nil : PA X [] (dA (nm X fd) E fNil) := PA.imp pa_nil fun σ H Q h => dA_nil h
theorem da_cons (ha : PE X a (dE (nm X fd) E Fa)) (hs : PA X es (dA (nm X fd) E Fs)) (hn : nsE a = true) : PA X (a :: es) (dA (nm X fd) E (fCons Fa Fs)) :=
  PA.imp (pa_cons ha hs (starEach_ns hn)) fun σ H Q h => dA_cons h
abbrev fTup (Fs : Slots → Sto → Res (List D)) : Slots → Sto → Res D := fun ρ S => (Fs ρ S).bind fun xs S1 => if xs.length ≤ sizeLine then .ok (mkT xs) S1 else .st
abbrev fLst (m : Bool) (Fs : Slots → Sto → Res (List D)) : Slots → Sto → Res D := fun ρ S => (Fs ρ S).bind fun xs S1 => if xs.length ≤ sizeLine then mkL m xs S1 else .st
theorem dv_tup {k : Nat} (hs : PA X es (dA (nm X fd) E Fs)) : PE X (.Tuple es k pos) (dE (nm X fd) E (fTup Fs)) := by
  refine PE.imp (pe_tup hs) fun σ H Q ⟨ρ, S, α, r, ok, h⟩ => ⟨ρ, S, α, r, ok, ?_⟩
  unfold fTup at h
  cases e : Fs ρ S with
  | ok xs S1 =>
    rw [e] at h
    intro vs H' α' st ok' rs
    have h := dRes.shift ok st h
    simp only [bind_ok] at h
    split at h
    · rename_i hz
      exact ⟨by rw [rs.length]; exact hz, newT ok' rs h⟩
    · exact h.elim
  | ex c e' S' => rw [e] at h; exact h
  | st => rw [e] at h; exact h
theorem dv_lst (hs : SysIn X) {m : Bool} (ha : PA X es (dA (nm X fd) E Fs)) : PE X (.List es pos) (dE (nm X fd) E (fLst m Fs)) := by
  refine PE.imp (pe_fz hs (pe_lst ha)) fun σ H Q ⟨ρ, S, α, r, ok, h⟩ => ⟨ρ, S, α, r, ok, ?_⟩
  unfold fLst at h
  cases e : Fs ρ S with
  | ok xs S1 =>
    rw [e] at h
    intro vs H' α' st ok' rs
    have h := dRes.shift ok st h
    simp only [bind_ok] at h
    split at h
    · rename_i hz
      exact ⟨by rw [rs.length]; exact hz, newL ok' rs h⟩
    · exact h.elim
  | ex c e' S' => rw [e] at h; exact h
  | st => rw [e] at h; exact h
end
end Dl

set_option linter.all false
set_option maxRecDepth 100000
set_option maxHeartbeats 4000000
/-! Dl8: targets, what is walked, comprehensions. -/
namespace Dl
open PySem PySem.Spec PyProof.Rows L2

/-! ### targets -/
mutual
inductive Tg where
  | nm (i : Nat)
  | tp (ts : Tgs)
inductive Tgs where
  | nil
  | cons (t : Tg) (ts : Tgs)
end
mutual
def setT : Tg → D → Slots → Option Slots
  | .nm i, d, ρ => some (ρ.set i (some d))
  | .tp ts, d, ρ => match tupOf d with
    | some xs => setTs ts xs ρ
    | none => none
def setTs : Tgs → List D → Slots → Option Slots
  | .nil, [], ρ => some ρ
  | .cons t ts, d :: ds, ρ => match setT t d ρ with
    | some ρ' => setTs ts ds ρ'
    | none => none
  | _, _, _ => none
end
mutual
def Tg.slots : Tg → List Nat
  | .nm i => [i]
  | .tp ts => ts.slots
def Tgs.slots : Tgs → List Nat
  | .nil => []
  | .cons t ts => t.slots ++ ts.slots
end
def Tgs.len : Tgs → Nat
  | .nil => 0
  | .cons _ ts => ts.len + 1
mutual
def gT (K : PySem.W.Frag) : Tg → TG
  | .nm i => gName i
  | .tp ts => gTup K ts.len (gTs K ts)
def gTs (K : PySem.W.Frag) : Tgs → TGs
  | .nil => gNil
  | .cons t ts => gCons (gT K t) (gTs K ts)
end
/-- the same but at some slots -/
def SameBut (js : List Nat) (σ σ' : L2.St) : Prop := σ'.length = σ.length ∧ ∀ j, j ∉ js → σ'[j]? = σ[j]?
theorem SameBut.refl {js : List Nat} {σ : L2.St} : SameBut js σ σ := ⟨rfl, fun _ _ => rfl⟩
theorem SameBut.trans {js ks : List Nat} {σ σ1 σ2 : L2.St} (a : SameBut js σ σ1) (b : SameBut ks σ1 σ2) : SameBut (js ++ ks) σ σ2 :=
  ⟨b.1.trans a.1, fun j h => by
    simp only [List.mem_append, not_or] at h
    rw [b.2 j h.2, a.2 j h.1]⟩
section
variable {N : Nm} {H : Hp} {α : List Addr}
theorem setTs_len : ∀ {ts : Tgs} {ds : List D} {ρ ρ' : Slots}, setTs ts ds ρ = some ρ' → ds.length = ts.len
  | .nil, [], _, _, _ => rfl
  | .nil, _ :: _, _, _, h => by simp [setTs] at h
  | .cons t ts, [], _, _, h => by simp [setTs] at h
  | .cons t ts, d :: ds, ρ, ρ', h => by
    unfold setTs at h
    split at h
    · exact congrArg Nat.succ (setTs_len h)
    · cases h
mutual
theorem gT_of : ∀ {t : Tg} {d : D} {ρ ρ' : Slots} {v : V} {σ : L2.St} {Q : L2.St → Hp → Prop}, setT t d ρ = some ρ' → Rho N H α σ ρ → Rp N H α v d → (∀ σ', Rho N H α σ' ρ' → SameBut t.slots σ σ' → Q σ' H) → gT N.K t v σ H Q
  | .nm i, d, ρ, ρ', v, σ, Q, e, r, rv, h => by
    simp [setT] at e
    subst e
    refine h _ (r.set i rv) ⟨by simp, fun j hj => ?_⟩
    simp [Tg.slots] at hj
    rw [List.getElem?_set_ne (fun z => hj z.symm)]
  | .tp ts, d, ρ, ρ', v, σ, Q, e, r, rv, h => by
    unfold setT at e
    split at e
    · rename_i xs e1
      obtain ⟨a, vs, e2, h1, h2⟩ := rv.tup_inv e1
      exact ⟨a, vs, e2, h1, by rw [h2.length]; exact setTs_len e, gTs_of e r h2 h⟩
    · cases e
theorem gTs_of : ∀ {ts : Tgs} {ds : List D} {ρ ρ' : Slots} {vs : List V} {σ : L2.St} {Q : L2.St → Hp → Prop}, setTs ts ds ρ = some ρ' → Rho N H α σ ρ → RpAll N H α vs ds → (∀ σ', Rho N H α σ' ρ' → SameBut ts.slots σ σ' → Q σ' H) → gTs N.K ts vs σ H Q
  | .nil, ds, ρ, ρ', vs, σ, Q, e, r, rv, h => by
    cases ds with
    | nil =>
      simp [setTs] at e
      subst e
      cases rv
      exact ⟨rfl, h σ r .refl⟩
    | cons d ds => simp [setTs] at e
  | .cons t ts, ds, ρ, ρ', vs, σ, Q, e, r, rv, h => by
    cases ds with
    | nil => simp [setTs] at e
    | cons d ds =>
      unfold setTs at e
      split at e
      · rename_i ρ1 e1
        cases rv with
        | cons r1 r2 =>
          refine ⟨_, _, rfl, gT_of e1 r r1 fun σ1 s1 b1 => gTs_of e s1 r2 fun σ2 s2 b2 => h σ2 s2 ?_⟩
          exact b1.trans b2
      · cases e
end
end

/-! ### what is walked -/
structure Src where
  xs : List D
  w : List (Nat × List D)
def Wat (w : List (Nat × List D)) (S : Sto) : Prop := ∀ q ∈ w, S[q.1]? = some (.lst q.2)
@[simp] theorem wat_nil (S : Sto) : Wat [] S ↔ True := by simp [Wat]
/-- J gives the items while the watched cells are as they were -/
def ItOk (N : Nm) (J : It) (src : Src) (α0 : List Addr) (H0 : Hp) : Prop := ∀ α S H, Up α0 H0 α H → StoOk N H α S → Wat src.w S →
  (∀ (i : Nat) (d : D), src.xs[i]? = some d → J.go i H ∧ ∀ x H', J.yld i H x H' → Stp α S H α S H' ∧ StoOk N H' α S ∧ Rp N H' α x d) ∧ J.stop src.xs.length H
def dResI (N : Nm) (E : XK) (α : List Addr) (S : Sto) (H : Hp) (r : Res Src) (R : It → Hp → Prop) : Prop := match r with
  | .ok src S' => ∀ H' α' J, Stp α S H α' S' H' → StoOk N H' α' S' → ItOk N J src α' H' → R J H'
  | .ex c e S' => ∀ cls dx H' α', Stp α S H α' S' H' → StoOk N H' α' S' → XOk N H' α' cls dx c e → E cls dx H'
  | .st => False
def dI (N : Nm) (E : XK) (F : Slots → Sto → Res Src) : TI := fun σ H R => ∃ ρ S α, Rho N H α σ ρ ∧ StoOk N H α S ∧ dResI N E α S H (F ρ S) R
theorem againI {N : Nm} {E : XK} {α α' : List Addr} {S S' : Sto} {H H' : Hp} {R : It → Hp → Prop} {src : Src} {J : It} (st : Stp α S H α' S' H') (ok : StoOk N H' α' S') (h : dResI N E α S H (.ok src S') R) (i : ItOk N J src α' H') : R J H' := h H' α' J st ok i
theorem Up.refl {α : List Addr} {H : Hp} : Up α H α H := ⟨fun _ _ h => h, fun _ _ h _ => h⟩
theorem Up.trans {α α1 α2 : List Addr} {H H1 H2 : Hp} (a : Up α H α1 H1) (b : Up α1 H1 α2 H2) : Up α H α2 H2 := ⟨fun l x h => b.loc l x (a.loc l x h), fun x u h f => b.fix x u (a.fix x u h f) f⟩
theorem PI.imp {X : Cx} {tg e : Expr} {t t' : TI} (h : PI X tg e t) (i : ∀ σ H Q, t' σ H Q → t σ H Q) : PI X tg e t' := ⟨fun pins s σ H Q I q => h.run pins s σ H Q I (i σ H Q q)⟩
/-- what a list, a tuple, a text gives -/
def srcOf (d : D) (S : Sto) : Option Src := match d with
  | .p (.tuple ds) => some ⟨ds.map D.p, []⟩
  | .p (.list ds) => some ⟨ds.map D.p, []⟩
  | .tup xs => some ⟨xs, []⟩
  | .p (.str z) => some ⟨z.cps.toList.map fun c => .s ⟨#[c]⟩, []⟩
  | .loc l => match S[l]? with
    | some (.lst xs) => some ⟨xs, [(l, xs)]⟩
    | _ => none
  | _ => none
@[simp] theorem srcOf_tuple (ds : List PyData) (S : Sto) : srcOf (.p (.tuple ds)) S = some ⟨ds.map D.p, []⟩ := rfl
@[simp] theorem srcOf_list (ds : List PyData) (S : Sto) : srcOf (.p (.list ds)) S = some ⟨ds.map D.p, []⟩ := rfl
abbrev fSeq (Fa : Slots → Sto → Res D) : Slots → Sto → Res Src := fun ρ S => (Fa ρ S).bind fun d S1 => match srcOf d S1 with
  | some src => .ok src S1
  | none => .st
theorem itOk_tup {N : Nm} {H0 : Hp} {α0 : List Addr} {a : Addr} {vs : List V} {xs : List D} (h : SqT N.K H0 a vs) (r : RpAll N H0 α0 vs xs) : ItOk N (Itt N.K a) ⟨xs, []⟩ α0 H0 := fun α S H u ok _ => by
  have h1 := u.sqT h
  have r1 := u.rpAll r
  refine ⟨fun i d e => ?_, ⟨vs, h1, by rw [r1.length]; exact Nat.le_refl _⟩⟩
  obtain ⟨v, e1, rv⟩ := r1.get e
  refine ⟨⟨vs, v, h1, e1⟩, fun x H' y => ?_⟩
  obtain ⟨e2, y⟩ := y
  subst e2
  have := y vs h1
  rw [e1] at this
  cases this
  exact ⟨.refl, ok, rv⟩
theorem itOk_frz {N : Nm} {H0 : Hp} {α0 : List Addr} {a : Addr} {vs : List V} {xs : List D} (h : FzL N.K H0 a vs) (r : RpAll N H0 α0 vs xs) : ItOk N (Itl N.K a) ⟨xs, []⟩ α0 H0 := fun α S H u ok _ => by
  have h1 : SqL N.K H a vs := (u.fzL h).sq
  have r1 := u.rpAll r
  refine ⟨fun i d e => ?_, ⟨vs, h1, by rw [r1.length]; exact Nat.le_refl _⟩⟩
  obtain ⟨v, e1, rv⟩ := r1.get e
  refine ⟨⟨vs, v, h1, e1⟩, fun x H' y => ?_⟩
  obtain ⟨e2, y⟩ := y
  subst e2
  have := y vs h1
  rw [e1] at this
  cases this
  exact ⟨.refl, ok, rv⟩
theorem itOk_cell {N : Nm} {H0 : Hp} {α0 : List Addr} {a : Addr} {l : Nat} {xs : List D} (h : α0[l]? = some a) : ItOk N (Itl N.K a) ⟨xs, [(l, xs)]⟩ α0 H0 := fun α S H u ok w => by
  have q : S[l]? = some (.lst xs) := w (l, xs) (by simp)
  obtain ⟨vs, h1, r1⟩ := ok.cell l a _ (u.loc l a h) q
  have h2 : SqL N.K H a vs := .inl (.inl h1)
  refine ⟨fun i d e => ?_, ⟨vs, h2, by rw [r1.length]; exact Nat.le_refl _⟩⟩
  obtain ⟨v, e1, rv⟩ := r1.get e
  refine ⟨⟨vs, v, h2, e1⟩, fun x H' y => ?_⟩
  obtain ⟨e2, y⟩ := y
  subst e2
  have := y vs h2
  rw [e1] at this
  cases this
  exact ⟨.refl, ok, rv⟩
theorem itOk_str {N : Nm} {H0 : Hp} {α0 : List Addr} {z : Str} : ItOk N (Its z) ⟨z.cps.toList.map fun c => .s ⟨#[c]⟩, []⟩ α0 H0 := fun α S H u ok _ => by
  refine ⟨fun i d e => ?_, by show z.cps.size ≤ _; simp⟩
  rw [List.getElem?_map, Option.map_eq_some_iff] at e
  obtain ⟨c, e1, e2⟩ := e
  subst e2
  refine ⟨by have := (List.getElem?_eq_some_iff.mp e1).1; show i < z.cps.size; simpa using this, fun x H' y => ?_⟩
  obtain ⟨e2, c', e3, e4⟩ := y
  subst e2 e4
  have : c' = c := by
    have e5 : z.cps[i]? = some c := by rw [← Array.getElem?_toList]; exact e1
    rw [e3] at e5
    exact Option.some.inj e5
  subst this
  exact ⟨.refl, ok, .p (.str _)⟩
theorem itOk_rng {N : Nm} {H0 : Hp} {α0 : List Addr} {lo : Int} {n : Nat} : ItOk N (Itr lo n) ⟨(List.range n).map fun k => .i (lo + (k : Nat)), []⟩ α0 H0 := fun α S H u ok _ => by
  refine ⟨fun i d e => ?_, by show n ≤ _; simp⟩
  rw [List.getElem?_map, Option.map_eq_some_iff] at e
  obtain ⟨c, e1, e2⟩ := e
  subst e2
  have hi : i < n := by have := (List.getElem?_eq_some_iff.mp e1).1; simpa using this
  refine ⟨hi, fun x H' y => ?_⟩
  obtain ⟨e2, e3⟩ := y
  subst e2 e3
  rw [List.getElem?_range hi] at e1
  cases e1
  exact ⟨.refl, ok, .p (.int _)⟩
theorem itOk_rngC {N : Nm} {H0 : Hp} {α0 : List Addr} {lo c : Int} {n : Nat} : ItOk N (Itc lo c n) ⟨(List.range n).map fun k => .i (lo + (k : Nat) * c), []⟩ α0 H0 := fun α S H u ok _ => by
  refine ⟨fun i d e => ?_, by show n ≤ _; simp⟩
  rw [List.getElem?_map, Option.map_eq_some_iff] at e
  obtain ⟨k, e1, e2⟩ := e
  subst e2
  have hi : i < n := by have := (List.getElem?_eq_some_iff.mp e1).1; simpa using this
  refine ⟨hi, fun x H' y => ?_⟩
  obtain ⟨e2, e3⟩ := y
  subst e2 e3
  rw [List.getElem?_range hi] at e1
  cases e1
  exact ⟨.refl, ok, .p (.int _)⟩
section
variable {X : Cx} {fd : Str → Str} {E : XK} {tg e : Expr} {te : TE}
/-- an iterator of a new object is had -/
theorem pie_new {pins : List (Addr × Obj)} {σ : L2.St} {H : Hp} {s : Shared} {R : It → Hp → Prop} {J : It} {o : Obj} {tn : Nat → Heap → Prop} {tk : Nat} (I : Inv X pins σ H s) (T : Turn X.prog X.w X.K tg J [s.heap.objs.size] s.heap.objs.size tn) (t0 : tn 0 (s.heap.push o)) (q : R J H) :
    PIE X pins σ tg R (.ref s.heap.objs.size) { s with heap := s.heap.push o, toks := tk } := by
  refine ⟨s.heap.objs.size, [s.heap.objs.size], tn, J, H, rfl, I.kept (t' := tk) fun b u z => Heap.get?_push_of_some _ z, T, t0, fun b hb => ?_, q⟩
  have z : b = s.heap.objs.size := by simpa using hb
  rw [z]
  exact I.fpOk (Nat.le_refl _) I.fresh
theorem pi_any (h : PE X e te) : PI X tg e (fun σ H R => te σ H fun x H1 => (∃ a xs, x = .ref a ∧ SqL X.K H1 a xs ∧ R (Itl X.K a) H1) ∨ (∃ a xs, x = .ref a ∧ SqT X.K H1 a xs ∧ R (Itt X.K a) H1) ∨ ∃ z, x = .str z ∧ R (Its z) H1) := by
  refine ⟨fun pins s σ H R I q => thn (h.run pins s σ H _ I q) fun v s1 ⟨x, H1, I1, rx, q1⟩ => ?_⟩
  rcases q1 with ⟨a, xs, ex, hx, q1⟩ | ⟨a, xs, ex, hx, q1⟩ | ⟨z, ex, q1⟩
  · subst ex
    cases rx
    obtain ⟨its, rv, p, _⟩ := I1.list hx
    exact wpAny_pyIter_list p.isList (pie_new (tk := s1.toks) I1 (turn_list a _) ⟨_, Heap.get?_push_size _ rfl, rfl, rfl⟩ q1)
  · subst ex
    cases rx
    obtain ⟨its, rv, p, _⟩ := I1.tuple hx
    exact wpAny_pyIter_tuple (show s1.heap.IsTuple a its.toArray from p) (pie_new (tk := s1.toks) I1 (turn_tuple a _) ⟨_, Heap.get?_push_size _ rfl, rfl, rfl⟩ q1)
  · subst ex
    obtain ⟨t, rfl⟩ := rx
    cases hz : z.cps.all (· < 128) with
    | false => exact wpAny_pyIter_wide hz (pie_new (tk := s1.toks) I1 (turn_str _ z t "str_iterator" (.inr rfl)) ⟨_, Heap.get?_push_size _ rfl, rfl, rfl⟩ q1)
    | true => exact wpAny_pyIter_ascii hz (pie_new (tk := s1.toks) I1 (turn_str _ z t "str_ascii_iterator" (.inl rfl)) ⟨_, Heap.get?_push_size _ rfl, rfl, rfl⟩ q1)
theorem di_seq {Fa : Slots → Sto → Res D} (ha : PE X e (dE (nm X fd) E Fa)) : PI X tg e (dI (nm X fd) E (fSeq Fa)) := by
  refine PI.imp (pi_any ha) fun σ H R ⟨ρ, S, α, r, ok, h⟩ => ⟨ρ, S, α, r, ok, ?_⟩
  unfold fSeq at h
  cases q : Fa ρ S with
  | ok d S1 =>
    rw [q] at h
    simp only [bind_ok] at h
    intro v H' α' st ok' rv
    split at h
    · rename_i src e1
      unfold srcOf at e1
      split at e1
      · cases e1
        obtain ⟨a, vs, e2, h1, h2⟩ := rv.tup_inv (xs := _) rfl
        exact .inr (.inl ⟨a, vs, e2, h1, againI st ok' h (itOk_tup h1 h2)⟩)
      · cases e1
        cases rv with
        | p hp =>
          cases hp with
          | lst h1 h2 h3 => exact .inl ⟨_, _, rfl, h1.sq, againI st ok' h (itOk_frz h1 (RpAll.ofP h3))⟩
      · cases e1
        obtain ⟨a, vs, e2, h1, h2⟩ := rv.tup_inv (xs := _) rfl
        exact .inr (.inl ⟨a, vs, e2, h1, againI st ok' h (itOk_tup h1 h2)⟩)
      · cases e1
        exact .inr (.inr ⟨_, rv.str_inv, againI st ok' h itOk_str⟩)
      · split at e1
        · rename_i xs e3
          cases e1
          cases rv with
          | loc hl =>
            obtain ⟨vs, h1, h2⟩ := ok'.cell _ _ _ hl e3
            exact .inl ⟨_, vs, rfl, .inl (.inl h1), againI st ok' h (itOk_cell hl)⟩
        · cases e1
      · cases e1
    · exact h.elim
  | ex c e' S' => rw [q] at h; exact h
  | st => rw [q] at h; exact h
end

/-! ### ranges -/
/-- an index (told apart, so that it is never reckoned out) -/
def RgB (j : Int) : Prop := -(2 ^ 62) ≤ j ∧ j < 2 ^ 62
open Classical in
noncomputable abbrev fRng1 (Fa : Slots → Sto → Res D) : Slots → Sto → Res Src := fun ρ S => (Fa ρ S).bind fun d S1 => match d with
  | .p (.int j) => if RgB j then .ok ⟨(List.range j.toNat).map fun k => .i (k : Nat), []⟩ S1 else .st
  | _ => .st
open Classical in
noncomputable abbrev fRng2 (Fs : Slots → Sto → Res (List D)) : Slots → Sto → Res Src := fun ρ S => (Fs ρ S).bind fun d S1 => match d with
  | [.p (.int i), .p (.int j)] => if RgB i ∧ RgB j then .ok ⟨(List.range (j - i).toNat).map fun k => .i (i + (k : Nat)), []⟩ S1 else .st
  | _ => .st
def rngSize (i j c : Int) : Nat := (Builtin.Range.rangeSize i j c).toNat
open Classical in
noncomputable abbrev fRng3 (Fs : Slots → Sto → Res (List D)) : Slots → Sto → Res Src := fun ρ S => (Fs ρ S).bind fun d S1 => match d with
  | [.p (.int i), .p (.int j), .p (.int c)] => if RgC i j c (rngSize i j c) then .ok ⟨(List.range (rngSize i j c)).map fun k => .i (i + (k : Nat) * c), []⟩ S1 else .st
  | _ => .st
section
variable {X : Cx} {fd : Str → Str} {E : XK} {tg : Expr} {a b c : Expr} {p pos : Pos}
theorem di_rng1 {Fs : Slots → Sto → Res D} (hg : Gl X "range") (hm : X.mg "range" = none) (ha : PE X a (dE (nm X fd) E Fs)) (hn : nsE a = true) : PI X tg (.Call (.Name "range" p) [a] [] pos) (dI (nm X fd) E (fRng1 Fs)) := by
  refine PI.imp (pi_range1 hg hm (pa_cons ha pa_nil (starEach_ns hn)) (starEach_ns hn)) fun σ H R ⟨ρ, S, α, r, ok, h⟩ => ⟨ρ, S, α, r, ok, ?_⟩
  unfold fRng1 at h
  cases q : Fs ρ S with
  | ok d S1 =>
    rw [q] at h
    simp only [bind_ok] at h
    intro v H' α' st ok' rv
    split at h
    · rename_i j
      split at h
      · rename_i hz
        have hz : -(2 ^ 62) ≤ j ∧ j < 2 ^ 62 := hz
        refine ⟨j, by rw [rv.int_inv], hz.1, hz.2, againI st ok' h ?_⟩
        have := itOk_rng (N := nm X fd) (H0 := H') (α0 := α') (lo := 0) (n := j.toNat)
        simpa using this
      · exact h.elim
    · exact h.elim
  | ex c e' S' => rw [q] at h; exact h
  | st => rw [q] at h; exact h
theorem ints2 {N : Nm} {H : Hp} {α : List Addr} {vs : List V} {i j : Int} (r : RpAll N H α vs [.p (.int i), .p (.int j)]) : vs = [.int i, .int j] := by
  cases r with
  | cons r1 r =>
    cases r with
    | cons r2 r =>
      cases r
      rw [r1.int_inv, r2.int_inv]
theorem ints3 {N : Nm} {H : Hp} {α : List Addr} {vs : List V} {i j k : Int} (r : RpAll N H α vs [.p (.int i), .p (.int j), .p (.int k)]) : vs = [.int i, .int j, .int k] := by
  cases r with
  | cons r1 r =>
    rw [ints2 r, r1.int_inv]
theorem di_rng2 {Fs : Slots → Sto → Res (List D)} (hg : Gl X "range") (hm : X.mg "range" = none) (ha : PA X [a, b] (dA (nm X fd) E Fs)) (hn : nsE a = true) (hn2 : nsE b = true) : PI X tg (.Call (.Name "range" p) [a, b] [] pos) (dI (nm X fd) E (fRng2 Fs)) := by
  refine PI.imp (pi_range2 hg hm ha (by rw [starEach_ns hn, starEach_ns hn2]; rfl) (by rw [starEach_ns hn2]; rfl)) fun σ H R ⟨ρ, S, α, r, ok, h⟩ => ⟨ρ, S, α, r, ok, ?_⟩
  unfold fRng2 at h
  cases q : Fs ρ S with
  | ok d S1 =>
    rw [q] at h
    simp only [bind_ok] at h
    intro v H' α' st ok' rv
    split at h
    · rename_i i j
      split at h
      · rename_i hz
        have hz : (-(2 ^ 62) ≤ i ∧ i < 2 ^ 62) ∧ -(2 ^ 62) ≤ j ∧ j < 2 ^ 62 := hz
        exact ⟨i, j, ints2 rv, ⟨hz.1.1, hz.1.2, hz.2.1, hz.2.2⟩, againI st ok' h itOk_rng⟩
      · exact h.elim
    · exact h.elim
  | ex c e' S' => rw [q] at h; exact h
  | st => rw [q] at h; exact h
theorem di_rng3 {Fs : Slots → Sto → Res (List D)} (hg : Gl X "range") (hm : X.mg "range" = none) (ha : PA X [a, b, c] (dA (nm X fd) E Fs)) (hn : nsE a = true) (hn2 : [b, c].all nsE = true) : PI X tg (.Call (.Name "range" p) [a, b, c] [] pos) (dI (nm X fd) E (fRng3 Fs)) := by
  refine PI.imp (pi_range3 hg hm ha (starEach_ns hn) (starEach_all hn2)) fun σ H R ⟨ρ, S, α, r, ok, h⟩ => ⟨ρ, S, α, r, ok, ?_⟩
  unfold fRng3 at h
  cases q : Fs ρ S with
  | ok d S1 =>
    rw [q] at h
    simp only [bind_ok] at h
    intro v H' α' st ok' rv
    split at h
    · rename_i i j k
      split at h
      · rename_i hz
        exact ⟨i, j, k, _, ints3 rv, hz, againI st ok' h itOk_rngC⟩
      · exact h.elim
    · exact h.elim
  | ex c e' S' => rw [q] at h; exact h
  | st => rw [q] at h; exact h
end
end Dl

set_option linter.all false
set_option maxRecDepth 100000
set_option maxHeartbeats 4000000
/-! Dl9: list comprehensions by plain values. -/
namespace Dl
open PySem PySem.Spec PyProof.Rows L2

def Res.nx {α : Type} : Res α → Res α
  | .ok a S => .ok a S
  | _ => .st
@[simp] theorem nx_ok {α : Type} (a : α) (S : Sto) : (Res.ok a S).nx = .ok a S := rfl
def wipeD (ρ : Slots) : List Nat → Slots
  | [] => ρ
  | v :: vs => (wipeD ρ vs).set v none
open Classical in
noncomputable def lcLoop (w : List (Nat × List D)) (t : Tg) (ρ : Slots) (Tt : Slots → Sto → Res Bool) (Fe : Slots → Sto → Res D) : List D → List D → Sto → Res (List D)
  | [], acc, S => if Wat w S then .ok acc S else .st
  | x :: xs, acc, S => if Wat w S then (match setT t x ρ with
      | some ρ' => (Tt ρ' S).nx.bind fun k S1 => match k with
        | true => (Fe ρ' S1).nx.bind fun y S2 => if acc.length < sizeLine then lcLoop w t ρ Tt Fe xs (acc ++ [y]) S2 else .st
        | false => lcLoop w t ρ Tt Fe xs acc S1
      | none => .st) else .st
noncomputable abbrev fLc (m : Bool) (Fi : Slots → Sto → Res Src) (t : Tg) (own : List Nat) (Tt : Slots → Sto → Res Bool) (Fe : Slots → Sto → Res D) : Slots → Sto → Res D := fun ρ S =>
  (Fi ρ S).bind fun src S1 => (lcLoop src.w t (wipeD ρ own) Tt Fe src.xs [] S1).bind fun acc S2 => mkL m acc S2
abbrev fYes : Slots → Sto → Res Bool := fun _ S => .ok true S

section
variable {N : Nm} {E : XK} {H H' H1 : Hp} {α α1 : List Addr} {S S1 : Sto} {σ : L2.St} {ρ : Slots} {p : Addr} {o : HO} {vs : List V} {xs : List D}
theorem Rho.wipe (r : Rho N H α σ ρ) : ∀ own : List Nat, Rho N H α (wipe σ own) (wipeD ρ own)
  | [] => r
  | v :: own => by
    have q := r.wipe own
    unfold L2.wipe wipeD
    refine ⟨by simp [q.len], fun i d h => ?_⟩
    by_cases z : v = i
    · subst z
      by_cases hi : v < (wipeD ρ own).length
      · rw [List.getElem?_set_self hi] at h
        cases h
      · rw [List.getElem?_eq_none (by simpa using hi)] at h
        cases h
    · rw [List.getElem?_set_ne z] at h ⊢
      exact q.at_ i d h
theorem wipe_at {σ : L2.St} {j : Nat} : ∀ {own : List Nat}, (wipe σ own)[j]? = if j ∈ own ∧ j < σ.length then some none else σ[j]?
  | [] => by simp [wipe]
  | v :: own => by
    unfold wipe
    by_cases z : v = j
    · subst z
      by_cases hi : v < σ.length
      · rw [List.getElem?_set_self (by rw [wipe_length]; exact hi), if_pos ⟨by simp, hi⟩]
      · rw [List.getElem?_eq_none (by rw [List.length_set, wipe_length]; omega), if_neg (fun q => hi q.2), List.getElem?_eq_none (by omega)]
    · rw [List.getElem?_set_ne z, wipe_at (own := own)]
      have this : (j ∈ v :: own) ↔ j ∈ own := ⟨fun h => (List.mem_cons.mp h).resolve_left fun q => z q.symm, List.mem_cons_of_mem _⟩
      simp only [this]
theorem wipe_same {own js : List Nat} {σ σ2 : L2.St} (h : SameBut js (wipe σ own) σ2) (hs : ∀ j ∈ js, j ∈ own) : wipe σ2 own = wipe σ own := by
  have hl : σ2.length = σ.length := by rw [h.1, wipe_length]
  refine List.ext_getElem? fun j => ?_
  rw [wipe_at, wipe_at, hl]
  by_cases z : j ∈ own ∧ j < σ.length
  · rw [if_pos z, if_pos z]
  · rw [if_neg z, if_neg z]
    by_cases hj : j ∈ own
    · rw [List.getElem?_eq_none (by rw [hl]; exact Nat.le_of_not_lt fun q => z ⟨hj, q⟩), List.getElem?_eq_none (Nat.le_of_not_lt fun q => z ⟨hj, q⟩)]
    · rw [h.2 j (fun q => hj (hs j q)), wipe_at, if_neg z]
/-- an object beside the cells that nothing leans on is changed -/
theorem up_side {u : HO} (e : H p = some u) (hf : ¬ Fix u) : Up α H α (upd H p o) := ⟨fun _ _ h => h, fun x w h f => by
  rw [upd_ne]
  · exact h
  · rintro rfl
    rw [e] at h
    cases h
    exact hf f⟩
theorem sto_side {u : HO} (ok : StoOk N H α S) (e : H p = some u) (hf : ¬ Fix u) (hp : p ∉ α) : StoOk N (upd H p o) α S :=
  ⟨ok.len, ok.nd, fun l a c h1 h2 => (ok.cell l a c h1 h2).up (up_side e hf) (upd_ne fun q => hp (q ▸ List.mem_of_getElem? h1))⟩
theorem stp_side (st : Stp α1 S1 H1 α S H) (hp : H1 p = none) : Stp α1 S1 H1 α S (upd H p o) :=
  ⟨st.pre, st.dead, fun a u e nl => by rw [upd_ne (ne_of_none e hp)]; exact st.keep a u e nl, fun a h => by
    rw [upd_ne]
    · exact st.there a h
    · rintro rfl
      exact h hp⟩
theorem up_side2 (st : Up α1 H1 α H) (hp : H1 p = none) : Up α1 H1 α (upd H p o) := ⟨st.loc, fun x u e f => by rw [upd_ne (ne_of_none e hp)]; exact st.fix x u e f⟩
theorem Stp.out (st : Stp α1 S1 H1 α S H) (h : H1 p ≠ none) (n : p ∉ α1) : p ∉ α := by
  obtain ⟨β, e, f⟩ := st.pre
  rw [e]
  intro z
  rcases List.mem_append.mp z with z | z
  · exact n z
  · exact h (f p z)
/-- a list beside the cells, new since the base, becomes the value -/
theorem oldL {m : Bool} {Q : VK} (ok1 : StoOk N H1 α1 S1) (ok : StoOk N H α S) (st : Stp α1 S1 H1 α S H) (h1 : H1 p = none) (hp : H p = some (.lst vs)) (np : p ∉ α) (r : RpAll N H α vs xs) (h : dRes N E α1 S1 H1 (mkL m xs S) Q) : FzOr Q (.ref p) H := by
  have cell : dRes N E α1 S1 H1 (.ok (.loc S.length) (S ++ [.lst xs])) Q → Q (.ref p) H := fun h => by
    have up : Up α H (α ++ [p]) H := ⟨fun l x e => by rw [List.getElem?_append_left (List.getElem?_eq_some_iff.mp e).1]; exact e, fun _ _ e _ => e⟩
    refine h _ _ (α ++ [p]) ?_ ?_ (.loc ?_)
    · obtain ⟨β, e, f⟩ := st.pre
      refine ⟨⟨β ++ [p], by rw [e, List.append_assoc], fun a ha => ?_⟩, fun l e => ?_, st.keep, st.there⟩
      · rcases List.mem_append.mp ha with z | z
        · exact f a z
        · have : a = p := by simpa using z
          rw [this]
          exact h1
      · have q := st.dead l e
        rw [List.getElem?_append_left (List.getElem?_eq_some_iff.mp q).1]
        exact q
    · refine ⟨by simp [ok.len], ?_, fun l a c g1 g2 => ?_⟩
      · rw [List.nodup_append]
        refine ⟨ok.nd, by simp, fun a ha b hb => ?_⟩
        simp at hb
        subst hb
        rintro rfl
        exact np ha
      · by_cases hl : l < α.length
        · rw [List.getElem?_append_left hl] at g1
          rw [List.getElem?_append_left (by rw [← ok.len]; exact hl)] at g2
          exact (ok.cell l a c g1 g2).up up rfl
        · have hl' : l = α.length := by
            have := (List.getElem?_eq_some_iff.mp g1).1
            simp at this
            omega
          subst hl'
          simp at g1
          rw [ok.len] at g2
          simp at g2
          subst g1
          subst g2
          exact ⟨vs, hp, up.rpAll r⟩
    · rw [← ok.len]
      simp
  cases m with
  | true =>
    rw [mkL_true] at h
    exact .inl (cell h)
  | false =>
    unfold mkL at h
    cases e : allP xs with
    | none =>
      rw [e] at h
      exact .inl (cell h)
    | some ds =>
      rw [e] at h
      refine .inr ⟨p, vs, rfl, hp, fun o ho => ?_⟩
      have := allP_eq e
      subst this
      have nf : ¬ Fix (HO.lst vs) := fun z => z
      exact h _ _ α (stp_side st h1) (sto_side ok hp nf np) (.p (.lst (.inl ⟨_, upd_same⟩) ho ((up_side hp nf).rpAll r).toP))
abbrev E0 : XK := fun _ _ _ => False
theorem dE_lc {m : Bool} {Fi : Slots → Sto → Res Src} {t : Tg} {own : List Nat} {Tt : Slots → Sto → Res Bool} {Fe : Slots → Sto → Res D} {Q : VK} (hs : ∀ j ∈ t.slots, j ∈ own)
    (h : dE N E (fLc m Fi t own Tt Fe) σ H Q) : tLc (dI N E Fi) (gT N.K t) (dT N E0 Tt) (dE N E0 Fe) own σ H (FzOr Q) := by
  obtain ⟨ρ, S, α, r, ok, h⟩ := h
  refine ⟨ρ, S, α, r, ok, ?_⟩
  unfold fLc at h
  cases q : Fi ρ S with
  | ex c e' S' => rw [q] at h; exact h
  | st => rw [q] at h; exact h
  | ok src S1 =>
    rw [q] at h
    simp only [bind_ok] at h
    intro H1 α1 J st1 ok1 it p hp
    have h := dRes.shift ok st1 h
    have r1 := r.step ok st1
    generalize hr : lcLoop src.w t (wipeD ρ own) Tt Fe src.xs [] S1 = res at h
    -- the invariant
    refine ⟨fun i k H => k = src.xs.length - i ∧ i ≤ src.xs.length ∧ ∃ α S acc vs, Stp α1 S1 H1 α S H ∧ Up α1 H1 α H ∧ StoOk N H α S ∧ p ∉ α ∧ H p = some (.lst vs) ∧ RpAll N H α vs acc ∧
      lcLoop src.w t (wipeD ρ own) Tt Fe (src.xs.drop i) acc S = res, ⟨src.xs.length, by simp, Nat.zero_le _, α1, S1, [], [], step_new ok1 hp, (step_new ok1 hp).up ok1, sto_new ok1 hp, ok1.fresh hp, upd_same, .nil, by simpa using hr⟩, ?_⟩
    rintro i k H ⟨rfl, hi, α, S, acc, vs, st, up, ok', np, hD, ra, hl⟩
    have bad : res = .st → False := fun z => by
      rw [z] at h
      exact h
    by_cases hlt : i < src.xs.length
    · rw [List.drop_eq_getElem_cons hlt] at hl
      unfold lcLoop at hl
      split at hl
      · rename_i hw
        obtain ⟨its, _⟩ := it α S H up ok' hw
        obtain ⟨go, yl⟩ := its i _ (List.getElem?_eq_getElem hlt)
        refine .inr ⟨go, fun H' => ∃ α S acc vs, Stp α1 S1 H1 α S H' ∧ Up α1 H1 α H' ∧ StoOk N H' α S ∧ p ∉ α ∧ H' p = some (.lst vs) ∧ RpAll N H' α vs acc ∧
          lcLoop src.w t (wipeD ρ own) Tt Fe (src.xs.drop (i + 1)) acc S = res, fun H' w => ⟨_, by omega, rfl, hlt, w⟩, fun x H2 y => ?_⟩
        obtain ⟨st2, ok2, rx⟩ := yl x H2 y
        split at hl
        · rename_i ρ' e1
          have st12 := st.trans ok1 st2
          have up12 := up.trans (st2.up ok')
          have rw2 : Rho N H2 α (wipe σ own) (wipeD ρ own) := by
            have := r1.wipe own
            exact ⟨this.len, fun i d z => let ⟨v, a, b⟩ := this.at_ i d z; ⟨v, a, up12.rp b⟩⟩
          have nl : ¬ Live α S p := fun z => np z.mem
          have hD2 := st2.keep p _ hD nl
          have ra2 := st2.rpAll ok' ra
          refine gT_of e1 rw2 rx fun σ2 s2 b2 => ⟨wipe_same b2 hs, ?_⟩
          refine ⟨ρ', S, α, s2, ok2, ?_⟩
          cases e2 : Tt ρ' S with
          | ex c e' S' => rw [e2] at hl; exact (bad hl.symm).elim
          | st => rw [e2] at hl; exact (bad hl.symm).elim
          | ok k S3 =>
            rw [e2] at hl
            simp only [nx_ok, bind_ok] at hl
            intro H3 α3 st3 ok3
            have st13 := st12.trans ok1 st3
            have up13 := up12.trans (st3.up ok2)
            have np3 : p ∉ α3 := st3.out (by rw [hD2]; exact fun z => nomatch z) np
            have nl2 : ¬ Live α S p := fun z => np z.mem
            have hD3 := st3.keep p _ hD2 nl2
            have ra3 := st3.rpAll ok2 ra2
            cases k with
            | false =>
              refine iteF ?_
              exact ⟨α3, S3, acc, vs, st13, up13, ok3, np3, hD3, ra3, hl⟩
            | true =>
              refine iteT ?_
              simp only at hl
              refine ⟨ρ', S3, α3, s2.step ok2 st3, ok3, ?_⟩
              cases e3 : Fe ρ' S3 with
              | ex c e' S' => rw [e3] at hl; exact (bad hl.symm).elim
              | st => rw [e3] at hl; exact (bad hl.symm).elim
              | ok y S4 =>
                rw [e3] at hl
                simp only [nx_ok, bind_ok] at hl
                intro v H4 α4 st4 ok4 rv
                have nl3 : ¬ Live α3 S3 p := fun z => np3 z.mem
                have hD4 := st4.keep p _ hD3 nl3
                have np4 : p ∉ α4 := st4.out (by rw [hD3]; exact fun z => nomatch z) np3
                have ra4 := st4.rpAll ok3 ra3
                split at hl
                · rename_i hz
                  have nf : ¬ Fix (HO.lst vs) := fun z => z
                  have us := up_side (α := α4) (o := HO.lst (vs ++ [v])) hD4 nf
                  refine ⟨vs, hD4, by rw [ra4.length]; exact hz, α4, S4, acc ++ [y], vs ++ [v], stp_side (st13.trans ok1 st4) hp, up_side2 (up13.trans (st4.up ok3)) hp, sto_side ok4 hD4 nf np4, np4, upd_same, (us.rpAll ra4).append (.cons (us.rp rv) .nil), hl⟩
                · exact (bad hl.symm).elim
        · exact (bad hl.symm).elim
      · exact (bad hl.symm).elim
    · have ei : i = src.xs.length := by omega
      subst ei
      rw [List.drop_length] at hl
      unfold lcLoop at hl
      split at hl
      · rename_i hw
        obtain ⟨_, stop⟩ := it α S H up ok' hw
        refine .inl ⟨stop, ?_⟩
        rw [← hl] at h
        exact oldL ok1 ok' st hp hD np ra h
      · exact (bad hl.symm).elim
end
section
variable {X : Cx} {fd : Str → Str} {E : XK}
theorem PTs.imp {X : Cx} {e : List Expr} {t t' : TT} (h : PTs X e t) (i : ∀ σ H Q, t' σ H Q → t σ H Q) : PTs X e t' := ⟨fun pins s σ H Q I q => h.run pins s σ H Q I (i σ H Q q)⟩
theorem dts_nil : PTs X [] (dT (nm X fd) E fYes) := PTs.imp pts_nil fun σ H Q ⟨ρ, S, α, r, ok, h⟩ => againT ok h
theorem dts_one {c : Expr} {Tc : Slots → Sto → Res Bool} (h : PT X c (dT (nm X fd) E Tc)) : PTs X [c] (dT (nm X fd) E Tc) := pts_one h
theorem dv_lc (hsy : SysIn X) {elt tg iter : Expr} {ifs : List Expr} {scope : Scope} {own : List (Str × Nat)} {pos : Pos} {m : Bool} {Fi : Slots → Sto → Res Src} {t : Tg} {Tt : Slots → Sto → Res Bool} {Fe : Slots → Sto → Res D}
    (hc : X.calm = true) (hN : X.N.Nodup) (hi : PI X tg iter (dI (nm X fd) E Fi)) (ok : BlkOk X.N X.env.scope scope own) (hj : ∀ j ∈ t.slots, j ∈ own.map (·.2))
    (hg : ∀ (s : Shared) (H : Hp) (C : Addr) (cl : List (Str × Addr)) (fp : List Addr), PG (X.blk s H scope (compEnvC scope cl C X.env) fp) tg (gT X.K t))
    (ht : ∀ (s : Shared) (H : Hp) (C : Addr) (cl : List (Str × Addr)) (fp : List Addr), PTs (X.blk s H scope (compEnvC scope cl C X.env) fp) ifs (dT (nm X fd) E0 Tt))
    (he : ∀ (s : Shared) (H : Hp) (C : Addr) (cl : List (Str × Addr)) (fp : List Addr), PE (X.blk s H scope (compEnvC scope cl C X.env) fp) elt (dE (nm X fd) E0 Fe))
    (hs : ∀ x, foldedSetIterable iter X.env x = pure x) : PE X (.ListComp elt [⟨tg, iter, ifs, 0⟩] scope pos) (dE (nm X fd) E (fLc m Fi t (own.map (·.2)) Tt Fe)) :=
  PE.imp (pe_fz hsy (pe_lc hc hN hi ok hg ht he hs)) fun σ H Q h => dE_lc hj h
end
end Dl

set_option linter.all false
set_option maxRecDepth 100000
set_option maxHeartbeats 4000000
/-! Dl10: stores and statements by plain values. -/
namespace Dl
open PySem PySem.Spec PyProof.Rows L2

def putKD {κ : Type} [DecidableEq κ] (kvs : List (κ × D)) (k : κ) (v : D) : List (κ × D) :=
  if (kvs.any fun q => decide (q.1 = k)) = true then kvs.map (fun q => if q.1 = k then (q.1, v) else q) else kvs ++ [(k, v)]
def putFD (f : Str) (v : D) : List (Str × D) → List (Str × D)
  | [] => [(f, v)]
  | (g, x) :: r => if g = f then (g, v) :: r else (g, x) :: putFD f v r
/-- o[i] = v -/
def opSet (o i v : D) (S : Sto) : Res Unit := match o with
  | .loc l => match S[l]? with
    | some (.lst xs) => match i with
      | .p (.int k) => match ixN xs.length k with
        | some j => .ok () (S.set l (.lst (xs.set j v)))
        | none => .st
      | _ => .st
    | some (.dK kvs) => match keyOf i with
      | some k => if kvs.length < sizeLine then .ok () (S.set l (.dK (putKD kvs k v))) else .st
      | none => .st
    | _ => .st
  | _ => .st
def opSetF (fl : List (Str × Str)) (f : Str) (o v : D) (S : Sto) : Res Unit := match o with
  | .loc l => match S[l]? with
    | some (.ins C fs) => if fs.length < 1000 ∧ (C, f) ∈ fl then .ok () (S.set l (.ins C (putFD f v fs))) else .st
    | _ => .st
  | _ => .st

section
variable {N : Nm} {H : Hp} {α : List Addr} {S : Sto}
theorem putK_zip {κ : Type} [DecidableEq κ] {k : κ} {v : V} {d : D} (rv : Rp N H α v d) {ks : List κ} {vs : List V} {xs : List D} (hl : ks.length = vs.length) (r : RpAll N H α vs xs) :
    ∃ (ks' : List κ) (vs' : List V) (xs' : List D), putK (ks.zip vs) k v = ks'.zip vs' ∧ putKD (ks.zip xs) k d = ks'.zip xs' ∧ ks'.length = vs'.length ∧ RpAll N H α vs' xs' := by
  have any : ∀ {ks : List κ} {vs : List V} {xs : List D}, ks.length = vs.length → RpAll N H α vs xs → ((ks.zip vs).any fun q => decide (q.1 = k)) = (ks.zip xs).any fun q => decide (q.1 = k) := by
    intro ks
    induction ks with
    | nil => intros; rfl
    | cons q ks ih =>
      intro vs xs hl r
      cases r with
      | nil => simp at hl
      | cons r1 r2 => simp only [List.zip_cons_cons, List.any_cons, ih (by simpa using hl) r2]
  have map : ∀ {ks : List κ} {vs : List V} {xs : List D}, ks.length = vs.length → RpAll N H α vs xs →
      ∃ vs' xs', (ks.zip vs).map (fun q => if q.1 = k then (q.1, v) else q) = ks.zip vs' ∧ (ks.zip xs).map (fun q => if q.1 = k then (q.1, d) else q) = ks.zip xs' ∧ ks.length = vs'.length ∧ RpAll N H α vs' xs' := by
    intro ks
    induction ks with
    | nil => intros; exact ⟨[], [], rfl, rfl, rfl, .nil⟩
    | cons q ks ih =>
      intro vs xs hl r
      cases r with
      | nil => simp at hl
      | @cons w ws x xs' r1 r2 =>
        obtain ⟨a, b, e1, e2, e3, e4⟩ := ih (by simpa using hl) r2
        by_cases z : q = k
        · exact ⟨v :: a, d :: b, by simp [z, e1], by simp [z, e2], by simp [e3], .cons rv e4⟩
        · exact ⟨w :: a, x :: b, by simp [z, e1], by simp [z, e2], by simp [e3], .cons r1 e4⟩
  unfold putK putKD
  rw [any hl r]
  split
  · obtain ⟨a, b, e1, e2, e3, e4⟩ := map hl r
    exact ⟨ks, a, b, e1, e2, e3, e4⟩
  · have l2 := r.length
    refine ⟨ks ++ [k], vs ++ [v], xs ++ [d], ?_, ?_, by simp [hl], r.append (.cons rv .nil)⟩
    · rw [List.zip_append (by exact hl)]
      rfl
    · rw [List.zip_append (by omega)]
      rfl
theorem putF_zip {f : Str} {v : V} {d : D} (rv : Rp N H α v d) : ∀ {ks : List Str} {vs : List V} {xs : List D}, ks.length = vs.length → RpAll N H α vs xs →
    ∃ (ks' : List Str) (vs' : List V) (xs' : List D), (∀ g ∈ ks', g = f ∨ g ∈ ks) ∧ putF f v (ks.zip vs) = ks'.zip vs' ∧ putFD f d (ks.zip xs) = ks'.zip xs' ∧ ks'.length = vs'.length ∧ RpAll N H α vs' xs'
  | [], vs, xs, hl, r => ⟨[f], [v], [d], by simp, by simp [putF], by simp [putFD], rfl, .cons rv .nil⟩
  | q :: ks, _, _, hl, .nil => by simp at hl
  | q :: ks, w :: ws, x :: xs, hl, .cons r1 r2 => by
    by_cases z : q = f
    · exact ⟨q :: ks, v :: ws, d :: xs, fun g hg => .inr hg, by simp [putF, z], by simp [putFD, z], by simpa using hl, .cons rv r2⟩
    · obtain ⟨a, b, c, e0, e1, e2, e3, e4⟩ := putF_zip rv (ks := ks) (by simpa using hl) r2
      exact ⟨q :: a, w :: b, x :: c, fun g hg => (List.mem_cons.mp hg).elim (fun e => .inr (e ▸ List.mem_cons_self)) (fun e => (e0 g e).imp_right (List.mem_cons_of_mem _)), by simp [putF, z, e1], by simp [putFD, z, e2], by simp [e3], .cons r1 e4⟩
end

def dResU (N : Nm) (E : XK) (α : List Addr) (S : Sto) (H : Hp) (r : Res Unit) (Q : Hp → Prop) : Prop := match r with
  | .ok _ S' => ∀ H' α', Stp α S H α' S' H' → StoOk N H' α' S' → Q H'
  | .ex c e S' => ∀ cls dx H' α', Stp α S H α' S' H' → StoOk N H' α' S' → XOk N H' α' cls dx c e → E cls dx H'
  | .st => False
def dResS (N : Nm) (E : XK) (α : List Addr) (S : Sto) (H : Hp) (r : Res Slots) (Q : L2.St → Hp → Prop) : Prop := match r with
  | .ok ρ S' => ∀ σ H' α', Stp α S H α' S' H' → StoOk N H' α' S' → Rho N H' α' σ ρ → Q σ H'
  | .ex c e S' => ∀ cls dx H' α', Stp α S H α' S' H' → StoOk N H' α' S' → XOk N H' α' cls dx c e → E cls dx H'
  | .st => False
theorem dResS.shift {N : Nm} {E : XK} {α α1 : List Addr} {S S1 : Sto} {H H1 : Hp} (ok : StoOk N H α S) (a : Stp α S H α1 S1 H1) {r : Res Slots} {Q : L2.St → Hp → Prop} (h : dResS N E α S H r Q) : dResS N E α1 S1 H1 r Q := by
  cases r with
  | ok d S' => exact fun v H' α' st o r => h v H' α' (a.trans ok st) o r
  | ex c e S' => exact fun cls dx H' α' st o r => h cls dx H' α' (a.trans ok st) o r
  | st => exact h
theorem dResU.shift {N : Nm} {E : XK} {α α1 : List Addr} {S S1 : Sto} {H H1 : Hp} (ok : StoOk N H α S) (a : Stp α S H α1 S1 H1) {r : Res Unit} {Q : Hp → Prop} (h : dResU N E α S H r Q) : dResU N E α1 S1 H1 r Q := by
  cases r with
  | ok d S' => exact fun H' α' st o => h H' α' (a.trans ok st) o
  | ex c e S' => exact fun cls dx H' α' st o r => h cls dx H' α' (a.trans ok st) o r
  | st => exact h
abbrev FT := D → Slots → Sto → Res Slots
/-- a target -/
def dG (N : Nm) (E : XK) (F : FT) : TG := fun v σ H Q => ∃ ρ S α d, Rho N H α σ ρ ∧ StoOk N H α S ∧ Rp N H α v d ∧ dResS N E α S H (F d ρ S) Q
def dGs (N : Nm) (E : XK) (F : List D → Slots → Sto → Res Slots) : TGs := fun vs σ H Q => ∃ ρ S α ds, Rho N H α σ ρ ∧ StoOk N H α S ∧ RpAll N H α vs ds ∧ dResS N E α S H (F ds ρ S) Q
theorem PG.imp {X : Cx} {e : Expr} {t t' : TG} (h : PG X e t) (i : ∀ v σ H Q, t' v σ H Q → t v σ H Q) : PG X e t' := ⟨fun pins s σ H v u Q I r q => h.run pins s σ H v u Q I r (i v σ H Q q)⟩
theorem PGs.imp {X : Cx} {e : List Expr} {t t' : TGs} (h : PGs X e t) (i : ∀ v σ H Q, t' v σ H Q → t v σ H Q) : PGs X e t' := ⟨fun pins s σ H v u Q I r q => h.run pins s σ H v u Q I r (i v σ H Q q)⟩
section
variable {X : Cx} {fd : Str → Str} {E : XK} {e o i : Expr} {es : List Expr} {pos : Pos} {Fe Fo Fi : Slots → Sto → Res D}
abbrev tgNm (i : Nat) : FT := fun d ρ S => .ok (ρ.set i (some d)) S
abbrev tgTup (F : List D → Slots → Sto → Res Slots) : FT := fun d ρ S => match seqOf d S with
  | some xs => F xs ρ S
  | none => .st
abbrev tgNil : List D → Slots → Sto → Res Slots := fun ds ρ S => match ds with
  | [] => .ok ρ S
  | _ => .st
abbrev tgCons (F : FT) (G : List D → Slots → Sto → Res Slots) : List D → Slots → Sto → Res Slots := fun ds ρ S => match ds with
  | d :: ds => (F d ρ S).bind fun ρ' S' => G ds ρ' S'
  | _ => .st
abbrev tgSub (Fo Fi : Slots → Sto → Res D) : FT := fun d ρ S => (Fo ρ S).bind fun o S1 => (Fi ρ S1).bind fun i S2 => (opSet o i d S2).bind fun _ S3 => .ok ρ S3
abbrev tgFld (fl : List (Str × Str)) (f : Str) (Fo : Slots → Sto → Res D) : FT := fun d ρ S => (Fo ρ S).bind fun o S1 => (opSetF fl f o d S1).bind fun _ S2 => .ok ρ S2
theorem againS {N : Nm} {α : List Addr} {S : Sto} {H : Hp} {σ : L2.St} {ρ : Slots} {Q : L2.St → Hp → Prop} (ok : StoOk N H α S) (r : Rho N H α σ ρ) (h : dResS N E α S H (.ok ρ S) Q) : Q σ H := h σ H α .refl ok r
theorem dg_nm {i : Nat} {x : Str} (hN : X.N.Nodup) (hi : X.N[i]? = some x) (hx : Loc X.env.scope x) (hf : X.fn x = true ∨ X.env.scope.names.lookup x = some .local) : PG X (.Name x pos) (dG (nm X fd) E (tgNm i)) :=
  PG.imp (pg_name hN hi hx hf) fun v σ H Q ⟨ρ, S, α, d, r, ok, rv, h⟩ => againS ok (r.set i rv) h
theorem dgs_nil : PGs X [] (dGs (nm X fd) E tgNil) := PGs.imp pgs_nil fun vs σ H Q ⟨ρ, S, α, ds, r, ok, rv, h⟩ => by
  cases ds with
  | nil => cases rv; exact ⟨rfl, againS ok r h⟩
  | cons d ds => exact h.elim
theorem dgs_cons {F : FT} {G : List D → Slots → Sto → Res Slots} (h1 : PG X e (dG (nm X fd) E F)) (h2 : PGs X es (dGs (nm X fd) E G)) (hs : (assignEach (e :: es) X.env).map (·.2) = assign e X.env :: (assignEach es X.env).map (·.2)) :
    PGs X (e :: es) (dGs (nm X fd) E (tgCons F G)) := PGs.imp (pgs_cons h1 h2 hs) fun vs σ H Q ⟨ρ, S, α, ds, r, ok, rv, h⟩ => by
  cases ds with
  | nil => exact h.elim
  | cons d ds =>
    cases rv with
    | cons r1 r2 =>
      refine ⟨_, _, rfl, ρ, S, α, d, r, ok, r1, ?_⟩
      simp only [tgCons] at h
      cases q : F d ρ S with
      | ok ρ' S' =>
        rw [q] at h
        exact fun σ' H' α' st ok' r' => ⟨ρ', S', α', ds, r', ok', st.rpAll ok r2, dResS.shift ok st h⟩
      | ex c e' S' => rw [q] at h; exact h
      | st => rw [q] at h; exact h
theorem pg_both {t t' : TG} (h : PG X e t) (h' : PG X e t') : PG X e (fun v σ H Q => t v σ H Q ∨ t' v σ H Q) := ⟨fun pins s σ H v u Q I r q => q.elim (h.run pins s σ H v u Q I r) (h'.run pins s σ H v u Q I r)⟩
theorem dg_tup {k n : Nat} {F : List D → Slots → Sto → Res Slots} (hc : X.calm = true) (h : PGs X es (dGs (nm X fd) E F)) (hn : (assignEach es X.env).length = n) (hst : (assignEach es X.env).findIdx? (·.1) = none)
    (hF : ∀ ds ρ S, ds.length ≠ n → F ds ρ S = .st) : PG X (.Tuple es k pos) (dG (nm X fd) E (tgTup F)) := PG.imp (pg_both (pg_tup hc h hn hst) (pg_unl hc h hn hst)) fun v σ H Q ⟨ρ, S, α, d, r, ok, rv, h⟩ => by
  simp only [tgTup] at h
  split at h
  · rename_i xs e1
    obtain ⟨a, vs, e2, h1, h2⟩ := rv.seq_inv ok e1
    have hl : vs.length = n := by
      rw [h2.length]
      by_cases z : xs.length = n
      · exact z
      · rw [hF xs ρ S z] at h
        exact h.elim
    rcases h1 with h1 | h1
    · exact .inr ⟨a, vs, e2, h1, hl, ρ, S, α, xs, r, ok, h2, h⟩
    · exact .inl ⟨a, vs, e2, h1, hl, ρ, S, α, xs, r, ok, h2, h⟩
  · exact h.elim
/-! ### o[i] = v -/
theorem pset_d (hu : X.A.units + 1 < cLine) : PSet X (fun o i v H Q => ∃ S α a b c, StoOk (nm X fd) H α S ∧ Rp (nm X fd) H α o a ∧ Rp (nm X fd) H α i b ∧ Rp (nm X fd) H α v c ∧ dResU (nm X fd) E α S H (opSet a b c S) Q) := by
  intro pins s σ H o i v ov iv u Q I ro ri rv ⟨S, α, a, b, c, ok, ra, rb, rc, h⟩
  unfold opSet at h
  split at h
  · rename_i l
    cases ra with
    | @loc p _ hl =>
      split at h
      · rename_i xs e1
        split at h
        · rename_i k
          split at h
          · rename_i j e2
            obtain ⟨vs, h1, h2⟩ := ok.cell l _ _ hl e1
            have st := step_set (c' := .lst (xs.set j c)) (o := .lst (vs.set j v)) ok hl e1 (fun z => nomatch z)
            refine set_list pins s σ H _ i v ov iv u _ I ro ri rv ⟨p, vs, k, j, rfl, rb.int_inv, h1, by rw [h2.length]; exact e2, ?_⟩
            exact h _ α st (sto_set ok hl e1 (fun z => nomatch z) ⟨_, upd_same, (st.rpAll ok h2).set (st.rp ok rc) j⟩)
          · exact h.elim
        · exact h.elim
      · rename_i kvs e1
        split at h
        · rename_i k e2
          split at h
          · rename_i hz
            obtain ⟨ks, vs, xs, h1, h2, h3, h4⟩ := ok.cell l _ _ hl e1
            obtain ⟨ks', vs', xs', e3, e4, e5, e6⟩ := putK_zip (k := k) rc h3 h4
            have st := step_set (c' := .dK (ks'.zip xs')) (o := .dK (ks'.zip vs')) ok hl e1 (fun z => nomatch z)
            have e7 := rb.key e2
            subst e7 h2
            cases ro
            have h6 := h4.length
            refine d_setItem hu I (.inl ⟨_, k, h1, rfl, by simp only [List.length_zip] at hz ⊢; omega, rfl⟩) ri rv fun s' J => ⟨_, J, ?_⟩
            rw [e3]
            rw [e4] at h
            exact h _ α st (sto_set ok hl e1 (fun z => nomatch z) ⟨ks', vs', xs', upd_same, rfl, e5, st.rpAll ok e6⟩)
          · exact h.elim
        · exact h.elim
      · exact h.elim
  · exact h.elim
theorem dg_sub (hu : X.A.units + 1 < cLine) (ho : PE X o (dE (nm X fd) E Fo)) (hi : PE X i (dE (nm X fd) E Fi)) (ha : ∀ v, assign (.Subscript o i pos) X.env v = (do
      let ov ← holding [v] (eval o X.env)
      let iv ← holding [v, ov] (eval i X.env)
      standAt pos
      holding [v, ov, iv] (setItem ov iv v)
      release [v, ov, iv] [])) : PG X (.Subscript o i pos) (dG (nm X fd) E (tgSub Fo Fi)) := PG.imp (pg_sub ho hi (pset_d (fd := fd) (E := E) hu) ha) fun v σ H Q ⟨ρ, S, α, d, r, ok, rv, h⟩ => by
  refine ⟨ρ, S, α, r, ok, ?_⟩
  simp only [tgSub] at h
  cases q : Fo ρ S with
  | ex c e' S' => rw [q] at h; exact h
  | st => rw [q] at h; exact h
  | ok a S1 =>
    rw [q] at h
    intro x1 H1 α1 st1 ok1 r1
    have h := dResS.shift ok st1 h
    simp only [bind_ok] at h
    refine ⟨ρ, S1, α1, r.step ok st1, ok1, ?_⟩
    cases q2 : Fi ρ S1 with
    | ex c e' S' => rw [q2] at h; exact h
    | st => rw [q2] at h; exact h
    | ok b S2 =>
      rw [q2] at h
      intro x2 H2 α2 st2 ok2 r2
      have h := dResS.shift ok1 st2 h
      simp only [bind_ok] at h
      refine ⟨S2, α2, a, b, d, ok2, st2.rp ok1 r1, r2, st2.rp ok1 (st1.rp ok rv), ?_⟩
      cases q3 : opSet a b d S2 with
      | ex c e' S' => rw [q3] at h; exact h
      | st => rw [q3] at h; exact h
      | ok _ S3 =>
        rw [q3] at h
        exact fun H3 α3 st3 ok3 => againS ok3 (((r.step ok st1).step ok1 st2).step ok2 st3) (dResS.shift ok2 st3 h)
/-! ### o.f = v -/
/-- the attributes that may be stored: the class has no such name -/
def FldOk (X : Cx) (fl : List (Str × Str)) : Prop := ∀ C f, (C, f) ∈ fl → ∀ Ca, X.mg C = some (.ref Ca) → NoAttr X.K Ca f
theorem setf_d {fl : List (Str × Str)} {f : Str} (hF : FldOk X fl) {pins : List (Addr × Obj)} {s : Shared} {σ : L2.St} {H : Hp} {o v : V} {ov u : Value} {Q : Hp → Prop} (I : Inv X pins σ H s) (ro : RelV o ov) (rv : RelV v u)
    {S : Sto} {α : List Addr} {a c : D} (ok : StoOk (nm X fd) H α S) (ra : Rp (nm X fd) H α o a) (rc : Rp (nm X fd) H α v c) (h : dResU (nm X fd) E α S H (opSetF fl f a c S) Q) :
    wpAny (model X.prog X.w) X.A (setAttr ov f u) (fun _ s' => ∃ H', Inv X pins σ H' s' ∧ Q H') X.xe s := by
  unfold opSetF at h
  split at h
  · rename_i l
    cases ra with
    | @loc p _ hl =>
      cases ro
      split at h
      · rename_i C fs e1
        split at h
        · rename_i hz
          obtain ⟨Ca, dx, ks, vs, xs, h0, h1, h2, h3, h4, h5, h6⟩ := ok.cell l _ _ hl e1
          obtain ⟨ks', vs', xs', e0, e3, e4, e5, e6⟩ := putF_zip (f := f) rc h3 h4
          have st := step_set (c' := .ins C (ks'.zip xs')) (o := .ins Ca dx (ks'.zip vs')) ok hl e1 (fun z => nomatch z)
          have na : NoAttr X.K Ca f := hF C f hz.2 Ca h0
          subst h2
          have h7 := h4.length
          refine setattr_ok I h1 h5 na (by have := hz.1; simp only [List.length_zip] at this ⊢; omega) rv fun s' J => ⟨_, J, ?_⟩
          rw [e3]
          rw [e4] at h
          exact h _ α st (sto_set ok hl e1 (fun z => nomatch z) ⟨Ca, dx, ks', vs', xs', h0, upd_same, rfl, e5, st.rpAll ok e6, h5, fun g hg => (e0 g hg).elim (fun z => z ▸ na) (h6 g)⟩)
        · exact h.elim
      · exact h.elim
  · exact h.elim
theorem dg_fld {fl : List (Str × Str)} {f : Str} (hF : FldOk X fl) (ho : PE X o (dE (nm X fd) E Fo)) : PG X (.Attribute o f pos) (dG (nm X fd) E (tgFld fl f Fo)) := by
  refine ⟨fun pins s σ H v u Q I rv ⟨ρ, S, α, d, r, ok, rd, h⟩ => ?_⟩
  rw [assign_Attribute]
  refine wpAny_bind (wpAny_holding ?_)
  have h' : dE (nm X fd) E Fo σ H fun x H1 => ∃ S1 α1 a, StoOk (nm X fd) H1 α1 S1 ∧ Rp (nm X fd) H1 α1 x a ∧ Rp (nm X fd) H1 α1 v d ∧ Rho (nm X fd) H1 α1 σ ρ ∧ dResS (nm X fd) E α1 S1 H1 ((opSetF fl f a d S1).bind fun _ S2 => .ok ρ S2) Q := by
    refine ⟨ρ, S, α, r, ok, ?_⟩
    simp only [tgFld] at h
    cases q : Fo ρ S with
    | ex c e' S' => rw [q] at h; exact h
    | st => rw [q] at h; exact h
    | ok a S1 =>
      rw [q] at h
      exact fun x H1 α1 st ok1 rx => ⟨S1, α1, a, ok1, rx, st.rp ok rd, r.step ok st, dResS.shift ok st h⟩
  refine thn (ho.run pins s σ H _ I h') fun ov s1 ⟨x, H1, I1, rx, S1, α1, a, ok1, ra, rd1, r1, h1⟩ => ?_
  refine wpAny_bind (wpAny_standAt (wpAny_bind (wpAny_holding ?_)))
  have h2 : dResU (nm X fd) E α1 S1 H1 (opSetF fl f a d S1) fun H2 => Q σ H2 := by
    cases q : opSetF fl f a d S1 with
    | ex c e' S' => rw [q] at h1; exact h1
    | st => rw [q] at h1; exact h1
    | ok _ S2 =>
      rw [q] at h1
      exact fun H2 α2 st ok2 => h1 σ H2 α2 st ok2 (r1.step ok1 st)
  refine thn (setf_d hF I1 rx rv ok1 ra rd1 h2) fun _ s2 ⟨H2, I2, q2⟩ => ?_
  exact wpAny_release ⟨σ, H2, I2, q2⟩

/-! ### statements -/
variable {N : Nm} {st : Stmt} {rest : List Stmt} {c : Expr} {body els : List Stmt}
abbrev sSeq (A B : Slots → Sto → Out) : Slots → Sto → Out := fun ρ S => match A ρ S with
  | .nx ρ' S' => B ρ' S'
  | o => o
abbrev sNil : Slots → Sto → Out := fun ρ S => .nx ρ S
theorem dss_nil : PSs X [] (dS (nm X fd) E sNil) := PSs.imp pss_nil fun Dn σ H ⟨ρ, S, α, r, ok, h⟩ => h σ H α .refl ok r
theorem dss_cons {A B : Slots → Sto → Out} (h1 : PS X st (dS (nm X fd) E A)) (h2 : PSs X rest (dS (nm X fd) E B)) : PSs X (st :: rest) (dS (nm X fd) E (sSeq A B)) := by
  refine PSs.imp (pss_cons h1 h2) fun Dn σ H ⟨ρ, S, α, r, ok, h⟩ => ⟨ρ, S, α, r, ok, ?_⟩
  simp only [sSeq] at h
  cases q : A ρ S with
  | nx ρ' S' =>
    rw [q] at h
    exact fun σ' H' α' st' ok' r' => ⟨ρ', S', α', r', ok', dOut.shift ok st' h⟩
  | rt d S' => rw [q] at h; exact h
  | bk d S' => rw [q] at h; exact h
  | ct d S' => rw [q] at h; exact h
  | ex c e' S' => rw [q] at h; exact h
  | st => rw [q] at h; exact h
abbrev sRet (F : Slots → Sto → Res D) : Slots → Sto → Out := fun ρ S => (F ρ S).out fun d S1 => .rt d S1
theorem ds_ret (h : PE X e (dE (nm X fd) E Fe)) : PS X (.Return (some e) pos) (dS (nm X fd) E (sRet Fe)) := by
  refine PS.imp (ps_ret h) fun Dn σ H ⟨ρ, S, α, r, ok, h⟩ => ⟨ρ, S, α, r, ok, ?_⟩
  simp only [sRet] at h
  cases q : Fe ρ S with
  | ok d S1 => rw [q] at h; exact h
  | ex c e' S' => rw [q] at h; exact h
  | st => rw [q] at h; exact h
theorem ds_retN : PS X (.Return none pos) (dS (nm X fd) E fun _ S => .rt .n S) := PS.imp ps_retN fun Dn σ H ⟨ρ, S, α, r, ok, h⟩ => h .non H α .refl ok (.p .non)
abbrev sExp (F : Slots → Sto → Res D) : Slots → Sto → Out := fun ρ S => (F ρ S).out fun _ S1 => .nx ρ S1
theorem ds_expr (h : PE X e (dE (nm X fd) E Fe)) (hs : swapsWith e none pos.line X.env = pure false) : PS X (.Expr e pos) (dS (nm X fd) E (sExp Fe)) := by
  refine PS.imp (ps_expr h hs) fun Dn σ H ⟨ρ, S, α, r, ok, h⟩ => ⟨ρ, S, α, r, ok, ?_⟩
  simp only [sExp] at h
  cases q : Fe ρ S with
  | ok d S1 => rw [q] at h; exact fun v H' α' st ok' rv => h σ H' α' st ok' (r.step ok st)
  | ex c e' S' => rw [q] at h; exact h
  | st => rw [q] at h; exact h
theorem ds_pass : PS X (.Pass pos) (dS (nm X fd) E sNil) := PS.imp ps_pass fun Dn σ H ⟨ρ, S, α, r, ok, h⟩ => h σ H α .refl ok r
theorem ds_break : PS X (.Break pos) (dS (nm X fd) E fun ρ S => .bk ρ S) := PS.imp ps_break fun Dn σ H ⟨ρ, S, α, r, ok, h⟩ => h σ H α .refl ok r
theorem ds_cont : PS X (.Continue pos) (dS (nm X fd) E fun ρ S => .ct ρ S) := PS.imp ps_continue fun Dn σ H ⟨ρ, S, α, r, ok, h⟩ => h σ H α .refl ok r
abbrev sIf (Tc : Slots → Sto → Res Bool) (A B : Slots → Sto → Out) : Slots → Sto → Out := fun ρ S => (Tc ρ S).out fun k S1 => match k with
  | true => A ρ S1
  | false => B ρ S1
theorem ds_if {Tc : Slots → Sto → Res Bool} {A B : Slots → Sto → Out} (hc : PT X c (dT (nm X fd) E Tc)) (h1 : PSs X body (dS (nm X fd) E A)) (h2 : PSs X els (dS (nm X fd) E B)) : PS X (.If c body els pos) (dS (nm X fd) E (sIf Tc A B)) := by
  refine PS.imp (ps_if hc h1 h2) fun Dn σ H ⟨ρ, S, α, r, ok, h⟩ => ⟨ρ, S, α, r, ok, ?_⟩
  simp only [sIf] at h
  cases q : Tc ρ S with
  | ok k S1 =>
    rw [q] at h
    intro H' α' st ok'
    have h := dOut.shift ok st h
    cases k with
    | true => exact iteT ⟨ρ, S1, α', r.step ok st, ok', h⟩
    | false => exact iteF ⟨ρ, S1, α', r.step ok st, ok', h⟩
  | ex c e' S' => rw [q] at h; exact h
  | st => rw [q] at h; exact h
abbrev sAsg (F : Slots → Sto → Res D) (G : FT) : Slots → Sto → Out := fun ρ S => (F ρ S).out fun d S1 => (G d ρ S1).out fun ρ' S2 => .nx ρ' S2
theorem dS_asg {F : Slots → Sto → Res D} {G : FT} {Dn : Ends} {σ : L2.St} {H : Hp} (h : dS N E (sAsg F G) Dn σ H) : tAsg (dE N E F) (dG N E G) Dn σ H := by
  obtain ⟨ρ, S, α, r, ok, h⟩ := h
  refine ⟨ρ, S, α, r, ok, ?_⟩
  simp only [sAsg] at h
  cases q : F ρ S with
  | ok d S1 =>
    rw [q] at h
    intro v H' α' st ok' rv
    have h := dOut.shift ok st h
    simp only [out_ok] at h
    refine ⟨ρ, S1, α', d, r.step ok st, ok', rv, ?_⟩
    cases q2 : G d ρ S1 with
    | ok ρ' S2 => rw [q2] at h; exact h
    | ex c e' S' => rw [q2] at h; exact h
    | st => rw [q2] at h; exact h
  | ex c e' S' => rw [q] at h; exact h
  | st => rw [q] at h; exact h
theorem ds_asg {tg : Expr} {G : FT} (he : PE X e (dE (nm X fd) E Fe)) (hg : PG X tg (dG (nm X fd) E G)) (hs : swapsWithSole [tg] e pos.line X.env = pure false) (hw : swappedStores [tg] e X.env = pure none) (h1 : (assignEach [tg] X.env).map (·.2) = [assign tg X.env]) :
    PS X (.Assign [tg] e pos) (dS (nm X fd) E (sAsg Fe G)) := PS.imp (ps_asg he hg hs hw h1) fun Dn σ H h => dS_asg h
end
end Dl

set_option linter.all false
set_option maxRecDepth 100000
set_option maxHeartbeats 4000000
/-! Dl11: loops, pairs of stores, stores of comprehensions. -/
namespace Dl
open PySem PySem.Spec PyProof.Rows L2

theorem dE.mono {N : Nm} {E : XK} {F : Slots → Sto → Res D} {σ : L2.St} {H : Hp} {Q Q' : VK} (h : dE N E F σ H Q) (i : ∀ v H', Q v H' → Q' v H') : dE N E F σ H Q' := by
  obtain ⟨ρ, S, α, r, ok, h⟩ := h
  refine ⟨ρ, S, α, r, ok, ?_⟩
  cases q : F ρ S with
  | ok d S' => rw [q] at h; exact fun v H' α' st ok' rv => i v H' (h v H' α' st ok' rv)
  | ex c e S' => rw [q] at h; exact h
  | st => rw [q] at h; exact h

theorem dI.mono {N : Nm} {E : XK} {F : Slots → Sto → Res Src} {σ : L2.St} {H : Hp} {R R' : It → Hp → Prop} (h : dI N E F σ H R) (i : ∀ J H', R J H' → R' J H') : dI N E F σ H R' := by
  obtain ⟨ρ, S, α, r, ok, h⟩ := h
  refine ⟨ρ, S, α, r, ok, ?_⟩
  cases q : F ρ S with
  | ok d S' => rw [q] at h; exact fun H' α' J st ok' io => i J H' (h H' α' J st ok' io)
  | ex c e S' => rw [q] at h; exact h
  | st => rw [q] at h; exact h
theorem tLc_mono {N : Nm} {E : XK} {F : Slots → Sto → Res Src} {g : TG} {tt : TT} {te : TE} {vs : List Nat} {σ : L2.St} {H : Hp} {Q Q' : VK} (i : ∀ v H', Q v H' → Q' v H') (h : tLc (dI N E F) g tt te vs σ H Q) : tLc (dI N E F) g tt te vs σ H Q' :=
  dI.mono h fun J H1 z p hp => let ⟨W, w0, w⟩ := z p hp; ⟨W, w0, fun k m H2 hw => (w k m H2 hw).imp (fun ⟨a, b⟩ => ⟨a, i _ _ b⟩) id⟩
/-- behind a statement a new list may be frozen -/
def FzN (Q : L2.St → Hp → Prop) : L2.St → Hp → Prop := fun σ H => Q σ H ∨ ∃ a vs, H a = some (.lst vs) ∧ ∀ o, a ≠ sysModules → Q σ (upd H a (.frz o (.lst vs)))
theorem ps_fz {X : Cx} (hs : SysIn X) {st : Stmt} {t : TS} (h : PS X st t) : PS X st fun Dn σ H => t { Dn with nx := FzN Dn.nx } σ H := by
  refine ⟨fun pins s σ H Dn I q => thn (h.run pins s σ H _ I q) fun f s' z => ?_⟩
  cases f with
  | next =>
    obtain ⟨σ', H', J, q | ⟨a, vs, ha, q⟩⟩ := z
    · exact ⟨σ', H', J, q⟩
    · obtain ⟨o, K⟩ := inv_freeze J ha
      exact ⟨σ', _, K, q o (not_sys hs J ha)⟩
  | ret u => exact z
  | brk => exact z
  | cont => exact z

section
variable {X : Cx} {fd : Str → Str} {E : XK} {e : Expr} {es : List Expr} {pos : Pos} {Fe : Slots → Sto → Res D} {Fs : Slots → Sto → Res (List D)}
theorem dS_nm {N : Nm} {i : Nat} {F : Slots → Sto → Res D} {Dn : Ends} {σ : L2.St} {H : Hp} (h : dS N E (sAsg F (tgNm i)) Dn σ H) : dE N E F σ H fun v H' => Dn.nx (σ.set i (some v)) H' := by
  obtain ⟨ρ, S, α, r, ok, h⟩ := h
  refine ⟨ρ, S, α, r, ok, ?_⟩
  simp only [sAsg] at h
  cases q : F ρ S with
  | ok d S1 =>
    rw [q] at h
    exact fun v H' α' st ok' rv => h _ H' α' st ok' ((r.step ok st).set i rv)
  | ex c e' S' => rw [q] at h; exact h
  | st => rw [q] at h; exact h
/-- name = e -/
theorem ds_set {i : Nat} {x : Str} {px : Pos} (hN : X.N.Nodup) (hi : X.N[i]? = some x) (hx : Loc X.env.scope x) (he : PE X e (dE (nm X fd) E Fe)) (hs : swapsWith e (some (.Name x px)) pos.line X.env = pure false) (hf : X.fn x = true ∨ X.env.scope.names.lookup x = some .local) :
    PS X (.Assign [.Name x px] e pos) (dS (nm X fd) E (sAsg Fe (tgNm i))) := PS.imp (ps_set hN hi hx he hs hf) fun Dn σ H h => dS_nm h
/-- name = [..] -/
theorem ds_setLc (hsy : SysIn X) {i : Nat} {y : Str} {py : Pos} {elt tg iter : Expr} {ifs : List Expr} {scope : Scope} {own : List (Str × Nat)} {cpos : Pos} {m : Bool} {Fi : Slots → Sto → Res Src} {t : Tg} {Tt : Slots → Sto → Res Bool} {Fe : Slots → Sto → Res D}
    (hc : X.calm = true) (hN : X.N.Nodup) (hy : X.N[i]? = some y) (hyl : X.env.scope.names.lookup y = some .local)
    (hsw : swapsWith (.ListComp elt [⟨tg, iter, ifs, 0⟩] scope cpos) (some (.Name y py)) pos.line X.env = pure true)
    (hi : PI X tg iter (dI (nm X fd) E Fi)) (ok : BlkOk X.N X.env.scope scope own) (hj : ∀ j ∈ t.slots, j ∈ own.map (·.2))
    (hg : ∀ (s : Shared) (H : Hp) (C : Addr) (cl : List (Str × Addr)) (fp : List Addr), PG (X.blk s H scope (compEnvC scope cl C X.env) fp) tg (gT X.K t))
    (ht : ∀ (s : Shared) (H : Hp) (C : Addr) (cl : List (Str × Addr)) (fp : List Addr), PTs (X.blk s H scope (compEnvC scope cl C X.env) fp) ifs (dT (nm X fd) E0 Tt))
    (he : ∀ (s : Shared) (H : Hp) (C : Addr) (cl : List (Str × Addr)) (fp : List Addr), PE (X.blk s H scope (compEnvC scope cl C X.env) fp) elt (dE (nm X fd) E0 Fe))
    (hs : ∀ x, foldedSetIterable iter X.env x = pure x) : PS X (.Assign [.Name y py] (.ListComp elt [⟨tg, iter, ifs, 0⟩] scope cpos) pos) (dS (nm X fd) E (sAsg (fLc m Fi t (own.map (·.2)) Tt Fe) (tgNm i))) := by
  refine PS.imp (ps_fz hsy (ps_setLc hc hN hy hyl hsw hi ok hg ht he hs)) fun Dn σ H h => ?_
  have q := dE_lc hj (dS_nm h)
  -- the two ways of the new list
  refine tLc_mono (fun v H' z => ?_) q
  rcases z with z | ⟨a, vs, e1, e2, z⟩
  · exact .inl z
  · exact .inr ⟨a, vs, e2, z⟩
/-! ### two, three names at once -/
abbrev sPar (i j : Nat) (Fs : Slots → Sto → Res (List D)) : Slots → Sto → Out := fun ρ S => (Fs ρ S).out fun ds S1 => match ds with
  | [a, b] => .nx ((ρ.set i (some a)).set j (some b)) S1
  | _ => .st
abbrev sPar3 (i j l : Nat) (Fs : Slots → Sto → Res (List D)) : Slots → Sto → Out := fun ρ S => (Fs ρ S).out fun ds S1 => match ds with
  | [a, b, c] => .nx (((ρ.set i (some a)).set j (some b)).set l (some c)) S1
  | _ => .st
theorem ds_par {i j : Nat} {x y : Str} {a b : Expr} {px py pt : Pos} {kt k2 : Nat} {pt2 : Pos} (hc : X.calm = true) (hN : X.N.Nodup) (hi : X.N[i]? = some x) (hj : X.N[j]? = some y) (hij : i ≠ j) (hx : X.env.scope.names.lookup x = some .local) (hy : X.env.scope.names.lookup y = some .local)
    (ha : PA X [a, b] (dA (nm X fd) E Fs)) (hw : swappedStores [.Tuple [.Name x px, .Name y py] kt pt] (.Tuple [a, b] k2 pt2) X.env = pure (some [x, y])) :
    PS X (.Assign [.Tuple [.Name x px, .Name y py] kt pt] (.Tuple [a, b] k2 pt2) pos) (dS (nm X fd) E (sPar i j Fs)) := by
  refine PS.imp (ps_par hc hN hi hj hij hx hy ha hw) fun Dn σ H ⟨ρ, S, α, r, ok, h⟩ => ⟨ρ, S, α, r, ok, ?_⟩
  simp only [sPar] at h
  cases q : Fs ρ S with
  | ok ds S1 =>
    rw [q] at h
    intro vs H' α' st ok' rv
    simp only [out_ok] at h
    split at h
    · cases rv with
      | cons r1 rv =>
        cases rv with
        | cons r2 rv =>
          cases rv
          exact ⟨_, _, rfl, h _ H' α' st ok' (((r.step ok st).set i r1).set j r2)⟩
    · exact h.elim
  | ex c e' S' => rw [q] at h; exact h
  | st => rw [q] at h; exact h
theorem ds_par3 {i j l : Nat} {x y z : Str} {a b c : Expr} {px py pz pt : Pos} {kt k2 : Nat} {pt2 : Pos} (hc : X.calm = true) (hN : X.N.Nodup) (hi : X.N[i]? = some x) (hj : X.N[j]? = some y) (hl : X.N[l]? = some z) (hij : i ≠ j) (hil : i ≠ l) (hjl : j ≠ l)
    (hx : X.env.scope.names.lookup x = some .local) (hy : X.env.scope.names.lookup y = some .local) (hz : X.env.scope.names.lookup z = some .local)
    (ha : PA X [a, b, c] (dA (nm X fd) E Fs)) (hw : swappedStores [.Tuple [.Name x px, .Name y py, .Name z pz] kt pt] (.Tuple [a, b, c] k2 pt2) X.env = pure (some [x, y, z])) :
    PS X (.Assign [.Tuple [.Name x px, .Name y py, .Name z pz] kt pt] (.Tuple [a, b, c] k2 pt2) pos) (dS (nm X fd) E (sPar3 i j l Fs)) := by
  refine PS.imp (ps_par3 hc hN hi hj hl hij hil hjl hx hy hz ha hw) fun Dn σ H ⟨ρ, S, α, r, ok, h⟩ => ⟨ρ, S, α, r, ok, ?_⟩
  simp only [sPar3] at h
  cases q : Fs ρ S with
  | ok ds S1 =>
    rw [q] at h
    intro vs H' α' st ok' rv
    simp only [out_ok] at h
    split at h
    · cases rv with
      | cons r1 rv =>
        cases rv with
        | cons r2 rv =>
          cases rv with
          | cons r3 rv =>
            cases rv
            exact ⟨_, _, _, rfl, h _ H' α' st ok' ((((r.step ok st).set i r1).set j r2).set l r3)⟩
    · exact h.elim
  | ex c e' S' => rw [q] at h; exact h
  | st => rw [q] at h; exact h
/-! ### name op= e -/
def augI : Operator → Option (Int → Int → Int)
  | .Add => some (· + ·)
  | .Sub => some (· - ·)
  | _ => none
abbrev sAug (i : Nat) (op : Operator) (F : Slots → Sto → Res D) : Slots → Sto → Out := fun ρ S => match ρ[i]? with
  | some (some (.p (.int a))) => (F ρ S).out fun d S1 => match d, augI op with
    | .p (.int b), some g => .nx (ρ.set i (some (.i (g a b)))) S1
    | _, _ => .st
  | _ => .st
theorem ds_aug {i : Nat} {x : Str} {op : Operator} {px : Pos} (hN : X.N.Nodup) (hi : X.N[i]? = some x) (hx : Loc X.env.scope x) (he : PE X e (dE (nm X fd) E Fe)) (hf : X.fn x = true ∨ X.env.scope.names.lookup x = some .local) (ho : op = .Add ∨ op = .Sub) :
    PS X (.AugAssign (.Name x px) op e pos) (dS (nm X fd) E (sAug i op Fe)) := by
  have main : ∀ (g : Int → Int → Int), PIp X op (ipI g) → augI op = some g → PS X (.AugAssign (.Name x px) op e pos) (dS (nm X fd) E (sAug i op Fe)) := fun g hp hg => by
    refine PS.imp (ps_aug hN hi hx he hp hf) fun Dn σ H ⟨ρ, S, α, r, ok, h⟩ => ?_
    simp only [sAug, hg] at h
    split at h
    · rename_i a e1
      obtain ⟨v, e2, rv⟩ := r.at_ i _ e1
      refine ⟨v, e2, ρ, S, α, r, ok, ?_⟩
      cases q : Fe ρ S with
      | ok d S1 =>
        rw [q] at h
        intro w H' α' st ok' rw'
        simp only [out_ok] at h
        split at h
        · rename_i b g' eg
          cases eg
          exact ⟨a, b, rv.int_inv, rw'.int_inv, h _ H' α' st ok' ((r.step ok st).set i (.p (.int _)))⟩
        · exact h.elim
      | ex c e' S' => rw [q] at h; exact h
      | st => rw [q] at h; exact h
    · exact h.elim
  rcases ho with rfl | rfl
  · exact main _ ip_add rfl
  · exact main _ ip_sub rfl
/-! ### while -/
def whileF (T : Slots → Sto → Res Bool) (B : Slots → Sto → Out) : Nat → Slots → Sto → Out
  | 0, _, _ => .st
  | n + 1, ρ, S => (T ρ S).out fun k S1 => match k with
    | true => match B ρ S1 with
      | .nx ρ' S' => whileF T B n ρ' S'
      | .ct ρ' S' => whileF T B n ρ' S'
      | .bk ρ' S' => .nx ρ' S'
      | o => o
    | false => .nx ρ S1
theorem ds_while {c : Expr} {body : List Stmt} {T : Slots → Sto → Res Bool} {B : Slots → Sto → Out} (hp : PassesOwn (model X.prog X.w) X.A X.env X.xe) (hc : PT X c (dT (nm X fd) E T)) (hb : PSs X body (dS (nm X fd) E B)) (n : Nat) :
    PS X (.While c body [] pos) (dS (nm X fd) E (whileF T B n)) := by
  refine PS.imp (ps_while hp hc hb) fun Dn σ H h => ?_
  refine ⟨fun m σ H => dS (nm X fd) E (whileF T B m) Dn σ H, ⟨n, h⟩, fun m σ H ⟨ρ, S, α, r, ok, h⟩ => ?_⟩
  cases m with
  | zero => exact h.elim
  | succ m =>
    unfold whileF at h
    refine ⟨ρ, S, α, r, ok, ?_⟩
    cases q : T ρ S with
    | ok k S1 =>
      rw [q] at h
      intro H' α' st ok'
      have h := dOut.shift ok st h
      have r1 := r.step ok st
      simp only [out_ok] at h
      cases k with
      | true =>
        refine iteT ⟨fun σ' H' => dS (nm X fd) E (whileF T B m) Dn σ' H', fun σ' H' z => ⟨m, by omega, z⟩, ρ, S1, α', r1, ok', ?_⟩
        simp only at h
        cases q2 : B ρ S1 with
        | nx ρ' S' => rw [q2] at h; exact fun σ2 H2 α2 st2 ok2 r2 => ⟨ρ', S', α2, r2, ok2, dOut.shift ok' st2 h⟩
        | ct ρ' S' => rw [q2] at h; exact fun σ2 H2 α2 st2 ok2 r2 => ⟨ρ', S', α2, r2, ok2, dOut.shift ok' st2 h⟩
        | bk ρ' S' => rw [q2] at h; exact h
        | rt d S' => rw [q2] at h; exact h
        | ex c e' S' => rw [q2] at h; exact h
        | st => rw [q2] at h; exact h
      | false => exact iteF (h σ H' α' .refl ok' r1)
    | ex c e' S' => rw [q] at h; exact h
    | st => rw [q] at h; exact h
/-! ### for -/
open Classical in
noncomputable def forL (w : List (Nat × List D)) (G : FT) (B : Slots → Sto → Out) : List D → Slots → Sto → Out
  | [], ρ, S => if Wat w S then .nx ρ S else .st
  | x :: xs, ρ, S => if Wat w S then (G x ρ S).out fun ρ1 S1 => (match B ρ1 S1 with
      | .nx ρ' S' => forL w G B xs ρ' S'
      | .ct ρ' S' => forL w G B xs ρ' S'
      | .bk ρ' S' => .nx ρ' S'
      | o => o) else .st
noncomputable abbrev sFor (Fi : Slots → Sto → Res Src) (G : FT) (B : Slots → Sto → Out) : Slots → Sto → Out := fun ρ S => (Fi ρ S).out fun src S1 => forL src.w G B src.xs ρ S1
theorem ds_for {tg iter : Expr} {body : List Stmt} {Fi : Slots → Sto → Res Src} {G : FT} {B : Slots → Sto → Out} (hp : PassesOwn (model X.prog X.w) X.A X.env X.xe) (hc : X.calm = true) (hi : PI X tg iter (dI (nm X fd) E Fi)) (hg : PG X tg (dG (nm X fd) E G)) (hb : PSs X body (dS (nm X fd) E B))
    (hs : ∀ x, foldedSetIterable iter X.env x = pure x) : PS X (.For tg iter body [] pos) (dS (nm X fd) E (sFor Fi G B)) := by
  refine PS.imp (ps_for hp hc hi hg hb hs) fun Dn σ H ⟨ρ, S, α, r, ok, h⟩ => ⟨ρ, S, α, r, ok, ?_⟩
  simp only [sFor] at h
  cases q : Fi ρ S with
  | ex c e' S' => rw [q] at h; exact h
  | st => rw [q] at h; exact h
  | ok src S1 =>
    rw [q] at h
    simp only [out_ok] at h
    intro H1 α1 J st1 ok1 it
    refine ⟨fun i m σ H => m = src.xs.length - i ∧ i ≤ src.xs.length ∧ ∃ ρ S α, Up α1 H1 α H ∧ Rho (nm X fd) H α σ ρ ∧ StoOk (nm X fd) H α S ∧ dOut (nm X fd) E α S H (forL src.w G B (src.xs.drop i) ρ S) Dn,
      ⟨src.xs.length, by simp, Nat.zero_le _, ρ, S1, α1, .refl, r.step ok st1, ok1, by simpa using dOut.shift ok st1 h⟩, ?_⟩
    rintro i m σ H ⟨rfl, hi, ρ, S, α, up, r, ok, h⟩
    by_cases hlt : i < src.xs.length
    · rw [List.drop_eq_getElem_cons hlt] at h
      unfold forL at h
      split at h
      · rename_i hw
        obtain ⟨its, _⟩ := it α S H up ok hw
        obtain ⟨go, yl⟩ := its i _ (List.getElem?_eq_getElem hlt)
        refine .inr ⟨go, fun σ' H' => ∃ ρ S α, Up α1 H1 α H' ∧ Rho (nm X fd) H' α σ' ρ ∧ StoOk (nm X fd) H' α S ∧ dOut (nm X fd) E α S H' (forL src.w G B (src.xs.drop (i + 1)) ρ S) Dn, fun σ' H' z => ⟨_, by omega, rfl, hlt, z⟩, fun x H2 y => ?_⟩
        obtain ⟨st2, ok2, rx⟩ := yl x H2 y
        have h := dOut.shift ok st2 h
        have r2 := r.step ok st2
        have up2 := up.trans (st2.up ok)
        refine ⟨ρ, S, α, _, r2, ok2, rx, ?_⟩
        cases q2 : G src.xs[i] ρ S with
        | ex c e' S' => rw [q2] at h; exact h
        | st => rw [q2] at h; exact h
        | ok ρ3 S3 =>
          rw [q2] at h
          simp only [out_ok] at h
          intro σ3 H3 α3 st3 ok3 r3
          have h := dOut.shift ok2 st3 h
          have up3 := up2.trans (st3.up ok2)
          refine ⟨ρ3, S3, α3, r3, ok3, ?_⟩
          cases q3 : B ρ3 S3 with
          | nx ρ' S' => rw [q3] at h; exact fun σ4 H4 α4 st4 ok4 r4 => ⟨ρ', S', α4, up3.trans (st4.up ok3), r4, ok4, dOut.shift ok3 st4 h⟩
          | ct ρ' S' => rw [q3] at h; exact fun σ4 H4 α4 st4 ok4 r4 => ⟨ρ', S', α4, up3.trans (st4.up ok3), r4, ok4, dOut.shift ok3 st4 h⟩
          | bk ρ' S' => rw [q3] at h; exact h
          | rt d S' => rw [q3] at h; exact h
          | ex c e' S' => rw [q3] at h; exact h
          | st => rw [q3] at h; exact h
      · exact h.elim
    · have ei : i = src.xs.length := by omega
      subst ei
      rw [List.drop_length] at h
      unfold forL at h
      split at h
      · rename_i hw
        obtain ⟨_, stop⟩ := it α S H up ok hw
        exact .inl ⟨stop, h σ H α .refl ok r⟩
      · exact h.elim
end
end Dl

set_option linter.all false
set_option maxRecDepth 100000
set_option maxHeartbeats 4000000
/-! Dl12: built-in functions by plain values. -/
namespace Dl
open PySem PySem.Spec PyProof.Rows L2

/-! ### kinds of values -/
inductive Ty where
  | non | bl | int | str | tup | lst | dct
deriving DecidableEq
def Ty.nm : Ty → String
  | .non => "NoneType"
  | .bl => "bool"
  | .int => "int"
  | .str => "str"
  | .tup => "tuple"
  | .lst => "list"
  | .dct => "dict"
def Ty.sub (a b : Ty) : Bool := decide (a = b) || (decide (a = .bl) && decide (b = .int))
def tyP : PyData → Ty
  | .none => .non
  | .bool _ => .bl
  | .int _ => .int
  | .str _ => .str
  | .tuple _ => .tup
  | .list _ => .lst
  | .dict _ => .dct
def tyD (d : D) (S : Sto) : Option Ty := match d with
  | .p d => some (tyP d)
  | .tup _ => some .tup
  | .loc l => match S[l]? with
    | some (.lst _) => some .lst
    | some (.dK _) => some .dct
    | _ => none
  | .fn _ => none
@[simp] theorem tyD_p (d : PyData) (S : Sto) : tyD (.p d) S = some (tyP d) := rfl
@[simp] theorem tyD_tup (xs : List D) (S : Sto) : tyD (.tup xs) S = some .tup := rfl
theorem kit_tab : ∀ (a b : Ty), b ≠ .non → kitB a.nm b.nm = some (a.sub b) := by
  intro a b h
  cases a <;> cases b <;> first | exact absurd rfl h | decide +kernel
section
variable {X : Cx} {pins : List (Addr × Obj)} {σ : L2.St} {H : Hp} {s : Shared} {fd : Str → Str} {α : List Addr} {S : Sto}
def Kit (K : PySem.W.Frag) (u : Value) (T : String) (h : Heap) : Prop := ∃ P : Heap → Prop, PySem.W.KitX K u (.type T) P ∧ P h ∧ u ≠ .builtin "__main__.__loader__#opaque"
theorem kit_tup {vs : List V} {a : Addr} (I : Inv X pins σ H s) (h : SqT X.K H a vs) : Kit X.K (.ref a) "tuple" s.heap := by
  obtain ⟨its, _, ⟨o, h1, h2, _⟩, _⟩ := I.tuple h
  exact ⟨_, PySem.W.kitx_tuple, ⟨o, h1, h2⟩, fun z => nomatch z⟩
theorem kit_lst {vs : List V} {a : Addr} (I : Inv X pins σ H s) (h : SqL X.K H a vs) : Kit X.K (.ref a) "list" s.heap := by
  obtain ⟨its, _, pl, _⟩ := I.list h
  obtain ⟨o, h1, h2, _⟩ := pl.isList
  exact ⟨_, PySem.W.kitx_list, ⟨o, h1, h2⟩, fun z => nomatch z⟩
theorem kit_d {v : V} {u : Value} {d : D} {T : Ty} (I : Inv X pins σ H s) (ok : StoOk (nm X fd) H α S) (rv : RelV v u) (r : Rp (nm X fd) H α v d) (e : tyD d S = some T) : Kit X.K u T.nm s.heap := by
  cases r with
  | p r =>
    cases e
    cases r with
    | non => cases (show u = Value.none from rv); exact ⟨_, PySem.W.kitx_none, True.intro, fun z => nomatch z⟩
    | bl b => cases (show u = Value.bool b from rv); exact ⟨_, PySem.W.kitx_bool, True.intro, fun z => nomatch z⟩
    | int i => obtain ⟨t, q⟩ := (show ∃ t, u = Value.int i t from rv); cases q; exact ⟨_, PySem.W.kitx_int, True.intro, fun z => nomatch z⟩
    | str y => obtain ⟨t, q⟩ := (show ∃ t, u = Value.str y t from rv); cases q; exact ⟨_, PySem.W.kitx_str, True.intro, fun z => nomatch z⟩
    | @tup a vs ds h1 h2 => cases (show u = Value.ref a from rv); exact kit_tup I h1
    | @lst a vs ds h1 h2 h3 => cases (show u = Value.ref a from rv); exact kit_lst I h1.sq
    | @dct a φ ks vs dk dv h1 h2 h3 h4 h5 h6 =>
      cases (show u = Value.ref a from rv)
      obtain ⟨p, _, _⟩ := (show ObjOk X.prog X.w H s.heap a (.ext φ) from I.hok a _ h1)
      obtain ⟨o, es, n, g1, g2, _⟩ := h2 _ p
      exact ⟨_, PySem.W.kitx_dict, ⟨o, g1, g2⟩, fun z => nomatch z⟩
  | @tup a vs xs h1 h2 => cases e; cases (show u = Value.ref a from rv); exact kit_tup I h1
  | @loc a l hl =>
    cases (show u = Value.ref a from rv)
    unfold tyD at e
    simp only at e
    split at e
    · rename_i xs q
      cases e
      obtain ⟨vs, h1, _⟩ := ok.cell l a _ hl q
      exact kit_lst I (.inl (.inl h1))
    · rename_i xs q
      cases e
      obtain ⟨ks, vs, xs, h1, _⟩ := ok.cell l a _ hl q
      obtain ⟨_, _, ws, _, p⟩ := (show ObjOk X.prog X.w H s.heap a (.dK (ks.zip vs)) from I.hok a _ h1)
      obtain ⟨o, es, ep, g1, g2, _⟩ := p
      exact ⟨_, PySem.W.kitx_dict, ⟨o, g1, g2.1⟩, fun z => nomatch z⟩
    · cases e
  | fn _ => cases e

/-! ### what stands there, read deep -/
theorem reads_both (I : Inv X pins σ H s) : (∀ {d : PyData} {v : V}, Pd (nm X fd) H v d → ∀ {u : Value}, RelV v u → ∃ as, Reads s.heap u d as ∧ sysModules ∉ as) ∧
    ∀ {ds : List PyData} {vs : List V}, PdAll (nm X fd) H vs ds → ∀ {us : List Value}, Vals vs us → ∃ as, ReadsAll s.heap us ds as ∧ sysModules ∉ as := by
  have one : ∀ {v : V} {d : PyData} (h : Pd (nm X fd) H v d), ∀ {u : Value}, RelV v u → ∃ as, Reads s.heap u d as ∧ sysModules ∉ as := by
    intro v d h
    refine Pd.rec (motive_1 := fun v d _ => ∀ {u : Value}, RelV v u → ∃ as, Reads s.heap u d as ∧ sysModules ∉ as) (motive_2 := fun vs ds _ => ∀ {us : List Value}, Vals vs us → ∃ as, ReadsAll s.heap us ds as ∧ sysModules ∉ as) ?_ ?_ ?_ ?_ ?_ ?_ ?_ ?_ ?_ h
    · intro u rv; cases (show u = Value.none from rv); exact ⟨_, .none, by simp⟩
    · intro b u rv; cases (show u = Value.bool b from rv); exact ⟨_, .bool b, by simp⟩
    · intro i u rv; obtain ⟨t, q⟩ := (show ∃ t, u = Value.int i t from rv); cases q; exact ⟨_, .int i t, by simp⟩
    · intro y u rv; obtain ⟨t, q⟩ := (show ∃ t, u = Value.str y t from rv); cases q; exact ⟨_, .str y t, by simp⟩
    · intro a vs ds h1 h2 ih u rv
      cases (show u = Value.ref a from rv)
      obtain ⟨its, r, ⟨o, g1, g2, n, g3⟩, _⟩ := I.tuple h1
      obtain ⟨as, ra, na⟩ := ih r
      exact ⟨as, .tuple g1 g2 g3 (by simpa using ra), na⟩
    · intro a vs ds h1 h2 h3 ih u rv
      cases (show u = Value.ref a from rv)
      obtain ⟨its, r, pl, _⟩ := I.list h1.sq
      obtain ⟨o, n, g1, g2, _, g3⟩ := pl
      obtain ⟨as, ra, na⟩ := ih r
      exact ⟨_, .list g1 g2 g3 (by simpa using ra), by simp [na, Ne.symm h2]⟩
    · intro a φ ks vs dk dv h1 h2 h3 h4 h5 h6 ih1 ih2 u rv
      cases (show u = Value.ref a from rv)
      obtain ⟨p, _, _⟩ := (show ObjOk X.prog X.w H s.heap a (.ext φ) from I.hok a _ h1)
      obtain ⟨o, es, n, g1, g2, g3, g4, g5⟩ := h2 _ p
      obtain ⟨as, ra, na⟩ := ih1 g4
      obtain ⟨bs, rb, nb⟩ := ih2 g5
      refine ⟨_, .dict g1 g2 g3 (by rw [List.map_fst_zip (by omega)]; exact ra) (by rw [List.map_snd_zip (by omega)]; exact rb), ?_⟩
      simp [na, nb, Ne.symm h3]
    · intro us rv; cases rv; exact ⟨_, .nil, by simp⟩
    · intro v vs d ds h1 h2 ih1 ih2 us rv
      cases rv with
      | cons r1 r2 =>
        obtain ⟨as, ra, na⟩ := ih1 r1
        obtain ⟨bs, rb, nb⟩ := ih2 r2
        exact ⟨_, .cons ra rb, by simp [na, nb]⟩
  refine ⟨fun h => one h, ?_⟩
  intro ds vs h
  induction ds generalizing vs with
  | nil => cases h; intro us rv; cases rv; exact ⟨_, .nil, by simp⟩
  | cons d ds ih =>
    cases h with
    | cons h1 h2 =>
      intro us rv
      cases rv with
      | cons r1 r2 =>
        obtain ⟨as, ra, na⟩ := one h1 r1
        obtain ⟨bs, rb, nb⟩ := ih h2 r2
        exact ⟨_, .cons ra rb, by simp [na, nb]⟩
theorem reads_d (hs : SysIn X) (I : Inv X pins σ H s) (ok : StoOk (nm X fd) H α S) {v : V} {u : Value} {d : D} {x : PyData} (rv : RelV v u) (r : Rp (nm X fd) H α v d) (e : asP d S = some x) : ∃ as, Reads s.heap u x as ∧ sysModules ∉ as := by
  cases r with
  | p r => cases e; exact (reads_both I).1 r rv
  | tup h1 h2 => cases e
  | fn _ => cases e
  | @loc a l hl =>
    cases (show u = Value.ref a from rv)
    unfold asP at e
    simp only at e
    split at e
    · rename_i xs q
      rw [Option.map_eq_some_iff] at e
      obtain ⟨ds, e1, rfl⟩ := e
      obtain ⟨vs, h1, r⟩ := ok.cell l a _ hl q
      have := allP_eq e1
      subst this
      obtain ⟨its, rr, pl, _⟩ := I.list (.inl (.inl h1))
      obtain ⟨o, n, g1, g2, _, g3⟩ := pl
      obtain ⟨as, ra, na⟩ := (reads_both I).2 r.toP rr
      exact ⟨_, .list g1 g2 g3 (by simpa using ra), by simp [na, Ne.symm (not_sys hs I h1)]⟩
    · cases e
end

/-! ### the functions -/
inductive Bn where
  | len | int | abs | mx | mn | tup | lst | sum | all | any | repr | str | bool
deriving DecidableEq
def Bn.nm : Bn → Str
  | .len => "len" | .int => "int" | .abs => "abs" | .mx => "max" | .mn => "min" | .tup => "tuple" | .lst => "list" | .sum => "sum" | .all => "all" | .any => "any" | .repr => "repr" | .str => "str" | .bool => "bool"
def Bn.val : Bn → Value
  | .len => .builtin "len" | .int => .type "int" | .abs => .builtin "abs" | .mx => .builtin "max" | .mn => .builtin "min" | .tup => .type "tuple" | .lst => .type "list" | .sum => .builtin "sum" | .all => .builtin "all"
  | .any => .builtin "any" | .repr => .builtin "repr" | .str => .type "str" | .bool => .type "bool"
def intsOf : List D → Option (List Int)
  | [] => some []
  | .p (.int i) :: r => (intsOf r).map (i :: ·)
  | _ :: _ => none
def boolsOf : List D → Option (List Bool)
  | [] => some []
  | .p (.bool i) :: r => (boolsOf r).map (i :: ·)
  | _ :: _ => none
@[simp] theorem intsOf_map (l : List Int) : intsOf (l.map fun i => D.p (.int i)) = some l := by
  induction l with
  | nil => rfl
  | cons a l ih => simp [intsOf, ih]
@[simp] theorem boolsOf_map (l : List Bool) : boolsOf (l.map fun i => D.p (.bool i)) = some l := by
  induction l with
  | nil => rfl
  | cons a l ih => simp [boolsOf, ih]
section
variable {N : Nm} {H : Hp} {α : List Addr}
theorem intsOf_rp : ∀ {xs : List D} {ns : List Int} {vs : List V}, intsOf xs = some ns → RpAll N H α vs xs → vs = ns.map V.int
  | [], ns, vs, e, r => by cases r; simp [intsOf] at e; subst e; rfl
  | .p (.int i) :: xs, ns, vs, e, r => by
    simp only [intsOf, Option.map_eq_some_iff] at e
    obtain ⟨ms, e1, rfl⟩ := e
    cases r with
    | cons r1 r2 => rw [intsOf_rp e1 r2, r1.int_inv]; rfl
  | .p .none :: _, _, _, e, _ => by cases e
  | .p (.bool _) :: _, _, _, e, _ => by cases e
  | .p (.str _) :: _, _, _, e, _ => by cases e
  | .p (.tuple _) :: _, _, _, e, _ => by cases e
  | .p (.list _) :: _, _, _, e, _ => by cases e
  | .p (.dict _) :: _, _, _, e, _ => by cases e
  | .loc _ :: _, _, _, e, _ => by cases e
  | .tup _ :: _, _, _, e, _ => by cases e
  | .fn _ :: _, _, _, e, _ => by cases e
theorem boolsOf_rp : ∀ {xs : List D} {ns : List Bool} {vs : List V}, boolsOf xs = some ns → RpAll N H α vs xs → vs = ns.map V.bl
  | [], ns, vs, e, r => by cases r; simp [boolsOf] at e; subst e; rfl
  | .p (.bool i) :: xs, ns, vs, e, r => by
    simp only [boolsOf, Option.map_eq_some_iff] at e
    obtain ⟨ms, e1, rfl⟩ := e
    cases r with
    | cons r1 r2 => rw [boolsOf_rp e1 r2, r1.bool_inv]; rfl
  | .p .none :: _, _, _, e, _ => by cases e
  | .p (.int _) :: _, _, _, e, _ => by cases e
  | .p (.str _) :: _, _, _, e, _ => by cases e
  | .p (.tuple _) :: _, _, _, e, _ => by cases e
  | .p (.list _) :: _, _, _, e, _ => by cases e
  | .p (.dict _) :: _, _, _, e, _ => by cases e
  | .loc _ :: _, _, _, e, _ => by cases e
  | .tup _ :: _, _, _, e, _ => by cases e
  | .fn _ :: _, _, _, e, _ => by cases e
end
def lenD (d : D) (S : Sto) : Option Nat := match d with
  | .p (.str z) => if z.length ≤ sizeLine then some z.length else none
  | .loc l => match S[l]? with
    | some (.lst xs) => some xs.length
    | some (.dK kvs) => some kvs.length
    | _ => none
  | d => (seqOf d S).map List.length
def maxI : List Int → Int
  | [] => 0
  | [a] => a
  | a :: r => if maxI r > a then maxI r else a
def minI : List Int → Int
  | [] => 0
  | [a] => a
  | a :: r => if minI r < a then minI r else a
def opBn (m : Bool) (f : Bn) (ds : List D) (S : Sto) : Res D := match f, ds with
  | .len, [d] => match lenD d S with
    | some n => .ok (.i n) S
    | none => .st
  | .int, [.p (.int i)] => .ok (.i i) S
  | .int, [.p (.bool k)] => .ok (.i (if k then 1 else 0)) S
  | .bool, [.p (.int i)] => .ok (.b (i != 0)) S
  | .bool, [.p (.bool k)] => .ok (.b k) S
  | .abs, [.p (.int i)] => .ok (.i (if i < 0 then -i else i)) S
  | .mx, [.p (.int i), .p (.int j)] => .ok (.i (if j > i then j else i)) S
  | .mn, [.p (.int i), .p (.int j)] => .ok (.i (if j < i then j else i)) S
  | .tup, [d] => match tupOf d with
    | some _ => .ok d S
    | none => match lstOf d S with
      | some xs => .ok (mkT xs) S
      | none => .st
  | .lst, [d] => match seqOf d S with
    | some xs => mkL m xs S
    | none => .st
  | .sum, [d] => match (lstOf d S).bind intsOf with
    | some ns => .ok (.i ns.sum) S
    | none => .st
  | .all, [d] => match (lstOf d S).bind boolsOf with
    | some ns => .ok (.b (ns.all id)) S
    | none => .st
  | .any, [d] => match (lstOf d S).bind boolsOf with
    | some ns => .ok (.b (ns.any id)) S
    | none => .st
  | .repr, [d] => match asP d S with
    | some x => if x.showable = true ∧ x.shown.length ≤ sizeLine ∧ x.depth ≤ 150 then .ok (.s x.shown) S else .st
    | none => .st
  | .str, [.p (.int i)] => if i.natAbs.log2 < 1920 then .ok (.s (toString i)) S else .st
  | .str, [.p (.str x)] => .ok (.s x) S
  | _, _ => .st
/-- what the frame must be for the built-in functions -/
structure Good (X : Cx) : Prop where
  calm : X.calm = true
  gd : X.A.guards = some []
  un : X.A.units + 200 < cLine
  sys : SysIn X
section
variable {X : Cx} {fd : Str → Str} {E : XK}
theorem cr_fz {f : Value} {r : List V → Hp → VK → Prop} (hs : SysIn X) (h : CallR X f r) : CallR X f fun xs H Q => r xs H (FzOr Q) :=
  fun pins s σ H xs us Q I rs q => thn (h pins s σ H xs us _ I rs q) fun u s' z => ep_fz hs z
theorem CallR.imp {f : Value} {r r' : List V → Hp → VK → Prop} (h : CallR X f r) (i : ∀ xs H Q, r' xs H Q → r xs H Q) : CallR X f r' := fun pins s σ H xs us Q I rs q => h pins s σ H xs us Q I rs (i _ _ _ q)
theorem rp1 {N : Nm} {H : Hp} {α : List Addr} {vs : List V} {d : D} (r : RpAll N H α vs [d]) : ∃ v, vs = [v] ∧ Rp N H α v d := by
  cases r with
  | cons r1 r => cases r; exact ⟨_, rfl, r1⟩
theorem rp2 {N : Nm} {H : Hp} {α : List Addr} {vs : List V} {d e : D} (r : RpAll N H α vs [d, e]) : ∃ v w, vs = [v, w] ∧ Rp N H α v d ∧ Rp N H α w e := by
  cases r with
  | cons r1 r => obtain ⟨w, rfl, r2⟩ := rp1 r; exact ⟨_, _, rfl, r1, r2⟩
/-- an answer at once -/
theorem now {N : Nm} {α : List Addr} {S : Sto} {H : Hp} {d : D} {v : V} {Q : VK} (ok : StoOk N H α S) (h : dRes N E α S H (.ok d S) Q) (r : Rp N H α v d) : Q v H := h v H α .refl ok r
theorem cr_len : CallR X (.builtin "len") (dN (nm X fd) E (opBn m .len)) := by
  refine CallR.imp (CallR.or call_len call_lenD) fun xs H Q ⟨S, α, ds, ok, r, h⟩ => ?_
  unfold opBn at h
  split at h <;> first | (rename_i e; cases e) | skip
  · rename_i d _
    obtain ⟨v, rfl, rv⟩ := rp1 r
    split at h
    · rename_i n e
      unfold lenD at e
      split at e
      · split at e
        · rename_i hz
          cases e
          exact .inl ⟨_, _, rfl, by rw [rv.str_inv]; exact ⟨hz, rfl⟩, now ok h (.p (.int _))⟩
        · cases e
      · split at e
        · rename_i xs q
          cases e
          cases rv with
          | loc hl =>
            obtain ⟨vs, h1, r1⟩ := ok.cell _ _ _ hl q
            refine .inl ⟨_, _, rfl, .inl ⟨vs, .inl (.inl h1), rfl⟩, ?_⟩
            rw [r1.length]
            exact now ok h (.p (.int _))
        · rename_i xs q
          cases e
          cases rv with
          | loc hl =>
            obtain ⟨ks, vs, xs, h1, e2, e3, r1⟩ := ok.cell _ _ _ hl q
            refine .inr ⟨_, _, rfl, h1, ?_⟩
            have := r1.length
            subst e2
            have e4 : (ks.zip vs).length = (ks.zip xs).length := by simp; omega
            rw [e4]
            exact now ok h (.p (.int _))
        · cases e
      · rw [Option.map_eq_some_iff] at e
        obtain ⟨xs, e1, rfl⟩ := e
        obtain ⟨a, vs, rfl, h1, r1⟩ := rv.seq_inv ok e1
        refine .inl ⟨_, vs.length, rfl, ?_, ?_⟩
        · rcases h1 with h1 | h1
          · exact .inl ⟨vs, h1, rfl⟩
          · exact .inr ⟨vs, h1, rfl⟩
        · rw [r1.length]
          exact now ok h (.p (.int _))
    · exact h.elim
  · exact h.elim
end
end Dl

set_option linter.all false
set_option maxRecDepth 100000
set_option maxHeartbeats 4000000
/-! Dl13: built-in functions by plain values: the rest, and their calls. -/
namespace Dl
open PySem PySem.Spec PyProof.Rows L2
section
variable {X : Cx} {fd : Str → Str} {E : XK}
theorem cr_int : CallR X (.type "int") (dN (nm X fd) E (opBn m .int)) := by
  refine CallR.imp call_int1 fun xs H Q ⟨S, α, ds, ok, r, h⟩ => ?_
  unfold opBn at h
  split at h <;> first | (rename_i e; cases e) | skip
  · obtain ⟨v, rfl, rv⟩ := rp1 r
    exact .inl ⟨_, by rw [rv.int_inv], now ok h (.p (.int _))⟩
  · obtain ⟨v, rfl, rv⟩ := rp1 r
    exact .inr ⟨_, by rw [rv.bool_inv], now ok h (.p (.int _))⟩
  · exact h.elim
theorem cr_bool : CallR X (.type "bool") (dN (nm X fd) E (opBn m .bool)) := by
  refine CallR.imp call_bool1 fun xs H Q ⟨S, α, ds, ok, r, h⟩ => ?_
  unfold opBn at h
  split at h <;> first | (rename_i e; cases e) | skip
  · obtain ⟨v, rfl, rv⟩ := rp1 r
    exact .inl ⟨_, by rw [rv.int_inv], now ok h (.p (.bl _))⟩
  · obtain ⟨v, rfl, rv⟩ := rp1 r
    exact .inr ⟨_, by rw [rv.bool_inv], now ok h (.p (.bl _))⟩
  · exact h.elim
theorem cr_abs : CallR X (.builtin "abs") (dN (nm X fd) E (opBn m .abs)) := by
  refine CallR.imp call_abs fun xs H Q ⟨S, α, ds, ok, r, h⟩ => ?_
  unfold opBn at h
  split at h <;> first | (rename_i e; cases e) | skip
  · obtain ⟨v, rfl, rv⟩ := rp1 r
    exact ⟨_, by rw [rv.int_inv], now ok h (.p (.int _))⟩
  · exact h.elim
theorem cr_mx (G : Good X) : CallR X (.builtin "max") (dN (nm X fd) E (opBn m .mx)) := by
  refine CallR.imp (call_max2 G.calm) fun xs H Q ⟨S, α, ds, ok, r, h⟩ => ?_
  unfold opBn at h
  split at h <;> first | (rename_i e; cases e) | skip
  · obtain ⟨v, w, rfl, rv, rw'⟩ := rp2 r
    exact ⟨_, _, by rw [rv.int_inv, rw'.int_inv], now ok h (.p (.int _))⟩
  · exact h.elim
theorem cr_mn (G : Good X) : CallR X (.builtin "min") (dN (nm X fd) E (opBn m .mn)) := by
  refine CallR.imp (call_min2 G.calm) fun xs H Q ⟨S, α, ds, ok, r, h⟩ => ?_
  unfold opBn at h
  split at h <;> first | (rename_i e; cases e) | skip
  · obtain ⟨v, w, rfl, rv, rw'⟩ := rp2 r
    exact ⟨_, _, by rw [rv.int_inv, rw'.int_inv], now ok h (.p (.int _))⟩
  · exact h.elim
theorem cr_tup : CallR X (.type "tuple") (dN (nm X fd) E (opBn m .tup)) := by
  refine CallR.imp call_tuple_of fun xs H Q ⟨S, α, ds, ok, r, h⟩ => ?_
  unfold opBn at h
  split at h <;> first | (rename_i e; cases e) | skip
  · obtain ⟨v, rfl, rv⟩ := rp1 r
    split at h
    · rename_i xs e
      obtain ⟨a, vs, rfl, h1, r1⟩ := rv.tup_inv e
      exact ⟨a, vs, rfl, .inr ⟨h1, now ok h rv⟩⟩
    · split at h
      · rename_i xs e
        obtain ⟨a, vs, rfl, h1, r1⟩ := rv.lst_inv ok e
        exact ⟨a, vs, rfl, .inl ⟨h1, newT ok r1 h⟩⟩
      · exact h.elim
  · exact h.elim
theorem cr_lst (G : Good X) : CallR X (.type "list") (dN (nm X fd) E (opBn m .lst)) := by
  refine CallR.imp (cr_fz G.sys call_list_of) fun xs H Q ⟨S, α, ds, ok, r, h⟩ => ?_
  unfold opBn at h
  split at h <;> first | (rename_i e; cases e) | skip
  · obtain ⟨v, rfl, rv⟩ := rp1 r
    split at h
    · rename_i xs e
      obtain ⟨a, vs, rfl, h1, r1⟩ := rv.seq_inv ok e
      exact ⟨a, vs, rfl, h1, newL ok r1 h⟩
    · exact h.elim
  · exact h.elim
theorem cr_sumD (G : Good X) : CallR X (.builtin "sum") (dN (nm X fd) E (opBn m .sum)) := by
  refine CallR.imp (cr_sum G.calm) fun xs H Q ⟨S, α, ds, ok, r, h⟩ => ?_
  unfold opBn at h
  split at h <;> first | (rename_i e; cases e) | skip
  · obtain ⟨v, rfl, rv⟩ := rp1 r
    split at h
    · rename_i ns e
      obtain ⟨xs, e1, e2⟩ := Option.bind_eq_some_iff.mp e
      obtain ⟨a, vs, rfl, h1, r1⟩ := rv.lst_inv ok e1
      exact ⟨a, ns, rfl, by rw [← intsOf_rp e2 r1]; exact h1, now ok h (.p (.int _))⟩
    · exact h.elim
  · exact h.elim
theorem cr_allD (G : Good X) : CallR X (.builtin "all") (dN (nm X fd) E (opBn m .all)) := by
  refine CallR.imp (cr_all G.calm) fun xs H Q ⟨S, α, ds, ok, r, h⟩ => ?_
  unfold opBn at h
  split at h <;> first | (rename_i e; cases e) | skip
  · obtain ⟨v, rfl, rv⟩ := rp1 r
    split at h
    · rename_i ns e
      obtain ⟨xs, e1, e2⟩ := Option.bind_eq_some_iff.mp e
      obtain ⟨a, vs, rfl, h1, r1⟩ := rv.lst_inv ok e1
      exact ⟨a, ns, rfl, by rw [← boolsOf_rp e2 r1]; exact h1, now ok h (.p (.bl _))⟩
    · exact h.elim
  · exact h.elim
theorem cr_anyD (G : Good X) : CallR X (.builtin "any") (dN (nm X fd) E (opBn m .any)) := by
  refine CallR.imp (cr_any G.calm) fun xs H Q ⟨S, α, ds, ok, r, h⟩ => ?_
  unfold opBn at h
  split at h <;> first | (rename_i e; cases e) | skip
  · obtain ⟨v, rfl, rv⟩ := rp1 r
    split at h
    · rename_i ns e
      obtain ⟨xs, e1, e2⟩ := Option.bind_eq_some_iff.mp e
      obtain ⟨a, vs, rfl, h1, r1⟩ := rv.lst_inv ok e1
      exact ⟨a, ns, rfl, by rw [← boolsOf_rp e2 r1]; exact h1, now ok h (.p (.bl _))⟩
    · exact h.elim
  · exact h.elim
theorem cr_str : CallR X (.type "str") (dN (nm X fd) E (opBn m .str)) := by
  refine CallR.imp (CallR.or call_str_int SkE.call_str_str) fun xs H Q ⟨S, α, ds, ok, r, h⟩ => ?_
  unfold opBn at h
  split at h <;> first | (rename_i e; cases e) | skip
  · obtain ⟨v, rfl, rv⟩ := rp1 r
    split at h
    · rename_i hz
      exact .inl ⟨_, by rw [rv.int_inv], hz, now ok h (.p (.str _))⟩
    · exact h.elim
  · obtain ⟨v, rfl, rv⟩ := rp1 r
    exact .inr ⟨_, by rw [rv.str_inv], now ok h (.p (.str _))⟩
  · exact h.elim
theorem cr_repr (G : Good X) : CallR X (.builtin "repr") (dN (nm X fd) E (opBn m .repr)) := by
  intro pins s σ H xs us Q I rs ⟨S, α, ds, ok, r, h⟩
  unfold opBn at h
  split at h <;> first | (rename_i e; cases e) | skip
  · obtain ⟨v, rfl, rv⟩ := rp1 r
    obtain ⟨u, rfl, ru⟩ := vals1 rs
    split at h
    · rename_i d _ x e
      split at h
      · rename_i hz
        obtain ⟨h1, h2, h3⟩ := hz
        obtain ⟨as, ra, na⟩ := reads_d G.sys I ok ru rv e
        have q := now (v := .str x.shown) ok h (.p (.str _))
        have un := G.un
        have big : ∀ a, Reads s.heap (.ref a) x as → wpAny (model X.prog X.w) X.A (call (.builtin "repr") [.ref a]) (EP X pins σ Q) X.xe s := fun a ra =>
          repr_of_reads' ra h1 (fun _ => na) G.gd (by omega) (fun b o z => z) (fun h' u tk hk => ⟨.str x.shown, H, I.kept hk, ⟨_, rfl⟩, q⟩) h2
        cases ra with
        | none => exact PySem.P.repr_of_none ⟨.str _, H, I.tok _, ⟨_, rfl⟩, q⟩
        | bool b => exact PySem.P.repr_of_bool ⟨.str _, H, I.tok _, ⟨_, rfl⟩, q⟩
        | int i t => exact PySem.P.repr_of_int (by simpa [PyData.showable] using h1) ⟨.str _, H, I.tok _, ⟨_, rfl⟩, q⟩
        | str y t => exact PySem.P.repr_of_str ⟨.str _, H, I.tok _, ⟨_, rfl⟩, q⟩
        | list a1 a2 a3 a4 => exact big _ (.list a1 a2 a3 a4)
        | tuple a1 a2 a3 a4 => exact big _ (.tuple a1 a2 a3 a4)
        | dict a1 a2 a3 a4 a5 => exact big _ (.dict a1 a2 a3 a4 a5)
      · exact h.elim
    · exact h.elim
  · exact h.elim
theorem cr_bn (G : Good X) (f : Bn) : CallR X f.val (dN (nm X fd) E (opBn m f)) := by
  cases f with
  | len => exact cr_len
  | int => exact cr_int
  | abs => exact cr_abs
  | mx => exact cr_mx G
  | mn => exact cr_mn G
  | tup => exact cr_tup
  | lst => exact cr_lst G
  | sum => exact cr_sumD G
  | all => exact cr_allD G
  | any => exact cr_anyD G
  | repr => exact cr_repr G
  | str => exact cr_str
  | bool => exact cr_bool
end
end Dl

set_option linter.all false
set_option maxRecDepth 100000
set_option maxHeartbeats 4000000
/-! Dl14: calls of built-in functions, isinstance, slices, methods. -/
namespace Dl
open PySem PySem.Spec PyProof.Rows L2
section
variable {X : Cx} {fd : Str → Str} {E : XK} {e a b : Expr} {es : List Expr} {pos p apos : Pos} {Fe Fa Fb : Slots → Sto → Res D} {Fs : Slots → Sto → Res (List D)}
theorem bn_boot (f : Bn) : bootBuiltins f.nm = some f.val := by cases f <;> decide +kernel
theorem bn_ne (f : Bn) : f.nm ≠ "__name__" := by cases f <;> decide +kernel
theorem bn_db (f : Bn) : (f.nm == ("__debug__" : Str)) = false := by cases f <;> decide +kernel
abbrev fBn (m : Bool) (f : Bn) (Fs : Slots → Sto → Res (List D)) : Slots → Sto → Res D := fun ρ S => (Fs ρ S).bind (opBn m f)
theorem dv_bn (G : Good X) {m : Bool} (f : Bn) {x : Str} (ex : x = f.nm) (hg : Gl X x) (hm : X.mg x = none) (ha : PA X (e :: es) (dA (nm X fd) E Fs)) (hn : (e :: es).all nsE = true) :
    PE X (.Call (.Name x p) (e :: es) [] pos) (dE (nm X fd) E (fBn m f Fs)) := by
  subst ex
  simp only [List.all_cons, Bool.and_eq_true] at hn
  have he : starEach (e :: es) X.env = (false, eval e X.env) :: starEach es X.env := starEach_ns hn.1
  have hpl : (backTo pos (starEach es X.env)).any (·.1) = false := starEach_all hn.2
  have i : ∀ σ H Q, dE (nm X fd) E (fBn m f Fs) σ H Q → tCB (dN (nm X fd) E (opBn m f)) (dA (nm X fd) E Fs) σ H Q := fun σ H Q h => dE_args h
  have big : ∀ u, f.val = u → (∃ id, u = .builtin id) ∨ (∃ T, u = .type T) → PE X (.Call (.Name f.nm p) (e :: es) [] pos) (dE (nm X fd) E (fBn m f Fs)) := fun u eu z => by
    rcases z with ⟨id, z⟩ | ⟨T, z⟩
    · exact PE.imp (pe_callB (id := id) (by rw [← z, ← eu]; exact cr_bn G f) hg hm (by rw [← z, ← eu]; exact bn_boot f) ha (bn_ne f) (bn_db f) he hpl) i
    · exact PE.imp (pe_callTy (T := T) (by rw [← z, ← eu]; exact cr_bn G f) hg hm (by rw [← z, ← eu]; exact bn_boot f) ha (bn_ne f) (bn_db f) he hpl) i
  refine big f.val rfl ?_
  cases f <;> first | exact .inl ⟨_, rfl⟩ | exact .inr ⟨_, rfl⟩
/-! ### isinstance -/
theorem ty_boot (T : Ty) (h : T ≠ .non) : bootBuiltins T.nm = some (.type T.nm) := by cases T <;> first | exact absurd rfl h | decide +kernel
theorem ty_ne (T : Ty) : (T.nm : Str) ≠ "__name__" := by cases T <;> decide +kernel
theorem ty_db (T : Ty) : ((T.nm : Str) == ("__debug__" : Str)) = false := by cases T <;> decide +kernel
def opIsi (T : Ty) (d : D) (S : Sto) : Res D := match tyD d S with
  | some t => .ok (.b (t.sub T)) S
  | none => .st
abbrev fIsi (T : Ty) (Fe : Slots → Sto → Res D) : Slots → Sto → Res D := fun ρ S => (Fe ρ S).bind (opIsi T)
theorem call_isiD (fd : Str → Str) (E : XK) (T : Ty) (hT : T ≠ .non) : CallR X (.builtin "isinstance") (fun xs H Q => ∃ S α d v, xs = [v, .ty T.nm] ∧ StoOk (nm X fd) H α S ∧ Rp (nm X fd) H α v d ∧ dRes (nm X fd) E α S H (opIsi T d S) Q) := by
  intro pins s σ H xs us Q I r ⟨S, α, d, v, ex, ok, rv, h⟩
  subst ex
  obtain ⟨u1, u2, rfl, r1, r2⟩ := vals2 r
  cases (show u2 = Value.type T.nm from r2)
  unfold opIsi at h
  split at h
  · rename_i t e
    obtain ⟨P, Z, p, hx⟩ := kit_d I ok r1 rv e
    exact PySem.W.kia_one Z I.kIn p (kit_ty (kit_tab t T hT)) hx fun tk => ⟨.bl _, H, I.tok tk, rfl, now ok h (.p (.bl _))⟩
  · exact h.elim
theorem dv_isi {T : Ty} (hT : T ≠ .non) {x y : Str} {py : Pos} (ex : x = "isinstance") (ey : y = T.nm) (hg : Gl X x) (hm : X.mg x = none) (hg2 : Gl X y) (hm2 : X.mg y = none) (he : PE X e (dE (nm X fd) E Fe)) (hn : nsE e = true) :
    PE X (.Call (.Name x p) [e, .Name y py] [] pos) (dE (nm X fd) E (fIsi T Fe)) := by
  subst ex ey
  have hy : PE X (.Name T.nm py) (tC (.ty T.nm)) := pe_bltn hg2 hm2 (ty_boot T hT) rfl (ty_ne T) (ty_db T)
  refine PE.imp (pe_callB (call_isiD fd E T hT) hg hm (by decide +kernel) (pa_cons he (pa_cons hy pa_nil) (starEach_ns hn)) (by decide +kernel) (by decide +kernel) (starEach_ns hn) (by rfl)) ?_
  intro σ H Q ⟨ρ, S, α, r, ok, h⟩
  refine ⟨ρ, S, α, r, ok, ?_⟩
  simp only [fIsi] at h
  cases q : Fe ρ S with
  | ok d S1 =>
    rw [q] at h
    exact fun v H' α' st ok' rv => ⟨S1, α', d, v, rfl, ok', rv, dRes.shift ok st h⟩
  | ex c e' S' => rw [q] at h; exact h
  | st => rw [q] at h; exact h
/-! ### slices -/
def part (F : Option (Slots → Sto → Res D)) (ρ : Slots) (S : Sto) : Res (Option Int) := match F with
  | none => .ok none S
  | some F => (F ρ S).bind fun d S1 => match d with
    | .p (.int i) => .ok (some i) S1
    | _ => .st
def dResO (N : Nm) (E : XK) (α : List Addr) (S : Sto) (H : Hp) (r : Res (Option Int)) (Q : Option Int → Hp → Prop) : Prop := match r with
  | .ok d S' => ∀ H' α', Stp α S H α' S' H' → StoOk N H' α' S' → Q d H'
  | .ex c e S' => ∀ cls dx H' α', Stp α S H α' S' H' → StoOk N H' α' S' → XOk N H' α' cls dx c e → E cls dx H'
  | .st => False
def dO (N : Nm) (E : XK) (F : Slots → Sto → Res (Option Int)) : TO := fun σ H Q => ∃ ρ S α, Rho N H α σ ρ ∧ StoOk N H α S ∧ dResO N E α S H (F ρ S) Q
theorem do_none : PO X none (dO (nm X fd) E (part none)) := by
  refine ⟨fun pins s σ H Q I ⟨ρ, S, α, r, ok, h⟩ => po_none.run pins s σ H Q I ?_⟩
  exact h H α .refl ok
theorem do_some (he : PE X e (dE (nm X fd) E Fe)) : PO X (some e) (dO (nm X fd) E (part (some Fe))) := by
  refine ⟨fun pins s σ H Q I ⟨ρ, S, α, r, ok, h⟩ => (po_some he).run pins s σ H Q I ⟨ρ, S, α, r, ok, ?_⟩⟩
  simp only [part] at h
  cases q : Fe ρ S with
  | ok d S1 =>
    rw [q] at h
    intro v H' α' st ok' rv
    simp only [bind_ok] at h
    split at h
    · exact ⟨_, rv.int_inv, h H' α' st ok'⟩
    · exact h.elim
  | ex c e' S' => rw [q] at h; exact h
  | st => rw [q] at h; exact h
abbrev fSli (m : Bool) (Fa : Slots → Sto → Res D) (lo hi : Option (Slots → Sto → Res D)) : Slots → Sto → Res D :=
  fun ρ S => (Fa ρ S).bind fun a S1 => (part lo ρ S1).bind fun l S2 => (part hi ρ S2).bind fun u S3 => opSli m a l u S3
theorem dResO.shift {N : Nm} {E : XK} {α α1 : List Addr} {S S1 : Sto} {H H1 : Hp} (ok : StoOk N H α S) (a : Stp α S H α1 S1 H1) {r : Res (Option Int)} {Q : Option Int → Hp → Prop} (h : dResO N E α S H r Q) : dResO N E α1 S1 H1 r Q := by
  cases r with
  | ok d S' => exact fun H' α' st o => h H' α' (a.trans ok st) o
  | ex c e S' => exact fun cls dx H' α' st o r => h cls dx H' α' (a.trans ok st) o r
  | st => exact h
theorem dv_sli (hs : SysIn X) {m : Bool} {lo hi : Option Expr} {Fl Fh : Option (Slots → Sto → Res D)} {p2 : Pos} (ha : PE X a (dE (nm X fd) E Fa)) (hl : PO X lo (dO (nm X fd) E (part Fl))) (hh : PO X hi (dO (nm X fd) E (part Fh))) :
    PE X (.Subscript a (.Slice lo hi none p2) pos) (dE (nm X fd) E (fSli m Fa Fl Fh)) := by
  refine PE.imp (pe_fz hs (pe_slice (slr_sli (fd := fd) (E := E) m) ha hl hh)) fun σ H Q ⟨ρ, S, α, r, ok, h⟩ => ⟨ρ, S, α, r, ok, ?_⟩
  simp only [fSli] at h
  cases q : Fa ρ S with
  | ex c e' S' => rw [q] at h; exact h
  | st => rw [q] at h; exact h
  | ok d S1 =>
    rw [q] at h
    intro v H1 α1 st1 ok1 rv
    refine ⟨ρ, S1, α1, r.step ok st1, ok1, ?_⟩
    have h := dRes.shift ok st1 h
    simp only [bind_ok] at h
    cases q2 : part Fl ρ S1 with
    | ex c e' S' => rw [q2] at h; exact h
    | st => rw [q2] at h; exact h
    | ok l S2 =>
      rw [q2] at h
      intro H2 α2 st2 ok2
      refine ⟨ρ, S2, α2, (r.step ok st1).step ok1 st2, ok2, ?_⟩
      have h := dRes.shift ok1 st2 h
      simp only [bind_ok] at h
      cases q3 : part Fh ρ S2 with
      | ex c e' S' => rw [q3] at h; exact h
      | st => rw [q3] at h; exact h
      | ok u S3 =>
        rw [q3] at h
        intro H3 α3 st3 ok3
        have h := dRes.shift ok2 st3 h
        exact ⟨S3, α3, d, ok3, st3.rp ok2 (st2.rp ok1 rv), Q, h, rfl⟩
/-! ### all items, turned -/
def opRev (m : Bool) (d : D) (S : Sto) : Res D := match lstOf d S with
  | some xs => mkL m xs.reverse S
  | none => .st
abbrev fRev (m : Bool) (Fa : Slots → Sto → Res D) : Slots → Sto → Res D := fun ρ S => (Fa ρ S).bind (opRev m)
theorem dv_rev (hs : SysIn X) {m : Bool} {k : Nat} {p1 p2 p3 : Pos} (ha : PE X a (dE (nm X fd) E Fa)) : PE X (.Subscript a (.Slice none none (some (.UnaryOp .USub (.Constant (.int 1) k p1) p2)) p3) pos) (dE (nm X fd) E (fRev m Fa)) := by
  refine PE.imp (pe_fz hs (pe_revL ha)) fun σ H Q ⟨ρ, S, α, r, ok, h⟩ => ⟨ρ, S, α, r, ok, ?_⟩
  simp only [fRev] at h
  cases q : Fa ρ S with
  | ex c e' S' => rw [q] at h; exact h
  | st => rw [q] at h; exact h
  | ok d S1 =>
    rw [q] at h
    intro v H1 α1 st1 ok1 rv
    have h := dRes.shift ok st1 h
    simp only [bind_ok, opRev] at h
    split at h
    · rename_i xs e1
      obtain ⟨p, vs, rfl, h1, r1⟩ := rv.lst_inv ok1 e1
      exact ⟨p, vs, rfl, h1, newL ok1 r1.reverse h⟩
    · exact h.elim
/-! ### a field -/
abbrev fFld (f : Str) (Fa : Slots → Sto → Res D) : Slots → Sto → Res D := fun ρ S => (Fa ρ S).bind (opFld f)
def baseE : Expr → Bool
  | .Call (.Name _ _) [] [] _ => false
  | _ => true
theorem base_of {o : Expr} {f : Str} {env : Env} (h : baseE o = true) : attributeBase o f env (eval o env) = eval o env := by
  unfold baseE at h
  split at h
  · cases h
  · rename_i h2
    unfold attributeBase
    split
    · rename_i q
      exact absurd rfl (h2 _ _ _)
    · rfl
theorem lookup_zipD {N : Nm} {H : Hp} {α : List Addr} {f : Str} {d : D} : ∀ {ks : List Str} {vs : List V} {xs : List D}, RpAll N H α vs xs → List.lookup f (ks.zip xs) = some d → ks.length = vs.length → f ∈ ks ∧ ∃ v, (ks.zip vs).lookup f = some v ∧ Rp N H α v d
  | [], vs, xs, r, e, hl => by simp at e
  | k :: ks, _, _, .nil, e, hl => by simp at e
  | k :: ks, _, _, .cons (v := v) (d := x) r1 r2, e, hl => by
    simp only [List.zip_cons_cons, List.lookup_cons] at e ⊢
    by_cases q : f = k
    · subst q
      simp only [beq_self_eq_true] at e ⊢
      cases e
      exact ⟨by simp, v, rfl, r1⟩
    · have : (f == k) = false := by simpa using q
      simp only [this] at e ⊢
      obtain ⟨m, w, e2, r3⟩ := lookup_zipD r2 e (by simpa using hl)
      exact ⟨by simp [m], w, e2, r3⟩
theorem dv_fld {f : Str} (ha : PE X a (dE (nm X fd) E Fa)) (hb : baseE a = true) : PE X (.Attribute a f pos) (dE (nm X fd) E (fFld f Fa)) := by
  refine PE.imp (pe_fld ha (base_of hb)) fun σ H Q ⟨ρ, S, α, r, ok, h⟩ => ⟨ρ, S, α, r, ok, ?_⟩
  simp only [fFld] at h
  cases q : Fa ρ S with
  | ex c e' S' => rw [q] at h; exact h
  | st => rw [q] at h; exact h
  | ok d S1 =>
    rw [q] at h
    intro v H1 α1 st1 ok1 rv
    have h := dRes.shift ok st1 h
    simp only [bind_ok, opFld] at h
    split at h
    · split at h
      · rename_i C fs e1
        split at h
        · rename_i d e2
          cases rv with
          | @loc p _ hl =>
            obtain ⟨Ca, dx, ks, vs, xs, h1, h2, h3, h4, h5, h6, h7⟩ := ok1.cell _ _ _ hl e1
            subst h3
            obtain ⟨mem, w, e3, rw'⟩ := lookup_zipD h5 e2 h4
            exact ⟨p, Ca, dx, _, w, rfl, h2, h6, h7 f mem, e3, now ok1 h rw'⟩
        · exact h.elim
      · exact h.elim
    · exact h.elim
end
end Dl

set_option linter.all false
set_option maxRecDepth 100000
set_option maxHeartbeats 4000000
/-! Dl15: zip and enumerate of lists and tuples of any kind. -/
namespace Dl
open PySem PySem.Spec PyProof.Rows L2
/-- a list or a tuple, by its place -/
inductive Sk where
  | l (a : Addr)
  | t (a : Addr)
namespace Sk
def pl : Sk → Addr
  | .l a => a
  | .t a => a
def sq (K : PySem.W.Frag) (H : Hp) : Sk → List V → Prop
  | .l a, xs => SqL K H a xs
  | .t a, xs => SqT K H a xs
def itr (p : Addr) (i : Nat) (h : Heap) : Sk → Prop
  | .l a => h.IsListIter p a i
  | .t a => h.IsTupleIter p a i
def has (items : Array Value) (h : Heap) : Sk → Prop
  | .l a => h.IsList a items
  | .t a => h.IsTuple a items
def obj : Sk → Obj
  | .l a => { cls := .type "list_iterator", data := .fields #[.ref a, .int 0 0] }
  | .t a => { cls := .type "tuple_iterator", data := .fields #[.ref a, .int 0 0] }
section
variable {X : Cx} {pins : List (Addr × Obj)} {σ : L2.St} {H : Hp} {s : Shared}
theorem of {k : Sk} {xs : List V} (I : Inv X pins σ H s) (h : k.sq X.K H xs) : ∃ its : List Value, Vals xs its ∧ k.has its.toArray s.heap ∧ k.pl < s.heap.objs.size := by
  cases k with
  | l a =>
    obtain ⟨its, r, p, _⟩ := I.list h
    exact ⟨its, r, p.isList, p.lt⟩
  | t a =>
    obtain ⟨its, r, p, _⟩ := I.tuple h
    exact ⟨its, r, p, p.lt⟩
theorem inj {k : Sk} {xs ys : List V} (I : Inv X pins σ H s) (h : k.sq X.K H xs) (g : k.sq X.K H ys) : xs = ys := by
  cases k with
  | l a => exact I.list_inj h g
  | t a => exact I.tuple_inj h g
theorem itr_keep {k : Sk} {p : Addr} {i : Nat} {h h' : Heap} (q : k.itr p i h) (e : ∀ o, h.get? p = some o → h'.get? p = some o) : k.itr p i h' := by
  cases k with
  | l a => exact q.at e
  | t a => exact q.at e
theorem itr_obj {k : Sk} {p : Addr} {i : Nat} {h : Heap} (q : k.itr p i h) : ∃ o, h.get? p = some o ∧ ∀ v, o.data ≠ .cell v := by
  cases k with
  | l a => obtain ⟨o, e, _, d⟩ := q; exact ⟨o, e, fun v z => by rw [d] at z; cases z⟩
  | t a => obtain ⟨o, e, _, d⟩ := q; exact ⟨o, e, fun v z => by rw [d] at z; cases z⟩
theorem itr_new {k : Sk} {p : Addr} {h : Heap} (q : h.get? p = some k.obj) : k.itr p 0 h := by
  cases k with
  | l a => exact ⟨_, q, rfl, rfl⟩
  | t a => exact ⟨_, q, rfl, rfl⟩
theorem begins (k : Sk) (items : Array Value) : Begins (.ref k.pl) k.obj (k.has items) := by
  cases k with
  | l a => exact begins_list a items
  | t a => exact begins_tuple a items
theorem draws {P : Program} {w : World} {A : Around} (hh : A.handled = none) (k : Sk) (p : Addr) (ne : k.pl ≠ p) (items : Array Value) :
    Draws P w A p [p, k.pl] items.size (fun i v => items[i]? = some v) fun i h => k.itr p i h ∧ k.has items h := by
  cases k with
  | l a => exact Draws.list hh p a ne items
  | t a => exact Draws.tuple hh p a ne items
end
end Sk
/-! ### zip -/
def ItZ (K : PySem.W.Frag) (a b : Sk) : It where
  go i H := ∃ (xs ys : List V) (x y : V), (a.sq K H xs ∧ xs[i]? = some x) ∧ b.sq K H ys ∧ ys[i]? = some y
  yld i H v H' := ∃ T x y, v = .ref T ∧ H T = none ∧ H' = upd H T (.tup [x, y]) ∧ (∀ xs, a.sq K H xs → xs[i]? = some x) ∧ ∀ ys, b.sq K H ys → ys[i]? = some y
  stop i H := ∃ (xs ys : List V), a.sq K H xs ∧ b.sq K H ys ∧ i = min xs.length ys.length
theorem turn_zip2 {P : Program} {w : World} {K : PySem.W.Frag} {elts : List Expr} {kk : Nat} {tp : Pos} {a b : Sk} {n : Nat} (la : a.pl < n) (lb : b.pl < n) :
    Turn P w K (.Tuple elts kk tp) (ItZ K a b) [n + 4, n + 2, n + 3, n, n + 1] (n + 4) fun i h =>
      (IsZip h (n + 4) (n + 2) (n + 3) .none ∧ IsTupOf2 h (n + 2) (.ref n) (.ref (n + 1))) ∧ (∃ x y, IsTupOf2 h (n + 3) x y) ∧ a.itr n i h ∧ b.itr (n + 1) i h := by
  have sep := zip_sep2 (N := n) (fp1 := [a.pl]) (fp2 := [b.pl]) (by simpa using la) (by simpa using lb)
  have n1 : a.pl ≠ n := Nat.ne_of_lt la
  have n2 : b.pl ≠ n + 1 := Nat.ne_of_lt (Nat.lt_succ_of_lt lb)
  refine ⟨by simp, ?_, ?_, ?_, ?_, fun A i s Q E st q => wpAny_pyIter_zip st.1.1 q⟩
  · rintro i h ⟨⟨t1, t2⟩, ⟨x, y, t3⟩, t4, t5⟩ c hc
    simp only [List.mem_cons, List.not_mem_nil, or_false] at hc
    rcases hc with rfl | rfl | rfl | rfl | rfl
    · exact ⟨_, t1, fun v z => nomatch z⟩
    · exact ⟨_, t2, fun v z => nomatch z⟩
    · exact ⟨_, t3, fun v z => nomatch z⟩
    · exact Sk.itr_obj t4
    · exact Sk.itr_obj t5
  · rintro i h h' ⟨⟨t1, t2⟩, ⟨x, y, t3⟩, t4, t5⟩ kp
    have kp' : ∀ c, c ∈ [n + 4, n + 2, n + 3, n, n + 1] → ∀ o, h.get? c = some o → h'.get? c = some o := kp
    exact ⟨⟨kp' _ (by simp) _ t1, kp' _ (by simp) _ t2⟩, ⟨x, y, kp' _ (by simp) _ t3⟩, Sk.itr_keep (k := a) t4 (kp' _ (by simp)), Sk.itr_keep (k := b) t5 (kp' _ (by simp))⟩
  · intro X hP hw hK hc i pins s σ H E I hf ⟨⟨t1, t2⟩, ⟨x0, y0, t3⟩, t4, t5⟩ ⟨xs, ys, x, y, ⟨qx, ex⟩, qy, ey⟩
    subst hP hw hK
    obtain ⟨us, rx, hx, _⟩ := Sk.of I qx
    obtain ⟨ws, ry, hy, _⟩ := Sk.of I qy
    have hh : X.A.in1.handled = none := I.ok.hd hc
    obtain ⟨u, eu, ru⟩ := rx.get ex
    obtain ⟨w, ew, rw'⟩ := ry.get ey
    have l1 : i < us.toArray.size := by simpa using (List.getElem?_eq_some_iff.mp eu).1
    have l2 : i < ws.toArray.size := by simpa using (List.getElem?_eq_some_iff.mp ew).1
    refine wpAny_pyNext_zipD2_item sep (a.draws hh n n1 us.toArray) (b.draws hh (n + 1) n2 ws.toArray) t1 t2 t3 ⟨t4, hx⟩ ⟨t5, hy⟩ l1 l2 fun u' w' h1 tk e1 e2 g1 g2 g3 g4 g5 g6 g7 => ?_
    have e1' : us[i]? = some u' := by simpa using e1
    have e2' : ws[i]? = some w' := by simpa using e2
    rw [eu] at e1'
    rw [ew] at e2'
    cases e1'
    cases e2'
    have zl : n + 4 < s.heap.objs.size := Heap.lt_size t1
    refine ⟨_, rfl, wpAny_letOwnedTupleGo_zip (s := { s with heap := h1, toks := tk }) g1 fun h2 z2 sb => ?_⟩
    have newT : h2.get? s.heap.objs.size = some { cls := .type "tuple", data := .seq #[u, w] } := (sb.2 _ (Nat.ne_of_gt zl)).trans g5
    have J : Inv X pins σ (upd H s.heap.objs.size (.tup [x, y])) { s with heap := h2, toks := tk } :=
      I.turnedNew (ch := [n + 4, n + 2, n + 3, n, n + 1]) (fun c o nc q => (sb.2 c fun z => nc (by simp [z])).trans (g7 c o (fun z => nc (by simp [z])) (fun z => nc (by simp [z])) (fun z => nc (by simp [z])) (fun z => nc (by simp [z])) q)) hf (Nat.le_refl _)
        (show ObjOk X.prog X.w _ h2 _ (.tup [x, y]) from ⟨by show 2 ≤ sizeLine; decide, [u, w], .cons ru (.cons rw' .nil), ⟨_, newT, rfl, _, rfl⟩⟩)
    refine ⟨.ref s.heap.objs.size, _, J, rfl, ⟨_, x, y, rfl, I.hok.fresh (Nat.le_refl _), rfl, fun l hl => by rw [Sk.inj I hl qx]; exact ex, fun l hl => by rw [Sk.inj I hl qy]; exact ey⟩, ⟨⟨z2, ?_⟩, ⟨u, w, ?_⟩, ?_, ?_⟩, fun c hm => ?_⟩
    · exact (sb.2 _ sep.TIz).trans (g7 _ _ sep.TIz sep.TITO sep.TIi1 sep.TIi2 t2)
    · exact (sb.2 _ sep.TOz).trans g2
    · exact Sk.itr_keep (k := a) g3.1 fun o q => (sb.2 _ sep.zi1.symm).trans q
    · exact Sk.itr_keep (k := b) g4.1 fun o q => (sb.2 _ sep.zi2.symm).trans q
    · have lt : c < s.heap.objs.size := by
        simp only [List.mem_cons, List.not_mem_nil, or_false] at hm
        have a4 : (n : Nat) + 4 < s.heap.objs.size := zl
        rcases hm with rfl | rfl | rfl | rfl | rfl <;> first | exact a4 | exact Nat.lt_trans (by simp) a4
      rw [upd_ne (Nat.ne_of_lt lt)]
      exact (hf c hm).1
  · intro X hP hw hK hc i pins s σ H E I hf ⟨⟨t1, t2⟩, ⟨x0, y0, t3⟩, t4, t5⟩ ⟨xs, ys, qx, qy, ei⟩
    subst hP hw hK
    obtain ⟨us, rx, hx, _⟩ := Sk.of I qx
    obtain ⟨ws, ry, hy, _⟩ := Sk.of I qy
    have hh : X.A.in1.handled = none := I.ok.hd hc
    have z1 := rx.length
    have z2 := ry.length
    refine wpAny_pyNext_zipD2_end sep (a.draws hh n n1 us.toArray) (b.draws hh (n + 1) n2 ws.toArray) t1 t2 t3 ⟨t4, hx⟩ ⟨t5, hy⟩ (by simp only [List.size_toArray]; omega) (by simp only [List.size_toArray]; omega) (by simp only [List.size_toArray]; omega) fun h1 tk g => ⟨rfl, ?_⟩
    exact I.turnedL (ch := [n + 4, n + 2, n + 3, n, n + 1]) (fun c o nc q => g c o (fun z => nc (by simp [z])) (fun z => nc (by simp [z])) (fun z => nc (by simp [z])) (fun z => nc (by simp [z])) q) hf
section
variable {X : Cx} {pins : List (Addr × Obj)} {σ : L2.St} {H : Hp} {s : Shared} {e e2 : Expr} {ta : TA} {p pos tpos : Pos} {elts : List Expr} {kk : Nat}
theorem pi_zip2 (hg : Gl X "zip") (hm : X.mg "zip" = none) (ha : PA X [e, e2] ta) (n1 : nsE e = true) (n2 : nsE e2 = true) :
    PI X (.Tuple elts kk tpos) (.Call (.Name "zip" p) [e, e2] [] pos) fun σ H R => ta σ H fun vs H1 => ∃ (a b : Sk) (xs ys : List V), vs = [.ref a.pl, .ref b.pl] ∧ a.sq X.K H1 xs ∧ b.sq X.K H1 ys ∧ R (ItZ X.K a b) H1 := by
  refine ⟨fun pins s σ H R I h => ?_⟩
  have hs : starEach [e, e2] X.env = (false, eval e X.env) :: starEach [e2] X.env := starEach_ns n1
  have hpl : (backTo pos (starEach [e2] X.env)).any (·.1) = false := starEach_all (by simp [n2])
  refine Call_ (ld_blt I hg hm PyProof.Rows.boot_zip (PyProof.Rows.callWith_type1 (thn (ha.run pos pins s σ H _ I h) fun us s1 ⟨vs, H1, I1, r1, q1⟩ => ?_) hs hpl))
  obtain ⟨a, b, xs, ys, ex, qx, qy, q⟩ := q1
  subst ex
  obtain ⟨u, w, rfl, r2, r3⟩ := vals2 r1
  cases (show u = Value.ref a.pl from r2)
  cases (show w = Value.ref b.pl from r3)
  obtain ⟨is, _, hx, la⟩ := Sk.of I1 qx
  obtain ⟨js, _, hy, lb⟩ := Sk.of I1 qy
  refine zip_begins2 (a.begins is.toArray) (b.begins js.toArray) hx hy fun h' g1 g2 g3 g4 g5 g6 g7 => wpAny_pyIter_zip g1 ?_
  have I2 : Inv X pins σ H1 { s1 with heap := h' } := I1.kept (t' := s1.toks) g7
  refine ⟨s1.heap.objs.size + 4, _, _, _, H1, rfl, I2, turn_zip2 la lb, ⟨⟨g1, g2⟩, ⟨_, _, g3⟩, Sk.itr_new g4, Sk.itr_new g5⟩, fun c hc => ?_, q⟩
  have le : s1.heap.objs.size ≤ c := by
    simp only [List.mem_cons, List.not_mem_nil, or_false] at hc
    rcases hc with rfl | rfl | rfl | rfl | rfl <;> first | exact Nat.le_add_right _ _ | exact Nat.le_refl _
  exact I1.fpOk le (I1.hok.fresh le)
end
/-! ### enumerate -/
theorem en_new {v : Value} {o : Obj} {Z : Heap → Prop} (B : Begins v o Z) : Meets (Builtin.«enumerate.__new__» ⟨[.type "enumerate", v], []⟩) fun _ R s => Z s.heap ∧
    R (.ok (.ret (.ref (s.heap.push o).objs.size))) { s with heap := (s.heap.push o).push { cls := .type "enumerate", data := .fields #[.none, .bool false, .ref s.heap.objs.size, rawInt 0, .none, .none] } } := by
  refine .of_wp fun prog w A R s h => ?_
  obtain ⟨hp, gs, dr, tk, os⟩ := s
  obtain ⟨hz, h⟩ := h
  have sub := sub_enumerate
  have q1 : ∀ {A' : Around} {E' : Value → Shared → Prop} {Q' : Value → Shared → Prop}, Q' (.ref hp.objs.size) ⟨hp.push o, gs, dr, tk, os⟩ → wpAny (model prog w) A' (pyIter v) Q' E' ⟨hp, gs, dr, tk, os⟩ :=
    fun q => B.iter prog w _ _ ⟨hp, gs, dr, tk, os⟩ _ hz q
  wp_walk using q1
  refine wpAny_stack_any fun st => wpAny_pure ?_
  split
  · rename_i c _ _ _ _ _
    cases (c == Value.type "enumerate") <;> (wp_walk using q1; exact ⟨_, rfl, h⟩)
  · wp_walk using q1
    exact ⟨_, rfl, h⟩
theorem enum_begins1 {prog : Program} {w : World} {A : Around} {E : Value → Shared → Prop} {s : Shared} {v : Value} {o : Obj} {Z : Heap → Prop} {Q : Value → Shared → Prop} (B : Begins v o Z) (hz : Z s.heap)
    (h : ∀ h', IsEnum h' (s.heap.objs.size + 1) s.heap.objs.size ((0 : Nat) : Int) .none → h'.get? s.heap.objs.size = some o → h'.objs.size = s.heap.objs.size + 2 → (∀ b u, s.heap.get? b = some u → h'.get? b = some u) → Q (.ref (s.heap.objs.size + 1)) { s with heap := h' }) :
    wpAny (model prog w) A (call (.type "enumerate") [v]) Q E s := by
  refine callType_new F.called_enumerate (by decide) (F.typeCall_enumerate_1 _) (F.newCall_enumerate_1 _) (fun obj => F.args_object_init_2 obj _) F.entry_enumerate_new (en_new B) ⟨hz, ?_⟩
  have z1 : (s.heap.push o).objs.size = s.heap.objs.size + 1 := by rw [Heap.size_push]
  have at2 := Heap.get?_push_size (s.heap.push o) (o := { cls := .type "enumerate", data := .fields #[.none, .bool false, .ref s.heap.objs.size, rawInt 0, .none, .none] }) rfl
  show _ ∧ _
  rw [z1]
  rw [z1] at at2
  exact ⟨⟨_, at2, rfl⟩, h _ at2 (Heap.get?_push_of_some _ (Heap.get?_push_size _ B.free)) (by rw [Heap.size_push, z1]) fun b u z => Heap.get?_push_of_some _ (Heap.get?_push_of_some _ z)⟩
def ItE (K : PySem.W.Frag) (a : Sk) : It where
  go i H := ∃ (xs : List V) (x : V), a.sq K H xs ∧ xs[i]? = some x
  yld i H v H' := ∃ T x, v = .ref T ∧ H T = none ∧ H' = upd H T (.tup [.int (i : Nat), x]) ∧ ∀ xs, a.sq K H xs → xs[i]? = some x
  stop i H := ∃ xs : List V, a.sq K H xs ∧ i = xs.length
theorem turn_enumK {P : Program} {w : World} {K : PySem.W.Frag} {elts : List Expr} {kk : Nat} {tp : Pos} {a : Sk} {n : Nat} (la : a.pl < n) :
    Turn P w K (.Tuple elts kk tp) (ItE K a) [n + 1, n] (n + 1) fun i h => (∃ old, IsEnum h (n + 1) n (i : Nat) old) ∧ a.itr n i h := by
  have n1 : a.pl ≠ n := Nat.ne_of_lt la
  have n2 : n + 1 ≠ n := Nat.succ_ne_self n
  have n3 : n + 1 ∉ [n, a.pl] := by
    simp only [List.mem_cons, List.not_mem_nil, or_false, not_or]
    exact ⟨n2, fun z => by have : a.pl < n := la; rw [← z] at this; exact absurd this (Nat.not_lt.mpr (Nat.le_succ n))⟩
  refine ⟨by simp, ?_, ?_, ?_, ?_, fun A i s Q E ⟨⟨_, st⟩, _⟩ q => wpAny_pyIter_enum st q⟩
  · rintro i h ⟨⟨old, t1⟩, t2⟩ c hc
    simp only [List.mem_cons, List.not_mem_nil, or_false] at hc
    rcases hc with rfl | rfl
    · exact ⟨_, t1, fun v z => nomatch z⟩
    · exact Sk.itr_obj t2
  · rintro i h h' ⟨⟨old, t1⟩, t2⟩ kp
    have kp' : ∀ c, c ∈ [n + 1, n] → ∀ o, h.get? c = some o → h'.get? c = some o := kp
    exact ⟨⟨old, kp' _ (by simp) _ t1⟩, Sk.itr_keep (k := a) t2 (kp' _ (by simp))⟩
  · intro X hP hw hK hc i pins s σ H E I hf ⟨⟨old, t1⟩, t2⟩ ⟨xs, x, qx, ex⟩
    subst hP hw hK
    obtain ⟨us, rx, hx, _⟩ := Sk.of I qx
    have hh : X.A.in1.handled = none := I.ok.hd hc
    obtain ⟨u, eu, ru⟩ := rx.get ex
    have l1 : i < us.toArray.size := by simpa using (List.getElem?_eq_some_iff.mp eu).1
    refine wpAny_pyNext_enum_itemC (a.draws hh n n1 us.toArray) t1 ⟨t2, hx⟩ l1 n2 n3 fun u' h1 tk e1 g1 g2 g3 g4 g5 => ?_
    have e1' : us[i]? = some u' := by simpa using e1
    rw [eu] at e1'
    cases e1'
    have zl : n + 1 < s.heap.objs.size := Heap.lt_size t1
    refine ⟨_, rfl, wpAny_letOwnedTupleGo_enum (s := { s with heap := h1, toks := tk + 1 }) g1 fun h2 z2 sb => ?_⟩
    have newT : h2.get? s.heap.objs.size = some { cls := .type "tuple", data := .seq #[.int i tk, u] } := (sb.2 _ (Nat.ne_of_gt zl)).trans g3
    have J : Inv X pins σ (upd H s.heap.objs.size (.tup [.int (i : Nat), x])) { s with heap := h2, toks := tk + 1 } :=
      I.turnedNew (ch := [n + 1, n]) (fun c o nc q => (sb.2 c fun z => nc (by simp [z])).trans (g5 c o (fun z => nc (by simp [z])) (fun z => nc (by simp [z])) q)) hf (Nat.le_refl _)
        (show ObjOk X.prog X.w _ h2 _ (.tup [.int (i : Nat), x]) from ⟨by show 2 ≤ sizeLine; decide, [.int i tk, u], .cons ⟨_, rfl⟩ (.cons ru .nil), ⟨_, newT, rfl, _, rfl⟩⟩)
    refine ⟨.ref s.heap.objs.size, _, J, rfl, ⟨_, x, rfl, I.hok.fresh (Nat.le_refl _), rfl, fun l hl => by rw [Sk.inj I hl qx]; exact ex⟩, ⟨⟨u, ?_⟩, ?_⟩, fun c hm => ?_⟩
    · have e2 : ((i + 1 : Nat) : Int) = (i : Int) + 1 := by omega
      rw [e2]
      exact z2
    · exact Sk.itr_keep (k := a) g2.1 fun o q => (sb.2 _ n2.symm).trans q
    · have lt : c < s.heap.objs.size := by
        simp only [List.mem_cons, List.not_mem_nil, or_false] at hm
        rcases hm with rfl | rfl
        · exact zl
        · exact Nat.lt_of_succ_lt zl
      rw [upd_ne (Nat.ne_of_lt lt)]
      exact (hf c hm).1
  · intro X hP hw hK hc i pins s σ H E I hf ⟨⟨old, t1⟩, t2⟩ ⟨xs, qx, ei⟩
    subst hP hw hK
    obtain ⟨us, rx, hx, _⟩ := Sk.of I qx
    have hh : X.A.in1.handled = none := I.ok.hd hc
    have z1 := rx.length
    have e3 : us.toArray.size = i := by simp only [List.size_toArray]; omega
    refine wpAny_pyNext_enum_endD (a.draws hh n n1 us.toArray) t1 (by rw [e3]; exact ⟨t2, hx⟩) fun h1 g => ⟨rfl, ?_⟩
    exact I.turnedL (t' := s.toks) (ch := [n + 1, n]) (fun c o nc q => g c o (fun z => nc (by simp [z])) q) hf
section
variable {X : Cx} {e : Expr} {ta : TA} {p pos tpos : Pos} {elts : List Expr} {kk : Nat}
theorem pi_enumK (hg : Gl X "enumerate") (hm : X.mg "enumerate" = none) (ha : PA X [e] ta) (n1 : nsE e = true) :
    PI X (.Tuple elts kk tpos) (.Call (.Name "enumerate" p) [e] [] pos) fun σ H R => ta σ H fun vs H1 => ∃ (a : Sk) (xs : List V), vs = [.ref a.pl] ∧ a.sq X.K H1 xs ∧ R (ItE X.K a) H1 := by
  refine ⟨fun pins s σ H R I h => ?_⟩
  have hs : starEach [e] X.env = (false, eval e X.env) :: starEach [] X.env := starEach_ns n1
  refine Call_ (ld_blt I hg hm boot_enumerate (PyProof.Rows.callWith_type1 (thn (ha.run pos pins s σ H _ I h) fun us s1 ⟨vs, H1, I1, r1, q1⟩ => ?_) hs rfl))
  obtain ⟨a, xs, ex, qx, q⟩ := q1
  subst ex
  obtain ⟨u, rfl, r2⟩ := vals1 r1
  cases (show u = Value.ref a.pl from r2)
  obtain ⟨is, _, hx, la⟩ := Sk.of I1 qx
  refine enum_begins1 (a.begins is.toArray) hx fun h' g1 g2 g3 g4 => wpAny_pyIter_enum g1 ?_
  have I2 : Inv X pins σ H1 { s1 with heap := h' } := I1.kept (t' := s1.toks) g4
  refine ⟨s1.heap.objs.size + 1, _, _, _, H1, rfl, I2, turn_enumK la, ⟨⟨_, g1⟩, Sk.itr_new g2⟩, fun c hc => ?_, q⟩
  have le : s1.heap.objs.size ≤ c := by
    simp only [List.mem_cons, List.not_mem_nil, or_false] at hc
    rcases hc with rfl | rfl <;> first | exact Nat.le_add_right _ _ | exact Nat.le_refl _
  exact I1.fpOk le (I1.hok.fresh le)
end
end Dl

set_option linter.all false
set_option maxRecDepth 100000
set_option maxHeartbeats 4000000
/-! Dl16: zip, enumerate, methods, dict displays, module constants by plain values. -/
namespace Dl
open PySem PySem.Spec PyProof.Rows L2
def isTxt : D → Bool
  | .p (.str _) => true
  | _ => false
def sqOf (d : D) (S : Sto) : Option Src := if isTxt d then none else srcOf d S
theorem wat_of {d : D} {S : Sto} {src : Src} (e : sqOf d S = some src) : Wat src.w S := by
  unfold sqOf srcOf at e
  split at e
  · cases e
  · split at e
    · cases e; intro z hz; cases hz
    · cases e; intro z hz; cases hz
    · cases e; intro z hz; cases hz
    · cases e; intro z hz; cases hz
    · split at e
      · rename_i q
        cases e
        intro z hz
        simp only [List.mem_singleton] at hz
        subst hz
        exact q
      · cases e
    · cases e
def SkOk (N : Nm) (k : Sk) (src : Src) (α0 : List Addr) (H0 : Hp) : Prop := ∀ α S H, Up α0 H0 α H → StoOk N H α S → Wat src.w S → ∃ vs, k.sq N.K H vs ∧ RpAll N H α vs src.xs
theorem sk_of {N : Nm} {H : Hp} {α : List Addr} {S : Sto} {v : V} {d : D} {src : Src} (ok : StoOk N H α S) (r : Rp N H α v d) (e : sqOf d S = some src) : ∃ k : Sk, v = .ref k.pl ∧ SkOk N k src α H := by
  unfold sqOf at e
  split at e
  · cases e
  · rename_i nt
    unfold srcOf at e
    split at e
    · cases e
      obtain ⟨a, vs, e2, h1, h2⟩ := r.tup_inv (xs := _) rfl
      exact ⟨.t a, e2, fun α' S' H' u ok' _ => ⟨vs, u.sqT h1, u.rpAll h2⟩⟩
    · cases e
      cases r with
      | p hp =>
        cases hp with
        | @lst a vs ds h1 h2 h3 => exact ⟨.l a, rfl, fun α' S' H' u ok' _ => ⟨vs, (u.fzL h1).sq, u.rpAll (RpAll.ofP h3)⟩⟩
    · cases e
      obtain ⟨a, vs, e2, h1, h2⟩ := r.tup_inv (xs := _) rfl
      exact ⟨.t a, e2, fun α' S' H' u ok' _ => ⟨vs, u.sqT h1, u.rpAll h2⟩⟩
    · exact absurd rfl nt
    · split at e
      · rename_i xs e3
        cases e
        cases r with
        | @loc a l hl =>
          refine ⟨.l a, rfl, fun α' S' H' u ok' w => ?_⟩
          obtain ⟨vs, h1, h2⟩ := ok'.cell _ _ _ (u.loc _ _ hl) (w (_, xs) (by simp))
          exact ⟨vs, .inl (.inl h1), h2⟩
      · cases e
    · cases e
theorem wat_app {w1 w2 : List (Nat × List D)} {S : Sto} (h : Wat (w1 ++ w2) S) : Wat w1 S ∧ Wat w2 S := ⟨fun q m => h q (by simp [m]), fun q m => h q (by simp [m])⟩
def zipSrc (a b : Src) : Src := ⟨List.zipWith (fun x y => mkT [x, y]) a.xs b.xs, a.w ++ b.w⟩
def enumSrc (a : Src) : Src := ⟨a.xs.zipIdx.map fun q => mkT [.i (q.2 : Nat), q.1], a.w⟩
section
variable {X : Cx} {fd : Str → Str} {E : XK} {e e2 : Expr} {p pos tpos apos cpos : Pos} {elts : List Expr} {kk : Nat} {Fs : Slots → Sto → Res (List D)}
theorem itOk_zip {N : Nm} {a b : Sk} {s1 s2 : Src} {α0 : List Addr} {H0 : Hp} (h1 : SkOk N a s1 α0 H0) (h2 : SkOk N b s2 α0 H0) : ItOk N (ItZ N.K a b) (zipSrc s1 s2) α0 H0 := fun α S H u ok w => by
  obtain ⟨w1, w2⟩ := wat_app w
  obtain ⟨vs, q1, r1⟩ := h1 α S H u ok w1
  obtain ⟨ws, q2, r2⟩ := h2 α S H u ok w2
  refine ⟨fun i d ed => ?_, ⟨vs, ws, q1, q2, by simp [zipSrc, r1.length, r2.length]⟩⟩
  simp only [zipSrc, List.getElem?_zipWith'] at ed
  cases ex : s1.xs[i]? with
  | none => rw [ex] at ed; cases ed
  | some x =>
    cases ey : s2.xs[i]? with
    | none => rw [ex, ey] at ed; cases ed
    | some y =>
      rw [ex, ey] at ed
      have ed : mkT [x, y] = d := Option.some.inj ed
      subst ed
      obtain ⟨v, e1, rv⟩ := r1.get ex
      obtain ⟨v2, e3, rv2⟩ := r2.get ey
      refine ⟨⟨vs, ws, v, v2, ⟨q1, e1⟩, q2, e3⟩, fun z H' ⟨T, x', y', ez, hT, eH, p1, p2⟩ => ?_⟩
      subst ez eH
      have e4 := p1 vs q1
      have e5 := p2 ws q2
      rw [e1] at e4
      rw [e3] at e5
      cases e4
      cases e5
      have st : Stp α S H α S (upd H T (.tup [v, v2])) := step_new ok hT
      exact ⟨st, sto_new ok hT, rp_mkT (.inl (.inl upd_same)) (st.rpAll ok (.cons rv (.cons rv2 .nil)))⟩
theorem itOk_enum {N : Nm} {a : Sk} {s1 : Src} {α0 : List Addr} {H0 : Hp} (h1 : SkOk N a s1 α0 H0) : ItOk N (ItE N.K a) (enumSrc s1) α0 H0 := fun α S H u ok w => by
  obtain ⟨vs, q1, r1⟩ := h1 α S H u ok w
  refine ⟨fun i d ed => ?_, ⟨vs, q1, by simp [enumSrc, r1.length]⟩⟩
  simp only [enumSrc, List.getElem?_map, List.getElem?_zipIdx, Option.map_map, Option.map_eq_some_iff] at ed
  obtain ⟨x, ex, ed⟩ := ed
  subst ed
  obtain ⟨v, e1, rv⟩ := r1.get ex
  refine ⟨⟨vs, v, q1, e1⟩, fun z H' ⟨T, x', ez, hT, eH, p1⟩ => ?_⟩
  subst ez eH
  have e4 := p1 vs q1
  rw [e1] at e4
  cases e4
  have st : Stp α S H α S (upd H T (.tup [.int (i : Nat), v])) := step_new ok hT
  refine ⟨st, sto_new ok hT, ?_⟩
  have := rp_mkT (N := N) (α := α) (H := upd H T (.tup [.int (i : Nat), v])) (a := T) (xs := [.i ((0 + i : Nat) : Int), x]) (.inl (.inl upd_same)) (.cons (.p (by rw [Nat.zero_add]; exact .int _)) (st.rpAll ok (.cons rv .nil)))
  exact this
abbrev fZip (Fs : Slots → Sto → Res (List D)) : Slots → Sto → Res Src := fun ρ S => (Fs ρ S).bind fun ds S1 => match ds with
  | [x, y] => match sqOf x S1, sqOf y S1 with
    | some a, some b => .ok (zipSrc a b) S1
    | _, _ => .st
  | _ => .st
theorem di_zip (hg : Gl X "zip") (hm : X.mg "zip" = none) (ha : PA X [e, e2] (dA (nm X fd) E Fs)) (n1 : nsE e = true) (n2 : nsE e2 = true) :
    PI X (.Tuple elts kk tpos) (.Call (.Name "zip" p) [e, e2] [] pos) (dI (nm X fd) E (fZip Fs)) := by
  refine PI.imp (pi_zip2 hg hm ha n1 n2) fun σ H R ⟨ρ, S, α, r, ok, h⟩ => ⟨ρ, S, α, r, ok, ?_⟩
  simp only [fZip] at h
  cases q : Fs ρ S with
  | ex c e' S' => rw [q] at h; exact h
  | st => rw [q] at h; exact h
  | ok d S1 =>
    rw [q] at h
    simp only [bind_ok] at h
    intro v H' α' st ok' rv
    split at h
    · split at h
      · rename_i a b e1 e3
        obtain ⟨v1, v2, rfl, r1, r2⟩ := rp2 rv
        obtain ⟨k1, rfl, g1⟩ := sk_of ok' r1 e1
        obtain ⟨k2, rfl, g2⟩ := sk_of ok' r2 e3
        obtain ⟨vs, q1, _⟩ := g1 _ _ _ .refl ok' (wat_of e1)
        obtain ⟨ws, q2, _⟩ := g2 _ _ _ .refl ok' (wat_of e3)
        exact ⟨k1, k2, vs, ws, rfl, q1, q2, againI st ok' h (itOk_zip g1 g2)⟩
      · exact h.elim
    · exact h.elim
abbrev fEnum (Fa : Slots → Sto → Res D) : Slots → Sto → Res Src := fun ρ S => (Fa ρ S).bind fun d S1 => match sqOf d S1 with
  | some a => .ok (enumSrc a) S1
  | none => .st
theorem di_enum {Fa : Slots → Sto → Res D} (hg : Gl X "enumerate") (hm : X.mg "enumerate" = none) (ha : PE X e (dE (nm X fd) E Fa)) (n1 : nsE e = true) :
    PI X (.Tuple elts kk tpos) (.Call (.Name "enumerate" p) [e] [] pos) (dI (nm X fd) E (fEnum Fa)) := by
  refine PI.imp (pi_enumK hg hm (pa_cons ha pa_nil (starEach_ns n1)) n1) fun σ H R ⟨ρ, S, α, r, ok, h⟩ => ⟨ρ, S, α, r, ok, ?_⟩
  simp only [fEnum] at h
  cases q : Fa ρ S with
  | ex c e' S' => rw [q] at h; exact h
  | st => rw [q] at h; exact h
  | ok d S1 =>
    rw [q] at h
    simp only [bind_ok] at h
    intro v H' α' st ok' rv
    split at h
    · rename_i a e1
      obtain ⟨k1, rfl, g1⟩ := sk_of ok' rv e1
      obtain ⟨vs, q1, _⟩ := g1 _ _ _ .refl ok' (wat_of e1)
      exact ⟨k1, vs, rfl, q1, againI st ok' h (itOk_enum g1)⟩
    · exact h.elim
/-! ### a constant of the module -/
def GlobC (X : Cx) (fd : Str → Str) (x : Str) (c : PyData) : Prop := ∃ v u, X.mg x = some u ∧ RelV v u ∧ ∀ H, Pd (nm X fd) H v c
theorem dv_glob {x : Str} {c : PyData} (hg : Gl X x) (g : GlobC X fd x c) (hd : (x == ("__debug__" : Str)) = false) : PE X (.Name x pos) (dE (nm X fd) E fun _ S => .ok (.p c) S) := by
  obtain ⟨v, u, h1, h2, h3⟩ := g
  exact PE.imp (pe_glob hg h1 h2 hd) fun σ H Q ⟨ρ, S, α, r, ok, h⟩ => now ok h (.p (h3 H))
end
end Dl

set_option linter.all false
set_option maxRecDepth 100000
set_option maxHeartbeats 4000000
/-! Dl17: methods of built-in types, dict displays. -/
namespace Dl
open PySem PySem.Spec PyProof.Rows L2
inductive Mt where
  | append | extend | pop | popAt | split | join | upper
deriving DecidableEq
def Mt.nm : Mt → Str
  | .append => "append" | .extend => "extend" | .pop => "pop" | .popAt => "pop" | .split => "split" | .join => "join" | .upper => "upper"
def Mt.ty : Mt → String
  | .append => "list" | .extend => "list" | .pop => "list" | .popAt => "list" | .split => "str" | .join => "str" | .upper => "str"
def Mt.id : Mt → String
  | .append => "list.append" | .extend => "list.extend" | .pop => "list.pop" | .popAt => "list.pop" | .split => "str.split" | .join => "str.join" | .upper => "str.upper"
def strsOf : List D → Option (List Str)
  | [] => some []
  | .p (.str i) :: r => (strsOf r).map (i :: ·)
  | _ :: _ => none
@[simp] theorem strsOf_map (l : List Str) : strsOf (l.map fun i => D.p (.str i)) = some l := by
  induction l with
  | nil => rfl
  | cons a l ih => simp [strsOf, ih]
theorem strsOf_rp {N : Nm} {H : Hp} {α : List Addr} : ∀ {xs : List D} {ns : List Str} {vs : List V}, strsOf xs = some ns → RpAll N H α vs xs → vs = ns.map V.str
  | [], ns, vs, e, r => by cases r; simp [strsOf] at e; subst e; rfl
  | .p (.str i) :: xs, ns, vs, e, r => by
    simp only [strsOf, Option.map_eq_some_iff] at e
    obtain ⟨ms, e1, rfl⟩ := e
    cases r with
    | cons r1 r2 => rw [strsOf_rp e1 r2, r1.str_inv]; rfl
  | .p .none :: _, _, _, e, _ => by cases e
  | .p (.bool _) :: _, _, _, e, _ => by cases e
  | .p (.int _) :: _, _, _, e, _ => by cases e
  | .p (.tuple _) :: _, _, _, e, _ => by cases e
  | .p (.list _) :: _, _, _, e, _ => by cases e
  | .p (.dict _) :: _, _, _, e, _ => by cases e
  | .loc _ :: _, _, _, e, _ => by cases e
  | .tup _ :: _, _, _, e, _ => by cases e
  | .fn _ :: _, _, _, e, _ => by cases e
/-- of which type the receiver is -/
def rcv (d : D) (S : Sto) : Option String := match d with
  | .p (.str _) => some "str"
  | .p (.list _) => some "list"
  | .loc l => match S[l]? with
    | some (.lst _) => some "list"
    | _ => none
  | _ => none
def cellL (d : D) (S : Sto) : Option (Nat × List D) := match d with
  | .loc l => match S[l]? with
    | some (.lst xs) => some (l, xs)
    | _ => none
  | _ => none
def opMt (m : Bool) (f : Mt) (o : D) (ds : List D) (S : Sto) : Res D := match f, ds with
  | .append, [d] => match cellL o S with
    | some (l, xs) => if xs.length < sizeLine then .ok .n (S.set l (.lst (xs ++ [d]))) else .st
    | none => .st
  | .extend, [d] => match cellL o S, cellL d S with
    | some (l, xs), some (_, ys) => if xs.length + ys.length ≤ sizeLine then .ok .n (S.set l (.lst (xs ++ ys))) else .st
    | _, _ => .st
  | .pop, [] => match cellL o S with
    | some (l, xs) => match xs[xs.length - 1]? with
      | some d => .ok d (S.set l (.lst xs.dropLast))
      | none => .st
    | none => .st
  | .popAt, [.p (.int i)] => match cellL o S with
    | some (l, xs) => if -(2 ^ 63) ≤ i ∧ i < 2 ^ 63 then match seqIndex? i xs.length with
      | some k => match xs[k]? with
        | some d => .ok d (S.set l (.lst (xs.eraseIdx k)))
        | none => .st
      | none => .st
      else .st
    | none => .st
  | .split, [.p (.str b)] => match o with
    | .p (.str a) => if (b.length == 0) = false ∧ a.length + 2 ≤ sizeLine then mkL m ((Txt.split a b).map fun z => .s z) S else .st
    | _ => .st
  | .join, [d] => match o, (seqOf d S).bind strsOf with
    | .p (.str a), some ys => if (ys.map (·.length)).sum + ys.length * a.length ≤ 16777216 then .ok (.s (Txt.join a ys)) S else .st
    | _, _ => .st
  | .upper, [] => match o with
    | .p (.str a) => if a.length ≤ 5592405 then .ok (.s (Txt.upper a)) S else .st
    | _ => .st
  | _, _ => .st
section
variable {X : Cx} {fd : Str → Str} {E : XK}
def dM (N : Nm) (E : XK) (g : D → List D → Sto → Res D) : V → List V → Hp → VK → Prop := fun x xs H Q => ∃ S α d ds, StoOk N H α S ∧ Rp N H α x d ∧ RpAll N H α xs ds ∧ dRes N E α S H (g d ds S) Q
theorem cellL_inv {N : Nm} {H : Hp} {α : List Addr} {S : Sto} {v : V} {d : D} {l : Nat} {xs : List D} (ok : StoOk N H α S) (r : Rp N H α v d) (e : cellL d S = some (l, xs)) :
    ∃ a vs, v = .ref a ∧ α[l]? = some a ∧ S[l]? = some (.lst xs) ∧ H a = some (.lst vs) ∧ RpAll N H α vs xs := by
  unfold cellL at e
  split at e
  · split at e
    · rename_i q
      cases e
      cases r with
      | @loc a _ hl =>
        obtain ⟨vs, h1, h2⟩ := ok.cell _ _ _ hl q
        exact ⟨a, vs, rfl, hl, q, h1, h2⟩
    · cases e
  · cases e
/-- a list's cell is written -/
theorem wr {α : List Addr} {S : Sto} {H : Hp} {l : Nat} {a : Addr} {xs ys : List D} {ws : List V} {v : V} {d : D} {N : Nm} {Q : VK} (ok : StoOk N H α S) (hl : α[l]? = some a) (hs : S[l]? = some (.lst xs)) (r : RpAll N H α ws ys) (rv : Rp N H α v d)
    (h : dRes N E α S H (.ok d (S.set l (.lst ys))) Q) : Q v (upd H a (.lst ws)) := by
  have st := step_set (c' := .lst ys) (o := .lst ws) ok hl hs (fun z => nomatch z)
  exact h _ _ α st (sto_set ok hl hs (fun z => nomatch z) ⟨ws, upd_same, st.rpAll ok r⟩) (st.rp ok rv)
theorem RpAll.dropLast {N : Nm} {H : Hp} {α : List Addr} {vs : List V} {xs : List D} (r : RpAll N H α vs xs) : RpAll N H α vs.dropLast xs.dropLast := by
  rw [List.dropLast_eq_take, List.dropLast_eq_take, r.length]
  exact r.take _
theorem RpAll.eraseIdx {N : Nm} {H : Hp} {α : List Addr} : ∀ {vs : List V} {xs : List D} (k : Nat), RpAll N H α vs xs → RpAll N H α (vs.eraseIdx k) (xs.eraseIdx k)
  | _, _, _, .nil => .nil
  | _, _, 0, .cons _ r => r
  | _, _, k + 1, .cons r1 r => .cons r1 (RpAll.eraseIdx k r)
theorem RpAll.strs {N : Nm} {H : Hp} {α : List Addr} : ∀ (ys : List Str), RpAll N H α (ys.map V.str) (ys.map fun z => D.s z)
  | [] => .nil
  | y :: ys => .cons (.p (.str y)) (RpAll.strs ys)
theorem MtR.fz {id : String} {r : V → List V → Hp → VK → Prop} (hs : SysIn X) (h : MtR X id r) : MtR X id fun x xs H Q => r x xs H (FzOr Q) :=
  fun pins s σ H x xs v us Q I rx rs q => thn (h pins s σ H x xs v us _ I rx rs q) fun u s' z => ep_fz hs z
theorem MtR.imp {id : String} {r r' : V → List V → Hp → VK → Prop} (h : MtR X id r) (i : ∀ x xs H Q, r' x xs H Q → r x xs H Q) : MtR X id r' := fun pins s σ H x xs v us Q I rx rs q => h pins s σ H x xs v us Q I rx rs (i _ _ _ _ q)
theorem mr_append : MtR X "list.append" (dM (nm X fd) E (opMt m .append)) := by
  refine MtR.imp mt_append fun x xs H Q ⟨S, α, d, ds, ok, r, rs, h⟩ => ?_
  unfold opMt at h
  split at h <;> first | (rename_i e; cases e) | skip
  · split at h
    · rename_i l ys e
      split at h
      · rename_i hz
        obtain ⟨a, vs, rfl, hl, hs, h1, r1⟩ := cellL_inv ok r e
        obtain ⟨w, rfl, rw'⟩ := rp1 rs
        exact ⟨a, vs, w, rfl, rfl, h1, by rw [r1.length]; exact hz, wr ok hl hs (r1.append (.cons rw' .nil)) (.p .non) h⟩
      · exact h.elim
    · exact h.elim
  · exact h.elim
theorem mr_extend : MtR X "list.extend" (dM (nm X fd) E (opMt m .extend)) := by
  refine MtR.imp mt_extend fun x xs H Q ⟨S, α, d, ds, ok, r, rs, h⟩ => ?_
  unfold opMt at h
  split at h <;> first | (rename_i e; cases e) | skip
  · split at h
    · rename_i l ys k zs e e2
      split at h
      · rename_i hz
        obtain ⟨a, vs, rfl, hl, hs, h1, r1⟩ := cellL_inv ok r e
        obtain ⟨w, rfl, rw'⟩ := rp1 rs
        obtain ⟨b, ws, rfl, hl2, hs2, h2, r2⟩ := cellL_inv ok rw' e2
        exact ⟨a, b, vs, ws, rfl, rfl, h1, h2, by rw [r1.length, r2.length]; exact hz, wr ok hl hs (r1.append r2) (.p .non) h⟩
      · exact h.elim
    · exact h.elim
  · exact h.elim
theorem mr_pop : MtR X "list.pop" (dM (nm X fd) E (opMt m .pop)) := by
  refine MtR.imp mt_pop fun x xs H Q ⟨S, α, d, ds, ok, r, rs, h⟩ => ?_
  unfold opMt at h
  split at h <;> first | (rename_i e; cases e) | skip
  · split at h
    · rename_i l ys e
      split at h
      · rename_i d ed
        obtain ⟨a, vs, rfl, hl, hs, h1, r1⟩ := cellL_inv ok r e
        cases rs
        obtain ⟨v, ev, rv⟩ := r1.get ed
        exact ⟨a, vs, v, rfl, rfl, h1, by rw [r1.length]; exact ev, wr ok hl hs r1.dropLast rv h⟩
      · exact h.elim
    · exact h.elim
  · exact h.elim
theorem mr_popAt : MtR X "list.pop" (dM (nm X fd) E (opMt m .popAt)) := by
  refine MtR.imp mt_popAt fun x xs H Q ⟨S, α, d, ds, ok, r, rs, h⟩ => ?_
  unfold opMt at h
  split at h <;> first | (rename_i e; cases e) | skip
  · split at h
    · rename_i l ys e
      split at h
      · rename_i hz
        split at h
        · rename_i k ek
          split at h
          · rename_i d ed
            obtain ⟨a, vs, rfl, hl, hs, h1, r1⟩ := cellL_inv ok r e
            obtain ⟨w, rfl, rw'⟩ := rp1 rs
            obtain ⟨v, ev, rv⟩ := r1.get ed
            exact ⟨a, vs, _, k, v, rfl, by rw [rw'.int_inv], h1, hz.1, hz.2, by rw [r1.length]; exact ek, ev, wr ok hl hs (r1.eraseIdx k) rv h⟩
          · exact h.elim
        · exact h.elim
      · exact h.elim
    · exact h.elim
  · exact h.elim
theorem mr_split (G : Good X) : MtR X "str.split" (dM (nm X fd) E (opMt m .split)) := by
  refine MtR.imp (MtR.fz G.sys mt_split) fun x xs H Q ⟨S, α, d, ds, ok, r, rs, h⟩ => ?_
  unfold opMt at h
  split at h <;> first | (rename_i e; cases e) | skip
  · split at h
    · split at h
      · rename_i hz
        obtain ⟨w, rfl, rw'⟩ := rp1 rs
        exact ⟨_, _, r.str_inv, by rw [rw'.str_inv], hz.1, hz.2, newL ok (RpAll.strs _) h⟩
      · exact h.elim
    · exact h.elim
  · exact h.elim
theorem mr_join : MtR X "str.join" (dM (nm X fd) E (opMt m .join)) := by
  refine MtR.imp mt_join fun x xs H Q ⟨S, α, d, ds, ok, r, rs, h⟩ => ?_
  unfold opMt at h
  split at h <;> first | (rename_i e; cases e) | skip
  · split at h
    · rename_i a ys e
      split at h
      · rename_i hz
        obtain ⟨w, rfl, rw'⟩ := rp1 rs
        obtain ⟨zs, e1, e2⟩ := Option.bind_eq_some_iff.mp e
        obtain ⟨b, vs, rfl, h1, r1⟩ := rw'.seq_inv ok e1
        have := strsOf_rp e2 r1
        subst this
        exact ⟨_, b, ys, r.str_inv, rfl, h1, hz, now ok h (.p (.str _))⟩
      · exact h.elim
    · exact h.elim
  · exact h.elim
theorem mr_upper : MtR X "str.upper" (dM (nm X fd) E (opMt m .upper)) := by
  refine MtR.imp mt_upper fun x xs H Q ⟨S, α, d, ds, ok, r, rs, h⟩ => ?_
  unfold opMt at h
  split at h <;> first | (rename_i e; cases e) | skip
  · split at h
    · split at h
      · rename_i hz
        cases rs
        exact ⟨_, r.str_inv, rfl, hz, now ok h (.p (.str _))⟩
      · exact h.elim
    · exact h.elim
  · exact h.elim
theorem mr_all (G : Good X) (f : Mt) : MtR X f.id (dM (nm X fd) E (opMt m f)) := by
  cases f with
  | append => exact mr_append
  | extend => exact mr_extend
  | pop => exact mr_pop
  | popAt => exact mr_popAt
  | split => exact mr_split G
  | join => exact mr_join
  | upper => exact mr_upper
theorem mt_pa (f : Mt) : PlainAttrs f.ty := by cases f <;> first | exact PySem.F.plainAttrs_list | exact PySem.F.plainAttrs_str
theorem mt_sl (f : Mt) : Slot f.ty f.nm f.id := by
  cases f with
  | append => exact PySem.F.slot_list_append
  | extend => exact PySem.F.slot_list_extend
  | pop => exact PySem.F.slot_list_pop
  | popAt => exact PySem.F.slot_list_pop
  | split => exact PySem.F.slot_str_split
  | join => exact PySem.F.slot_str_join
  | upper => exact PySem.F.slot_str_upper
theorem mt_md (f : Mt) : typeOf (.builtin f.id) = pure (.type "method_descriptor") := by
  cases f with
  | append => exact PySem.F.type_list_append
  | extend => exact PySem.F.type_list_extend
  | pop => exact PySem.F.type_list_pop
  | popAt => exact PySem.F.type_list_pop
  | split => exact PySem.F.type_str_split
  | join => exact PySem.F.type_str_join
  | upper => exact PySem.F.type_str_upper
theorem rcv_ty {N : Nm} {H : Hp} {α : List Addr} {S : Sto} {v : V} {d : D} {T : String} (ok : StoOk N H α S) (r : Rp N H α v d) (e : rcv d S = some T) : tyV N.K T v H := by
  unfold rcv at e
  split at e
  · cases e
    rw [r.str_inv]
    rfl
  · cases e
    cases r with
    | p hp => cases hp with | @lst a vs ds h1 h2 h3 => exact .inl ⟨rfl, vs, h1.sq⟩
  · split at e
    · rename_i q
      cases e
      cases r with
      | @loc a _ hl =>
        obtain ⟨vs, h1, _⟩ := ok.cell _ _ _ hl q
        exact .inl ⟨rfl, vs, .inl (.inl h1)⟩
    · cases e
  · cases e
variable {o e : Expr} {es : List Expr} {apos cpos : Pos} {Fo : Slots → Sto → Res D} {Fs : Slots → Sto → Res (List D)}
abbrev fMt (m : Bool) (f : Mt) (Fo : Slots → Sto → Res D) (Fs : Slots → Sto → Res (List D)) : Slots → Sto → Res D := fun ρ S => (Fo ρ S).bind fun o S1 => if rcv o S1 = some f.ty then (Fs ρ S1).bind fun xs S2 => opMt m f o xs S2 else .st
theorem dv_mt0 (G : Good X) {m : Bool} (f : Mt) {x : Str} (ex : x = f.nm) (ho : PE X o (dE (nm X fd) E Fo)) (hb : baseE o = true) (hline : (apos.endLine == cpos.line) = true) :
    PE X (.Call (.Attribute o x apos) [] [] cpos) (dE (nm X fd) E (fMt m f Fo fNil)) := by
  subst ex
  refine PE.imp (pe_bm0 (mt_pa f) (mt_sl f) (mt_md f) (mr_all (fd := fd) (E := E) (m := m) G f) ho (base_of hb) hline) fun σ H Q ⟨ρ, S, α, r, ok, h⟩ => ⟨ρ, S, α, r, ok, ?_⟩
  simp only [fMt] at h
  cases q : Fo ρ S with
  | ex c e' S' => rw [q] at h; exact h
  | st => rw [q] at h; exact h
  | ok d S1 =>
    rw [q] at h
    simp only [bind_ok] at h
    intro v H' α' st ok' rv
    split at h
    · rename_i hr
      exact ⟨rcv_ty ok' rv hr, S1, α', d, [], ok', rv, .nil, dRes.shift ok st h⟩
    · exact h.elim
theorem few_ok {es : List Expr} {env : Env} (h : es.all nsE = true) (hl : es.length < 30) :
    ((backTo cpos (starEach es env)).all (fun x => !x.1) && (backToKw cpos (keywordEach [] env)).all (fun x => x.1.isSome) && decide (es.length + ([] : List Keyword).length + (if ([] : List Keyword).isEmpty then 0 else 1) < 30)) = true := by
  have h1 := starEach_all (env := env) (pos := cpos) h
  have h2 : (backTo cpos (starEach es env)).all (fun x => !x.1) = true := by
    rw [List.all_eq_true]
    intro x hx
    rw [List.any_eq_false] at h1
    simpa using h1 x hx
  rw [h2]
  show (true && decide (es.length + 0 + 0 < 30)) = true
  simp [hl]
theorem dv_mt (G : Good X) {m : Bool} (f : Mt) {x : Str} (ex : x = f.nm) (ho : PE X o (dE (nm X fd) E Fo)) (ha : PA X (e :: es) (dA (nm X fd) E Fs)) (hb : baseE o = true) (hn : (e :: es).all nsE = true) (hl : (e :: es).length < 30) (hline : (apos.endLine == cpos.line) = true) :
    PE X (.Call (.Attribute o x apos) (e :: es) [] cpos) (dE (nm X fd) E (fMt m f Fo Fs)) := by
  subst ex
  have hn' := hn
  simp only [List.all_cons, Bool.and_eq_true] at hn'
  refine PE.imp (pe_bm (mt_pa f) (mt_sl f) (mt_md f) (mr_all (fd := fd) (E := E) (m := m) G f) ho ha (base_of hb) (few_ok hn hl) hline (starEach_ns hn'.1) (starEach_all hn'.2)) fun σ H Q ⟨ρ, S, α, r, ok, h⟩ => ⟨ρ, S, α, r, ok, ?_⟩
  simp only [fMt] at h
  cases q : Fo ρ S with
  | ex c e' S' => rw [q] at h; exact h
  | st => rw [q] at h; exact h
  | ok d S1 =>
    rw [q] at h
    simp only [bind_ok] at h
    intro v H' α' st ok' rv
    split at h
    · rename_i hr
      refine ⟨rcv_ty ok' rv hr, ρ, S1, α', r.step ok st, ok', ?_⟩
      have h := dRes.shift ok st h
      cases q2 : Fs ρ S1 with
      | ex c e' S' => rw [q2] at h; exact h
      | st => rw [q2] at h; exact h
      | ok ds S2 =>
        rw [q2] at h
        exact fun vs H2 α2 st2 ok2 rvs => ⟨S2, α2, d, ds, ok2, st2.rp ok' rv, rvs, dRes.shift ok' st2 h⟩
    · exact h.elim
end
/-! ### dict displays -/
section
variable {X : Cx} {fd : Str → Str} {E : XK} {pos : Pos}
abbrev FD := Slots → Sto → Res D
def pairsF : List (FD × FD) → Slots → Sto → Res (List (D × D))
  | [], _, S => .ok [] S
  | (fk, fv) :: r, ρ, S => (fk ρ S).bind fun k S1 => (fv ρ S1).bind fun v S2 => (pairsF r ρ S2).bind fun kvs S3 => .ok ((k, v) :: kvs) S3
def dResP (N : Nm) (E : XK) (α : List Addr) (S : Sto) (H : Hp) (r : Res (List (D × D))) (Q : List (V × V) → Hp → Prop) : Prop := match r with
  | .ok d S' => ∀ ps H' α', Stp α S H α' S' H' → StoOk N H' α' S' → RpAll N H' α' (ps.map (·.1)) (d.map (·.1)) → RpAll N H' α' (ps.map (·.2)) (d.map (·.2)) → Q ps H'
  | .ex c e S' => ∀ cls dx H' α', Stp α S H α' S' H' → StoOk N H' α' S' → XOk N H' α' cls dx c e → E cls dx H'
  | .st => False
theorem dPairs {N : Nm} : ∀ {fs : List (FD × FD)} {σ : L2.St} {H : Hp} {ρ : Slots} {S : Sto} {α : List Addr} {Q : List (V × V) → Hp → Prop}, Rho N H α σ ρ → StoOk N H α S → dResP N E α S H (pairsF fs ρ S) Q →
    tPairs (fs.map fun f => (dE N E f.1, dE N E f.2)) σ H Q
  | [], σ, H, ρ, S, α, Q, r, ok, h => h [] H α .refl ok .nil .nil
  | (fk, fv) :: fs, σ, H, ρ, S, α, Q, r, ok, h => by
    refine ⟨ρ, S, α, r, ok, ?_⟩
    show dRes N E α S H (fk ρ S) _
    simp only [pairsF] at h
    cases q : fk ρ S with
    | ex c e' S' => rw [q] at h; exact h
    | st => rw [q] at h; exact h
    | ok k S1 =>
      rw [q] at h
      intro x H1 α1 st1 ok1 rx
      refine ⟨ρ, S1, α1, r.step ok st1, ok1, ?_⟩
      show dRes N E α1 S1 H1 (fv ρ S1) _
      simp only [bind_ok] at h
      cases q2 : fv ρ S1 with
      | ex c e' S' => rw [q2] at h; exact fun cls dx H' α' st o z => h cls dx H' α' (st1.trans ok st) o z
      | st => rw [q2] at h; exact h
      | ok v S2 =>
        rw [q2] at h
        intro y H2 α2 st2 ok2 ry
        simp only [bind_ok] at h
        refine dPairs (fs := fs) (ρ := ρ) (S := S2) (α := α2) ((r.step ok st1).step ok1 st2) ok2 ?_
        cases q3 : pairsF fs ρ S2 with
        | ex c e' S' => rw [q3] at h; exact fun cls dx H' α' st o z => h cls dx H' α' (st1.trans ok (st2.trans ok1 st)) o z
        | st => rw [q3] at h; exact h
        | ok kvs S3 =>
          rw [q3] at h
          exact fun ps H3 α3 st3 ok3 r1 r2 => h _ H3 α3 (st1.trans ok (st2.trans ok1 st3)) ok3 (.cons (st3.rp ok2 (st2.rp ok1 rx)) r1) (.cons (st3.rp ok2 ry) r2)
def keysOf : List (D × D) → Option (List (Key × D))
  | [] => some []
  | (k, v) :: r => match keyOf k, keysOf r with
    | some k, some l => some ((k, v) :: l)
    | _, _ => none
def mergeD (kvs more : List (Key × D)) : List (Key × D) := more.foldl (fun acc kv => putKD acc kv.1 kv.2) kvs
theorem keys_rp {N : Nm} {H : Hp} {α : List Addr} : ∀ {d : List (D × D)} {kvs : List (Key × D)} {ps : List (V × V)}, keysOf d = some kvs → RpAll N H α (ps.map (·.1)) (d.map (·.1)) → RpAll N H α (ps.map (·.2)) (d.map (·.2)) →
    ∃ ws : List (Key × V), ps = ws.map (fun kv => (kV kv.1, kv.2)) ∧ ws.length = kvs.length ∧ ws.map (·.1) = kvs.map (·.1) ∧ RpAll N H α (ws.map (·.2)) (kvs.map (·.2)) ∧ d.length = kvs.length
  | [], kvs, ps, e, r1, r2 => by
    cases e
    cases ps with
    | nil => exact ⟨[], rfl, rfl, rfl, .nil, rfl⟩
    | cons p ps => simp at r1; cases r1
  | (k, v) :: d, kvs, ps, e, r1, r2 => by
    cases ps with
    | nil => simp at r1; cases r1
    | cons p ps =>
      unfold keysOf at e
      split at e
      · rename_i kk l e1 e2
        cases e
        cases r1 with
        | cons a1 a2 =>
          cases r2 with
          | cons b1 b2 =>
            obtain ⟨ws, h1, h2, h3, h4, h5⟩ := keys_rp e2 a2 b2
            refine ⟨(kk, p.2) :: ws, ?_, by simp [h2], by simp [h3], .cons b1 h4, by simp [h5]⟩
            obtain ⟨p1, p2⟩ := p
            have := a1.key e1
            simp only at this
            simp only [List.map_cons, ← h1, this]
      · cases e
theorem merge_rp {N : Nm} {H : Hp} {α : List Addr} : ∀ {more : List (Key × D)} {ws : List (Key × V)} {ks : List Key} {vs : List V} {xs : List D}, ws.map (·.1) = more.map (·.1) → RpAll N H α (ws.map (·.2)) (more.map (·.2)) → ks.length = vs.length → RpAll N H α vs xs →
    ∃ (ks' : List Key) (vs' : List V) (xs' : List D), mergeK (ks.zip vs) ws = ks'.zip vs' ∧ mergeD (ks.zip xs) more = ks'.zip xs' ∧ ks'.length = vs'.length ∧ RpAll N H α vs' xs'
  | [], [], ks, vs, xs, _, _, hl, r => ⟨ks, vs, xs, rfl, rfl, hl, r⟩
  | [], w :: ws, ks, vs, xs, e, _, _, _ => by simp at e
  | q :: more, [], ks, vs, xs, e, _, _, _ => by simp at e
  | (k, d) :: more, (k2, v) :: ws, ks, vs, xs, e, rm, hl, r => by
    simp only [List.map_cons, List.cons.injEq] at e
    obtain ⟨rfl, e⟩ := e
    cases rm with
    | cons r1 r2 =>
      obtain ⟨ks', vs', xs', e1, e2, e3, e4⟩ := putK_zip (k := k2) r1 hl r
      obtain ⟨k3, v3, x3, f1, f2, f3, f4⟩ := merge_rp e r2 e3 e4
      refine ⟨k3, v3, x3, ?_, ?_, f3, f4⟩
      · rw [← f1]
        unfold mergeK
        rw [List.foldl_cons, e1]
      · rw [← f2]
        unfold mergeD
        rw [List.foldl_cons, e2]
abbrev fDct (fs : List (FD × FD)) : Slots → Sto → Res D := fun ρ S => (pairsF fs ρ (S ++ [.dK []])).bind fun kvs S1 => match S1[S.length]?, keysOf kvs with
  | some (.dK []), some l => if l.length ≤ 15 then .ok (.loc S.length) (S1.set S.length (.dK (mergeD [] l))) else .st
  | _, _ => .st
theorem dv_dct0 : PE X (.Dict [] [] pos) (dE (nm X fd) E fun _ S => .ok (.loc S.length) (S ++ [.dK []])) := PE.imp pe_dnewK fun σ H Q ⟨ρ, S, α, r, ok, h⟩ p hp => by
  have st := step_alloc (c := .dK []) (o := .dK []) ok hp
  refine h _ _ (α ++ [p]) st (sto_alloc ok hp ⟨[], [], [], upd_same, rfl, rfl, .nil⟩) (.loc ?_)
  rw [← ok.len]
  simp
theorem dv_dct {keys : List (Option Expr)} {values : List Expr} {fs : List (FD × FD)} (h : PPs X pos keys values (fs.map fun f => (dE (nm X fd) E f.1, dE (nm X fd) E f.2))) (hall : keys.all (·.isSome) = true) (hl : keys.length = values.length) (h0 : keys ≠ []) (h15 : keys.length ≤ 15) :
    PE X (.Dict keys values pos) (dE (nm X fd) E (fDct fs)) := by
  refine PE.imp (pe_disp h hall hl h0 h15) fun σ H Q ⟨ρ, S, α, r, ok, h⟩ p hp => ?_
  have st := step_alloc (c := .dK []) (o := .dK []) ok hp
  have ok1 : StoOk (nm X fd) (upd H p (.dK [])) (α ++ [p]) (S ++ [.dK []]) := sto_alloc ok hp ⟨[], [], [], upd_same, rfl, rfl, .nil⟩
  refine dPairs (ρ := ρ) (r.step ok st) ok1 ?_
  have atp : (α ++ [p])[S.length]? = some p := by rw [← ok.len]; simp
  simp only [fDct] at h
  cases q : pairsF fs ρ (S ++ [.dK []]) with
  | ex c e' S' => rw [q] at h; exact fun cls dx H' α' st' o z => h cls dx H' α' (st.trans ok st') o z
  | st => rw [q] at h; exact h
  | ok kvs S2 =>
    rw [q] at h
    simp only [bind_ok] at h
    intro ps H2 α2 st2 ok2 r1 r2
    split at h
    · rename_i l e1 e2
      split at h
      · rename_i hz
        have hl2 := st2.loc atp
        obtain ⟨ks, vs, xs, g1, g2, g3, g4⟩ := ok2.cell _ _ _ hl2 e1
        have hx : xs = [] ∧ ks = [] ∧ vs = [] := by
          have e3 := g4.length
          cases ks with
          | nil =>
            cases vs with
            | nil =>
              cases xs with
              | nil => exact ⟨rfl, rfl, rfl⟩
              | cons x xs => cases g4
            | cons v vs => cases g3
          | cons k ks =>
            cases vs with
            | nil => cases g3
            | cons v vs =>
              cases xs with
              | nil => cases g4
              | cons x xs => cases g2
        obtain ⟨rfl, rfl, rfl⟩ := hx
        obtain ⟨ws, f1, f2, f3, f4, f5⟩ := keys_rp e2 r1 r2
        obtain ⟨k3, v3, x3, m1, m2, m3, m4⟩ := merge_rp (ks := []) (vs := []) (xs := []) f3 f4 rfl .nil
        refine ⟨g1, ws, f1, by rw [f2]; exact hz, ?_⟩
        have m1' : mergeK [] ws = k3.zip v3 := m1
        have m2' : mergeD [] l = k3.zip x3 := m2
        rw [m1']
        rw [m2'] at h
        have st3 := step_set (c' := .dK (k3.zip x3)) (o := .dK (k3.zip v3)) ok2 hl2 e1 (fun z => nomatch z)
        exact h _ _ α2 (st.trans ok (st2.trans ok1 st3)) (sto_set ok2 hl2 e1 (fun z => nomatch z) ⟨k3, v3, x3, upd_same, rfl, m3, st3.rpAll ok2 m4⟩) (.loc hl2)
      · exact h.elim
    · exact h.elim
end
end Dl

set_option linter.all false
set_option maxRecDepth 100000
set_option maxHeartbeats 4000000
/-! Dl18: defs by plain values: what a call gives, how a body keeps it. -/
namespace Dl
open PySem PySem.Spec PyProof.Rows L2
/-! ### own cells go -/
section
variable {N : Nm} {E : XK} {H H' : Hp} {α α' : List Addr} {S S' : Sto}
mutual
theorem Rp.closed : ∀ {d : D} {v : V}, Rp N H α v d → d.closed α.length = true
  | .p _, _, _ => by simp [D.closed]
  | .loc l, _, .loc h => by simp only [D.closed, decide_eq_true_eq]; exact (List.getElem?_eq_some_iff.mp h).1
  | .tup xs, _, .tup _ r => by simp only [D.closed]; exact RpAll.closed r
  | .fn _, _, _ => by simp [D.closed]
theorem RpAll.closed : ∀ {ds : List D} {vs : List V}, RpAll N H α vs ds → closedAll α.length ds = true
  | [], _, _ => by simp [closedAll]
  | d :: ds, _, .cons r1 r2 => by simp only [closedAll, Rp.closed r1, RpAll.closed r2, Bool.and_self]
end
theorem CellOk.closed {a : Addr} {c : Cell} (h : CellOk N H α a c) : c.closed α.length = true := by
  cases c with
  | lst xs => obtain ⟨vs, _, r⟩ := h; exact r.closed
  | dK kvs =>
    obtain ⟨ks, vs, xs, _, e, hl, r⟩ := h
    subst e
    show (ks.zip xs).all _ = true
    rw [closed_zip (by rw [hl, r.length])]
    exact r.closed
  | lk kvs =>
    obtain ⟨o, ks, vs, xs, _, e, hl, r⟩ := h
    subst e
    show (ks.zip xs).all _ = true
    rw [closed_zip (by rw [hl, r.length])]
    exact r.closed
  | ins C fs =>
    obtain ⟨Ca, dx, ks, vs, xs, _, _, e, hl, r, _⟩ := h
    subst e
    show (ks.zip xs).all _ = true
    rw [closed_zip (by rw [hl, r.length])]
    exact r.closed
  | dead => rfl
theorem trim (ok : StoOk N H α S) (t : TrimOk S S') (st : Stp α S H α' S' H') (ok' : StoOk N H' α' S') : (Stp α S H α (S'.take S.length) H' ∧ StoOk N H' α (S'.take S.length)) ∧ α'.take S.length = α := by
  obtain ⟨β, e1, e2⟩ := st.pre
  have ea : α'.take S.length = α := by rw [e1, ← ok.len]; simp
  refine ⟨⟨⟨⟨[], by simp, by simp⟩, fun l h => ?_, st.keep, st.there⟩, ?_⟩, ea⟩
  · have hl : l < S.length := (List.getElem?_eq_some_iff.mp h).1
    rw [List.getElem?_take_of_lt hl]
    exact st.dead l h
  · refine ⟨by rw [ok.len, List.length_take]; have := t.1; omega, ok.nd, fun l a c h1 h2 => ?_⟩
    have hl : l < S.length := by rw [← ok.len]; exact (List.getElem?_eq_some_iff.mp h1).1
    rw [List.getElem?_take_of_lt hl] at h2
    have h3 := ok'.cell l a c (st.loc h1) h2
    have hc : c.closed S.length = true := by
      rcases t.2 l c hl h2 with h | h
      · rw [← ok.len]
        exact (ok.cell l a c h1 h).closed
      · exact h
    have := h3.cut hc
    rw [ea] at this
    exact this
theorem fin_out {out : Out} {Q : VK} (ok : StoOk N H α S) (h : dRes N E α S H (fin S out) Q) : dOut N E α S H out { nx := fun _ H' => Q .non H', rt := Q } := by
  cases out with
  | nx ρ S' =>
    intro σ H' α' st ok' r
    simp only [fin] at h
    split at h
    · rename_i t
      obtain ⟨⟨s1, o1⟩, _⟩ := trim ok t st ok'
      exact h .non H' α s1 o1 (.p .non)
    · exact h .non H' α' st ok' (.p .non)
  | rt d S' =>
    intro v H' α' st ok' r
    simp only [fin] at h
    split at h
    · rename_i t
      obtain ⟨⟨s1, o1⟩, ea⟩ := trim ok t.1 st ok'
      have := r.cut t.2
      rw [ea] at this
      exact h v H' α s1 o1 this
    · exact h v H' α' st ok' r
  | ex c e S' =>
    intro cls dx H' α' st ok' x
    simp only [fin] at h
    split at h
    · rename_i t
      obtain ⟨⟨s1, o1⟩, ea⟩ := trim ok t.1 st ok'
      obtain ⟨Ca, d, w, x1, x2, x3, x4, x5⟩ := x
      have := x5.cut t.2
      rw [ea] at this
      exact h cls dx H' α s1 o1 ⟨Ca, d, w, x1, x2, x3, x4, this⟩
    · exact h cls dx H' α' st ok' x
  | bk ρ S' => exact h.elim
  | ct ρ S' => exact h.elim
  | st => exact h.elim
end
/-! ### what a def promises -/
def spD (N : Nm) (n : Nat) (g : List D → Sto → Res D) : Sp := fun vs H Q E => ∃ S α ds, (StoOk N H α S ∧ vs.length = n) ∧ RpAll N H α vs ds ∧ dRes N E α S H (g ds S) Q
structure FnG (P : Program) (w : World) (K : PySem.W.Frag) (mg : Str → Option Value) (base : Heap) (CX : CXT) (k : Nat) (f : Addr) (fd : FuncData) (ps : List Str) (sp : Sp) : Prop where
  go : ∀ (A : Around) (outer : List Env) (s : Shared) (H : Hp) (args : Args) (us : List Value) (vs : List V) (Q : VK) (E : XK), (Room k A ∧ A.guards = some []) → Env0 P w K mg base A outer s H →
    BindsTo s fd args (ps.zip us) → Vals vs us → (vs.length = ps.length ∧ sp vs H Q E) → codeAny (model P w) A (.call (.ref f) args) (CR CX outer P w H s Q E) s
section
variable {P : Program} {w : World} {K : PySem.W.Frag} {mg : Str → Option Value} {base : Heap} {CX : CXT} {k : Nat} {f : Addr} {fdt : FuncData} {ps N : List Str} {sp : Sp}
theorem FnG.mono {j : Nat} (F : FnG P w K mg base CX j f fdt ps sp) (h : j ≤ k) : FnG P w K mg base CX k f fdt ps sp := ⟨fun A outer s H args us vs Q E hr => F.go A outer s H args us vs Q E ⟨hr.1.mono h, hr.2⟩⟩
theorem guards_deeper {A : Around} {env : Env} (h : A.guards = some []) : (A.deeper env).guards = some [] := by
  first
    | exact h
    | (show A.guards = some []; exact h)
    | (unfold Around.deeper; simpa using h)
/-- a body keeps the promise -/
theorem fn_g {x qual : Str} {params : Arguments} {body : List Stmt} {scope : Scope} {dV kV doc pm cdv ct oc : Value} {an od : Option Addr} {osl : Array (Option Value)}
    (lk : K.lookup f = some ⟨oc, od, .func (PySem.W.fnOf x qual params body scope dV kV doc pm an cdv ct), osl⟩) (hcd : PySem.W.codeIn K cdv qual = true) (S : FnScope N ps scope)
    (hb : ∀ (A : Around) (outer : List Env) (s : Shared) (H : Hp) (vs : List V) (Q : VK) (E : XK), Room k (A.deeper (envOfC qual scope s.heap.objs.size f cdv)) → (A.deeper (envOfC qual scope s.heap.objs.size f cdv)).guards = some [] →
      vs.length = ps.length → sp vs H Q E → ∃ t, PSs (cxOf CX P w K mg base N qual scope f cdv A outer s H E) body t ∧ t { nx := fun _ H' => Q .non H', rt := Q } (L2.start N vs) H) :
    FnG P w K mg base CX (k + 1) f (PySem.W.fnOf x qual params body scope dV kV doc pm an cdv ct) ps sp := by
  refine ⟨fun A outer s H args us vs Q E ⟨room, gd⟩ e0 bd rv ⟨len, hsp⟩ => ?_⟩
  have inK : K.In s.heap := e0.mod.kin.keeps fun b o z => (e0.bs b o z).1
  have noL : s.heap.NoLimit := e0.mod.nolimit.keeps fun b o z => (e0.bs b o z).1
  have kinds : ∀ y ∈ ps.zip us, scope.names.lookup y.1 = some .local ∨ (scope.names.lookup y.1 = some .cell ∧ ((cellsFrom (s.heap.objs.size + 1) scope.names []).lookup y.1).isSome = true) := by
    rintro ⟨n, v⟩ hy
    rcases S.par n (List.of_mem_zip hy).1 with q | q
    · exact .inl q
    · exact .inr ⟨q, PySem.W.cellsFrom_some _ _ _ (.inl q)⟩
  refine codeAny_call_function room.depth (inK _ _ lk) rfl S.co S.gen rfl (PySem.W.codeRec_of inK hcd) (bd _ _ _ _ (wpAny_newFunctionEnv_cells S.kind kinds fun env he s1 x => ?_))
  subst he
  refine ⟨noL.keeps x.toInCall.keep, codeAny_func ?_⟩
  obtain ⟨t, run, rd⟩ := hb A outer s H vs Q E (room.deeper _) (guards_deeper gd) len hsp
  refine wpAny_mono (run.run [] s1 (L2.start N vs) H _ (inv_start S room.hd e0 len rv x) rd) (fun fl s' z => ?_) fun _ _ z => z
  cases fl with
  | ret u => obtain ⟨v, σ', H', J, r, q⟩ := z; exact ⟨v, H', J.os, J.bare, J.base, J.hok, r, q⟩
  | next => obtain ⟨σ', H', J, q⟩ := z; exact ⟨.non, H', J.os, J.bare, J.base, J.hok, rfl, q⟩
  | brk => obtain ⟨_, _, _, q⟩ := z; exact q.elim
  | cont => obtain ⟨_, _, _, q⟩ := z; exact q.elim
end
/-! ### how the arguments are put in order -/
abbrev Arr := List (Nat ⊕ PyData)
def arrD (arr : Arr) (ds : List D) : List D := arr.map fun a => match a with
  | .inl k => ds.getD k .n
  | .inr c => .p c
/-- one parameter's value -/
def OneArg (K : PySem.W.Frag) (mg : Str → Option Value) (fd : Str → Str) (written : List Value) (a : Nat ⊕ PyData) (z : Value) : Prop := match a with
  | .inl k => written[k]? = some z
  | .inr c => ∃ v, RelV v z ∧ ∀ H, Pd ⟨K, mg, fd⟩ H v c
def BndOk (K : PySem.W.Frag) (mg : Str → Option Value) (fd : Str → Str) (fdt : FuncData) (ps : List Str) (n : Nat) (ks : List Str) (arr : Arr) : Prop :=
  ∀ (s : Shared) (us ws : List Value), K.In s.heap → us.length = n → ws.length = ks.length → ∃ zs, BindsTo s fdt ⟨us, ks.zip ws⟩ (ps.zip zs) ∧ zs.length = ps.length ∧ Paired (OneArg K mg fd (us ++ ws)) arr zs
section
variable {X : Cx} {fd : Str → Str} {E : XK} {CX : CXT} {k n : Nat} {f : Addr} {fdt : FuncData} {ps ks : List Str} {arr : Arr} {g : List D → Sto → Res D}
theorem args_in {H : Hp} {α : List Addr} {ds : List D} {vs : List V} {us : List Value} (rv : Vals vs us) (r : RpAll (nm X fd) H α vs ds) : ∀ {arr : Arr} {zs : List Value}, Paired (OneArg X.K X.mg fd us) arr zs → ∃ ys, Vals ys zs ∧ RpAll (nm X fd) H α ys (arrD arr ds)
  | _, _, .nil => ⟨[], .nil, .nil⟩
  | _, _, .cons (a := a) h t => by
    obtain ⟨ys, h1, h2⟩ := args_in rv r t
    cases a with
    | inl k =>
      have hk : us[k]? = some _ := h
      have hl : k < vs.length := by rw [rv.length]; exact (List.getElem?_eq_some_iff.mp hk).1
      obtain ⟨u, e1, e2⟩ := rv.get (List.getElem?_eq_getElem hl)
      rw [hk] at e1
      cases e1
      obtain ⟨d, e3, rd⟩ := r.get' (List.getElem?_eq_getElem hl)
      refine ⟨_ :: ys, .cons e2 h1, .cons ?_ h2⟩
      show Rp _ _ _ _ (ds.getD k .n)
      rw [List.getD_eq_getElem?_getD, e3]
      exact rd
    | inr c =>
      obtain ⟨v, e1, e2⟩ := h
      exact ⟨v :: ys, .cons e1 h1, .cons (.p (e2 H)) h2⟩
theorem paired_len {A B : Type} {R : A → B → Prop} : ∀ {xs : List A} {ys : List B}, Paired R xs ys → xs.length = ys.length
  | _, _, .nil => rfl
  | _, _, .cons _ t => congrArg Nat.succ (paired_len t)
theorem run_g {pins : List (Addr × Obj)} {σ : L2.St} {H : Hp} {s : Shared} {Q : VK} {us ws : List Value} {vs : List V} {ds : List D} {α : List Addr} {S : Sto} (F : FnG X.prog X.w X.K X.mg X.base CX k f fdt ps (spD (nm X fd) ps.length g)) (hr : Room k X.A) (gd : X.A.guards = some [])
    (hb : BndOk X.K X.mg fd fdt ps n ks arr) (hx : Passes CX X E) (I : Inv X pins σ H s) (ok : StoOk (nm X fd) H α S) (rv : Vals vs (us ++ ws)) (r : RpAll (nm X fd) H α vs ds) (h1 : us.length = n) (h2 : ws.length = ks.length)
    (h : dRes (nm X fd) E α S H (g (arrD arr ds) S) Q) : wpAny (model X.prog X.w) X.A (call (.ref f) us (ks.zip ws)) (EP X pins σ Q) X.xe s := by
  obtain ⟨zs, b1, b2, b3⟩ := hb s us ws I.kIn h1 h2
  obtain ⟨ys, e1, e2⟩ := args_in rv r b3
  have len : ys.length = ps.length := by rw [e1.length, b2]
  refine wpAny_call (codeAny_mono (F.go X.A X.stack s H ⟨us, ks.zip ws⟩ zs ys Q E ⟨hr, gd⟩ I.env0 b1 e1 ⟨len, S, α, _, ⟨ok, len⟩, e2, h⟩) fun o s' z => ?_)
  cases o with
  | error e => exact hx pins σ H s e s' I z
  | ok fl => cases fl <;> first | exact I.after z | exact False.elim z
abbrev fCall (g : List D → Sto → Res D) (n m : Nat) (arr : Arr) (Fs Fk : Slots → Sto → Res (List D)) : Slots → Sto → Res D := fun ρ S => (Fs ρ S).bind fun ds S1 => (Fk ρ S1).bind fun es S2 => if ds.length = n ∧ es.length = m then g (arrD arr (ds ++ es)) S2 else .st
theorem dk_nil : PK X [] (dA (nm X fd) E fNil) := ⟨fun pos pins s σ H Q I h => pk_nil.run pos pins s σ H Q I (dA_nil h)⟩
theorem dk_cons {e : Expr} {kws : List Keyword} {x : Option Str} {kp : Pos} {Fa : Slots → Sto → Res D} {Fk : Slots → Sto → Res (List D)} (ha : PE X e (dE (nm X fd) E Fa)) (hk : PK X kws (dA (nm X fd) E Fk)) : PK X (⟨x, e, kp⟩ :: kws) (dA (nm X fd) E (fCons Fa Fk)) :=
  ⟨fun pos pins s σ H Q I h => (pk_cons ha hk).run pos pins s σ H Q I (dA_cons h)⟩
def kwN : List Keyword → Option (List Str)
  | [] => some []
  | ⟨some x, _, _⟩ :: r => (kwN r).map (x :: ·)
  | ⟨none, _, _⟩ :: _ => none
theorem kw_facts {env : Env} {pos : Pos} : ∀ {kws : List Keyword} {ks : List Str}, kwN kws = some ks → (backToKw pos (keywordEach kws env)).all (·.1.isSome) = true ∧ (backToKw pos (keywordEach kws env)).filterMap (·.1) = ks ∧ (backToKw pos (keywordEach kws env)).any (·.1.isNone) = false
  | [], ks, e => by cases e; exact ⟨rfl, rfl, rfl⟩
  | ⟨some x, v, p⟩ :: r, ks, e => by
    simp only [kwN, Option.map_eq_some_iff] at e
    obtain ⟨l, e1, rfl⟩ := e
    obtain ⟨h1, h2, h3⟩ := kw_facts (env := env) (pos := pos) e1
    refine ⟨?_, ?_, ?_⟩
    · show (true && _) = true
      exact h1
    · show x :: _ = x :: l
      rw [← h2]
      rfl
    · show (false || _) = false
      exact h3
  | ⟨none, v, p⟩ :: r, ks, e => by cases e
theorem dv_call {x : Str} {es : List Expr} {kws : List Keyword} {p pos : Pos} {Fs Fk : Slots → Sto → Res (List D)} (F : FnG X.prog X.w X.K X.mg X.base CX k f fdt ps (spD (nm X fd) ps.length g)) (hr : Room k X.A) (gd : X.A.guards = some []) (hg : Gl X x) (hm : X.mg x = some (.ref f))
    (hk : PySem.W.keepIn X.K (.ref f) = true) (hb : BndOk X.K X.mg fd fdt ps es.length ks arr) (hx : Passes CX X E) (hdb : (x == ("__debug__" : Str)) = false) (ha : PA X es (dA (nm X fd) E Fs)) (hkw : PK X kws (dA (nm X fd) E Fk)) (hns : es.all nsE = true) (hks : kwN kws = some ks) (hF : es = [] → Fs = fNil) :
    PE X (.Call (.Name x p) es kws pos) (dE (nm X fd) E (fCall g es.length ks.length arr Fs Fk)) := by
  obtain ⟨w1, w2, w3⟩ := kw_facts (env := X.env) (pos := pos) hks
  -- the keywords' values are read, then the callee runs
  have goK : ∀ {pins : List (Addr × Obj)} {σ : L2.St} {H1 : Hp} {s1 : Shared} {Q : VK} {us : List Value} {vs : List V} {ds : List D} {ρ : Slots} {α : List Addr} {S : Sto}, Inv X pins σ H1 s1 → Rho (nm X fd) H1 α σ ρ → StoOk (nm X fd) H1 α S → Vals vs us → RpAll (nm X fd) H1 α vs ds →
      dRes (nm X fd) E α S H1 ((Fk ρ S).bind fun zs S2 => if ds.length = es.length ∧ zs.length = ks.length then g (arrD arr (ds ++ zs)) S2 else .st) Q → wpAny (model X.prog X.w) X.A (evalAll ((backToKw pos (keywordEach kws X.env)).map (·.2)))
        (fun ws s2 => X.K.In s2.heap ∧ wpAny (model X.prog X.w) X.A (call (.ref f) ([] ++ us) (((backToKw pos (keywordEach kws X.env)).filterMap (·.1)).zip ws)) (EP X pins σ Q) X.xe s2) X.xe s1 := by
    intro pins σ H1 s1 Q us vs ds ρ α S I r ok rv rd h
    have rd2 : dA (nm X fd) E Fk σ H1 fun zs H2 => ∃ S2 α2 es', (StoOk (nm X fd) H2 α2 S2 ∧ ds.length = es.length ∧ zs.length = ks.length) ∧ RpAll (nm X fd) H2 α2 (vs ++ zs) (ds ++ es') ∧ dRes (nm X fd) E α2 S2 H2 (g (arrD arr (ds ++ es')) S2) Q := by
      refine ⟨ρ, S, α, r, ok, ?_⟩
      cases q : Fk ρ S with
      | ex c e' S' => rw [q] at h; exact h
      | st => rw [q] at h; exact h
      | ok es' S2 =>
        rw [q] at h
        intro zs H2 α2 st2 ok2 rz
        simp only [bind_ok] at h
        split at h
        · rename_i hl
          exact ⟨S2, α2, es', ⟨ok2, hl.1, by rw [rz.length]; exact hl.2⟩, (st2.rpAll ok rd).append rz, dRes.shift ok st2 h⟩
        · exact h.elim
    refine thn (hkw.run pos pins s1 σ H1 _ I rd2) fun ws s2 ⟨zs, H2, I2, rz, S2, α2, es', ⟨ok2, l1, l2⟩, r2, h2⟩ => ⟨I2.kIn, ?_⟩
    rw [w2]
    exact run_g F hr gd hb hx I2 ok2 (rv.append rz) r2 (by show us.length = _; rw [← rv.length, rd.length, l1]) (rz.length.symm.trans l2) h2
  refine ⟨fun pins s σ H Q I ⟨ρ, S, α, r, ok, h⟩ => wpAny_Call_Name_kw (ld_glob I hg hm ?_ hdb)⟩
  simp only [fCall] at h
  cases es with
  | nil =>
    rw [hF rfl] at h
    refine PySem.W.callWith_KW0 (h₀ := X.base) I.ok.mod.kin hk w1 ?_ (by rw [w3]; rfl)
    exact goK (us := []) (vs := []) (ds := []) I r ok .nil .nil h
  | cons e es =>
    simp only [List.all_cons, Bool.and_eq_true] at hns
    refine PySem.W.callWith_KW (h₀ := X.base) I.ok.mod.kin hk w1 ?_ (by rw [w3, Bool.or_false]; exact starEach_all (by simp only [List.all_cons, Bool.and_eq_true]; exact hns)) (starEach_ns hns.1)
    have h0 : dA (nm X fd) E Fs σ H fun vs H1 => ∃ ρ1 S1 α1 ds, (Rho (nm X fd) H1 α1 σ ρ1 ∧ StoOk (nm X fd) H1 α1 S1) ∧ RpAll (nm X fd) H1 α1 vs ds ∧ dRes (nm X fd) E α1 S1 H1 ((Fk ρ1 S1).bind fun zs S2 => if ds.length = (e :: es).length ∧ zs.length = ks.length then g (arrD arr (ds ++ zs)) S2 else .st) Q := by
      refine ⟨ρ, S, α, r, ok, ?_⟩
      cases q : Fs ρ S with
      | ex c e' S' => rw [q] at h; exact h
      | st => rw [q] at h; exact h
      | ok ds S1 =>
        rw [q] at h
        exact fun vs H1 α1 st ok1 rd => ⟨ρ, S1, α1, ds, ⟨r.step ok st, ok1⟩, rd, dRes.shift ok st h⟩
    exact thn (ha.run pos pins s σ H _ I h0) fun us s1 ⟨vs, H1, I1, rv, ρ1, S1, α1, ds, ⟨r1, ok1⟩, rd, h1⟩ => goK I1 r1 ok1 rv rd h1
end
end Dl

set_option linter.all false
set_option maxRecDepth 100000
set_option maxHeartbeats 4000000
/-! Dl19: texts as small trees: what they compute (ev), whether a tree is a text's (ck). -/
namespace Dl
open PySem PySem.Spec PyProof.Rows L2
mutual
inductive Ex where
  | none
  | var (i : Nat)
  | c (d : PyData)
  | glob (d : PyData)
  | bin (op : Operator) (m : Bool) (a b : Ex)
  | neg (a : Ex)
  | cmp (op : CmpOp) (a b : Ex)
  | chain (op op' : CmpOp) (a b c : Ex)
  | not (a : Ex)
  | and (a : Ex) (r : Exs)
  | or (a : Ex) (r : Exs)
  | ite (c a b : Ex)
  | tup (es : Exs)
  | lst (m : Bool) (es : Exs)
  | idx (a b : Ex)
  | sli (m : Bool) (a : Ex) (lo hi : Exo)
  | rev (m : Bool) (a : Ex)
  | fld (f : Str) (a : Ex)
  | bn (m : Bool) (f : Bn) (es : Exs)
  | isi (T : Ty) (a : Ex)
  | mt (m : Bool) (f : Mt) (o : Ex) (es : Exs)
  | call (f : Str) (arr : Arr) (es ks : Exs)
  | lc (m : Bool) (src : Sr) (t : Tg) (own : List (Str × Nat)) (tst : Exo) (elt : Ex)
  | dct (kvs : Exp)
inductive Exs where
  | nil
  | cons (a : Ex) (r : Exs)
inductive Exo where
  | no
  | so (a : Ex)
inductive Exp where
  | nil
  | cons (k v : Ex) (r : Exp)
inductive Sr where
  | seq (a : Ex)
  | r1 (a : Ex)
  | r2 (a b : Ex)
  | r3 (a b c : Ex)
  | zip (a b : Ex)
  | enum (a : Ex)
end
def Exs.len : Exs → Nat
  | .nil => 0
  | .cons _ r => r.len + 1
def Exs.isNil : Exs → Bool
  | .nil => true
  | _ => false
/-- a value's reading, and the test's -/
structure Rd where
  v : Slots → Sto → Res D
  t : Slots → Sto → Res Bool
abbrev Rd.of (F : Slots → Sto → Res D) : Rd := ⟨F, fTru F⟩
abbrev gIf (Tc Ta Tb : Slots → Sto → Res Bool) : Slots → Sto → Res Bool := fun ρ S => (Tc ρ S).bind fun k S1 => match k with
  | true => Ta ρ S1
  | false => Tb ρ S1
abbrev Fns := Str → List D → Sto → Res D
section
variable (G : Fns)
mutual
noncomputable def ev : Ex → Rd
  | .none => .of fun _ _ => .st
  | .var i => .of (fVar i)
  | .c d => .of (fC d)
  | .glob d => .of (fC d)
  | .bin op m a b => .of (fBin op m (ev a).v (ev b).v)
  | .neg a => .of (fNeg (ev a).v)
  | .cmp op a b => .of (fCmp op (ev a).v (ev b).v)
  | .chain op op' a b c => .of (fChain op op' (ev a).v (ev b).v (ev c).v)
  | .not a => ⟨fNot (ev a).v, gNot (ev a).t⟩
  | .and a r => evAnd (ev a) r
  | .or a r => evOr (ev a) r
  | .ite c a b => ⟨fIf (ev c).t (ev a).v (ev b).v, gIf (ev c).t (ev a).t (ev b).t⟩
  | .tup es => .of (fTup (evs es))
  | .lst m es => .of (fLst m (evs es))
  | .idx a b => .of (fIdx (ev a).v (ev b).v)
  | .sli m a lo hi => .of (fSli m (ev a).v (evo lo) (evo hi))
  | .rev m a => .of (fRev m (ev a).v)
  | .fld f a => .of (fFld f (ev a).v)
  | .bn m f es => .of (fBn m f (evs es))
  | .isi T a => .of (fIsi T (ev a).v)
  | .mt m f o es => .of (fMt m f (ev o).v (evs es))
  | .call f arr es ks => .of (fCall (G f) es.len ks.len arr (evs es) (evs ks))
  | .lc m src t own tst elt => .of (fLc m (evr src) t (own.map (·.2)) (evt tst) (ev elt).v)
  | .dct .nil => .of fun _ S => .ok (.loc S.length) (S ++ [.dK []])
  | .dct (.cons k v r) => .of (fDct (((ev k).v, (ev v).v) :: evp r))
noncomputable def evAnd (a : Rd) : Exs → Rd
  | .nil => a
  | .cons b r => ⟨fAnd a.v (evAnd (ev b) r).v, gAnd a.t (evAnd (ev b) r).t⟩
noncomputable def evOr (a : Rd) : Exs → Rd
  | .nil => a
  | .cons b r => ⟨fOr a.v (evOr (ev b) r).v, gOr a.t (evOr (ev b) r).t⟩
noncomputable def evs : Exs → Slots → Sto → Res (List D)
  | .nil => fNil
  | .cons a r => fCons (ev a).v (evs r)
noncomputable def evo : Exo → Option (Slots → Sto → Res D)
  | .no => .none
  | .so a => some (ev a).v
noncomputable def evt : Exo → Slots → Sto → Res Bool
  | .no => fYes
  | .so a => (ev a).t
noncomputable def evp : Exp → List (FD × FD)
  | .nil => []
  | .cons k v r => ((ev k).v, (ev v).v) :: evp r
noncomputable def evr : Sr → Slots → Sto → Res Src
  | .seq a => fSeq (ev a).v
  | .r1 a => fRng1 (ev a).v
  | .r2 a b => fRng2 (fCons (ev a).v (fCons (ev b).v fNil))
  | .r3 a b c => fRng3 (fCons (ev a).v (fCons (ev b).v (fCons (ev c).v fNil)))
  | .zip a b => fZip (fCons (ev a).v (fCons (ev b).v fNil))
  | .enum a => fEnum (ev a).v
end
end
/-! ### texts and trees -/
structure Tab where
  blt : List Str
  cst : List (Str × PyData)
  shp : List (Str × Nat × List Str × Arr)
  fl : List (Str × Str)
mutual
def pdEq : PyData → PyData → Bool
  | .none, d => match d with
    | .none => true
    | _ => false
  | .bool a, d => match d with
    | .bool b => decide (a = b)
    | _ => false
  | .int a, d => match d with
    | .int b => decide (a = b)
    | _ => false
  | .str a, d => match d with
    | .str b => decide (a = b)
    | _ => false
  | .tuple a, d => match d with
    | .tuple b => pdsEq a b
    | _ => false
  | .list a, d => match d with
    | .list b => pdsEq a b
    | _ => false
  | .dict _, _ => false
def pdsEq : List PyData → List PyData → Bool
  | [], l => l.isEmpty
  | a :: r, l => match l with
    | b :: q => pdEq a b && pdsEq r q
    | [] => false
end
mutual
theorem pdEq_ok : ∀ {a b : PyData}, pdEq a b = true → a = b
  | .none, b, h => by unfold pdEq at h; split at h <;> first | rfl | cases h
  | .bool a, b, h => by unfold pdEq at h; split at h <;> first | (rw [of_decide_eq_true h]) | cases h
  | .int a, b, h => by unfold pdEq at h; split at h <;> first | (rw [of_decide_eq_true h]) | cases h
  | .str a, b, h => by unfold pdEq at h; split at h <;> first | (rw [of_decide_eq_true h]) | cases h
  | .tuple a, b, h => by unfold pdEq at h; split at h <;> first | (rw [pdsEq_ok h]) | cases h
  | .list a, b, h => by unfold pdEq at h; split at h <;> first | (rw [pdsEq_ok h]) | cases h
  | .dict a, b, h => by unfold pdEq at h; cases h
theorem pdsEq_ok : ∀ {a b : List PyData}, pdsEq a b = true → a = b
  | [], b, h => by unfold pdsEq at h; cases b <;> first | rfl | cases h
  | x :: a, b, h => by
    unfold pdsEq at h
    split at h
    · rw [Bool.and_eq_true] at h
      rw [pdEq_ok h.1, pdsEq_ok h.2]
    · cases h
end
def arrEq : Arr → Arr → Bool
  | [], l => l.isEmpty
  | a :: r, l => match a, l with
    | .inl i, .inl j :: q => decide (i = j) && arrEq r q
    | .inr c, .inr d :: q => pdEq c d && arrEq r q
    | _, _ => false
theorem arrEq_ok : ∀ {a b : Arr}, arrEq a b = true → a = b
  | [], b, h => by unfold arrEq at h; cases b <;> first | rfl | cases h
  | x :: a, b, h => by
    unfold arrEq at h
    split at h
    · rw [Bool.and_eq_true] at h
      rw [of_decide_eq_true h.1, arrEq_ok h.2]
    · rw [Bool.and_eq_true] at h
      rw [pdEq_ok h.1, arrEq_ok h.2]
    · cases h
def glb (sc : Scope) (x : Str) : Bool := decide (sc.names.lookup x = some .globalImplicit) && !(x == ("__debug__" : Str))
def bltC (T : Tab) (sc : Scope) (x : Str) : Bool := decide (sc.names.lookup x = some .globalImplicit) && decide (x ∈ T.blt)
def visC (sc : Scope) (x : Str) : Bool := (decide (sc.names.lookup x = some .local) || decide (sc.names.lookup x = some .cell) || decide (sc.names.lookup x = some .free)) && !(x == ("__debug__" : Str)) && !(x == ("__classdict__" : Str))
def constC (k : Const) (d : PyData) : Bool := match k, d with
  | .int i, .int j => decide (i = j)
  | .bool i, .bool j => decide (i = j)
  | .str i, .str j => decide (i = j)
  | .none, .none => true
  | _, _ => false
def plainIxC : Expr → Bool
  | .Slice _ _ _ _ => false
  | _ => true
/-- names of a block's target -/
def storeC (N : List Str) (sc : Scope) (fnc : Str → Bool) (i : Nat) (x : Str) : Bool :=
  decide (N[i]? = some x) && (decide (sc.names.lookup x = some .local) || (decide (sc.names.lookup x = some .cell) && fnc x))
mutual
def tgC (N : List Str) (sc : Scope) (fnc : Str → Bool) : Tg → Expr → Bool
  | .nm i, e => match e with
    | .Name x _ => storeC N sc fnc i x
    | _ => false
  | .tp ts, e => match e with
    | .Tuple es _ _ => es.all nsE && tgsC N sc fnc ts es
    | _ => false
def tgsC (N : List Str) (sc : Scope) (fnc : Str → Bool) : Tgs → List Expr → Bool
  | .nil, es => es.isEmpty
  | .cons t ts, es => match es with
    | e :: es => tgC N sc fnc t e && tgsC N sc fnc ts es
    | [] => false
end
def isTup : Expr → Bool
  | .Tuple _ _ _ => true
  | _ => false
def notSet : Expr → Bool
  | .Set _ _ _ => false
  | _ => true
section
variable (T : Tab) (N : List Str)
mutual
def ck (sc : Scope) : Ex → Expr → Bool
  | .none, _ => true
  | .var i, e => match e with
    | .Name x _ => decide (N[i]? = some x) && visC sc x
    | _ => false
  | .c d, e => match e with
    | .Constant k _ _ => constC k d
    | _ => false
  | .glob d, e => match e with
    | .Name x _ => glb sc x && (match T.cst.lookup x with
      | some d' => pdEq d d'
      | .none => false)
    | _ => false
  | .bin op m a b, e => match e with
    | .BinOp l o r _ => decide (o = op) && ck sc a l && ck sc b r
    | _ => false
  | .neg a, e => match e with
    | .UnaryOp .USub l _ => ck sc a l
    | _ => false
  | .cmp op a b, e => match e with
    | .Compare l [o] [r] _ => decide (o = op) && notSet r && ck sc a l && ck sc b r
    | _ => false
  | .chain op op' a b c, e => match e with
    | .Compare l [o, o'] [r, q] _ => decide (o = op) && decide (o' = op') && notSet q && ck sc a l && ck sc b r && ck sc c q
    | _ => false
  | .not a, e => match e with
    | .UnaryOp .Not l _ => ck sc a l
    | _ => false
  | .and a r, e => match e with
    | .BoolOp .And (l :: q) _ => ck sc a l && cks sc r q
    | _ => false
  | .or a r, e => match e with
    | .BoolOp .Or (l :: q) _ => ck sc a l && cks sc r q
    | _ => false
  | .ite c a b, e => match e with
    | .IfExp t l r _ => ck sc c t && ck sc a l && ck sc b r
    | _ => false
  | .tup es, e => match e with
    | .Tuple l _ _ => l.all nsE && cks sc es l
    | _ => false
  | .lst m es, e => match e with
    | .List l _ => l.all nsE && cks sc es l
    | _ => false
  | .idx a b, e => match e with
    | .Subscript l r _ => plainIxC r && ck sc a l && ck sc b r
    | _ => false
  | .sli m a lo hi, e => match e with
    | .Subscript l (.Slice u v .none _) _ => ck sc a l && cko sc lo u && cko sc hi v
    | _ => false
  | .rev m a, e => match e with
    | .Subscript l (.Slice .none .none (some (.UnaryOp .USub (.Constant (.int 1) _ _) _)) _) _ => ck sc a l
    | _ => false
  | .fld f a, e => match e with
    | .Attribute l g _ => decide (g = f) && baseE l && ck sc a l
    | _ => false
  | .bn m f es, e => match e with
    | .Call (.Name x _) l [] _ => decide (x = f.nm) && bltC T sc x && l.all nsE && !l.isEmpty && cks sc es l
    | _ => false
  | .isi Ti a, e => match e with
    | .Call (.Name x _) [l, .Name y _] [] _ => decide (Ti ≠ .non) && decide (x = "isinstance") && bltC T sc x && decide (y = Ti.nm) && bltC T sc y && nsE l && ck sc a l
    | _ => false
  | .mt m f o es, e => match e with
    | .Call (.Attribute l x ap) q [] cp => decide (x = f.nm) && baseE l && (ap.endLine == cp.line) && q.all nsE && decide (q.length < 30) && ck sc o l && cks sc es q
    | _ => false
  | .call f arr es ks, e => match e with
    | .Call (.Name x _) l q _ => decide (x = f) && glb sc x && l.all nsE && cks sc es l && ckk sc ks q && (match kwN q with
      | some kn => T.shp.any fun q => decide (q.1 = f) && decide (q.2.1 = l.length) && decide (q.2.2.1 = kn) && arrEq q.2.2.2 arr
      | .none => false)
    | _ => false
  | .lc m src t own tst elt, e => match e with
    | .ListComp x [⟨tg, it, ifs, k⟩] sc2 _ => decide (k = 0) && blkC N sc sc2 own && decide (∀ j ∈ t.slots, j ∈ own.map (·.2)) && tgC N (relS sc2 sc) (fun y => sc2.names.lookup y == some .cell) t tg &&
        ckr sc src tg it && ckt (relS sc2 sc) tst ifs && ck (relS sc2 sc) elt x && notSet it
    | _ => false
  | .dct kvs, e => match e with
    | .Dict ks vs _ => decide (ks.length = vs.length) && decide (ks.length ≤ 15) && ckp sc kvs ks vs
    | _ => false
def cks (sc : Scope) : Exs → List Expr → Bool
  | .nil, es => es.isEmpty
  | .cons a r, es => match es with
    | e :: es => ck sc a e && cks sc r es
    | [] => false
def cko (sc : Scope) : Exo → Option Expr → Bool
  | .no, o => o.isNone
  | .so a, o => match o with
    | some e => ck sc a e
    | .none => false
def ckt (sc : Scope) : Exo → List Expr → Bool
  | .no, o => o.isEmpty
  | .so a, o => match o with
    | [e] => ck sc a e
    | _ => false
def ckk (sc : Scope) : Exs → List Keyword → Bool
  | .nil, es => es.isEmpty
  | .cons a r, es => match es with
    | ⟨_, e, _⟩ :: es => ck sc a e && ckk sc r es
    | [] => false
def ckp (sc : Scope) : Exp → List (Option Expr) → List Expr → Bool
  | .nil, ks, vs => ks.isEmpty && vs.isEmpty
  | .cons k v r, ks, vs => match ks, vs with
    | some x :: ks, y :: vs => ck sc k x && ck sc v y && ckp sc r ks vs
    | _, _ => false
def ckr (sc : Scope) : Sr → Expr → Expr → Bool
  | .seq a, _, e => ck sc a e
  | .r1 a, _, e => match e with
    | .Call (.Name x _) [l] [] _ => decide (x = "range") && bltC T sc x && nsE l && ck sc a l
    | _ => false
  | .r2 a b, _, e => match e with
    | .Call (.Name x _) [l, r] [] _ => decide (x = "range") && bltC T sc x && nsE l && nsE r && ck sc a l && ck sc b r
    | _ => false
  | .r3 a b c, _, e => match e with
    | .Call (.Name x _) [l, r, q] [] _ => decide (x = "range") && bltC T sc x && nsE l && nsE r && nsE q && ck sc a l && ck sc b r && ck sc c q
    | _ => false
  | .zip a b, tg, e => match e with
    | .Call (.Name x _) [l, r] [] _ => decide (x = "zip") && isTup tg && bltC T sc x && nsE l && nsE r && ck sc a l && ck sc b r
    | _ => false
  | .enum a, tg, e => match e with
    | .Call (.Name x _) [l] [] _ => decide (x = "enumerate") && isTup tg && bltC T sc x && nsE l && ck sc a l
    | _ => false
end
end
end Dl

set_option linter.all false
set_option maxRecDepth 100000
set_option maxHeartbeats 8000000
/-! Dl20: a tree that is a text's computes what the text computes: expressions. -/
namespace Dl
open PySem PySem.Spec PyProof.Rows L2
/-- what a call of a def of the text needs -/
structure CallOk (X : Cx) (fd : Str → Str) (CX : CXT) (k : Nat) (G : Fns) (q : Str × Nat × List Str × Arr) : Prop where
  ex : ∃ (f : Addr) (fdt : FuncData) (ps : List Str), FnG X.prog X.w X.K X.mg X.base CX k f fdt ps (spD (nm X fd) ps.length (G q.1)) ∧ X.mg q.1 = some (.ref f) ∧ PySem.W.keepIn X.K (.ref f) = true ∧ BndOk X.K X.mg fd fdt ps q.2.1 q.2.2.1 q.2.2.2
structure Cxt (T : Tab) (N : List Str) (fd : Str → Str) (CX : CXT) (k : Nat) (G : Fns) (X : Cx) (E : XK) : Prop where
  good : Good X
  room : Room k X.A
  eN : X.N = N
  nd : N.Nodup
  blt : ∀ x ∈ T.blt, X.mg x = none
  cst : ∀ x d, T.cst.lookup x = some d → GlobC X fd x d
  fns : ∀ q ∈ T.shp, CallOk X fd CX k G q
  pas : Passes CX X E
  pas0 : ∀ l H s e s', CX l H s E0 e s' → False
section
variable {T : Tab} {N : List Str} {fd : Str → Str} {CX : CXT} {k : Nat} {G : Fns} {X : Cx} {E : XK} {sc : Scope}
theorem Cxt.blk (C : Cxt T N fd CX k G X E) (s : Shared) (H : Hp) (scope : Scope) (cenv : Env) (fp : List Addr) : Cxt T N fd CX k G (X.blk s H scope cenv fp) E0 :=
  ⟨⟨C.good.calm, C.good.gd, C.good.un, C.good.sys⟩, C.room, C.eN, C.nd, C.blt, C.cst, fun q hq => ⟨(C.fns q hq).ex⟩, fun pins σ H s e s' I h => C.pas0 _ _ _ _ _ h, C.pas0⟩
theorem Cxt.hu (C : Cxt T N fd CX k G X E) : X.A.units + 65 < cLine := by have := C.good.un; omega
theorem Cxt.hu1 (C : Cxt T N fd CX k G X E) : X.A.units + 1 < cLine := by have := C.good.un; omega
theorem glb_ok {x : Str} (e : X.env.scope = sc) (h : glb sc x = true) : Gl X x ∧ (x == ("__debug__" : Str)) = false := by
  unfold glb at h
  simp only [Bool.and_eq_true, Bool.not_eq_true', decide_eq_true_eq] at h
  exact ⟨by show X.env.scope.names.lookup x = _; rw [e]; exact h.1, h.2⟩
theorem blt_ok (C : Cxt T N fd CX k G X E) {x : Str} (e : X.env.scope = sc) (h : bltC T sc x = true) : Gl X x ∧ X.mg x = none := by
  unfold bltC at h
  simp only [Bool.and_eq_true, decide_eq_true_eq] at h
  exact ⟨by show X.env.scope.names.lookup x = _; rw [e]; exact h.1, C.blt x h.2⟩
theorem vis_ok {x : Str} (e : X.env.scope = sc) (h : visC sc x = true) : Vis X.env.scope x ∧ (x == ("__debug__" : Str)) = false ∧ (x == ("__classdict__" : Str)) = false := by
  unfold visC at h
  simp only [Bool.and_eq_true, Bool.not_eq_true', Bool.or_eq_true, decide_eq_true_eq] at h
  refine ⟨?_, h.1.2, h.2⟩
  rw [e]
  rcases h.1.1 with (z | z) | z
  · exact .inl z
  · exact .inr (.inl z)
  · exact .inr (.inr z)
theorem nm_mark {op : CmpOp} {b : Expr} (h : notSet b = true) : behindInMarks op b = false := by
  cases b <;> first | rfl | cases h
theorem no_fold {it : Expr} {env : Env} (h : notSet it = true) (x : Value) : foldedSetIterable it env x = pure x := by
  cases it <;> first | rfl | cases h
theorem ix_plain {b : Expr} (h : plainIxC b = true) : PlainIx b := by
  intro o i
  cases b <;> first | rfl | cases h
/-! ### targets of blocks -/
theorem asg_len {env : Env} : ∀ {es : List Expr}, (assignEach es env).length = es.length
  | [] => rfl
  | e :: es => by cases e <;> exact congrArg Nat.succ (asg_len (es := es))
theorem asg_ns {env : Env} : ∀ {es : List Expr}, es.all nsE = true → (assignEach es env).findIdx? (·.1) = none
  | [], _ => rfl
  | e :: es, h => by
    simp only [List.all_cons, Bool.and_eq_true] at h
    have ih := asg_ns (env := env) h.2
    have e1 : assignEach (e :: es) env = (false, assign e env) :: assignEach es env := by cases e <;> first | rfl | cases h.1
    rw [e1, List.findIdx?_cons, ih]
    rfl
theorem asg_cons {env : Env} {e : Expr} {es : List Expr} (h : nsE e = true) : (assignEach (e :: es) env).map (·.2) = assign e env :: (assignEach es env).map (·.2) := by cases e <;> first | rfl | cases h
theorem store_ok' {fnc : Str → Bool} {i : Nat} {x : Str} (eN : X.N = N) (e : X.env.scope = sc) (hf : ∀ y, fnc y = true → X.fn y = true) (h : storeC N sc fnc i x = true) :
    X.N[i]? = some x ∧ Loc X.env.scope x ∧ (X.fn x = true ∨ X.env.scope.names.lookup x = some .local) := by
  unfold storeC at h
  simp only [Bool.and_eq_true, Bool.or_eq_true, decide_eq_true_eq] at h
  refine ⟨by rw [eN]; exact h.1, ?_, ?_⟩
  · rw [e]
    rcases h.2 with z | z
    · exact .inl z
    · exact .inr z.1
  · rw [e]
    rcases h.2 with z | z
    · exact .inr z
    · exact .inl (hf x z.2)
theorem tgs_len {fnc : Str → Bool} : ∀ {ts : Tgs} {es : List Expr}, tgsC N sc fnc ts es = true → es.length = ts.len
  | .nil, es, h => by unfold tgsC at h; cases es <;> first | rfl | cases h
  | .cons t ts, es, h => by
    unfold tgsC at h
    split at h
    · rw [Bool.and_eq_true] at h
      exact congrArg Nat.succ (tgs_len h.2)
    · cases h
mutual
theorem pg_tg {fnc : Str → Bool} (nd : N.Nodup) (eN : X.N = N) (hc : X.calm = true) (e : X.env.scope = sc) (hf : ∀ y, fnc y = true → X.fn y = true) : ∀ {t : Tg} {tg : Expr}, tgC N sc fnc t tg = true → PG X tg (gT X.K t)
  | .nm i, tg, h => by
    unfold tgC at h
    split at h
    · obtain ⟨h1, h2, h3⟩ := store_ok' eN e hf h
      exact pg_name (by rw [eN]; exact nd) h1 h2 h3
    · cases h
  | .tp ts, tg, h => by
    unfold tgC at h
    split at h
    · rw [Bool.and_eq_true] at h
      exact pg_tup hc (pgs_tg nd eN hc e hf h.1 h.2) (by rw [asg_len]; exact tgs_len h.2) (asg_ns h.1)
    · cases h
theorem pgs_tg {fnc : Str → Bool} (nd : N.Nodup) (eN : X.N = N) (hc : X.calm = true) (e : X.env.scope = sc) (hf : ∀ y, fnc y = true → X.fn y = true) : ∀ {ts : Tgs} {es : List Expr}, es.all nsE = true → tgsC N sc fnc ts es = true → PGs X es (gTs X.K ts)
  | .nil, es, hn, h => by
    unfold tgsC at h
    cases es with
    | nil => exact pgs_nil
    | cons _ _ => cases h
  | .cons t ts, es, hn, h => by
    unfold tgsC at h
    split at h
    · rw [Bool.and_eq_true] at h
      simp only [List.all_cons, Bool.and_eq_true] at hn
      exact pgs_cons (pg_tg nd eN hc e hf h.1) (pgs_tg nd eN hc e hf hn.2 h.2) (asg_cons hn.1)
    · cases h
end
/-! ### single rules that lacked -/
theorem pe_bool1 {op : BoolOp} {l : Expr} {pos : Pos} {t : TE} (h : PE X l t) : PE X (.BoolOp op [l] pos) t := ⟨fun pins s σ H Q I q => by
  have := h.run pins s σ H Q I q
  exact this⟩
theorem dt_none {e : Expr} {F : Slots → Sto → Res Bool} (h : ∀ ρ S, F ρ S = .st) : PT X e (dT (nm X fd) E F) := ⟨fun pins s σ H Q I ⟨ρ, S, α, r, ok, q⟩ => by rw [h] at q; exact q.elim⟩
theorem dv_none {e : Expr} {F : Slots → Sto → Res D} (h : ∀ ρ S, F ρ S = .st) : PE X e (dE (nm X fd) E F) := ⟨fun pins s σ H Q I ⟨ρ, S, α, r, ok, q⟩ => by rw [h] at q; exact q.elim⟩
theorem dt_ite {c a b : Expr} {pos : Pos} {Tc Ta Tb : Slots → Sto → Res Bool} (hc : PT X c (dT (nm X fd) E Tc)) (ha : PT X a (dT (nm X fd) E Ta)) (hb : PT X b (dT (nm X fd) E Tb)) : PT X (.IfExp c a b pos) (dT (nm X fd) E (gIf Tc Ta Tb)) := by
  refine ⟨fun pins s σ H Q I ⟨ρ, S, α, r, ok, h⟩ => ?_⟩
  have rd : dT (nm X fd) E Tc σ H fun k H1 => (k = true → dT (nm X fd) E Ta σ H1 Q) ∧ (k = false → dT (nm X fd) E Tb σ H1 Q) := by
    refine ⟨ρ, S, α, r, ok, ?_⟩
    simp only [gIf] at h
    cases q : Tc ρ S with
    | ex c e' S' => rw [q] at h; exact h
    | st => rw [q] at h; exact h
    | ok k S1 =>
      rw [q] at h
      intro H1 α1 st ok1
      have h := dResT.shift ok st h
      cases k with
      | true => exact ⟨fun _ => ⟨ρ, S1, α1, r.step ok st, ok1, h⟩, fun z => nomatch z⟩
      | false => exact ⟨(fun z => nomatch z), fun _ => ⟨ρ, S1, α1, r.step ok st, ok1, h⟩⟩
  show wpAny _ _ (do if ← isTrue c X.env (eval c X.env) then isTrue a X.env (eval a X.env) else isTrue b X.env (eval b X.env)) _ _ s
  refine wpAny_bind (thn (hc.run pins s σ H _ I rd) fun k s1 ⟨H1, I1, q1, q2⟩ => ?_)
  cases k with
  | true => exact ha.run pins s1 σ H1 Q I1 (q1 rfl)
  | false => exact hb.run pins s1 σ H1 Q I1 (q2 rfl)
def plainTC : Expr → Bool
  | .UnaryOp .Not _ _ => false
  | .BoolOp _ _ _ => false
  | .IfExp _ _ _ _ => false
  | .Compare _ _ _ _ => false
  | _ => true
theorem plain_t {e : Expr} (h : plainTC e = true) : PlainT X e := by
  intro whole
  cases e <;> first | rfl | cases h | skip
  rename_i op _ _
  cases op <;> first | rfl | cases h
theorem both {e : Expr} {F : Slots → Sto → Res D} (h : PE X e (dE (nm X fd) E F)) (hp : plainTC e = true) : PE X e (dE (nm X fd) E (Rd.of F).v) ∧ PT X e (dT (nm X fd) E (Rd.of F).t) := ⟨h, dt_val h (plain_t hp)⟩
end
end Dl

set_option linter.all false
set_option maxRecDepth 100000
set_option maxHeartbeats 16000000
/-! Dl21: a tree that is a text's computes what the text computes: the expressions' theorem. -/
namespace Dl
open PySem PySem.Spec PyProof.Rows L2
section
variable {T : Tab} {N : List Str}
theorem cks_len {sc : Scope} : ∀ {r : Exs} {es : List Expr}, cks T N sc r es = true → es.length = r.len
  | .nil, es, h => by unfold cks at h; cases es <;> first | rfl | cases h
  | .cons a r, es, h => by
    unfold cks at h
    split at h
    · rw [Bool.and_eq_true] at h
      exact congrArg Nat.succ (cks_len h.2)
    · cases h
theorem ckk_len {sc : Scope} : ∀ {r : Exs} {es : List Keyword}, ckk T N sc r es = true → es.length = r.len
  | .nil, es, h => by unfold ckk at h; cases es <;> first | rfl | cases h
  | .cons a r, es, h => by
    unfold ckk at h
    split at h
    · rw [Bool.and_eq_true] at h
      exact congrArg Nat.succ (ckk_len h.2)
    · cases h
theorem kwN_len : ∀ {q : List Keyword} {kn : List Str}, kwN q = some kn → q.length = kn.length
  | [], kn, h => by cases h; rfl
  | ⟨some x, _, _⟩ :: q, kn, h => by
    simp only [kwN, Option.map_eq_some_iff] at h
    obtain ⟨l, e, rfl⟩ := h
    exact congrArg Nat.succ (kwN_len e)
  | ⟨none, _, _⟩ :: q, kn, h => by cases h
theorem ckp_some {sc : Scope} : ∀ {r : Exp} {ks : List (Option Expr)} {vs : List Expr}, ckp T N sc r ks vs = true → ks.all (·.isSome) = true
  | .nil, ks, vs, h => by
    unfold ckp at h
    rw [Bool.and_eq_true] at h
    cases ks with
    | nil => rfl
    | cons _ _ => cases h.1
  | .cons a b r, ks, vs, h => by
    unfold ckp at h
    split at h
    · simp only [Bool.and_eq_true] at h
      show (true && _) = true
      exact ckp_some h.2
    · cases h
end
abbrev Says (fd : Str → Str) (E : XK) (X : Cx) (e : Expr) (r : Rd) : Prop := PE X e (dE (nm X fd) E r.v) ∧ PT X e (dT (nm X fd) E r.t)
section
variable {T : Tab} {N : List Str} {fd : Str → Str} {CX : CXT} {k : Nat} {G : Fns}
mutual
theorem ok_e : ∀ (a : Ex) {X : Cx} {E : XK} {sc : Scope} {e : Expr}, Cxt T N fd CX k G X E → X.env.scope = sc → ck T N sc a e = true → Says fd E X e (ev G a)
  | .none, X, E, sc, e, C, es, h => ⟨dv_none fun _ _ => rfl, dt_none fun _ _ => rfl⟩
  | .var i, X, E, sc, e, C, es, h => by
    unfold ck at h
    split at h
    · rw [Bool.and_eq_true, decide_eq_true_eq] at h
      obtain ⟨h1, h2, h3⟩ := vis_ok es h.2
      exact both (dv_var (by rw [C.eN]; exact h.1) h1 h2 h3) rfl
    · cases h
  | .c d, X, E, sc, e, C, es, h => by
    unfold ck at h
    split at h
    · unfold constC at h
      split at h
      · rw [← of_decide_eq_true h]; exact both (dv_c pe_int fun H => .int _) rfl
      · rw [← of_decide_eq_true h]; exact both (dv_c pe_bl fun H => .bl _) rfl
      · rw [← of_decide_eq_true h]; exact both (dv_c pe_str fun H => .str _) rfl
      · exact both (dv_c pe_non fun H => .non) rfl
      · cases h
    · cases h
  | .glob d, X, E, sc, e, C, es, h => by
    unfold ck at h
    split at h
    · rename_i x _
      rw [Bool.and_eq_true] at h
      obtain ⟨h1, h2⟩ := glb_ok es h.1
      have h3 := h.2
      split at h3
      · rename_i d' q
        rw [pdEq_ok h3]
        exact both (dv_glob h1 (C.cst _ _ q) h2) rfl
      · cases h3
    · cases h
  | .bin op m a b, X, E, sc, e, C, es, h => by
    unfold ck at h
    split at h
    · simp only [Bool.and_eq_true, decide_eq_true_eq] at h
      obtain ⟨⟨rfl, h1⟩, h2⟩ := h
      exact both (dv_bin C.good.sys (ok_e a C es h1).1 (ok_e b C es h2).1) rfl
    · cases h
  | .neg a, X, E, sc, e, C, es, h => by
    unfold ck at h
    split at h
    · exact both (dv_neg (ok_e a C es h).1) rfl
    · cases h
  | .cmp op a b, X, E, sc, e, C, es, h => by
    unfold ck at h
    split at h
    · simp only [Bool.and_eq_true, decide_eq_true_eq] at h
      obtain ⟨⟨⟨rfl, h0⟩, h1⟩, h2⟩ := h
      have ha := (ok_e a C es h1).1
      have hb := (ok_e b C es h2).1
      exact ⟨dv_cmp C.hu ha hb (nm_mark h0), dt_cmp C.hu ha hb (nm_mark h0)⟩
    · cases h
  | .chain op op' a b c, X, E, sc, e, C, es, h => by
    unfold ck at h
    split at h
    · simp only [Bool.and_eq_true, decide_eq_true_eq] at h
      obtain ⟨⟨⟨⟨⟨rfl, rfl⟩, h0⟩, h1⟩, h2⟩, h3⟩ := h
      have ha := (ok_e a C es h1).1
      have hb := (ok_e b C es h2).1
      have hc := (ok_e c C es h3).1
      exact ⟨dv_chain C.hu ha hb hc (nm_mark h0), dt_chain C.hu ha hb hc (nm_mark h0)⟩
    · cases h
  | .not a, X, E, sc, e, C, es, h => by
    unfold ck at h
    split at h
    · obtain ⟨h1, h2⟩ := ok_e a C es h
      exact ⟨dv_not h1, dt_not h2⟩
    · cases h
  | .and a r, X, E, sc, e, C, es, h => by
    unfold ck at h
    split at h
    · rw [Bool.and_eq_true] at h
      obtain ⟨h1, h2⟩ := ok_and r (ok_e a C es h.1) C es h.2
      exact ⟨h1, h2.pt⟩
    · cases h
  | .or a r, X, E, sc, e, C, es, h => by
    unfold ck at h
    split at h
    · rw [Bool.and_eq_true] at h
      obtain ⟨h1, h2⟩ := ok_or r (ok_e a C es h.1) C es h.2
      exact ⟨h1, h2.pt⟩
    · cases h
  | .ite c a b, X, E, sc, e, C, es, h => by
    unfold ck at h
    split at h
    · simp only [Bool.and_eq_true] at h
      obtain ⟨⟨h0, h1⟩, h2⟩ := h
      have hc := ok_e c C es h0
      have ha := ok_e a C es h1
      have hb := ok_e b C es h2
      exact ⟨dv_if hc.2 ha.1 hb.1, dt_ite hc.2 ha.2 hb.2⟩
    · cases h
  | .tup es', X, E, sc, e, C, es, h => by
    unfold ck at h
    split at h
    · rw [Bool.and_eq_true] at h
      exact both (dv_tup (ok_s es' C es h.1 h.2)) rfl
    · cases h
  | .lst m es', X, E, sc, e, C, es, h => by
    unfold ck at h
    split at h
    · rw [Bool.and_eq_true] at h
      exact both (dv_lst C.good.sys (ok_s es' C es h.1 h.2)) rfl
    · cases h
  | .idx a b, X, E, sc, e, C, es, h => by
    unfold ck at h
    split at h
    · simp only [Bool.and_eq_true] at h
      exact both (dv_idx C.hu1 (ok_e a C es h.1.2).1 (ok_e b C es h.2).1 (ix_plain h.1.1)) rfl
    · cases h
  | .sli m a lo hi, X, E, sc, e, C, es, h => by
    unfold ck at h
    split at h
    · simp only [Bool.and_eq_true] at h
      exact both (dv_sli C.good.sys (ok_e a C es h.1.1).1 (ok_o lo C es h.1.2) (ok_o hi C es h.2)) rfl
    · cases h
  | .rev m a, X, E, sc, e, C, es, h => by
    unfold ck at h
    split at h
    · exact both (dv_rev C.good.sys (ok_e a C es h).1) rfl
    · cases h
  | .fld f a, X, E, sc, e, C, es, h => by
    unfold ck at h
    split at h
    · simp only [Bool.and_eq_true, decide_eq_true_eq] at h
      obtain ⟨⟨rfl, h1⟩, h2⟩ := h
      exact both (dv_fld (ok_e a C es h2).1 h1) rfl
    · cases h
  | .bn m f es', X, E, sc, e, C, es, h => by
    unfold ck at h
    split at h
    · simp only [Bool.and_eq_true, decide_eq_true_eq] at h
      obtain ⟨⟨⟨⟨h1, h2⟩, h3⟩, h4⟩, h5⟩ := h
      obtain ⟨g1, g2⟩ := blt_ok C es h2
      rename_i x _ l _
      cases l with
      | nil => cases h4
      | cons x l => exact both (dv_bn C.good f h1 g1 g2 (ok_s es' C es h3 h5) h3) rfl
    · cases h
  | .isi Ti a, X, E, sc, e, C, es, h => by
    unfold ck at h
    split at h
    · simp only [Bool.and_eq_true, decide_eq_true_eq] at h
      obtain ⟨⟨⟨⟨⟨⟨h0, h1⟩, h2⟩, h3⟩, h4⟩, h5⟩, h6⟩ := h
      obtain ⟨g1, g2⟩ := blt_ok C es h2
      obtain ⟨g3, g4⟩ := blt_ok C es h4
      exact both (dv_isi h0 h1 h3 g1 g2 g3 g4 (ok_e a C es h6).1 h5) rfl
    · cases h
  | .mt m f o es', X, E, sc, e, C, es, h => by
    unfold ck at h
    split at h
    · simp only [Bool.and_eq_true, decide_eq_true_eq] at h
      obtain ⟨⟨⟨⟨⟨⟨h0, h1⟩, h2⟩, h3⟩, h4⟩, h5⟩, h6⟩ := h
      have ho := (ok_e o C es h5).1
      rename_i l x ap q cp
      cases q with
      | nil =>
        cases es' with
        | nil => exact both (dv_mt0 C.good f h0 ho h1 h2) rfl
        | cons _ _ => unfold cks at h6; cases h6
      | cons y q => exact both (dv_mt C.good f h0 ho (ok_s es' C es h3 h6) h1 h3 h4 h2) rfl
    · cases h
  | .call f arr es' ks, X, E, sc, e, C, es, h => by
    unfold ck at h
    split at h
    · simp only [Bool.and_eq_true, decide_eq_true_eq] at h
      obtain ⟨⟨⟨⟨⟨h0, h1⟩, h2⟩, h3⟩, h4⟩, h5⟩ := h
      subst h0
      split at h5
      · rename_i kn hk
        rw [List.any_eq_true] at h5
        obtain ⟨q, hq, h5⟩ := h5
        simp only [Bool.and_eq_true, decide_eq_true_eq] at h5
        obtain ⟨⟨⟨e1, e2⟩, e3⟩, e4⟩ := h5
        have e4 := arrEq_ok e4
        obtain ⟨g1, g2⟩ := glb_ok es h1
        obtain ⟨fa, fdt, ps, F, m1, m2, m3⟩ := (C.fns q hq).ex
        rw [e1] at F m1
        rw [e2, e3, e4] at m3
        have l1 := cks_len h3
        have l2 := ckk_len h4
        have l3 := kwN_len hk
        have hG : ev G (.call q.1 arr es' ks) = Rd.of (fCall (G q.1) es'.len ks.len arr (evs G es') (evs G ks)) := by unfold ev; rfl
        rw [← e1, hG, ← l1, ← l2, l3, e1]
        refine both (dv_call F C.room C.good.gd g1 m1 m2 m3 C.pas g2 (ok_s es' C es h2 h3) (ok_k ks C es h4) h2 hk fun z => ?_) rfl
        subst z
        cases es' with
        | nil => rfl
        | cons _ _ => unfold cks at h3; cases h3
      · cases h5
    · cases h
  | .lc m src t own tst elt, X, E, sc, e, C, es, h => by
    unfold ck at h
    split at h
    · simp only [Bool.and_eq_true, decide_eq_true_eq] at h
      obtain ⟨⟨⟨⟨⟨⟨⟨h0, h1⟩, h2⟩, h3⟩, h4⟩, h5⟩, h6⟩, h7⟩ := h
      subst h0
      subst es
      rename_i x tg it ifs sc2 p
      refine both (dv_lc (m := m) C.good.sys C.good.calm (by rw [C.eN]; exact C.nd) (ok_r src tg C rfl h4) (by rw [C.eN]; exact blkOk_by h1) h2 ?_ ?_ ?_ (no_fold h7)) rfl
      · exact fun s H c cl fp => pg_tg (X := X.blk s H sc2 (compEnvC sc2 cl c X.env) fp) C.nd C.eN C.good.calm rfl (fun y z => z) h3
      · exact fun s H c cl fp => ok_t tst (C.blk s H sc2 _ fp) rfl h5
      · exact fun s H c cl fp => (ok_e elt (C.blk s H sc2 _ fp) rfl h6).1
    · cases h
  | .dct kvs, X, E, sc, e, C, es, h => by
    unfold ck at h
    split at h
    · simp only [Bool.and_eq_true, decide_eq_true_eq] at h
      obtain ⟨⟨h0, h1⟩, h2⟩ := h
      rename_i ks vs p
      cases kvs with
      | nil =>
        unfold ckp at h2
        rw [Bool.and_eq_true] at h2
        cases ks with
        | cons _ _ => cases h2.1
        | nil =>
          cases vs with
          | cons _ _ => cases h2.2
          | nil => exact both dv_dct0 rfl
      | cons a b r =>
        have hp := ok_p (.cons a b r) C es h2 p
        refine both (dv_dct (fs := ((ev G a).v, (ev G b).v) :: evp G r) hp (ckp_some h2) h0 (fun z => ?_) h1) rfl
        subst z
        unfold ckp at h2
        cases h2
    · cases h
theorem ok_and : ∀ (r : Exs) {a : Rd} {X : Cx} {E : XK} {sc : Scope} {e : Expr} {es : List Expr} {pos : Pos}, Says fd E X e a → Cxt T N fd CX k G X E → X.env.scope = sc → cks T N sc r es = true →
    PE X (.BoolOp .And (e :: es) pos) (dE (nm X fd) E (evAnd G a r).v) ∧ PW X (.BoolOp .And (e :: es) pos) (dT (nm X fd) E (evAnd G a r).t)
  | .nil, a, X, E, sc, e, es, pos, ha, C, se, h => by
    unfold cks at h
    cases es with
    | nil => exact ⟨pe_bool1 ha.1, pw_and1 ha.2⟩
    | cons _ _ => cases h
  | .cons b r, a, X, E, sc, e, es, pos, ha, C, se, h => by
    unfold cks at h
    split at h
    · rw [Bool.and_eq_true] at h
      obtain ⟨h1, h2⟩ := ok_and r (pos := pos) (ok_e b C se h.1) C se h.2
      exact ⟨dv_and ha.1 h1, dt_and ha.2 h2⟩
    · cases h
theorem ok_or : ∀ (r : Exs) {a : Rd} {X : Cx} {E : XK} {sc : Scope} {e : Expr} {es : List Expr} {pos : Pos}, Says fd E X e a → Cxt T N fd CX k G X E → X.env.scope = sc → cks T N sc r es = true →
    PE X (.BoolOp .Or (e :: es) pos) (dE (nm X fd) E (evOr G a r).v) ∧ PW X (.BoolOp .Or (e :: es) pos) (dT (nm X fd) E (evOr G a r).t)
  | .nil, a, X, E, sc, e, es, pos, ha, C, se, h => by
    unfold cks at h
    cases es with
    | nil => exact ⟨pe_bool1 ha.1, pw_or1 ha.2⟩
    | cons _ _ => cases h
  | .cons b r, a, X, E, sc, e, es, pos, ha, C, se, h => by
    unfold cks at h
    split at h
    · rw [Bool.and_eq_true] at h
      obtain ⟨h1, h2⟩ := ok_or r (pos := pos) (ok_e b C se h.1) C se h.2
      exact ⟨dv_or ha.1 h1, dt_or ha.2 h2⟩
    · cases h
theorem ok_s : ∀ (r : Exs) {X : Cx} {E : XK} {sc : Scope} {es : List Expr}, Cxt T N fd CX k G X E → X.env.scope = sc → es.all nsE = true → cks T N sc r es = true → PA X es (dA (nm X fd) E (evs G r))
  | .nil, X, E, sc, es, C, se, hn, h => by
    unfold cks at h
    cases es with
    | nil => exact da_nil
    | cons _ _ => cases h
  | .cons a r, X, E, sc, es, C, se, hn, h => by
    unfold cks at h
    split at h
    · rw [Bool.and_eq_true] at h
      simp only [List.all_cons, Bool.and_eq_true] at hn
      exact da_cons (ok_e a C se h.1).1 (ok_s r C se hn.2 h.2) hn.1
    · cases h
theorem ok_o : ∀ (r : Exo) {X : Cx} {E : XK} {sc : Scope} {o : Option Expr}, Cxt T N fd CX k G X E → X.env.scope = sc → cko T N sc r o = true → PO X o (dO (nm X fd) E (part (evo G r)))
  | .no, X, E, sc, o, C, se, h => by
    unfold cko at h
    cases o with
    | none => exact do_none
    | some _ => cases h
  | .so a, X, E, sc, o, C, se, h => by
    unfold cko at h
    split at h
    · exact do_some (ok_e a C se h).1
    · cases h
theorem ok_t : ∀ (r : Exo) {X : Cx} {E : XK} {sc : Scope} {o : List Expr}, Cxt T N fd CX k G X E → X.env.scope = sc → ckt T N sc r o = true → PTs X o (dT (nm X fd) E (evt G r))
  | .no, X, E, sc, o, C, se, h => by
    unfold ckt at h
    cases o with
    | nil => exact dts_nil
    | cons _ _ => cases h
  | .so a, X, E, sc, o, C, se, h => by
    unfold ckt at h
    split at h
    · exact dts_one (ok_e a C se h).2
    · cases h
theorem ok_k : ∀ (r : Exs) {X : Cx} {E : XK} {sc : Scope} {es : List Keyword}, Cxt T N fd CX k G X E → X.env.scope = sc → ckk T N sc r es = true → PK X es (dA (nm X fd) E (evs G r))
  | .nil, X, E, sc, es, C, se, h => by
    unfold ckk at h
    cases es with
    | nil => exact dk_nil
    | cons _ _ => cases h
  | .cons a r, X, E, sc, es, C, se, h => by
    unfold ckk at h
    split at h
    · rw [Bool.and_eq_true] at h
      exact dk_cons (ok_e a C se h.1).1 (ok_k r C se h.2)
    · cases h
theorem ok_p : ∀ (r : Exp) {X : Cx} {E : XK} {sc : Scope} {ks : List (Option Expr)} {vs : List Expr}, Cxt T N fd CX k G X E → X.env.scope = sc → ckp T N sc r ks vs = true → ∀ pos, PPs X pos ks vs ((evp G r).map fun f => (dE (nm X fd) E f.1, dE (nm X fd) E f.2))
  | .nil, X, E, sc, ks, vs, C, se, h, pos => by
    unfold ckp at h
    rw [Bool.and_eq_true] at h
    cases ks with
    | cons _ _ => cases h.1
    | nil =>
      cases vs with
      | cons _ _ => cases h.2
      | nil => exact pps_nil
  | .cons a b r, X, E, sc, ks, vs, C, se, h, pos => by
    unfold ckp at h
    split at h
    · simp only [Bool.and_eq_true] at h
      exact pps_cons (ok_e a C se h.1.1).1 (ok_e b C se h.1.2).1 (ok_p r C se h.2 pos)
    · cases h
theorem ok_r : ∀ (r : Sr) (tg : Expr) {X : Cx} {E : XK} {sc : Scope} {e : Expr}, Cxt T N fd CX k G X E → X.env.scope = sc → ckr T N sc r tg e = true → PI X tg e (dI (nm X fd) E (evr G r))
  | .seq a, tg, X, E, sc, e, C, se, h => by
    unfold ckr at h
    exact di_seq (ok_e a C se h).1
  | .r1 a, tg, X, E, sc, e, C, se, h => by
    unfold ckr at h
    split at h
    · simp only [Bool.and_eq_true, decide_eq_true_eq] at h
      obtain ⟨⟨⟨rfl, h1⟩, h2⟩, h3⟩ := h
      obtain ⟨g1, g2⟩ := blt_ok C se h1
      exact di_rng1 g1 g2 (ok_e a C se h3).1 h2
    · cases h
  | .r2 a b, tg, X, E, sc, e, C, se, h => by
    unfold ckr at h
    split at h
    · simp only [Bool.and_eq_true, decide_eq_true_eq] at h
      obtain ⟨⟨⟨⟨⟨rfl, h1⟩, h2⟩, h3⟩, h4⟩, h5⟩ := h
      obtain ⟨g1, g2⟩ := blt_ok C se h1
      exact di_rng2 g1 g2 (da_cons (ok_e a C se h4).1 (da_cons (ok_e b C se h5).1 da_nil h3) h2) h2 h3
    · cases h
  | .r3 a b c, tg, X, E, sc, e, C, se, h => by
    unfold ckr at h
    split at h
    · simp only [Bool.and_eq_true, decide_eq_true_eq] at h
      obtain ⟨⟨⟨⟨⟨⟨⟨rfl, h1⟩, h2⟩, h3⟩, h4⟩, h5⟩, h6⟩, h7⟩ := h
      obtain ⟨g1, g2⟩ := blt_ok C se h1
      exact di_rng3 g1 g2 (da_cons (ok_e a C se h5).1 (da_cons (ok_e b C se h6).1 (da_cons (ok_e c C se h7).1 da_nil h4) h3) h2) h2 (by simp [h3, h4])
    · cases h
  | .zip a b, tg, X, E, sc, e, C, se, h => by
    unfold ckr at h
    split at h
    · simp only [Bool.and_eq_true, decide_eq_true_eq] at h
      obtain ⟨⟨⟨⟨⟨⟨rfl, h0⟩, h1⟩, h2⟩, h3⟩, h4⟩, h5⟩ := h
      obtain ⟨g1, g2⟩ := blt_ok C se h1
      cases tg <;> first | cases h0 | skip
      exact di_zip g1 g2 (da_cons (ok_e a C se h4).1 (da_cons (ok_e b C se h5).1 da_nil h3) h2) h2 h3
    · cases h
  | .enum a, tg, X, E, sc, e, C, se, h => by
    unfold ckr at h
    split at h
    · simp only [Bool.and_eq_true, decide_eq_true_eq] at h
      obtain ⟨⟨⟨⟨rfl, h0⟩, h1⟩, h2⟩, h3⟩ := h
      obtain ⟨g1, g2⟩ := blt_ok C se h1
      cases tg <;> first | cases h0 | skip
      exact di_enum g1 g2 (ok_e a C se h3).1 h2
    · cases h
end
end
end Dl

set_option linter.all false
set_option maxRecDepth 100000
set_option maxHeartbeats 16000000
/-! Dl22: statements as trees, and their theorem. -/
namespace Dl
open PySem PySem.Spec PyProof.Rows L2
mutual
inductive Tx where
  | nm (i : Nat)
  | tup (ts : Txs)
  | sub (o i : Ex)
  | fld (f : Str) (o : Ex)
inductive Txs where
  | nil
  | cons (t : Tx) (r : Txs)
end
def Txs.len : Txs → Nat
  | .nil => 0
  | .cons _ r => r.len + 1
mutual
inductive Sm where
  | none
  | ret (e : Ex)
  | retN
  | exp (e : Ex)
  | pass
  | brk
  | cont
  | asg (t : Tx) (e : Ex)
  | par (i j : Nat) (es : Exs)
  | par3 (i j l : Nat) (es : Exs)
  | aug (i : Nat) (op : Operator) (e : Ex)
  | ite (c : Ex) (a b : Sms)
  | whl (n : Nat) (c : Ex) (b : Sms)
  | for_ (t : Tx) (src : Sr) (b : Sms)
inductive Sms where
  | nil
  | cons (s : Sm) (r : Sms)
end
section
variable (G : Fns) (fl : List (Str × Str))
mutual
noncomputable def evx : Tx → FT
  | .nm i => tgNm i
  | .tup ts => tgTup fun ds ρ S => if ds.length = ts.len then evxs ts ds ρ S else .st
  | .sub o i => tgSub (ev G o).v (ev G i).v
  | .fld f o => tgFld fl f (ev G o).v
noncomputable def evxs : Txs → List D → Slots → Sto → Res Slots
  | .nil => tgNil
  | .cons t r => tgCons (evx t) (evxs r)
end
mutual
noncomputable def evS : Sm → Slots → Sto → Out
  | .none => fun _ _ => .st
  | .ret e => sRet (ev G e).v
  | .retN => fun _ S => .rt .n S
  | .exp e => sExp (ev G e).v
  | .pass => sNil
  | .brk => fun ρ S => .bk ρ S
  | .cont => fun ρ S => .ct ρ S
  | .asg t e => sAsg (ev G e).v (evx G fl t)
  | .par i j es => sPar i j (evs G es)
  | .par3 i j l es => sPar3 i j l (evs G es)
  | .aug i op e => sAug i op (ev G e).v
  | .ite c a b => sIf (ev G c).t (evSs a) (evSs b)
  | .whl n c b => whileF (ev G c).t (evSs b) n
  | .for_ t src b => sFor (evr G src) (evx G fl t) (evSs b)
noncomputable def evSs : Sms → Slots → Sto → Out
  | .nil => sNil
  | .cons s r => sSeq (evS s) (evSs r)
end
end
/-! ### texts and trees -/
def isLC : Expr → Bool
  | .ListComp _ _ _ _ => true
  | .SetComp _ _ _ _ => true
  | .DictComp _ _ _ _ _ => true
  | _ => false
/-- does a store of a comprehension change the block's names in place -/
def swC (sc : Scope) (e tg : Expr) (line : Nat) : Option Bool := match e with
  | .ListComp _ _ s p => match tg with
    | .Name t pos => some (sc.names.lookup t == some .local && pos.line == p.line && !(s.names.any fun q => q.1 == t && (q.2 == .local || q.2 == .cell)))
    | _ => some false
  | .SetComp _ _ _ _ => none
  | .DictComp _ _ _ _ _ => none
  | _ => some false
def starred : Expr → Bool
  | .Starred _ _ => true
  | _ => false
def onLine (sc : Scope) (line : Nat) : Expr → Option Str
  | .Name x p => if sc.names.lookup x == some .local && p.line == line then some x else none
  | _ => none
def parC (sc : Scope) (tg e : Expr) : Option (Option (List Str)) := match tg with
  | .Tuple ts _ _ => match e with
    | .Tuple vs _ _ =>
      if !(ts.length == 2 || ts.length == 3) || vs.length != ts.length then some none
      else if vs.any starred then some none
      else if (ts.filterMap (onLine sc ((ts.head?.map (·.pos.line)).getD 0))).length != ts.length || (ts.filterMap (onLine sc ((ts.head?.map (·.pos.line)).getD 0))).eraseDups.length != (ts.filterMap (onLine sc ((ts.head?.map (·.pos.line)).getD 0))).length then some none
      else if vs.all (foldedForSure 8) then some none
      else if vs.all (constantsAlone 8) then none
      else some (some (ts.filterMap (onLine sc ((ts.head?.map (·.pos.line)).getD 0))))
    | _ => some none
  | .List _ _ => none
  | _ => some none
section
variable {env : Env} {sc : Scope}
theorem kind_fn (hk : sc.kind = .function) (e : env.scope = sc) : env.blockKind = .function := by
  unfold Env.blockKind
  rw [e, hk]
  rfl
theorem sw_ok {e tg : Expr} {line : Nat} {b : Bool} (hk : sc.kind = .function) (es : env.scope = sc) (h : swC sc e tg line = some b) : swapsWith e (some tg) line env = pure b := by
  unfold swC at h
  split at h
  · split at h
    · cases h
      unfold swapsWith
      simp only [kind_fn hk es]
      have : ∀ t, env.kindOf t = sc.names.lookup t := fun t => by rw [← es]; rfl
      simp only [this]
      first
        | rfl
        | (congr 1; simp [Expr.pos])
    · cases h
      unfold swapsWith
      split <;> first | rfl | (rename_i z; exact absurd rfl (by assumption)) | simp_all
  · cases h
  · cases h
  · cases h
    rename_i h1 h2 h3
    unfold swapsWith
    cases e <;> first | rfl | exact absurd rfl (h1 _ _ _ _) | exact absurd rfl (h2 _ _ _ _) | exact absurd rfl (h3 _ _ _ _ _)
theorem sw_none {e : Expr} {line : Nat} (h : isLC e = false) (t : Option Expr) : swapsWith e t line env = pure false := by
  cases e <;> first | rfl | cases h
theorem par_ok {tg e : Expr} {r : Option (List Str)} (hk : sc.kind = .function) (es : env.scope = sc) (h : parC sc tg e = some r) : swappedStores [tg] e env = pure r := by
  unfold parC at h
  have kd : ∀ t, env.kindOf t = sc.names.lookup t := fun t => by rw [← es]; rfl
  have kb := kind_fn hk es
  split at h
  · split at h
    · rename_i ts _ _ _ vs _ _
      subst es
      rename_i k1 p1 _ k2 p2
      have main : ∀ L : List Str, ts.filterMap (onLine env.scope ((ts.head?.map (·.pos.line)).getD 0)) = L → swappedStores [.Tuple ts k1 p1] (.Tuple vs k2 p2) env = (
          if (!(ts.length == 2 || ts.length == 3) || vs.length != ts.length || env.blockKind != .function) = true then pure none
          else if vs.any starred = true then pure none
          else if (L.length != ts.length || L.eraseDups.length != L.length) = true then pure none
          else if vs.all (foldedForSure 8) = true then pure none
          else if vs.all (constantsAlone 8) = true then (do unsupported "assign.tuple-of-constant-expressions:order-of-the-stores"; pure (some L))
          else pure (some L)) := fun L e => by subst e; rfl
      rw [main _ rfl, kb]
      have kf : (ScopeKind.function != ScopeKind.function) = false := by decide
      simp only [kf, Bool.or_false]
      split at h
      · rename_i z; cases h; rw [if_pos z]
      · rename_i z
        rw [if_neg z]
        split at h
        · rename_i z2; cases h; rw [if_pos z2]
        · rename_i z2
          rw [if_neg z2]
          split at h
          · rename_i z3; cases h; rw [if_pos z3]
          · rename_i z3
            rw [if_neg z3]
            split at h
            · rename_i z4; cases h; rw [if_pos z4]
            · rename_i z4
              rw [if_neg z4]
              split at h
              · cases h
              · rename_i z5
                cases h
                rw [if_neg z5]
    · cases h
      rename_i h1
      unfold swappedStores
      cases e <;> first | rfl | exact absurd rfl (h1 _ _ _)
  · cases h
  · cases h
    rename_i h1 h2
    unfold swappedStores
    cases tg <;> first | rfl | exact absurd rfl (h1 _ _ _) | exact absurd rfl (h2 _ _)
end
end Dl

set_option linter.all false
set_option maxRecDepth 100000
set_option maxHeartbeats 16000000
/-! Dl23: the statements' theorem. -/
namespace Dl
open PySem PySem.Spec PyProof.Rows L2
section
variable (T : Tab) (N : List Str) (sc : Scope)
mutual
def cx : Tx → Expr → Bool
  | .nm i, e => match e with
    | .Name x _ => storeC N sc (fun _ => true) i x
    | _ => false
  | .tup ts, e => match e with
    | .Tuple es _ _ => es.all nsE && cxs ts es
    | _ => false
  | .sub o i, e => match e with
    | .Subscript l r _ => plainIxC r && ck T N sc o l && ck T N sc i r
    | _ => false
  | .fld f o, e => match e with
    | .Attribute l g _ => decide (g = f) && ck T N sc o l
    | _ => false
def cxs : Txs → List Expr → Bool
  | .nil, es => es.isEmpty
  | .cons t r, es => match es with
    | e :: es => cx t e && cxs r es
    | [] => false
end
mutual
def cS : Sm → Stmt → Bool
  | .none, _ => true
  | .ret e, s => match s with
    | .Return (some v) _ => ck T N sc e v
    | _ => false
  | .retN, s => match s with
    | .Return .none _ => true
    | _ => false
  | .exp e, s => match s with
    | .Expr v _ => !isLC v && ck T N sc e v
    | _ => false
  | .pass, s => match s with
    | .Pass _ => true
    | _ => false
  | .brk, s => match s with
    | .Break _ => true
    | _ => false
  | .cont, s => match s with
    | .Continue _ => true
    | _ => false
  | .asg t e, s => match s with
    | .Assign [tg] v p => nsE tg && cx T N sc t tg && ck T N sc e v && (match swC sc v tg p.line with
      | some false => (match parC sc tg v with
        | some .none => true
        | _ => false)
      | some true => (match t, e with
        | .nm _, .lc _ _ _ _ _ _ => true
        | _, _ => false)
      | .none => false)
    | _ => false
  | .par i j es, s => match s with
    | .Assign [.Tuple [.Name x px, .Name y py] kt pt] (.Tuple [a, b] k2 pt2) _ => decide (parC sc (.Tuple [.Name x px, .Name y py] kt pt) (.Tuple [a, b] k2 pt2) = some (some [x, y])) && decide (N[i]? = some x) && decide (N[j]? = some y) && decide (i ≠ j) &&
        decide (sc.names.lookup x = some .local) && decide (sc.names.lookup y = some .local) && [a, b].all nsE && cks T N sc es [a, b]
    | _ => false
  | .par3 i j l es, s => match s with
    | .Assign [.Tuple [.Name x px, .Name y py, .Name z pz] kt pt] (.Tuple [a, b, c] k2 pt2) _ => decide (parC sc (.Tuple [.Name x px, .Name y py, .Name z pz] kt pt) (.Tuple [a, b, c] k2 pt2) = some (some [x, y, z])) &&
        decide (N[i]? = some x) && decide (N[j]? = some y) && decide (N[l]? = some z) && decide (i ≠ j) && decide (i ≠ l) && decide (j ≠ l) &&
        decide (sc.names.lookup x = some .local) && decide (sc.names.lookup y = some .local) && decide (sc.names.lookup z = some .local) && [a, b, c].all nsE && cks T N sc es [a, b, c]
    | _ => false
  | .aug i op e, s => match s with
    | .AugAssign (.Name x _) o v _ => decide (o = op) && (decide (op = .Add) || decide (op = .Sub)) && storeC N sc (fun _ => true) i x && ck T N sc e v
    | _ => false
  | .ite c a b, s => match s with
    | .If t l r _ => ck T N sc c t && cSs a l && cSs b r
    | _ => false
  | .whl n c b, s => match s with
    | .While t l [] _ => ck T N sc c t && cSs b l
    | _ => false
  | .for_ t src b, s => match s with
    | .For tg it l [] _ => cx T N sc t tg && ckr T N sc src tg it && notSet it && cSs b l
    | _ => false
def cSs : Sms → List Stmt → Bool
  | .nil, l => l.isEmpty
  | .cons s r, l => match l with
    | x :: l => cS s x && cSs r l
    | [] => false
end
end
section
variable {T : Tab} {N : List Str} {fd : Str → Str} {CX : CXT} {k : Nat} {G : Fns} {X : Cx} {E : XK} {sc : Scope}
theorem ps_none {s : Stmt} {F : Slots → Sto → Out} (h : ∀ ρ S, F ρ S = .st) : PS X s (dS (nm X fd) E F) := ⟨fun pins st σ H Dn I ⟨ρ, S, α, r, ok, q⟩ => by rw [h] at q; exact q.elim⟩
theorem cxs_len : ∀ {ts : Txs} {es : List Expr}, cxs T N sc ts es = true → es.length = ts.len
  | .nil, es, h => by unfold cxs at h; cases es <;> first | rfl | cases h
  | .cons t ts, es, h => by
    unfold cxs at h
    split at h
    · rw [Bool.and_eq_true] at h
      exact congrArg Nat.succ (cxs_len h.2)
    · cases h
theorem sub_eq {o i : Expr} {pos : Pos} {env : Env} (h : plainIxC i = true) (v : Value) : assign (.Subscript o i pos) env v = (do
      let ov ← holding [v] (eval o env)
      let iv ← holding [v, ov] (eval i env)
      standAt pos
      holding [v, ov, iv] (setItem ov iv v)
      release [v, ov, iv] []) := by
  cases i <;> first | rfl | cases h
mutual
theorem ok_x (C : Cxt T N fd CX k G X E) (es : X.env.scope = sc) (hf : ∀ y, X.fn y = true) (hF : FldOk X T.fl) : ∀ (t : Tx) {tg : Expr}, cx T N sc t tg = true → PG X tg (dG (nm X fd) E (evx G T.fl t))
  | .nm i, tg, h => by
    unfold cx at h
    split at h
    · obtain ⟨h1, h2, h3⟩ := store_ok' C.eN es (fun y _ => hf y) h
      exact dg_nm (by rw [C.eN]; exact C.nd) h1 h2 h3
    · cases h
  | .tup ts, tg, h => by
    unfold cx at h
    split at h
    · rw [Bool.and_eq_true] at h
      have l := cxs_len h.2
      refine dg_tup C.good.calm (n := ts.len) (PGs.imp (ok_xs C es hf hF ts h.1 h.2) fun vs σ H Q ⟨ρ, S, α, ds, r, ok, rv, q⟩ => ?_) (by rw [asg_len]; exact l) (asg_ns h.1) fun ds ρ S z => if_neg z
      simp only at q
      split at q
      · exact ⟨ρ, S, α, ds, r, ok, rv, q⟩
      · exact q.elim
    · cases h
  | .sub o i, tg, h => by
    unfold cx at h
    split at h
    · simp only [Bool.and_eq_true] at h
      exact dg_sub C.hu1 (ok_e o C es h.1.2).1 (ok_e i C es h.2).1 (sub_eq h.1.1)
    · cases h
  | .fld f o, tg, h => by
    unfold cx at h
    split at h
    · simp only [Bool.and_eq_true, decide_eq_true_eq] at h
      obtain ⟨rfl, h2⟩ := h
      exact dg_fld hF (ok_e o C es h2).1
    · cases h
theorem ok_xs (C : Cxt T N fd CX k G X E) (es : X.env.scope = sc) (hf : ∀ y, X.fn y = true) (hF : FldOk X T.fl) : ∀ (ts : Txs) {tgs : List Expr}, tgs.all nsE = true → cxs T N sc ts tgs = true → PGs X tgs (dGs (nm X fd) E (evxs G T.fl ts))
  | .nil, tgs, hn, h => by
    unfold cxs at h
    cases tgs with
    | nil => exact dgs_nil
    | cons _ _ => cases h
  | .cons t ts, tgs, hn, h => by
    unfold cxs at h
    split at h
    · rw [Bool.and_eq_true] at h
      simp only [List.all_cons, Bool.and_eq_true] at hn
      exact dgs_cons (ok_x C es hf hF t h.1) (ok_xs C es hf hF ts hn.2 h.2) (asg_cons hn.1)
    · cases h
end
/-- what the body of a def is, besides -/
structure Bod (T : Tab) (X : Cx) (sc : Scope) : Prop where
  es : X.env.scope = sc
  kd : sc.kind = .function
  hf : ∀ y, X.fn y = true
  hF : FldOk X T.fl
  own : PassesOwn (model X.prog X.w) X.A X.env X.xe
mutual
theorem ok_S (C : Cxt T N fd CX k G X E) (B : Bod T X sc) : ∀ (a : Sm) {s : Stmt}, cS T N sc a s = true → PS X s (dS (nm X fd) E (evS G T.fl a))
  | .none, s, h => ps_none fun _ _ => rfl
  | .ret e, s, h => by
    unfold cS at h
    split at h
    · exact ds_ret (ok_e e C B.es h).1
    · cases h
  | .retN, s, h => by
    unfold cS at h
    split at h
    · exact ds_retN
    · cases h
  | .exp e, s, h => by
    unfold cS at h
    split at h
    · rw [Bool.and_eq_true, Bool.not_eq_true'] at h
      exact ds_expr (ok_e e C B.es h.2).1 (sw_none h.1 _)
    · cases h
  | .pass, s, h => by
    unfold cS at h
    split at h
    · exact ds_pass
    · cases h
  | .brk, s, h => by
    unfold cS at h
    split at h
    · exact ds_break
    · cases h
  | .cont, s, h => by
    unfold cS at h
    split at h
    · exact ds_cont
    · cases h
  | .asg t e, s, h => by
    unfold cS at h
    split at h
    · rename_i tg v p
      simp only [Bool.and_eq_true] at h
      obtain ⟨⟨⟨h0, h1⟩, h2⟩, h3⟩ := h
      split at h3
      · rename_i hw
        split at h3
        · rename_i hp
          exact ds_asg (ok_e e C B.es h2).1 (ok_x C B.es B.hf B.hF t h1) (sw_ok B.kd B.es hw) (par_ok B.kd B.es hp) (asg_cons h0)
        · cases h3
      · rename_i hw
        split at h3
        · rename_i i m src t own tst elt
          -- a comprehension's list, stored in place
          unfold cx at h1
          split at h1
          · rename_i y py
            unfold ck at h2
            split at h2
            · rename_i x tg it ifs kk sc2 p2
              simp only [Bool.and_eq_true, decide_eq_true_eq] at h2
              obtain ⟨⟨⟨⟨⟨⟨⟨g0, g1⟩, g2⟩, g3⟩, g4⟩, g5⟩, g6⟩, g7⟩ := h2
              subst g0
              obtain ⟨s1, s2, s3⟩ := store_ok' (X := X) C.eN B.es (fun y _ => B.hf y) h1
              have hl : X.env.scope.names.lookup y = some .local := by
                unfold swC at hw
                simp only [Option.some.injEq, Bool.and_eq_true, beq_iff_eq] at hw
                rw [B.es]
                exact hw.1.1
              have es := B.es
              have hsw := sw_ok B.kd B.es hw
              subst es
              have big := ds_setLc (m := m) (pos := p) (py := py) (cpos := p2) C.good.sys C.good.calm (by rw [C.eN]; exact C.nd) s1 hl hsw (ok_r src tg C rfl g4) (by rw [C.eN]; exact blkOk_by g1) g2
                (fun s H c cl fp => pg_tg (X := X.blk s H sc2 (compEnvC sc2 cl c X.env) fp) C.nd C.eN C.good.calm rfl (fun y z => z) g3)
                (fun s H c cl fp => ok_t tst (C.blk s H sc2 _ fp) rfl g5) (fun s H c cl fp => (ok_e elt (C.blk s H sc2 _ fp) rfl g6).1) (no_fold g7)
              exact big
            · cases h2
          · cases h1
        · cases h3
      · cases h3
    · cases h
  | .par i j es, s, h => by
    unfold cS at h
    split at h
    · simp only [Bool.and_eq_true, decide_eq_true_eq] at h
      obtain ⟨⟨⟨⟨⟨⟨⟨h0, h1⟩, h2⟩, h3⟩, h4⟩, h5⟩, h6⟩, h7⟩ := h
      exact ds_par C.good.calm (by rw [C.eN]; exact C.nd) (by rw [C.eN]; exact h1) (by rw [C.eN]; exact h2) h3 (by rw [B.es]; exact h4) (by rw [B.es]; exact h5) (ok_s es C B.es h6 h7) (par_ok B.kd B.es h0)
    · cases h
  | .par3 i j l es, s, h => by
    unfold cS at h
    split at h
    · simp only [Bool.and_eq_true, decide_eq_true_eq] at h
      obtain ⟨⟨⟨⟨⟨⟨⟨⟨⟨⟨⟨h0, h1⟩, h2⟩, h3⟩, h4⟩, h5⟩, h6⟩, h7⟩, h8⟩, h9⟩, h10⟩, h11⟩ := h
      exact ds_par3 C.good.calm (by rw [C.eN]; exact C.nd) (by rw [C.eN]; exact h1) (by rw [C.eN]; exact h2) (by rw [C.eN]; exact h3) h4 h5 h6 (by rw [B.es]; exact h7) (by rw [B.es]; exact h8) (by rw [B.es]; exact h9) (ok_s es C B.es h10 h11) (par_ok B.kd B.es h0)
    · cases h
  | .aug i op e, s, h => by
    unfold cS at h
    split at h
    · simp only [Bool.and_eq_true, Bool.or_eq_true, decide_eq_true_eq] at h
      obtain ⟨⟨⟨rfl, h1⟩, h2⟩, h3⟩ := h
      obtain ⟨s1, s2, s3⟩ := store_ok' (X := X) C.eN B.es (fun y _ => B.hf y) h2
      exact ds_aug (by rw [C.eN]; exact C.nd) s1 s2 (ok_e e C B.es h3).1 s3 h1
    · cases h
  | .ite c a b, s, h => by
    unfold cS at h
    split at h
    · simp only [Bool.and_eq_true] at h
      exact ds_if (ok_e c C B.es h.1.1).2 (ok_Ss C B a h.1.2) (ok_Ss C B b h.2)
    · cases h
  | .whl n c b, s, h => by
    unfold cS at h
    split at h
    · simp only [Bool.and_eq_true] at h
      exact ds_while B.own (ok_e c C B.es h.1).2 (ok_Ss C B b h.2) n
    · cases h
  | .for_ t src b, s, h => by
    unfold cS at h
    split at h
    · simp only [Bool.and_eq_true] at h
      exact ds_for B.own C.good.calm (ok_r src _ C B.es h.1.1.2) (ok_x C B.es B.hf B.hF t h.1.1.1) (ok_Ss C B b h.2) (no_fold h.1.2)
    · cases h
theorem ok_Ss (C : Cxt T N fd CX k G X E) (B : Bod T X sc) : ∀ (a : Sms) {s : List Stmt}, cSs T N sc a s = true → PSs X s (dS (nm X fd) E (evSs G T.fl a))
  | .nil, s, h => by
    unfold cSs at h
    cases s with
    | nil => exact dss_nil
    | cons _ _ => cases h
  | .cons a r, s, h => by
    unfold cSs at h
    split at h
    · rw [Bool.and_eq_true] at h
      exact dss_cons (ok_S C B a h.1) (ok_Ss C B r h.2)
    · cases h
end
end
end Dl

set_option linter.all false
set_option maxRecDepth 100000
set_option maxHeartbeats 16000000
/-! Dl24: a whole text of defs: what each computes, by fuel. -/
namespace Dl
open PySem PySem.Spec PyProof.Rows L2
structure Df where
  name : Str
  st : Stmt
  ps : List Str
  N : List Str
  body : Sms
/-- a def by fuel; other names: as sp says -/
noncomputable def evF (defs : List Df) (fl : List (Str × Str)) (sp : Fns → Fns) : Nat → Fns
  | 0 => fun _ _ _ => .st
  | n + 1 => fun f ds S => match defs.find? (fun d => decide (d.name = f)) with
    | some d => if ds.length = d.ps.length then fin S (evSs (evF defs fl sp n) fl d.body (ds.map some ++ List.replicate (d.N.length - ds.length) none) S) else .st
    | none => sp (evF defs fl sp n) f ds S
def scopeC (N ps : List Str) (sc : Scope) : Bool :=
  (match sc.kind with | .function => true | _ => false) && !sc.isCoroutine && !sc.isGenerator && decide N.Nodup && decide (N.take ps.length = ps) && ps.all (fun x => decide (sc.names.lookup x = some .local) || decide (sc.names.lookup x = some .cell)) &&
    sc.names.all fun y => match y.2 with
      | .free => false
      | _ => true
theorem scope_ok {N ps : List Str} {sc : Scope} (h : scopeC N ps sc = true) : FnScope N ps sc := by
  unfold scopeC at h
  simp only [Bool.and_eq_true, Bool.not_eq_true', decide_eq_true_eq, List.all_eq_true, Bool.or_eq_true] at h
  obtain ⟨⟨⟨⟨⟨⟨h1, h2⟩, h3⟩, h4⟩, h5⟩, h6⟩, h7⟩ := h
  refine ⟨?_, h2, h3, h4, h5, h6, fun y hy e => ?_⟩
  · split at h1
    · assumption
    · cases h1
  · have := h7 y hy
    rw [e] at this
    cases this
def dfC (T : Tab) (d : Df) : Bool := scopeC d.N d.ps (defScope d.st) && cSs T d.N (defScope d.st) d.body (defBody d.st)
/-! ### how a def stands behind the top -/
def DflOk (K : PySem.W.Frag) (mg : Str → Option Value) (fd : Str → Str) (dV : Value) (dfl : List PyData) : Prop := (dfl = [] ∧ dV = .none) ∨ dfl ≠ [] ∧
  ∃ (Tt : Addr) (o : Obj) (its : List Value) (n : Nat), dV = .ref Tt ∧ K.lookup Tt = some o ∧ o.data = .seq its.toArray n ∧ Paired (fun c z => ∃ v, RelV v z ∧ ∀ H, Pd ⟨K, mg, fd⟩ H v c) dfl its
structure FnAt (K : PySem.W.Frag) (mg : Str → Option Value) (fd : Str → Str) (d : Df) (dfl : List PyData) (f : Addr) (fdt : FuncData) : Prop where
  mgf : mg d.name = some (.ref f)
  kp : PySem.W.keepIn K (.ref f) = true
  ex : ∃ (oc : Value) (od : Option Addr) (dV kV doc pm : Value) (an : Option Addr) (cdv ct : Value) (osl : Array (Option Value)),
    fdt = PySem.W.fnOf d.name d.name (defArgs d.st) (defBody d.st) (defScope d.st) dV kV doc pm an cdv ct ∧ K.lookup f = some ⟨oc, od, .func fdt, osl⟩ ∧ PySem.W.codeIn K cdv d.name = true ∧ DflOk K mg fd dV dfl
section
variable {K : PySem.W.Frag} {mg : Str → Option Value} {fd : Str → Str} {d : Df} {dfl : List PyData} {f : Addr} {fdt : FuncData} {n : Nat} {ks : List Str} {arr : Arr}
/-- a def without defaults -/
theorem FnAt.bnd0 (F : FnAt K mg fd d [] f fdt) (h : ∀ (kV doc pm : Value) (an : Option Addr) (cdv ct : Value) (us ws : List Value), us.length = n → ws.length = ks.length →
    ∃ zs, bindArgs (PySem.W.fnOf d.name d.name (defArgs d.st) (defBody d.st) (defScope d.st) .none kV doc pm an cdv ct) ⟨us, ks.zip ws⟩ = pure (d.ps.zip zs) ∧ zs.length = d.ps.length ∧ Paired (OneArg K mg fd (us ++ ws)) arr zs) :
    BndOk K mg fd fdt d.ps n ks arr := by
  intro s us ws X h1 h2
  obtain ⟨oc, od, dV, kV, doc, pm, an, cdv, ct, osl, rfl, lk, hcd, hD⟩ := F.ex
  rcases hD with ⟨_, rfl⟩ | ⟨z, _⟩
  · obtain ⟨zs, e1, e2, e3⟩ := h kV doc pm an cdv ct us ws h1 h2
    exact ⟨zs, .of_eq e1, e2, e3⟩
  · exact absurd rfl z
/-- one parameter's value, defaults by their places -/
def OneArgD (dfl : List PyData) (its written : List Value) (a : Nat ⊕ PyData) (z : Value) : Prop := match a with
  | .inl k => written[k]? = some z
  | .inr c => ∃ j : Nat, dfl[j]? = some c ∧ its[j]? = some z
theorem paired_at {A B : Type} {R : A → B → Prop} : ∀ {xs : List A} {ys : List B} {j : Nat} {x : A} {y : B}, Paired R xs ys → xs[j]? = some x → ys[j]? = some y → R x y
  | _, _, 0, _, _, .cons r _, e1, e2 => by cases e1; cases e2; exact r
  | _, _, j + 1, _, _, .cons _ t, e1, e2 => paired_at t (by simpa using e1) (by simpa using e2)
theorem paired_imp {A B : Type} {R R' : A → B → Prop} (i : ∀ a b, R a b → R' a b) : ∀ {xs : List A} {ys : List B}, Paired R xs ys → Paired R' xs ys
  | _, _, .nil => .nil
  | _, _, .cons r t => .cons (i _ _ r) (paired_imp i t)
/-- a def with defaults -/
theorem FnAt.bndD (F : FnAt K mg fd d dfl f fdt) (hd : dfl ≠ []) (h : ∀ (Tt : Addr) (kV doc pm : Value) (an : Option Addr) (cdv ct : Value) (us ws its : List Value), us.length = n → ws.length = ks.length → its.length = dfl.length →
    ∃ zs k, bindArgs (PySem.W.fnOf d.name d.name (defArgs d.st) (defBody d.st) (defScope d.st) (.ref Tt) kV doc pm an cdv ct) ⟨us, ks.zip ws⟩ = seqItems? (.ref Tt) >>= k ∧ k (some its.toArray) = pure (d.ps.zip zs) ∧ zs.length = d.ps.length ∧ Paired (OneArgD dfl its (us ++ ws)) arr zs) :
    BndOk K mg fd fdt d.ps n ks arr := by
  intro s us ws X h1 h2
  obtain ⟨oc, od, dV, kV, doc, pm, an, cdv, ct, osl, rfl, lk, hcd, hD⟩ := F.ex
  rcases hD with ⟨z, _⟩ | ⟨_, Tt, o, its, m, rfl, lT, oT, pr⟩
  · exact absurd z hd
  · obtain ⟨zs, q, e1, e2, e3, e4⟩ := h Tt kV doc pm an cdv ct us ws its h1 h2 (paired_len pr).symm
    refine ⟨zs, BindsTo.of_looks fun M => ?_, e3, paired_imp (fun a z r => ?_) e4⟩
    · rw [e1]
      exact looks_items X lT oT (.of_pure e2)
    · cases a with
      | inl k => exact r
      | inr c =>
        obtain ⟨j, r1, r2⟩ := r
        have := paired_at pr r1 r2
        exact this
end
/-! ### the theorem -/
theorem find_name {defs : List Df} (nd : (defs.map (·.name)).Nodup) {d : Df} (h : d ∈ defs) : defs.find? (fun e => decide (e.name = d.name)) = some d := by
  induction defs with
  | nil => cases h
  | cons e defs ih =>
    simp only [List.map_cons, List.nodup_cons] at nd
    rw [List.find?_cons]
    rcases List.mem_cons.mp h with z | z
    · subst z
      simp
    · have ne : e.name ≠ d.name := fun q => nd.1 (by rw [q]; exact List.mem_map_of_mem z)
      simp only [ne, decide_false]
      exact ih nd.2 z
theorem rho_start {N : Nm} {H : Hp} {α : List Addr} {Ns : List Str} {vs : List V} {ds : List D} (r : RpAll N H α vs ds) : Rho N H α (L2.start Ns vs) (ds.map some ++ List.replicate (Ns.length - ds.length) none) := by
  have hl := r.length
  refine ⟨by unfold L2.start; simp [hl], fun i d e => ?_⟩
  unfold L2.start
  by_cases hi : i < ds.length
  · rw [List.getElem?_append_left (by simpa using hi), List.getElem?_map] at e
    rw [List.getElem?_append_left (by simpa [hl] using hi), List.getElem?_map]
    cases q : ds[i]? with
    | none => rw [q] at e; cases e
    | some d' =>
      rw [q] at e
      cases e
      obtain ⟨v, e1, rv⟩ := r.get q
      exact ⟨v, by rw [e1]; rfl, rv⟩
  · rw [List.getElem?_append_right (by simpa using hi), List.getElem?_replicate] at e
    split at e <;> cases e
/-- the text of defs and what stands around it -/
structure Pro (defs : List Df) (T : Tab) (sp : Fns → Fns) (P : Program) (w : World) (K : PySem.W.Frag) (mg : Str → Option Value) (base : Heap) (fd : Str → Str) (CX : CXT) : Prop where
  nd : (defs.map (·.name)).Nodup
  ck : ∀ d ∈ defs, dfC T d = true
  at_ : ∀ d ∈ defs, ∃ (f : Addr) (fdt : FuncData) (dfl : List PyData), FnAt K mg fd d dfl f fdt ∧ ∀ q ∈ T.shp, q.1 = d.name → BndOk K mg fd fdt d.ps q.2.1 q.2.2.1 q.2.2.2
  shp : ∀ q ∈ T.shp, (∃ d ∈ defs, d.name = q.1) ∨ (q.1 ∉ defs.map (·.name) ∧ ∀ n X, X.prog = P → X.w = w → X.K = K → X.mg = mg → X.base = base → (∀ q ∈ T.shp, CallOk X fd CX n (evF defs T.fl sp n) q) → CallOk X fd CX (n + 1) (evF defs T.fl sp (n + 1)) q)
  blt : ∀ x ∈ T.blt, mg x = none
  cst : ∀ x d, T.cst.lookup x = some d → ∃ v u, mg x = some u ∧ RelV v u ∧ ∀ H, Pd ⟨K, mg, fd⟩ H v d
  fl : ∀ C f, (C, f) ∈ T.fl → ∀ Ca, mg C = some (.ref Ca) → NoAttr K Ca f
  sys : ∃ o, base.get? sysModules = some o
  pas : ∀ (N : List Str) (qual : Str) (scope : Scope) (f : Addr) (cd : Value) (A : Around) (outer : List Env) (s : Shared) (H : Hp) (E : XK), Passes CX (cxOf CX P w K mg base N qual scope f cd A outer s H E) E
  pas0 : ∀ l H s e s', CX l H s E0 e s' → False
section
variable {defs : List Df} {T : Tab} {sp : Fns → Fns} {P : Program} {w : World} {K : PySem.W.Frag} {mg : Str → Option Value} {base : Heap} {fd : Str → Str} {CX : CXT}
theorem callOk_0 (B : Pro defs T sp P w K mg base fd CX) {X : Cx} (h1 : X.prog = P) (h2 : X.w = w) (h3 : X.K = K) (h4 : X.mg = mg) (h5 : X.base = base) (q : Str × Nat × List Str × Arr) (hq : q ∈ T.shp) (hd : ∃ d ∈ defs, d.name = q.1) : CallOk X fd CX 0 (evF defs T.fl sp 0) q := by
  subst h1 h2 h3 h4 h5
  obtain ⟨d, hd, en⟩ := hd
  obtain ⟨f, fdt, dfl, A, b⟩ := B.at_ d hd
  refine ⟨f, fdt, d.ps, ⟨fun A outer s H args us vs Q E hr e0 hb rv ⟨len, S, α, ds, ok, r, h⟩ => h.elim⟩, by rw [← en]; exact A.mgf, A.kp, b q hq en.symm⟩
/-- one more level of calls -/
theorem pro_step (B : Pro defs T sp P w K mg base fd CX) {n : Nat} (calls : ∀ (X : Cx), X.prog = P → X.w = w → X.K = K → X.mg = mg → X.base = base → ∀ q ∈ T.shp, CallOk X fd CX n (evF defs T.fl sp n) q)
    {d : Df} (hd : d ∈ defs) {f : Addr} {fdt : FuncData} {dfl : List PyData} (A : FnAt K mg fd d dfl f fdt) : FnG P w K mg base CX (n + 1) f fdt d.ps (spD ⟨K, mg, fd⟩ d.ps.length (evF defs T.fl sp (n + 1) d.name)) := by
  obtain ⟨oc, od, dV, kV, doc, pm, an, cdv, ct, osl, rfl, lk, hcd, hD⟩ := A.ex
  have hc := B.ck d hd
  unfold dfC at hc
  rw [Bool.and_eq_true] at hc
  have S := scope_ok hc.1
  refine fn_g lk hcd S fun A outer s H vs Q E room gd len ⟨Sto, α, ds, ⟨ok, _⟩, r, h⟩ => ?_
  have C : Cxt T d.N fd CX n (evF defs T.fl sp n) (cxOf CX P w K mg base d.N d.name (defScope d.st) f cdv A outer s H E) E :=
    ⟨⟨rfl, gd, by have := room.un; show (A.deeper (envOfC d.name (defScope d.st) s.heap.objs.size f cdv)).units + 200 < _; omega, B.sys⟩, room, rfl, S.nd, B.blt, B.cst, calls _ rfl rfl rfl rfl rfl, B.pas _ _ _ _ _ _ _ _ _ _, B.pas0⟩
  have Bd : Bod T (cxOf CX P w K mg base d.N d.name (defScope d.st) f cdv A outer s H E) (defScope d.st) := ⟨rfl, S.kind, fun _ => rfl, B.fl, passes_of rfl⟩
  refine ⟨_, ok_Ss C Bd d.body hc.2, ?_⟩
  refine ⟨_, Sto, α, rho_start r, ok, ?_⟩
  refine fin_out ok ?_
  have e : evF defs T.fl sp (n + 1) d.name ds Sto = fin Sto (evSs (evF defs T.fl sp n) T.fl d.body (ds.map some ++ List.replicate (d.N.length - ds.length) none) Sto) := by
    show (match defs.find? (fun e => decide (e.name = d.name)) with
      | some d => _
      | none => _) = _
    rw [find_name B.nd hd]
    exact if_pos (by rw [← r.length, len])
  rw [e] at h
  exact h
theorem pro_calls (B : Pro defs T sp P w K mg base fd CX) (hsp0 : ∀ q ∈ T.shp, q.1 ∉ defs.map (·.name) → ∀ (X : Cx), X.prog = P → X.w = w → X.K = K → X.mg = mg → X.base = base → CallOk X fd CX 0 (evF defs T.fl sp 0) q) : ∀ (n : Nat) (X : Cx), X.prog = P → X.w = w → X.K = K → X.mg = mg → X.base = base → ∀ q ∈ T.shp, CallOk X fd CX n (evF defs T.fl sp n) q
  | 0, X, h1, h2, h3, h4, h5, q, hq => by
    rcases B.shp q hq with z | z
    · exact callOk_0 B h1 h2 h3 h4 h5 q hq z
    · exact hsp0 q hq z.1 X h1 h2 h3 h4 h5
  | n + 1, X, h1, h2, h3, h4, h5, q, hq => by
    rcases B.shp q hq with ⟨d, hd, en⟩ | z
    · obtain ⟨f, fdt, dfl, A, b⟩ := B.at_ d hd
      have := pro_step B (pro_calls B hsp0 n) hd A
      subst h1 h2 h3 h4 h5
      refine ⟨f, fdt, d.ps, ?_, by rw [← en]; exact A.mgf, A.kp, b q hq en.symm⟩
      rw [← en]
      exact this
    · exact z.2 n X h1 h2 h3 h4 h5 (pro_calls B hsp0 n X h1 h2 h3 h4 h5)
/-- what a def of the text computes -/
theorem pro_fn (B : Pro defs T sp P w K mg base fd CX) (hsp0 : ∀ q ∈ T.shp, q.1 ∉ defs.map (·.name) → ∀ (X : Cx), X.prog = P → X.w = w → X.K = K → X.mg = mg → X.base = base → CallOk X fd CX 0 (evF defs T.fl sp 0) q) (n : Nat)
    {d : Df} (hd : d ∈ defs) {f : Addr} {fdt : FuncData} {dfl : List PyData} (A : FnAt K mg fd d dfl f fdt) : FnG P w K mg base CX (n + 1) f fdt d.ps (spD ⟨K, mg, fd⟩ d.ps.length (evF defs T.fl sp (n + 1) d.name)) :=
  pro_step B (pro_calls B hsp0 n) hd A
end
end Dl

set_option linter.all false
set_option maxRecDepth 100000
set_option maxHeartbeats 4000000
/-! Dl25: the law is called. -/
namespace Dl
open PySem PySem.Spec PyProof.Rows L2
/-- the list of some ints -/
abbrev scr (ns : List Int) : D := .p (.list (ns.map PyData.int))
theorem rp_ints {N : Nm} {H : Hp} : ∀ ns : List Int, PdAll N H (ns.map V.int) (ns.map PyData.int)
  | [] => .nil
  | n :: ns => .cons (.int n) (rp_ints ns)
section
variable {P : Program} {w : World} {K : PySem.W.Frag} {mg mb : Str → Option Value} {fd : Str → Str} {CX : CXT} {k : Nat} {fa a : Addr} {fdt : FuncData} {x : Str} {g : List D → Sto → Res D} {s₁ : Shared} {vs : List Value} {ns : List Int}
/-- from the abstract heap H in which the script is, and nothing besides it -/
theorem law_from {H : Hp} (inK : K.In s₁.heap) (nsG : s₁.heap.Ns mainGlobals mg) (nsB : s₁.heap.Ns builtinsNs mb) (bb : ∀ x : Str, x ≠ "__name__" → mb x = bootBuiltins x) (noL : s₁.heap.NoLimit) (see : s₁.heap.NoSeer) (gens : s₁.gens = #[])
    (at_ : s₁.heap.get? a = some { cls := .type "list", data := .seq vs.toArray }) (low : a ≠ sysModules) (room : Room k callerA)
    (F : ∀ base : Heap, K.In base → base.Ns mainGlobals mg → (∃ o, base.get? sysModules = some o) → FnG P w K mg base CX k fa fdt [x] (spD ⟨K, mg, fd⟩ 1 g)) (bnd : ∀ (s : Shared) (u : Value), BindsTo s fdt ⟨[u], []⟩ [(x, u)])
    (hg : ∃ S', g [scr ns] [] = .ok (.b true) S') (no : ∀ H e s', CX [] H s₁ E0 e s' → False)
    (hL : FzL K H a (ns.map V.int)) (hok : HOk P w H s₁.heap) (only : ∀ b, H b ≠ none → b = a ∧ ∃ o, H b = some (.frz o (.lst (ns.map V.int)))) (out : H a ≠ none → K.lookup a = none) :
    codeAny (model P w) callerA (.call (.ref fa) ⟨[.ref a], []⟩) (fun r s' => r = .ok (.ret (.bool true)) ∧ OldK s₁.heap s'.heap ∧ s'.os = s₁.os ∧ AllBare s'.gens) s₁ := by
  have free : ∀ {b : Addr}, b ≠ a → H b = none := fun {b} nb => by
    cases q : H b with
    | none => rfl
    | some u => exact absurd (only b (by rw [q]; exact fun z => nomatch z)).1 nb
  have isDict : ∀ {b : Addr} {o : Obj} {es : Array DictEntry} {ep : Nat}, s₁.heap.get? b = some o → o.data = .dict es ep → H b = none := fun {b o es ep} e d => free fun z => by
    subst z
    rw [at_] at e
    cases e
    cases d
  have ns' : ∀ {b : Addr} {m : Str → Option Value}, s₁.heap.Ns b m → (hidT s₁.heap H).Ns b m := fun {b m} ⟨o, es, ep, e, d, r⟩ => ⟨o, es, ep, hidT_get e (isDict e d), d, r⟩
  have inB : K.In (hidT s₁.heap H) := fun b o e => hidT_get (inK b o e) (by
    by_cases nb : b = a
    · subst nb
      cases q : H b with
      | none => rfl
      | some u => rw [out (by rw [q]; exact fun z => nomatch z)] at e; cases e
    · exact free nb)
  have mod : Mod K mg (hidT s₁.heap H) := ⟨inB, ns' nsG, ⟨mb, ns' nsB, bb⟩, let ⟨mc, h1, h2⟩ := noL; ⟨mc, ns' h1, h2⟩⟩
  have e0 : Env0 P w K mg (hidT s₁.heap H) callerA [] s₁ H :=
    ⟨rfl, mod, fun b o e => of_hidT e, Nat.le_of_eq (hidT_size _ _), trivial, fun b hb => absurd (show b ∈ ([] : List Addr) from hb) (by simp), hok, .of_eq gens⟩
  have sys : ∃ o, (hidT s₁.heap H).get? sysModules = some o := by
    obtain ⟨mm, ⟨o, es, ep, e, d, _⟩, _⟩ := see.mods
    exact ⟨o, hidT_get e (isDict e d)⟩
  obtain ⟨S', hg⟩ := hg
  have rd : spD ⟨K, mg, fd⟩ 1 g [V.ref a] H (fun v _ => v = .bl true) E0 := by
    refine ⟨[], [], [scr ns], ⟨⟨rfl, List.nodup_nil, fun l a c h1 _ => by simp at h1⟩, rfl⟩, .cons (.p (.lst hL low (rp_ints ns))) .nil, ?_⟩
    rw [hg]
    exact fun v H' α' st ok rv => rv.bool_inv
  refine codeAny_mono ((F _ inB (ns' nsG) sys).go callerA [] s₁ H ⟨[.ref a], []⟩ [.ref a] [.ref a] _ _ ⟨room, rfl⟩ e0 (bnd s₁ (.ref a)) (.cons rfl .nil) ⟨rfl, rd⟩) fun r s' h => ?_
  cases r with
  | error e => exact (no H e s' h).elim
  | ok fl =>
    cases fl with
    | ret u =>
      obtain ⟨v, H', os, bare, un, hok', rv, q⟩ := h
      have q' : v = .bl true := q
      subst q'
      cases (show u = Value.bool true from rv)
      refine ⟨rfl, OldK.of_keep fun b o e => ?_, os, bare⟩
      cases q : H b with
      | none => exact un.keep b o e q (by intro z; exact absurd (show b ∈ ([] : List Addr) from z) (by simp)) (by simp)
      | some u =>
        obtain ⟨_, ob, z⟩ := only b (by rw [q]; exact fun z => nomatch z)
        obtain ⟨e1, _⟩ := hok b _ z
        obtain ⟨e2, _⟩ := hok' b _ (un.frzs b ob _ z)
        rw [e] at e1
        cases e1
        exact e2
    | next => exact False.elim h
    | brk => exact False.elim h
    | cont => exact False.elim h
/-- the script tracked, or the written part's own -/
theorem law_run (inK : K.In s₁.heap) (nsG : s₁.heap.Ns mainGlobals mg) (nsB : s₁.heap.Ns builtinsNs mb) (bb : ∀ x : Str, x ≠ "__name__" → mb x = bootBuiltins x) (noL : s₁.heap.NoLimit) (see : s₁.heap.NoSeer) (gens : s₁.gens = #[])
    (at_ : s₁.heap.get? a = some { cls := .type "list", data := .seq vs.toArray }) (hi : IntsAre vs ns) (hl : ns.length ≤ sizeLine) (low : a ≠ sysModules) (room : Room k callerA)
    (F : ∀ base : Heap, K.In base → base.Ns mainGlobals mg → (∃ o, base.get? sysModules = some o) → FnG P w K mg base CX k fa fdt [x] (spD ⟨K, mg, fd⟩ 1 g)) (bnd : ∀ (s : Shared) (u : Value), BindsTo s fdt ⟨[u], []⟩ [(x, u)])
    (hg : ∃ S', g [scr ns] [] = .ok (.b true) S') (no : ∀ H e s', CX [] H s₁ E0 e s' → False) :
    codeAny (model P w) callerA (.call (.ref fa) ⟨[.ref a], []⟩) (fun r s' => r = .ok (.ret (.bool true)) ∧ OldK s₁.heap s'.heap ∧ s'.os = s₁.os ∧ AllBare s'.gens) s₁ := by
  have rv := vals_ints hi
  cases q : K.lookup a with
  | some o =>
    have e := inK a o q
    rw [at_] at e
    cases e
    exact law_from (H := fun _ => none) inK nsG nsB bb noL see gens at_ low room F bnd hg no (.inr ⟨vs, _, q, by rw [List.length_map]; exact hl, rv⟩) (fun b u z => nomatch z) (fun b z => absurd rfl z) fun z => absurd rfl z
  | none =>
    have one : ∀ b u, (if b = a then some (HO.frz { cls := .type "list", data := .seq vs.toArray } (.lst (ns.map V.int))) else none) = some u → b = a ∧ u = HO.frz { cls := .type "list", data := .seq vs.toArray } (.lst (ns.map V.int)) := fun b u z => by
      by_cases nb : b = a
      · rw [if_pos nb] at z
        exact ⟨nb, (Option.some.inj z).symm⟩
      · rw [if_neg nb] at z
        cases z
    refine law_from (H := fun b => if b = a then some (.frz { cls := .type "list", data := .seq vs.toArray } (.lst (ns.map V.int))) else none) inK nsG nsB bb noL see gens at_ low room F bnd hg no (.inl ⟨_, if_pos rfl⟩) (fun b u z => ?_) (fun b z => ?_) fun _ => q
    · obtain ⟨rfl, rfl⟩ := one b u z
      exact ⟨at_, by rw [List.length_map]; exact hl, vs, _, rv, at_⟩
    · cases q2 : (if b = a then some (HO.frz { cls := .type "list", data := .seq vs.toArray } (.lst (ns.map V.int))) else none) with
      | none => exact absurd q2 z
      | some u =>
        obtain ⟨h1, h2⟩ := one b u q2
        exact ⟨h1, { cls := .type "list", data := .seq vs.toArray }, by simp only [q2, h2]⟩
end
open PySem.W in
/-- the goal that the head leaves -/
theorem walk_g {l : OpenLaw} {n k : Nat} {q : Program} {loose : List Str} {XP : (Str → Option Value) → Heap → Prop} {YP : World → Heap → Prop} {d : DefRec} {K : Params → Frag} {CX : World → CXT} {x : Str} {fd : Str → Str} {g : List D → Sto → Res D}
    (hn : l.most = some n) (hn2 : n ≤ sizeLine) (hdf : d.params.defaults = []) (hr : Room k callerA) (hi : importsNone q = true)
    (hY : ∀ (w : World) (h : Heap), YP w h → (K w.params).In h)
    (F : ∀ (w : World) (mg : Str → Option Value) (fa : Addr) (h : Heap), (K w.params).In h → h.Ns mainGlobals mg → mg d.name = some (.ref fa) →
      ∃ fdt : FuncData, (∀ (s : Shared) (u : Value), BindsTo s fdt ⟨[u], []⟩ [(x, u)]) ∧ ∀ base : Heap, (K w.params).In base → base.Ns mainGlobals mg → (∃ o, base.get? sysModules = some o) → FnG l.prog w (K w.params) mg base (CX w) k fa fdt [x] (spD ⟨K w.params, mg, fd⟩ 1 g))
    (hg : ∀ ns : List Int, ns.length ≤ n → ∃ S', g [scr ns] [] = .ok (.b true) S') (no : ∀ w H s e s', CX w [] H s E0 e s' → False) :
    WalkO q loose XP YP l.row.toRowW d [] (fun f vs => PySem.call f vs) := by
  intro w s₀ s₁ mg mb G Y fa o pm cd doc dV kV ho hd hcd hD hmg hgn args vals as hpre hlay hrd hwl hlo
  cases Dflts.none hD hdf
  cases Dflts.noKw hD
  obtain ⟨a, vs, ns, rfl, rfl, hobj, hints, hlen⟩ := Att.script_of hn hpre hwl
  have low : a ≠ sysModules := by
    cases hrd with
    | cons r1 r2 =>
      cases r1 with
      | list g1 g2 g3 g4 => exact fun z => by have := hlo a (by simp); rw [z] at this; simp at this
  obtain ⟨fdt, bnd, hF⟩ := F w mg fa _ (hY w _ Y) G.T.g hmg
  refine enter_call (codeAny_mono (law_run (hY w _ Y) G.T.g G.T.b G.T.builtins G.T.nolimit (G.T.seer hi) hgn hobj hints (Nat.le_trans hlen hn2) low hr hF bnd (hg ns hlen) (no w · s₁)) fun r s' hq => ?_)
  obtain ⟨rfl, h2, h3, h4⟩ := hq
  exact ⟨.inl ⟨.bool true, .bool true, [], rfl, fun _ => rfl, .bool true, Att.post_true l _, fun _ => ⟨List.Pairwise.nil, fun _ z => nomatch z⟩⟩, h2, h3, h4⟩
end Dl

set_option linter.all false
set_option maxRecDepth 100000
set_option maxHeartbeats 4000000
/-! Dl26: what the top has written, in the form the glue of a law wants. -/
namespace Dl
open PySem PySem.Spec PyProof.Rows L2
/-- exception classes' fields: none is used where no exception is caught -/
def fdN : Str → Str := fun _ => "thing"
def noSp : Fns → Fns := fun _ _ _ _ => .st
abbrev Item (K : PySem.W.Frag) (mg : Str → Option Value) (fd : Str → Str) (c : PyData) (z : Value) : Prop := ∃ v, RelV v z ∧ ∀ H, Pd ⟨K, mg, fd⟩ H v c
/-- a def among the written part -/
structure Raw (K : PySem.W.Frag) (d : Df) (dfl : List PyData) : Prop where
  ex : ∃ (f : Addr) (oc : Value) (od : Option Addr) (dV kV doc pm : Value) (an : Option Addr) (cdv ct : Value) (osl : Array (Option Value)), PySem.W.nsIn K mainGlobals d.name = some (some (.ref f)) ∧
    K.lookup f = some ⟨oc, od, .func (PySem.W.fnOf d.name d.name (defArgs d.st) (defBody d.st) (defScope d.st) dV kV doc pm an cdv ct), osl⟩ ∧ PySem.W.codeIn K cdv d.name = true ∧ PySem.W.keepIn K (.ref f) = true ∧ ∀ mg fd, DflOk K mg fd dV dfl
section
variable {K : PySem.W.Frag} {d : Df} {dfl : List PyData} {h : Heap} {mg : Str → Option Value} {fd : Str → Str} {f : Addr} {fdt : FuncData}
theorem raw_mk {oc kV doc pm cdv ct : Value} {od an : Option Addr} {osl : Array (Option Value)} (a : PySem.W.nsIn K mainGlobals d.name = some (some (.ref f)))
    (l : K.lookup f = some ⟨oc, od, .func (PySem.W.fnOf d.name d.name (defArgs d.st) (defBody d.st) (defScope d.st) .none kV doc pm an cdv ct), osl⟩) (c : PySem.W.codeIn K cdv d.name = true) (k : PySem.W.keepIn K (.ref f) = true) : Raw K d [] :=
  ⟨f, oc, od, .none, kV, doc, pm, an, cdv, ct, osl, a, l, c, k, fun _ _ => .inl ⟨rfl, rfl⟩⟩
theorem raw_mkD {oc kV doc pm cdv ct o2 : Value} {od an d2 : Option Addr} {osl s2 : Array (Option Value)} {Tt : Addr} {its : List Value} {n : Nat} {c0 : PyData} (a : PySem.W.nsIn K mainGlobals d.name = some (some (.ref f)))
    (l : K.lookup f = some ⟨oc, od, .func (PySem.W.fnOf d.name d.name (defArgs d.st) (defBody d.st) (defScope d.st) (.ref Tt) kV doc pm an cdv ct), osl⟩) (t : K.lookup Tt = some ⟨o2, d2, .seq its.toArray n, s2⟩)
    (p : ∀ {mg fd}, Paired (Item K mg fd) (c0 :: dfl) its) (c : PySem.W.codeIn K cdv d.name = true) (k : PySem.W.keepIn K (.ref f) = true) : Raw K d (c0 :: dfl) :=
  ⟨f, oc, od, .ref Tt, kV, doc, pm, an, cdv, ct, osl, a, l, c, k, fun _ _ => .inr ⟨by simp, Tt, _, its, n, rfl, t, rfl, p⟩⟩
theorem Raw.at_ (r : Raw K d dfl) (X : K.In h) (G : h.Ns mainGlobals mg) : ∃ f fdt, FnAt K mg fd d dfl f fdt := by
  obtain ⟨f, oc, od, dV, kV, doc, pm, an, cdv, ct, osl, a, l, c, k, e⟩ := r.ex
  exact ⟨f, _, PySem.W.mg_of X G a, k, oc, od, dV, kV, doc, pm, an, cdv, ct, osl, rfl, l, c, e _ _⟩
theorem bind_one {x : Str} (F : FnAt K mg fd d [] f fdt) (hb : ∀ (kV doc pm : Value) (an : Option Addr) (cdv ct : Value) (u : Value), bindArgs (PySem.W.fnOf d.name d.name (defArgs d.st) (defBody d.st) (defScope d.st) .none kV doc pm an cdv ct) ⟨[u], []⟩ = pure [(x, u)]) :
    ∀ (s : Shared) (u : Value), BindsTo s fdt ⟨[u], []⟩ [(x, u)] := fun s u => by
  obtain ⟨oc, od, dV, kV, doc, pm, an, cdv, ct, osl, rfl, lk, hcd, hD⟩ := F.ex
  rcases hD with ⟨_, rfl⟩ | ⟨z, _⟩
  · exact .of_eq (hb kV doc pm an cdv ct u)
  · exact absurd rfl z
/-- the shapes of a def's calls, one behind another -/
inductive ShpL (R : Str × Nat × List Str × Arr → Prop) (x : Str) : List (Str × Nat × List Str × Arr) → Prop where
  | nil : ShpL R x []
  | cons_no {q : Str × Nat × List Str × Arr} {l : List (Str × Nat × List Str × Arr)} (h : decide (q.1 = x) = false) (t : ShpL R x l) : ShpL R x (q :: l)
  | cons_yes {q : Str × Nat × List Str × Arr} {l : List (Str × Nat × List Str × Arr)} (h : R q) (t : ShpL R x l) : ShpL R x (q :: l)
theorem shp_of {R : Str × Nat × List Str × Arr → Prop} {x : Str} : ∀ (l : List (Str × Nat × List Str × Arr)), ShpL R x l → ∀ q ∈ l, q.1 = x → R q
  | _, .nil, q, hq, _ => by cases hq
  | _, .cons_no h t, q, hq, e => by
    rcases List.mem_cons.mp hq with z | z
    · subst z; exact absurd e (of_decide_eq_false h)
    · exact shp_of _ t q z e
  | _, .cons_yes h t, q, hq, e => by
    rcases List.mem_cons.mp hq with z | z
    · subst z; exact h
    · exact shp_of _ t q z e
/-! ### constants -/
structure RawC (K : PySem.W.Frag) (x : Str) (c : PyData) : Prop where
  ex : ∃ u, PySem.W.nsIn K mainGlobals x = some (some u) ∧ ∀ mg fd, Item K mg fd c u
theorem RawC.at_ {x : Str} {c : PyData} (r : RawC K x c) (X : K.In h) (G : h.Ns mainGlobals mg) : ∃ v u, mg x = some u ∧ RelV v u ∧ ∀ H, Pd ⟨K, mg, fd⟩ H v c := by
  obtain ⟨u, a, i⟩ := r.ex
  obtain ⟨v, h1, h2⟩ := i mg fd
  exact ⟨v, u, PySem.W.mg_of X G a, h1, h2⟩
theorem rawc_int {x : Str} {i : Int} {t : Tok} (a : PySem.W.nsIn K mainGlobals x = some (some (.int i t))) : RawC K x (.int i) := ⟨_, a, fun _ _ => ⟨.int i, ⟨t, rfl⟩, fun _ => .int i⟩⟩
theorem rawc_str {x : Str} {i : Str} {t : Tok} (a : PySem.W.nsIn K mainGlobals x = some (some (.str i t))) : RawC K x (.str i) := ⟨_, a, fun _ _ => ⟨.str i, ⟨t, rfl⟩, fun _ => .str i⟩⟩
theorem pd_items {mg : Str → Option Value} {fd : Str → Str} : ∀ {cs : List PyData} {its : List Value}, Paired (Item K mg fd) cs its → ∃ vs, Vals vs its ∧ ∀ H, PdAll ⟨K, mg, fd⟩ H vs cs
  | _, _, .nil => ⟨[], .nil, fun _ => .nil⟩
  | _, _, .cons ⟨v, h1, h2⟩ t => by
    obtain ⟨vs, e1, e2⟩ := pd_items t
    exact ⟨v :: vs, .cons h1 e1, fun H => .cons (h2 H) (e2 H)⟩
theorem rawc_tup {x : Str} {Tt : Addr} {d2 : Option Addr} {s2 : Array (Option Value)} {its : List Value} {n : Nat} {cs : List PyData} (a : PySem.W.nsIn K mainGlobals x = some (some (.ref Tt))) (t : K.lookup Tt = some ⟨.type "tuple", d2, .seq its.toArray n, s2⟩)
    (p : ∀ {mg fd}, Paired (Item K mg fd) cs its) (hz : its.length ≤ sizeLine := by decide) : RawC K x (.tuple cs) := ⟨_, a, fun mg fd => by
  obtain ⟨vs, e1, e2⟩ := pd_items (p (mg := mg) (fd := fd))
  exact ⟨.ref Tt, rfl, fun H => .tup (.inr ⟨_, its.toArray, n, t, rfl, rfl, by simpa using hz, by simpa using e1⟩) (e2 H)⟩⟩
inductive CstL (R : Str → PyData → Prop) : List (Str × PyData) → Prop where
  | nil : CstL R []
  | cons {x : Str} {d : PyData} {l : List (Str × PyData)} (h : R x d) (t : CstL R l) : CstL R ((x, d) :: l)
theorem cst_of {R : Str → PyData → Prop} : ∀ (l : List (Str × PyData)), CstL R l → ∀ x d, l.lookup x = some d → R x d
  | _, .nil, x, d, e => by cases e
  | _, .cons (x := y) h t, x, d, e => by
    rw [List.lookup_cons] at e
    by_cases z : x = y
    · subst z
      simp only [beq_self_eq_true] at e
      cases e
      exact h
    · have : (x == y) = false := by simpa using z
      rw [this] at e
      exact cst_of _ t x d e
end
end Dl

set_option linter.all false
set_option maxRecDepth 100000
set_option maxHeartbeats 1000000
namespace Lb
open PySem PySem.Spec L2 Dl
/-! LibE: how trees are run by hand. -/
def HasB (defs : List Df) (f : Str) (k N : Nat) (b : Sms) : Prop := ∃ d, defs.find? (fun e => decide (e.name = f)) = some d ∧ d.ps.length = k ∧ d.N.length = N ∧ d.body = b
section
variable {defs : List Df} {fl : List (Str × Str)} {sp : Fns → Fns} {f : Str} {k N : Nat} {b : Sms}
theorem at_ (h : HasB defs f k N b) (n : Nat) {ds : List D} (hl : ds.length = k) (S : Sto) : evF defs fl sp (n + 1) f ds S = fin S (evSs (evF defs fl sp n) fl b (ds.map some ++ List.replicate (N - k) none) S) := by
  obtain ⟨d, h1, h2, h3, h4⟩ := h
  show (match defs.find? (fun e => decide (e.name = f)) with
    | some d => _
    | none => _) = _
  rw [h1]
  subst h4
  show (if ds.length = d.ps.length then _ else _) = _
  rw [if_pos (by omega), hl, h3]
end
section
variable {G : Fns} {fl : List (Str × Str)} {ρ : Slots} {S : Sto} {F Fa Fb Fc : Slots → Sto → Res D} {Ta Tb Tc : Slots → Sto → Res Bool} {Fs Fk : Slots → Sto → Res (List D)} {m : Bool}
@[simp] theorem e_var {i : Nat} : fVar i ρ S = match ρ[i]? with
  | some (some d) => .ok d S
  | _ => .st := rfl
@[simp] theorem e_c {d : PyData} : fC d ρ S = .ok (.p d) S := rfl
@[simp] theorem e_bin {op : Operator} : fBin op m Fa Fb ρ S = (Fa ρ S).bind fun x S1 => (Fb ρ S1).bind fun y S2 => opBin op m x y S2 := rfl
@[simp] theorem e_cmp {op : CmpOp} : fCmp op Fa Fb ρ S = (Fa ρ S).bind fun x S1 => (Fb ρ S1).bind fun y S2 => opCmp op x y S2 := rfl
@[simp] theorem e_idx : fIdx Fa Fb ρ S = (Fa ρ S).bind fun x S1 => (Fb ρ S1).bind fun y S2 => opIdx x y S2 := rfl
@[simp] theorem e_neg : fNeg Fa ρ S = (Fa ρ S).bind fun x S1 => match x with
  | .p (.int i) => .ok (.i (-i)) S1
  | _ => .st := rfl
@[simp] theorem e_tru : fTru Fa ρ S = (Fa ρ S).bind fun x S1 => match tru x S1 with
  | some k => .ok k S1
  | none => .st := rfl
@[simp] theorem e_not : fNot Fa ρ S = (Fa ρ S).bind fun x S1 => match x with
  | .p (.bool k) => .ok (.b (!k)) S1
  | _ => .st := rfl
@[simp] theorem e_and : fAnd Fa Fb ρ S = (Fa ρ S).bind fun x S1 => match x with
  | .p (.bool true) => Fb ρ S1
  | .p (.bool false) => .ok (.b false) S1
  | _ => .st := rfl
@[simp] theorem e_or : fOr Fa Fb ρ S = (Fa ρ S).bind fun x S1 => match x with
  | .p (.bool false) => Fb ρ S1
  | .p (.bool true) => .ok (.b true) S1
  | _ => .st := rfl
@[simp] theorem e_gnot : gNot Ta ρ S = (Ta ρ S).bind fun k S1 => .ok (!k) S1 := rfl
@[simp] theorem e_gand : gAnd Ta Tb ρ S = (Ta ρ S).bind fun k S1 => match k with
  | true => Tb ρ S1
  | false => .ok false S1 := rfl
@[simp] theorem e_gor : gOr Ta Tb ρ S = (Ta ρ S).bind fun k S1 => match k with
  | false => Tb ρ S1
  | true => .ok true S1 := rfl
@[simp] theorem e_if : fIf Tc Fa Fb ρ S = (Tc ρ S).bind fun k S1 => match k with
  | true => Fa ρ S1
  | false => Fb ρ S1 := rfl
@[simp] theorem e_gif : gIf Tc Ta Tb ρ S = (Tc ρ S).bind fun k S1 => match k with
  | true => Ta ρ S1
  | false => Tb ρ S1 := rfl
@[simp] theorem e_nil : fNil ρ S = .ok [] S := rfl
@[simp] theorem e_cons : fCons Fa Fs ρ S = (Fa ρ S).bind fun x S1 => (Fs ρ S1).bind fun xs S2 => .ok (x :: xs) S2 := rfl
@[simp] theorem e_tup : fTup Fs ρ S = (Fs ρ S).bind fun xs S1 => if xs.length ≤ sizeLine then .ok (mkT xs) S1 else .st := rfl
@[simp] theorem e_lst : fLst m Fs ρ S = (Fs ρ S).bind fun xs S1 => if xs.length ≤ sizeLine then mkL m xs S1 else .st := rfl
@[simp] theorem e_bn {f : Bn} : fBn m f Fs ρ S = (Fs ρ S).bind (opBn m f) := rfl
@[simp] theorem e_isi {T : Ty} : fIsi T Fa ρ S = (Fa ρ S).bind (opIsi T) := rfl
@[simp] theorem e_rev : fRev m Fa ρ S = (Fa ρ S).bind (opRev m) := rfl
@[simp] theorem e_fld {f : Str} : fFld f Fa ρ S = (Fa ρ S).bind (opFld f) := rfl
@[simp] theorem e_mt {f : Mt} : fMt m f Fa Fs ρ S = (Fa ρ S).bind fun o S1 => if rcv o S1 = some f.ty then (Fs ρ S1).bind fun xs S2 => opMt m f o xs S2 else .st := rfl
@[simp] theorem e_call {g : List D → Sto → Res D} {n k : Nat} {arr : Arr} : fCall g n k arr Fs Fk ρ S = (Fs ρ S).bind fun ds S1 => (Fk ρ S1).bind fun es S2 => if ds.length = n ∧ es.length = k then g (arrD arr (ds ++ es)) S2 else .st := rfl
@[simp] theorem e_sli {lo hi : Option (Slots → Sto → Res D)} : fSli m Fa lo hi ρ S = (Fa ρ S).bind fun a S1 => (part lo ρ S1).bind fun l S2 => (part hi ρ S2).bind fun u S3 => opSli m a l u S3 := rfl
@[simp] theorem e_part0 : part none ρ S = .ok none S := rfl
@[simp] theorem e_part1 : part (some F) ρ S = (F ρ S).bind fun d S1 => match d with
  | .p (.int i) => .ok (some i) S1
  | _ => .st := rfl
@[simp] theorem e_chain {op op' : CmpOp} : fChain op op' Fa Fb Fc ρ S = (Fa ρ S).bind fun x S1 => (Fb ρ S1).bind fun y S2 => (opCmp op x y S2).bind fun z S3 => match z with
  | .p (.bool true) => (Fc ρ S3).bind fun w S4 => opCmp op' y w S4
  | .p (.bool false) => .ok (.b false) S3
  | _ => .st := rfl
@[simp] theorem s_seq {A B : Slots → Sto → Out} : sSeq A B ρ S = match A ρ S with
  | .nx ρ' S' => B ρ' S'
  | o => o := by unfold sSeq; cases A ρ S <;> rfl
@[simp] theorem s_nil : sNil ρ S = .nx ρ S := rfl
@[simp] theorem s_ret : sRet F ρ S = (F ρ S).out fun d S1 => .rt d S1 := rfl
@[simp] theorem s_exp : sExp F ρ S = (F ρ S).out fun _ S1 => .nx ρ S1 := rfl
@[simp] theorem s_if {A B : Slots → Sto → Out} : sIf Tc A B ρ S = (Tc ρ S).out fun k S1 => match k with
  | true => A ρ S1
  | false => B ρ S1 := rfl
@[simp] theorem s_asg {Gt : FT} : sAsg F Gt ρ S = (F ρ S).out fun d S1 => (Gt d ρ S1).out fun ρ' S2 => .nx ρ' S2 := rfl
@[simp] theorem s_par {i j : Nat} : sPar i j Fs ρ S = (Fs ρ S).out fun ds S1 => match ds with
  | [a, b] => .nx ((ρ.set i (some a)).set j (some b)) S1
  | _ => .st := rfl
@[simp] theorem s_par3 {i j l : Nat} : sPar3 i j l Fs ρ S = (Fs ρ S).out fun ds S1 => match ds with
  | [a, b, c] => .nx (((ρ.set i (some a)).set j (some b)).set l (some c)) S1
  | _ => .st := rfl
@[simp] theorem x_nm {i : Nat} {d : D} : tgNm i d ρ S = .ok (ρ.set i (some d)) S := rfl
@[simp] theorem x_sub {d : D} : tgSub Fa Fb d ρ S = (Fa ρ S).bind fun o S1 => (Fb ρ S1).bind fun i S2 => (opSet o i d S2).bind fun _ S3 => .ok ρ S3 := rfl
@[simp] theorem x_tup {X : List D → Slots → Sto → Res Slots} {d : D} : tgTup X d ρ S = match seqOf d S with
  | some xs => X xs ρ S
  | none => .st := rfl
@[simp] theorem x_nil {ds : List D} : tgNil ds ρ S = match ds with
  | [] => .ok ρ S
  | _ => .st := rfl
@[simp] theorem x_cons {A : FT} {B : List D → Slots → Sto → Res Slots} {ds : List D} : tgCons A B ds ρ S = match ds with
  | d :: ds => (A d ρ S).bind fun ρ' S' => B ds ρ' S'
  | _ => .st := rfl
end
/-! ### one statement after the other -/
section
variable {A B : Slots → Sto → Out} {ρ ρ' : Slots} {S S' : Sto} {r : Out} {Tc : Slots → Sto → Res Bool}
theorem seq_nx (h : A ρ S = .nx ρ' S') (h2 : B ρ' S' = r) : sSeq A B ρ S = r := by
  rw [s_seq, h]
  exact h2
theorem seq_rt {d : D} (h : A ρ S = .rt d S') : sSeq A B ρ S = .rt d S' := by rw [s_seq, h]
theorem if_t (h : Tc ρ S = .ok true S') : sIf Tc A B ρ S = A ρ S' := by
  rw [s_if, h]
  rfl
theorem if_f (h : Tc ρ S = .ok false S') : sIf Tc A B ρ S = B ρ S' := by
  rw [s_if, h]
  rfl
end
end Lb

set_option linter.all false
set_option maxRecDepth 100000
set_option maxHeartbeats 1000000
namespace Lb
open PySem PySem.Spec L2 Dl
/-! LibO: operators and functions at known values. -/
section
variable {S : Sto} {m : Bool} {a b i j : Int}
@[simp] theorem o_add : opBin .Add m (.p (.int a)) (.p (.int b)) S = .ok (.i (a + b)) S := rfl
@[simp] theorem o_sub : opBin .Sub m (.p (.int a)) (.p (.int b)) S = .ok (.i (a - b)) S := rfl
theorem o_mul (h : a.natAbs.log2 + b.natAbs.log2 < 1000000) : opBin .Mult m (.p (.int a)) (.p (.int b)) S = .ok (.i (a * b)) S := if_pos h
theorem lg {n k : Nat} (h : n < 2 ^ k) : n.log2 < k ∨ n = 0 := by
  by_cases z : n = 0
  · exact .inr z
  · exact .inl ((Nat.log2_lt z).mpr h)
theorem lg' {n k : Nat} (h : n < 2 ^ k) : n.log2 ≤ k := by
  rcases lg h with z | z
  · omega
  · subst z; simp
/-- both below 2^400000 -/
theorem o_mulB {k : Nat} (ha : a.natAbs < 2 ^ k) (hb : b.natAbs < 2 ^ k) (hk : k ≤ 400000) : opBin .Mult m (.p (.int a)) (.p (.int b)) S = .ok (.i (a * b)) S :=
  o_mul (by have h1 := lg' ha; have h2 := lg' hb; omega)
theorem o_mul6 (ha : -(2 ^ 64) < a ∧ a < 2 ^ 64) (hb : -(2 ^ 64) < b ∧ b < 2 ^ 64) : opBin .Mult m (.p (.int a)) (.p (.int b)) S = .ok (.i (a * b)) S :=
  o_mulB (k := 64) (by omega) (by omega) (by omega)
theorem o_mod (h : 0 < b) : opBin .Mod m (.p (.int a)) (.p (.int b)) S = .ok (.i (a % b)) S := if_pos h
theorem o_div (h : 0 < b) (h2 : b < 2 ^ 64) : opBin .FloorDiv m (.p (.int a)) (.p (.int b)) S = .ok (.i (a / b)) S := if_pos ⟨h, by
  have : b.natAbs < 2 ^ 64 := by omega
  have := lg' this
  omega⟩
theorem o_pow (h : 0 ≤ b ∧ b ≤ 1000000) (h2 : a.natAbs < 2 ^ 64) : opBin .Pow m (.p (.int a)) (.p (.int b)) S = .ok (.i (a ^ b.toNat)) S := if_pos ⟨h.1, h.2, h2⟩
@[simp] theorem o_lt : opCmp .Lt (.p (.int a)) (.p (.int b)) S = .ok (.b (decide (a < b))) S := rfl
@[simp] theorem o_le : opCmp .LtE (.p (.int a)) (.p (.int b)) S = .ok (.b (decide (a ≤ b))) S := rfl
@[simp] theorem o_gt : opCmp .Gt (.p (.int a)) (.p (.int b)) S = .ok (.b (decide (b < a))) S := rfl
@[simp] theorem o_ge : opCmp .GtE (.p (.int a)) (.p (.int b)) S = .ok (.b (decide (b ≤ a))) S := rfl
theorem o_eqP {x y : PyData} (h1 : SeqAt.shaped x = true) (h2 : SeqAt.shaped y = true) (nx : ∀ s, x ≠ .str s) : opCmp .Eq (.p x) (.p y) S = .ok (.b (PyData.eqv x y)) S := by
  show opEq false (.p x) (.p y) S = _
  unfold opEq
  split
  · rename_i e _
    cases e
    exact absurd rfl (nx _)
  · simp [asP, h1, h2]
theorem o_neP {x y : PyData} (h1 : SeqAt.shaped x = true) (h2 : SeqAt.shaped y = true) (nx : ∀ s, x ≠ .str s) : opCmp .NotEq (.p x) (.p y) S = .ok (.b (!PyData.eqv x y)) S := by
  show opEq true (.p x) (.p y) S = _
  unfold opEq
  split
  · rename_i e _
    cases e
    exact absurd rfl (nx _)
  · simp [asP, h1, h2]
theorem sh_int : SeqAt.shaped (.int a) = true := by simp [SeqAt.shaped, PyData.canLay0, PyData.depth]
@[simp] theorem o_eqI : opCmp .Eq (.p (.int a)) (.p (.int b)) S = .ok (.b (decide (a = b))) S := by
  rw [o_eqP sh_int sh_int (fun s z => nomatch z)]
  simp [PyData.eqv, BEq.beq]
@[simp] theorem o_neI : opCmp .NotEq (.p (.int a)) (.p (.int b)) S = .ok (.b (!decide (a = b))) S := by
  rw [o_neP sh_int sh_int (fun s z => nomatch z)]
  simp [PyData.eqv, BEq.beq]
@[simp] theorem o_eqS {x y : Str} : opCmp .Eq (.p (.str x)) (.p (.str y)) S = .ok (.b (decide (x = y))) S := by simp [opCmp, opEq]
@[simp] theorem o_neS {x y : Str} : opCmp .NotEq (.p (.str x)) (.p (.str y)) S = .ok (.b (!decide (x = y))) S := by simp [opCmp, opEq]
@[simp] theorem o_isN {x : D} : opCmp .Is x (.p .none) S = .ok (.b (isNoneP x)) S := by simp [opCmp, opIs]
@[simp] theorem o_isnotN {x : D} : opCmp .IsNot x (.p .none) S = .ok (.b (!isNoneP x)) S := by simp [opCmp, opIs]
@[simp] theorem isN_none : isNoneP (.p .none) = true := rfl
@[simp] theorem isN_int : isNoneP (.p (.int a)) = false := rfl
/-! indexing -/
theorem ix_nat {n k : Nat} (h : k < n) : ixN n (k : Int) = some k := by
  unfold ixN
  rw [if_pos (by omega), if_pos (by omega)]
  simp
theorem atI_nat {α : Type} {xs : List α} {k : Nat} (h : k < xs.length) : atI xs (k : Int) = xs[k]? := by
  unfold L2.atI
  rw [ix_nat h]
  rfl
theorem o_idx {x : D} {xs : List D} {k : Nat} {d : D} (h : seqOf x S = some xs) (nd : dctOf x S = none) (e : xs[k]? = some d) : opIdx x (.p (.int (k : Int))) S = .ok d S := by
  have hk : k < xs.length := (List.getElem?_eq_some_iff.mp e).1
  simp [opIdx, nd, h, atI_nat hk, e]
@[simp] theorem dct_p {d : PyData} : dctOf (.p d) S = none := rfl
theorem o_idxT {ds : List PyData} {k : Nat} {d : PyData} (e : ds[k]? = some d) : opIdx (.p (.tuple ds)) (.p (.int (k : Int))) S = .ok (.p d) S :=
  o_idx (xs := ds.map D.p) rfl rfl (by simp [e])
theorem o_idxL {ds : List PyData} {k : Nat} {d : PyData} (e : ds[k]? = some d) : opIdx (.p (.list ds)) (.p (.int (k : Int))) S = .ok (.p d) S :=
  o_idx (xs := ds.map D.p) rfl rfl (by simp [e])
@[simp] theorem o_idx0 {d : PyData} {ds : List PyData} : opIdx (.p (.tuple (d :: ds))) (.p (.int 0)) S = .ok (.p d) S := o_idxT (k := 0) rfl
@[simp] theorem o_idx1 {c d : PyData} {ds : List PyData} : opIdx (.p (.tuple (c :: d :: ds))) (.p (.int 1)) S = .ok (.p d) S := o_idxT (k := 1) rfl
@[simp] theorem o_idxL0 {d : PyData} {ds : List PyData} : opIdx (.p (.list (d :: ds))) (.p (.int 0)) S = .ok (.p d) S := o_idxL (k := 0) rfl
theorem flat_ints : ∀ ns : List Int, (ns.map PyData.int).all flatP = true
  | [] => rfl
  | n :: ns => by simp only [List.map_cons, List.all_cons, flatP, Bool.true_and]; exact flat_ints ns
theorem any_ints (x : Int) : ∀ ns : List Int, ((ns.map PyData.int).any fun z => PyData.eqv z (.int x)) = decide (x ∈ ns)
  | [] => by simp
  | n :: ns => by
    simp only [List.map_cons, List.any_cons, any_ints x ns, PyData.eqv, List.mem_cons]
    by_cases h : n = x
    · subst h; simp
    · have h' : ¬ x = n := fun z => h z.symm
      simp [h, h', BEq.beq]
theorem o_inT {x : Int} (ns : List Int) : opCmp .In (.p (.int x)) (.p (.tuple (ns.map PyData.int))) S = .ok (.b (decide (x ∈ ns))) S := by
  show opIn false (.p (.int x)) (.p (.tuple (ns.map PyData.int))) S = _
  unfold opIn
  simp only [dct_p]
  rw [if_pos ⟨rfl, flat_ints ns⟩, any_ints]
  simp
theorem o_ninT {x : Int} (ns : List Int) : opCmp .NotIn (.p (.int x)) (.p (.tuple (ns.map PyData.int))) S = .ok (.b (!decide (x ∈ ns))) S := by
  show opIn true (.p (.int x)) (.p (.tuple (ns.map PyData.int))) S = _
  unfold opIn
  simp only [dct_p]
  rw [if_pos ⟨rfl, flat_ints ns⟩, any_ints]
  simp
/-! functions -/
@[simp] theorem b_lenT {ds : List PyData} : opBn m .len [.p (.tuple ds)] S = .ok (.i ds.length) S := by simp [opBn, lenD]
@[simp] theorem b_lenL {ds : List PyData} : opBn m .len [.p (.list ds)] S = .ok (.i ds.length) S := by simp [opBn, lenD]
@[simp] theorem b_int : opBn m .int [.p (.int a)] S = .ok (.i a) S := rfl
@[simp] theorem b_intB {k : Bool} : opBn m .int [.p (.bool k)] S = .ok (.i (if k then 1 else 0)) S := rfl
@[simp] theorem b_max : opBn m .mx [.p (.int a), .p (.int b)] S = .ok (.i (if b > a then b else a)) S := rfl
@[simp] theorem b_tupL {ds : List PyData} : opBn m .tup [.p (.list ds)] S = .ok (.p (.tuple ds)) S := by simp [opBn]
@[simp] theorem b_tupT {ds : List PyData} : opBn m .tup [.p (.tuple ds)] S = .ok (.p (.tuple ds)) S := by simp [opBn]
@[simp] theorem b_lstT {ds : List PyData} : opBn false .lst [.p (.tuple ds)] S = .ok (.p (.list ds)) S := by simp [opBn]
@[simp] theorem b_lstL {ds : List PyData} : opBn false .lst [.p (.list ds)] S = .ok (.p (.list ds)) S := by simp [opBn]
theorem ints_p : ∀ ns : List Int, intsOf ((ns.map PyData.int).map D.p) = some ns
  | [] => rfl
  | n :: ns => by simp only [List.map_cons, intsOf, ints_p ns]; rfl
theorem bools_p : ∀ ns : List Bool, boolsOf ((ns.map PyData.bool).map D.p) = some ns
  | [] => rfl
  | n :: ns => by simp only [List.map_cons, boolsOf, bools_p ns]; rfl
@[simp] theorem b_sum {ns : List Int} : opBn m .sum [.p (.list (ns.map PyData.int))] S = .ok (.i ns.sum) S := by simp only [opBn, lstOf_list, Option.bind_some, ints_p]
@[simp] theorem b_all {ns : List Bool} : opBn m .all [.p (.list (ns.map PyData.bool))] S = .ok (.b (ns.all id)) S := by simp only [opBn, lstOf_list, Option.bind_some, bools_p]
theorem b_repr {x : PyData} (h1 : x.showable = true) (h2 : x.shown.length ≤ sizeLine) (h3 : x.depth ≤ 150) : opBn m .repr [.p x] S = .ok (.s x.shown) S := by simp [opBn, asP, h1, h2, h3]
@[simp] theorem o_isi {T : Ty} {d : PyData} : opIsi T (.p d) S = .ok (.b ((tyP d).sub T)) S := rfl
end
/-! ### comprehensions over what stays -/
theorem lc_loop {t : Tg} {ρ : Slots} {Tt : Slots → Sto → Res Bool} {Fe : Slots → Sto → Res D} {w : List (Nat × List D)} {S : Sto} (hw : Wat w S) (f : D → D) (c : D → Bool) :
    ∀ (xs acc : List D), acc.length + xs.length ≤ sizeLine → (∀ x ∈ xs, ∃ ρ', setT t x ρ = some ρ' ∧ Tt ρ' S = .ok (c x) S ∧ (c x = true → Fe ρ' S = .ok (f x) S)) → lcLoop w t ρ Tt Fe xs acc S = .ok (acc ++ (xs.filter c).map f) S
  | [], acc, _, _ => by unfold lcLoop; rw [if_pos hw]; simp
  | x :: xs, acc, hz, h => by
    obtain ⟨ρ', e1, e2, e3⟩ := h x (by simp)
    unfold lcLoop
    rw [if_pos hw]
    simp only [e1, e2, Dl.Res.nx, bind_ok]
    simp only [List.length_cons] at hz
    cases q : c x with
    | false =>
      have := lc_loop hw f c xs acc (by omega) fun y hy => h y (by simp [hy])
      simp [q, this]
    | true =>
      have := lc_loop hw f c xs (acc ++ [f x]) (by simp; omega) fun y hy => h y (by simp [hy])
      have e4 := e3 q
      have lt : acc.length < sizeLine := by omega
      simp [e4, lt, this, q]
/-- a comprehension whose items are frozen -/
theorem lc_p {t : Tg} {own : List Nat} {ρ : Slots} {Fi : Slots → Sto → Res Src} {Tt : Slots → Sto → Res Bool} {Fe : Slots → Sto → Res D} {w : List (Nat × List D)} {S : Sto} {xs : List D} (f : D → PyData) (c : D → Bool)
    (hi : Fi ρ S = .ok ⟨xs, w⟩ S) (hw : Wat w S) (hz : xs.length ≤ sizeLine) (h : ∀ x ∈ xs, ∃ ρ', setT t x (wipeD ρ own) = some ρ' ∧ Tt ρ' S = .ok (c x) S ∧ (c x = true → Fe ρ' S = .ok (.p (f x)) S)) :
    fLc false Fi t own Tt Fe ρ S = .ok (.p (.list ((xs.filter c).map f))) S := by
  have := lc_loop hw (fun x => .p (f x)) c xs [] (by simpa using hz) h
  unfold fLc
  rw [hi]
  simp only [bind_ok, this, List.nil_append]
  have e : (xs.filter c).map (fun x => D.p (f x)) = ((xs.filter c).map f).map D.p := by simp
  rw [e, mkL_map]
/-- without a test -/
theorem lc_m {t : Tg} {own : List Nat} {ρ : Slots} {Fi : Slots → Sto → Res Src} {Fe : Slots → Sto → Res D} {w : List (Nat × List D)} {S : Sto} {xs : List D} (f : D → PyData)
    (hi : Fi ρ S = .ok ⟨xs, w⟩ S) (hw : Wat w S) (hz : xs.length ≤ sizeLine) (h : ∀ x ∈ xs, ∃ ρ', setT t x (wipeD ρ own) = some ρ' ∧ Fe ρ' S = .ok (.p (f x)) S) :
    fLc false Fi t own fYes Fe ρ S = .ok (.p (.list (xs.map f))) S := by
  have := lc_p (Tt := fYes) f (fun _ => true) hi hw hz fun x hx => let ⟨ρ', e1, e2⟩ := h x hx; ⟨ρ', e1, rfl, fun _ => e2⟩
  rwa [List.filter_eq_self.mpr fun _ _ => rfl] at this
end Lb

set_option linter.all false
set_option maxRecDepth 100000
/-! LibB: bodies of defs, printed by bodies.py (law-specific ones left out). -/
namespace Lb
open PySem Dl
/-- _law_are_sums_right(p, n, a, b, c) 9 names -/
def B__law_are_sums_right : Sms := (.cons (.par 7 8 (.cons (.idx (.var 2) (.c (.int 1))) (.cons (.idx (.var 3) (.c (.int 1))) .nil))) (.cons (.asg (.nm 5) (.tup (.cons (.call (Str.ofString "_law_each") [.inl 0, .inl 1, .inl 2, .inl 3] (.cons (.var 0) (.cons (.var 7) (.cons (.var 8) (.cons (.c (.int 1)) .nil)))) .nil) (.cons (.call (Str.ofString "_law_each") [.inl 0, .inl 1, .inl 2, .inl 3] (.cons (.var 0) (.cons (.var 7) (.cons (.var 8) (.cons (.neg (.c (.int 1))) .nil)))) .nil) (.cons (.call (Str.ofString "_law_each") [.inl 0, .inl 1, .inl 2, .inl 3] (.cons (.var 0) (.cons (.call (Str.ofString "_law_unit") [.inl 0, .inl 1] (.cons (.var 1) (.cons (.c (.int 0)) .nil)) .nil) (.cons (.var 7) (.cons (.var 4) .nil)))) .nil) .nil))))) (.cons (.ite (.cmp .NotEq (.bn false .repr (.cons (.tup (.cons (.call (Str.ofString "added") [.inl 0, .inl 1] (.cons (.var 2) (.cons (.var 3) .nil)) .nil) (.cons (.call (Str.ofString "taken") [.inl 0, .inl 1] (.cons (.var 2) (.cons (.var 3) .nil)) .nil) (.cons (.call (Str.ofString "times") [.inl 0, .inl 1] (.cons (.var 2) (.cons (.var 4) .nil)) .nil) .nil)))) .nil)) (.bn false .repr (.cons (.var 5) .nil))) (.cons (.ret (.c (.bool false))) .nil) .nil) (.cons (.ite (.cmp .NotEq (.bn false .repr (.cons (.tup (.cons (.call (Str.ofString "added") [.inl 1, .inl 0] .nil (.cons (.var 3) (.cons (.var 2) .nil))) (.cons (.call (Str.ofString "taken") [.inl 1, .inl 0] .nil (.cons (.var 3) (.cons (.var 2) .nil))) (.cons (.call (Str.ofString "times") [.inl 1, .inl 0] .nil (.cons (.var 4) (.cons (.var 2) .nil))) .nil)))) .nil)) (.bn false .repr (.cons (.var 5) .nil))) (.cons (.ret (.c (.bool false))) .nil) .nil) (.cons (.asg (.nm 6) (.tup (.cons (.call (Str.ofString "mirror") [.inl 0] (.cons (.var 2) .nil) .nil) (.cons (.call (Str.ofString "mirror") [.inl 0] .nil (.cons (.call (Str.ofString "mirror") [.inl 0] (.cons (.var 2) .nil) .nil) .nil)) (.cons (.call (Str.ofString "diagonal_sum") [.inl 0] (.cons (.var 2) .nil) .nil) (.cons (.call (Str.ofString "diagonal_sum") [.inl 0] .nil (.cons (.var 3) .nil)) (.cons (.call (Str.ofString "added") [.inl 0, .inl 1] (.cons (.var 2) (.cons (.call (Str.ofString "times") [.inl 0, .inl 1] (.cons (.var 3) (.cons (.bin .Sub false (.var 0) (.c (.int 1))) .nil)) .nil) .nil)) .nil) (.cons (.call (Str.ofString "taken") [.inl 0, .inl 1] (.cons (.var 2) (.cons (.var 2) .nil)) .nil) .nil)))))))) (.cons (.ret (.cmp .Eq (.bn false .repr (.cons (.var 6) .nil)) (.bn false .repr (.cons (.tup (.cons (.tup (.cons (.var 0) (.cons (.call (Str.ofString "_law_mirror") [.inl 0] (.cons (.var 7) .nil) .nil) .nil))) (.cons (.var 2) (.cons (.call (Str.ofString "_law_sum") [.inl 0, .inl 1] (.cons (.var 0) (.cons (.var 7) .nil)) .nil) (.cons (.call (Str.ofString "_law_sum") [.inl 0, .inl 1] (.cons (.var 0) (.cons (.var 8) .nil)) .nil) (.cons (.idx (.var 5) (.c (.int 1))) (.cons (.call (Str.ofString "zero") [.inl 0, .inl 1] (.cons (.var 0) (.cons (.var 1) .nil)) .nil) .nil))))))) .nil)))) .nil))))))
/-- _law_are_products_right(deck, p, n, a, b, c) 15 names -/
def B__law_are_products_right : Sms := (.cons (.asg (.tup (.cons (.nm 8) (.cons (.nm 9) .nil))) (.tup (.cons (.tup (.cons (.var 1) (.cons (.call (Str.ofString "_law_by") [.inl 0, .inl 1, .inl 2] (.cons (.var 1) (.cons (.idx (.var 3) (.c (.int 1))) (.cons (.idx (.var 4) (.c (.int 1))) .nil))) .nil) .nil))) (.cons (.call (Str.ofString "_law_draw") [.inl 0, .inl 1] (.cons (.var 0) (.cons (.var 1) .nil)) .nil) .nil)))) (.cons (.ite (.cmp .NotEq (.bn false .repr (.cons (.tup (.cons (.call (Str.ofString "product") [.inl 0, .inl 1] (.cons (.var 3) (.cons (.var 4) .nil)) .nil) (.cons (.call (Str.ofString "product") [.inl 1, .inl 0] .nil (.cons (.var 4) (.cons (.var 3) .nil))) (.cons (.call (Str.ofString "product") [.inl 0, .inl 1] (.cons (.var 8) (.cons (.var 5) .nil)) .nil) .nil)))) .nil)) (.bn false .repr (.cons (.tup (.cons (.var 8) (.cons (.var 8) (.cons (.call (Str.ofString "product") [.inl 0, .inl 1] (.cons (.var 3) (.cons (.call (Str.ofString "product") [.inl 0, .inl 1] (.cons (.var 4) (.cons (.var 5) .nil)) .nil) .nil)) .nil) .nil)))) .nil))) (.cons (.ret (.c (.bool false))) .nil) .nil) (.cons (.ite (.cmp .NotEq (.bn false .repr (.cons (.call (Str.ofString "product") [.inl 0, .inl 1] (.cons (.var 3) (.cons (.call (Str.ofString "added") [.inl 0, .inl 1] (.cons (.var 4) (.cons (.var 5) .nil)) .nil) .nil)) .nil) .nil)) (.bn false .repr (.cons (.call (Str.ofString "added") [.inl 0, .inl 1] (.cons (.var 8) (.cons (.call (Str.ofString "product") [.inl 0, .inl 1] (.cons (.var 3) (.cons (.var 5) .nil)) .nil) .nil)) .nil) .nil))) (.cons (.ret (.c (.bool false))) .nil) .nil) (.cons (.ite (.cmp .NotEq (.bn false .repr (.cons (.call (Str.ofString "product") [.inl 0, .inl 1] (.cons (.call (Str.ofString "added") [.inl 0, .inl 1] (.cons (.var 4) (.cons (.var 5) .nil)) .nil) (.cons (.var 3) .nil)) .nil) .nil)) (.bn false .repr (.cons (.call (Str.ofString "added") [.inl 0, .inl 1] (.cons (.call (Str.ofString "product") [.inl 0, .inl 1] (.cons (.var 4) (.cons (.var 3) .nil)) .nil) (.cons (.call (Str.ofString "product") [.inl 0, .inl 1] (.cons (.var 5) (.cons (.var 3) .nil)) .nil) .nil)) .nil) .nil))) (.cons (.ret (.c (.bool false))) .nil) .nil) (.cons (.ite (.cmp .NotEq (.bn false .repr (.cons (.tup (.cons (.call (Str.ofString "product") [.inl 0, .inl 1] (.cons (.call (Str.ofString "times") [.inl 0, .inl 1] (.cons (.var 3) (.cons (.var 9) .nil)) .nil) (.cons (.var 4) .nil)) .nil) (.cons (.call (Str.ofString "mirror") [.inl 0] (.cons (.var 8) .nil) .nil) .nil))) .nil)) (.bn false .repr (.cons (.tup (.cons (.call (Str.ofString "times") [.inl 0, .inl 1] (.cons (.var 8) (.cons (.var 9) .nil)) .nil) (.cons (.call (Str.ofString "product") [.inl 0, .inl 1] (.cons (.call (Str.ofString "mirror") [.inl 0] (.cons (.var 4) .nil) .nil) (.cons (.call (Str.ofString "mirror") [.inl 0] (.cons (.var 3) .nil) .nil) .nil)) .nil) .nil))) .nil))) (.cons (.ret (.c (.bool false))) .nil) .nil) (.cons (.par 10 11 (.cons (.call (Str.ofString "one") [.inl 0, .inl 1] (.cons (.var 1) (.cons (.var 2) .nil)) .nil) (.cons (.call (Str.ofString "zero") [.inl 1, .inl 0] .nil (.cons (.var 2) (.cons (.var 1) .nil))) .nil))) (.cons (.ite (.cmp .NotEq (.bn false .repr (.cons (.tup (.cons (.call (Str.ofString "product") [.inl 0, .inl 1] (.cons (.var 3) (.cons (.var 10) .nil)) .nil) (.cons (.call (Str.ofString "product") [.inl 0, .inl 1] (.cons (.var 10) (.cons (.var 3) .nil)) .nil) (.cons (.call (Str.ofString "product") [.inl 0, .inl 1] (.cons (.var 3) (.cons (.var 11) .nil)) .nil) .nil)))) .nil)) (.bn false .repr (.cons (.tup (.cons (.var 3) (.cons (.var 3) (.cons (.var 11) .nil)))) .nil))) (.cons (.ret (.c (.bool false))) .nil) .nil) (.cons (.for_ (.nm 6) (.r1 (.c (.int 2))) (.cons (.asg (.nm 12) (.call (Str.ofString "_law_row") [.inl 0, .inl 1, .inl 2] (.cons (.var 0) (.cons (.var 1) (.cons (.var 2) .nil))) .nil)) (.cons (.asg (.nm 13) (.call (Str.ofString "_law_led") [.inl 0, .inl 1, .inl 2] (.cons (.var 1) (.cons (.idx (.var 3) (.c (.int 1))) (.cons (.var 12) .nil))) .nil)) (.cons (.asg (.nm 14) (.tup (.cons (.call (Str.ofString "led") [.inl 0, .inl 1] (.cons (.var 3) (.cons (.var 12) .nil)) .nil) (.cons (.call (Str.ofString "led") [.inl 1, .inl 0] .nil (.cons (.var 12) (.cons (.var 3) .nil))) (.cons (.call (Str.ofString "led") [.inl 0, .inl 1] (.cons (.var 4) (.cons (.var 13) .nil)) .nil) (.cons (.call (Str.ofString "led") [.inl 0, .inl 1] (.cons (.var 8) (.cons (.var 12) .nil)) .nil) .nil)))))) (.cons (.ite (.cmp .NotEq (.bn false .repr (.cons (.var 14) .nil)) (.bn false .repr (.cons (.tup (.cons (.var 13) (.cons (.var 13) (.cons (.call (Str.ofString "_law_led") [.inl 0, .inl 1, .inl 2] (.cons (.var 1) (.cons (.idx (.var 4) (.c (.int 1))) (.cons (.var 13) .nil))) .nil) (.cons (.call (Str.ofString "_law_led") [.inl 0, .inl 1, .inl 2] (.cons (.var 1) (.cons (.idx (.var 4) (.c (.int 1))) (.cons (.var 13) .nil))) .nil) .nil))))) .nil))) (.cons (.ret (.c (.bool false))) .nil) .nil) .nil))))) (.cons (.asg (.nm 7) (.bn false .tup (.cons (.lc false (.seq (.idx (.var 10) (.c (.int 1)))) (.nm 12) [((Str.ofString "row"), 12)] .no (.call (Str.ofString "led") [.inl 0, .inl 1] (.cons (.var 8) (.cons (.var 12) .nil)) .nil)) .nil))) (.cons (.ret (.and (.cmp .Eq (.bn false .repr (.cons (.tup (.cons (.var 1) (.cons (.var 7) .nil))) .nil)) (.bn false .repr (.cons (.var 8) .nil))) (.cons (.cmp .Eq (.bn false .repr (.cons (.call (Str.ofString "diagonal_sum") [.inl 0] (.cons (.var 8) .nil) .nil) .nil)) (.bn false .repr (.cons (.call (Str.ofString "diagonal_sum") [.inl 0] (.cons (.call (Str.ofString "product") [.inl 0, .inl 1] (.cons (.var 4) (.cons (.var 3) .nil)) .nil) .nil) .nil) .nil))) .nil))) .nil))))))))))
/-- _law_drawn(deck, p, n) 12 names -/
def B__law_drawn : Sms := (.cons (.par 4 5 (.cons (.call (Str.ofString "_law_draw") [.inl 0, .inl 1] (.cons (.var 0) (.cons (.c (.int 9)) .nil)) .nil) (.cons (.call (Str.ofString "_law_draw") [.inl 0, .inl 1] (.cons (.var 0) (.cons (.var 1) .nil)) .nil) .nil))) (.cons (.ite (.cmp .Eq (.var 4) (.c (.int 0))) (.cons (.ret (.call (Str.ofString "_law_unit") [.inl 0, .inl 1] (.cons (.var 2) (.cons (.var 5) .nil)) .nil)) .nil) .nil) (.cons (.ite (.cmp .Eq (.var 4) (.c (.int 1))) (.cons (.ret (.idx (.call (Str.ofString "_law_undoable") [.inl 0, .inl 1, .inl 2] (.cons (.var 0) (.cons (.var 1) (.cons (.var 2) .nil))) .nil) (.c (.int 0)))) .nil) .nil) (.cons (.ite (.cmp .Eq (.var 4) (.c (.int 2))) (.cons (.asg (.nm 6) (.call (Str.ofString "_law_draw") [.inl 0, .inl 1] (.cons (.var 0) (.cons (.bin .Add false (.var 2) (.c (.int 1))) .nil)) .nil)) (.cons (.asg (.nm 7) (.bn false .tup (.cons (.lc false (.r1 (.var 2)) (.nm 10) [((Str.ofString "i"), 10)] .no (.bn false .tup (.cons (.lc false (.r1 (.var 2)) (.nm 11) [((Str.ofString "j"), 11)] .no (.ite (.cmp .Lt (.var 11) (.var 6)) (.call (Str.ofString "_law_draw") [.inl 0, .inl 1] (.cons (.var 0) (.cons (.var 1) .nil)) .nil) (.c (.int 0)))) .nil))) .nil))) (.cons (.ret (.call (Str.ofString "_law_by") [.inl 0, .inl 1, .inl 2] (.cons (.var 1) (.cons (.var 7) (.cons (.bn false .tup (.cons (.lc false (.r1 (.var 2)) (.nm 10) [((Str.ofString "i"), 10)] .no (.bn false .tup (.cons (.lc false (.r1 (.var 2)) (.nm 11) [((Str.ofString "j"), 11)] .no (.call (Str.ofString "_law_draw") [.inl 0, .inl 1] (.cons (.var 0) (.cons (.var 1) .nil)) .nil)) .nil))) .nil)) .nil))) .nil)) .nil))) .nil) (.cons (.asg (.nm 3) (.lc true (.seq (.call (Str.ofString "_law_unit") [.inl 0, .inl 1] (.cons (.var 2) (.cons (.var 5) .nil)) .nil)) (.nm 9) [((Str.ofString "row"), 9)] .no (.bn true .lst (.cons (.var 9) .nil)))) (.cons (.ite (.cmp .Eq (.var 4) (.c (.int 3))) (.cons (.for_ (.nm 8) (.r1 (.bin .Add false (.c (.int 1)) (.call (Str.ofString "_law_draw") [.inl 0, .inl 1] (.cons (.var 0) (.cons (.c (.int 3)) .nil)) .nil))) (.cons (.par 10 11 (.cons (.call (Str.ofString "_law_draw") [.inl 0, .inl 1] (.cons (.var 0) (.cons (.var 2) .nil)) .nil) (.cons (.call (Str.ofString "_law_draw") [.inl 0, .inl 1] (.cons (.var 0) (.cons (.var 2) .nil)) .nil) .nil))) (.cons (.asg (.sub (.idx (.var 3) (.var 10)) (.var 11)) (.call (Str.ofString "_law_draw") [.inl 0, .inl 1] (.cons (.var 0) (.cons (.var 1) .nil)) .nil)) .nil))) (.cons (.ret (.bn false .tup (.cons (.lc false (.seq (.var 3)) (.nm 9) [((Str.ofString "row"), 9)] .no (.bn false .tup (.cons (.var 9) .nil))) .nil))) .nil)) .nil) (.cons (.ite (.cmp .Eq (.var 4) (.c (.int 4))) (.cons (.ret (.bn false .tup (.cons (.lc false (.r1 (.var 2)) (.nm 10) [((Str.ofString "i"), 10)] .no (.bn false .tup (.cons (.lc false (.r1 (.var 2)) (.nm 11) [((Str.ofString "j"), 11)] .no (.ite (.cmp .Gt (.var 11) (.var 10)) (.call (Str.ofString "_law_draw") [.inl 0, .inl 1] (.cons (.var 0) (.cons (.var 1) .nil)) .nil) (.ite (.cmp .Eq (.var 10) (.var 11)) (.idx (.idx (.var 3) (.c (.int 0))) (.c (.int 0))) (.c (.int 0))))) .nil))) .nil))) .nil) .nil) (.cons (.ite (.cmp .Eq (.var 4) (.c (.int 5))) (.cons (.ret (.bn false .tup (.cons (.lc false (.r1 (.var 2)) (.nm 10) [((Str.ofString "i"), 10)] .no (.bn false .tup (.cons (.lc false (.r1 (.var 2)) (.nm 11) [((Str.ofString "j"), 11)] .no (.ite (.cmp .Eq (.call (Str.ofString "_law_draw") [.inl 0, .inl 1] (.cons (.var 0) (.cons (.c (.int 4)) .nil)) .nil) (.c (.int 0))) (.call (Str.ofString "_law_draw") [.inl 0, .inl 1] (.cons (.var 0) (.cons (.var 1) .nil)) .nil) (.c (.int 0)))) .nil))) .nil))) .nil) .nil) (.cons (.ret (.bn false .tup (.cons (.lc false (.r1 (.var 2)) (.nm 10) [((Str.ofString "i"), 10)] .no (.bn false .tup (.cons (.lc false (.r1 (.var 2)) (.nm 11) [((Str.ofString "j"), 11)] .no (.call (Str.ofString "_law_draw") [.inl 0, .inl 1] (.cons (.var 0) (.cons (.var 1) .nil)) .nil)) .nil))) .nil))) .nil)))))))))
/-- _law_pick(deck, some) 2 names -/
def B__law_pick : Sms := (.cons (.ret (.idx (.var 1) (.call (Str.ofString "_law_draw") [.inl 0, .inl 1] (.cons (.var 0) (.cons (.bn false .len (.cons (.var 1) .nil)) .nil)) .nil))) .nil)
/-- _law_mirror(rows) 3 names -/
def B__law_mirror : Sms := (.cons (.ret (.bn false .tup (.cons (.lc false (.r1 (.bn false .len (.cons (.var 0) .nil))) (.nm 1) [((Str.ofString "j"), 1)] .no (.bn false .tup (.cons (.lc false (.seq (.var 0)) (.nm 2) [((Str.ofString "row"), 2)] .no (.idx (.var 2) (.var 1))) .nil))) .nil))) .nil)
/-- _law_sum(p, rows) 4 names -/
def B__law_sum : Sms := (.cons (.ret (.bin .Mod false (.bn false .int (.cons (.bn false .sum (.cons (.lc false (.enum (.var 1)) (.tp (.cons (.nm 2) (.cons (.nm 3) .nil))) [((Str.ofString "i"), 2), ((Str.ofString "row"), 3)] .no (.idx (.var 3) (.var 2))) .nil)) .nil)) (.var 0))) .nil)
/-- zero(p, n) 2 names -/
def B_zero : Sms := (.cons (.ret (.call (Str.ofString "table_times") [.inl 0, .inl 1] (.cons (.call (Str.ofString "one") [.inl 0, .inl 1] (.cons (.var 0) (.cons (.var 1) .nil)) .nil) (.cons (.c (.int 0)) .nil)) .nil)) .nil)
/-- mirror(table) 1 names -/
def B_mirror : Sms := (.cons (.exp (.call (Str.ofString "need_table") [.inl 0] (.cons (.var 0) .nil) .nil)) (.cons (.ret (.call (Str.ofString "mirrored") [.inl 0] (.cons (.var 0) .nil) .nil)) .nil))
/-- diagonal_sum(table) 1 names -/
def B_diagonal_sum : Sms := (.cons (.exp (.call (Str.ofString "need_table") [.inl 0] (.cons (.var 0) .nil) .nil)) (.cons (.ret (.call (Str.ofString "sum_along") [.inl 0] (.cons (.var 0) .nil) .nil)) .nil))
/-- added(one, other) 2 names -/
def B_added : Sms := (.cons (.exp (.call (Str.ofString "need_fellows") [.inl 0, .inl 1] (.cons (.var 0) (.cons (.var 1) .nil)) .nil)) (.cons (.ret (.call (Str.ofString "table_sum") [.inl 0, .inl 1, .inr (.int 1)] (.cons (.var 0) (.cons (.var 1) .nil)) .nil)) .nil))
/-- times(table, number) 2 names -/
def B_times : Sms := (.cons (.exp (.call (Str.ofString "need_table") [.inl 0] (.cons (.var 0) .nil) .nil)) (.cons (.exp (.call (Str.ofString "need_integer") [.inl 0, .inl 1, .inl 2] (.cons (.var 1) (.cons (.c (.int 0)) (.cons (.bin .Sub false (.idx (.var 0) (.c (.int 0))) (.c (.int 1))) .nil))) .nil)) (.cons (.ret (.call (Str.ofString "table_times") [.inl 0, .inl 1] (.cons (.var 0) (.cons (.var 1) .nil)) .nil)) .nil)))
/-- taken(one, other) 2 names -/
def B_taken : Sms := (.cons (.exp (.call (Str.ofString "need_fellows") [.inl 0, .inl 1] (.cons (.var 0) (.cons (.var 1) .nil)) .nil)) (.cons (.ret (.call (Str.ofString "table_sum") [.inl 0, .inl 1, .inl 2] (.cons (.var 0) (.cons (.var 1) (.cons (.neg (.c (.int 1))) .nil))) .nil)) .nil))
/-- _law_each(p, first, second, k) 8 names -/
def B__law_each : Sms := (.cons (.ret (.tup (.cons (.var 0) (.cons (.bn false .tup (.cons (.lc false (.zip (.var 1) (.var 2)) (.tp (.cons (.nm 4) (.cons (.nm 5) .nil))) [((Str.ofString "row"), 4), ((Str.ofString "near"), 5)] .no (.bn false .tup (.cons (.lc false (.zip (.var 4) (.var 5)) (.tp (.cons (.nm 6) (.cons (.nm 7) .nil))) [((Str.ofString "x"), 6), ((Str.ofString "y"), 7)] .no (.bin .Mod false (.bn false .int (.cons (.bin .Add false (.var 6) (.bin .Mult false (.var 3) (.var 7))) .nil)) (.var 0))) .nil))) .nil)) .nil)))) .nil)
/-- _law_unit(n, number) 4 names -/
def B__law_unit : Sms := (.cons (.ret (.bn false .tup (.cons (.lc false (.r1 (.var 0)) (.nm 2) [((Str.ofString "i"), 2)] .no (.bn false .tup (.cons (.lc false (.r1 (.var 0)) (.nm 3) [((Str.ofString "j"), 3)] .no (.ite (.cmp .Eq (.var 2) (.var 3)) (.var 1) (.c (.int 0)))) .nil))) .nil))) .nil)
/-- product(one, other) 2 names -/
def B_product : Sms := (.cons (.exp (.call (Str.ofString "need_fellows") [.inl 0, .inl 1] (.cons (.var 0) (.cons (.var 1) .nil)) .nil)) (.cons (.ret (.call (Str.ofString "table_product") [.inl 0, .inl 1] (.cons (.var 0) (.cons (.var 1) .nil)) .nil)) .nil))
/-- led(table, row) 2 names -/
def B_led : Sms := (.cons (.exp (.call (Str.ofString "need_table") [.inl 0] (.cons (.var 0) .nil) .nil)) (.cons (.ite (.not (.call (Str.ofString "is_row_value") [.inl 0, .inl 1, .inl 2] (.cons (.idx (.var 0) (.c (.int 0))) (.cons (.call (Str.ofString "size") [.inl 0] (.cons (.var 0) .nil) .nil) (.cons (.var 1) .nil))) .nil)) (.cons .none .nil) .nil) (.cons (.ret (.call (Str.ofString "row_led") [.inl 0, .inl 1] (.cons (.var 0) (.cons (.var 1) .nil)) .nil)) .nil)))
/-- _law_led(p, rows, row) 6 names -/
def B__law_led : Sms := (.cons (.ret (.bn false .tup (.cons (.lc false (.r1 (.bn false .len (.cons (.var 2) .nil))) (.nm 3) [((Str.ofString "j"), 3)] .no (.bin .Mod false (.bn false .int (.cons (.bn false .sum (.cons (.lc false (.zip (.var 2) (.var 1)) (.tp (.cons (.nm 4) (.cons (.nm 5) .nil))) [((Str.ofString "x"), 4), ((Str.ofString "some"), 5)] .no (.bin .Mult false (.var 4) (.idx (.var 5) (.var 3)))) .nil)) .nil)) (.var 0))) .nil))) .nil)
/-- _law_row(deck, p, n) 6 names -/
def B__law_row : Sms := (.cons (.asg (.tup (.cons (.nm 3) (.cons (.nm 4) .nil))) (.tup (.cons (.call (Str.ofString "_law_draw") [.inl 0, .inl 1] (.cons (.var 0) (.cons (.c (.int 5)) .nil)) .nil) (.cons (.call (Str.ofString "_law_draw") [.inl 0, .inl 1] (.cons (.var 0) (.cons (.var 2) .nil)) .nil) .nil)))) (.cons (.ite (.cmp .Eq (.var 3) (.c (.int 0))) (.cons (.ret (.bn false .tup (.cons (.lc false (.r1 (.var 2)) (.nm 5) [((Str.ofString "j"), 5)] .no (.bn false .int (.cons (.cmp .Eq (.var 5) (.var 4)) .nil))) .nil))) .nil) .nil) (.cons (.ret (.bn false .tup (.cons (.lc false (.r1 (.var 2)) (.nm 5) [((Str.ofString "j"), 5)] .no (.ite (.cmp .Gt (.var 3) (.c (.int 1))) (.call (Str.ofString "_law_draw") [.inl 0, .inl 1] (.cons (.var 0) (.cons (.var 1) .nil)) .nil) (.c (.int 0)))) .nil))) .nil)))
/-- one(p, n) 2 names -/
def B_one : Sms := (.cons (.exp (.call (Str.ofString "need_prime") [.inl 0] (.cons (.var 0) .nil) .nil)) (.cons (.exp (.call (Str.ofString "need_integer") [.inl 0, .inl 1, .inl 2] (.cons (.var 1) (.cons (.c (.int 1)) (.cons (.glob (.int 8)) .nil))) .nil)) (.cons (.ret (.call (Str.ofString "one_table") [.inl 0, .inl 1] (.cons (.var 0) (.cons (.var 1) .nil)) .nil)) .nil)))
/-- _law_by(p, first, second) 9 names -/
def B__law_by : Sms := (.cons (.asg (.nm 3) (.lc false (.r1 (.bn false .len (.cons (.idx (.var 2) (.c (.int 0))) .nil))) (.nm 4) [((Str.ofString "j"), 4)] .no (.lc false (.seq (.var 2)) (.nm 5) [((Str.ofString "row"), 5)] .no (.idx (.var 5) (.var 4))))) (.cons (.ret (.bn false .tup (.cons (.lc false (.seq (.var 1)) (.nm 5) [((Str.ofString "row"), 5)] .no (.bn false .tup (.cons (.lc false (.seq (.var 3)) (.nm 6) [((Str.ofString "column"), 6)] .no (.bin .Mod false (.bn false .int (.cons (.bn false .sum (.cons (.lc false (.zip (.var 5) (.var 6)) (.tp (.cons (.nm 7) (.cons (.nm 8) .nil))) [((Str.ofString "x"), 7), ((Str.ofString "y"), 8)] .no (.bin .Mult false (.var 7) (.var 8))) .nil)) .nil)) (.var 0))) .nil))) .nil))) .nil))
/-- _law_undoable(deck, p, n) 13 names -/
def B__law_undoable : Sms := (.cons (.par 4 5 (.cons (.lc true (.seq (.call (Str.ofString "_law_unit") [.inl 0, .inl 1] (.cons (.var 2) (.cons (.c (.int 1)) .nil)) .nil)) (.nm 9) [((Str.ofString "row"), 9)] .no (.bn false .lst (.cons (.var 9) .nil))) (.cons (.lc true (.seq (.call (Str.ofString "_law_unit") [.inl 0, .inl 1] (.cons (.var 2) (.cons (.c (.int 1)) .nil)) .nil)) (.nm 9) [((Str.ofString "row"), 9)] .no (.bn true .lst (.cons (.var 9) .nil))) .nil))) (.cons (.for_ (.nm 3) (.r1 (.call (Str.ofString "_law_draw") [.inl 0, .inl 1] (.cons (.var 0) (.cons (.bin .Mult false (.c (.int 3)) (.var 2)) .nil)) .nil)) (.cons (.asg (.tup (.cons (.nm 6) (.cons (.nm 7) (.cons (.nm 8) .nil)))) (.tup (.cons (.call (Str.ofString "_law_draw") [.inl 0, .inl 1] (.cons (.var 0) (.cons (.var 2) .nil)) .nil) (.cons (.call (Str.ofString "_law_draw") [.inl 0, .inl 1] (.cons (.var 0) (.cons (.var 2) .nil)) .nil) (.cons (.bin .Add false (.c (.int 1)) (.call (Str.ofString "_law_draw") [.inl 0, .inl 1] (.cons (.var 0) (.cons (.bin .Sub false (.var 1) (.c (.int 1))) .nil)) .nil)) .nil))))) (.cons (.ite (.cmp .NotEq (.var 6) (.var 7)) (.cons (.asg (.sub (.var 4) (.var 6)) (.lc false (.zip (.idx (.var 4) (.var 6)) (.idx (.var 4) (.var 7))) (.tp (.cons (.nm 11) (.cons (.nm 12) .nil))) [((Str.ofString "x"), 11), ((Str.ofString "y"), 12)] .no (.bin .Mod false (.bn false .int (.cons (.bin .Add false (.var 11) (.bin .Mult false (.var 8) (.var 12))) .nil)) (.var 1)))) (.cons (.for_ (.nm 9) (.seq (.var 5)) (.cons (.asg (.sub (.var 9) (.var 7)) (.bin .Mod false (.bn false .int (.cons (.bin .Sub false (.idx (.var 9) (.var 7)) (.bin .Mult false (.var 8) (.idx (.var 9) (.var 6)))) .nil)) (.var 1))) .nil)) .nil)) (.cons (.asg (.nm 10) (.idx (.lc false (.r2 (.c (.int 1)) (.var 1)) (.nm 11) [((Str.ofString "x"), 11)] (.so (.cmp .Eq (.bin .Mod false (.bn false .int (.cons (.bin .Mult false (.var 11) (.var 8)) .nil)) (.var 1)) (.c (.int 1)))) (.var 11)) (.c (.int 0)))) (.cons (.asg (.sub (.var 4) (.var 6)) (.lc false (.seq (.idx (.var 4) (.var 6))) (.nm 11) [((Str.ofString "x"), 11)] .no (.bin .Mod false (.bn false .int (.cons (.bin .Mult false (.var 8) (.var 11)) .nil)) (.var 1)))) (.cons (.for_ (.nm 9) (.seq (.var 5)) (.cons (.asg (.sub (.var 9) (.var 6)) (.bin .Mod false (.bn false .int (.cons (.bin .Mult false (.var 10) (.idx (.var 9) (.var 6))) .nil)) (.var 1))) .nil)) .nil)))) .nil))) (.cons (.ret (.tup (.cons (.bn false .tup (.cons (.lc false (.seq (.var 4)) (.nm 9) [((Str.ofString "row"), 9)] .no (.bn false .tup (.cons (.var 9) .nil))) .nil)) (.cons (.bn false .tup (.cons (.lc false (.seq (.var 5)) (.nm 9) [((Str.ofString "row"), 9)] .no (.bn false .tup (.cons (.var 9) .nil))) .nil)) .nil)))) .nil)))
/-- table_times(table, many) 3 names -/
def B_table_times : Sms := (.cons (.ret (.tup (.cons (.idx (.var 0) (.c (.int 0))) (.cons (.bn false .tup (.cons (.lc false (.seq (.idx (.var 0) (.c (.int 1)))) (.nm 2) [((Str.ofString "row"), 2)] .no (.call (Str.ofString "row_times") [.inl 0, .inl 1, .inl 2] (.cons (.idx (.var 0) (.c (.int 0))) (.cons (.var 2) (.cons (.var 1) .nil))) .nil)) .nil)) .nil)))) .nil)
/-- mirrored(table) 4 names -/
def B_mirrored : Sms := (.cons (.asg (.nm 1) (.call (Str.ofString "size") [.inl 0] (.cons (.var 0) .nil) .nil)) (.cons (.ret (.tup (.cons (.idx (.var 0) (.c (.int 0))) (.cons (.bn false .tup (.cons (.lc false (.r1 (.var 1)) (.nm 2) [((Str.ofString "j"), 2)] .no (.bn false .tup (.cons (.lc false (.r1 (.var 1)) (.nm 3) [((Str.ofString "i"), 3)] .no (.idx (.idx (.idx (.var 0) (.c (.int 1))) (.var 3)) (.var 2))) .nil))) .nil)) .nil)))) .nil))
/-- need_table(table) 1 names -/
def B_need_table : Sms := (.cons (.ite (.not (.call (Str.ofString "is_table_value") [.inl 0] (.cons (.var 0) .nil) .nil)) (.cons .none .nil) .nil) .nil)
/-- sum_along(table) 2 names -/
def B_sum_along : Sms := (.cons (.ret (.bin .Mod false (.bn false .sum (.cons (.lc false (.r1 (.call (Str.ofString "size") [.inl 0] (.cons (.var 0) .nil) .nil)) (.nm 1) [((Str.ofString "i"), 1)] .no (.idx (.idx (.idx (.var 0) (.c (.int 1))) (.var 1)) (.var 1))) .nil)) (.idx (.var 0) (.c (.int 0))))) .nil)
/-- table_sum(one, other, many) 5 names -/
def B_table_sum : Sms := (.cons (.ret (.tup (.cons (.idx (.var 0) (.c (.int 0))) (.cons (.bn false .tup (.cons (.lc false (.zip (.idx (.var 0) (.c (.int 1))) (.idx (.var 1) (.c (.int 1)))) (.tp (.cons (.nm 3) (.cons (.nm 4) .nil))) [((Str.ofString "near"), 3), ((Str.ofString "far"), 4)] .no (.call (Str.ofString "row_sum") [.inl 0, .inl 1, .inl 2, .inl 3] (.cons (.idx (.var 0) (.c (.int 0))) (.cons (.var 3) (.cons (.var 4) (.cons (.var 2) .nil)))) .nil)) .nil)) .nil)))) .nil)
/-- need_fellows(one, other) 2 names -/
def B_need_fellows : Sms := (.cons (.exp (.call (Str.ofString "need_table") [.inl 0] (.cons (.var 0) .nil) .nil)) (.cons (.exp (.call (Str.ofString "need_table") [.inl 0] (.cons (.var 1) .nil) .nil)) (.cons (.ite (.not (.call (Str.ofString "is_fellow") [.inl 0, .inl 1] (.cons (.var 0) (.cons (.var 1) .nil)) .nil)) (.cons .none .nil) .nil) .nil)))
/-- need_integer(thing, least, most) 3 names -/
def B_need_integer : Sms := (.cons (.ite (.or (.not (.call (Str.ofString "is_integer") [.inl 0] (.cons (.var 0) .nil) .nil)) (.cons (.cmp .Lt (.var 0) (.var 1)) (.cons (.and (.cmp .IsNot (.var 2) (.c .none)) (.cons (.cmp .Gt (.var 0) (.var 2)) .nil)) .nil))) (.cons .none .nil) .nil) .nil)
/-- table_product(one, other) 3 names -/
def B_table_product : Sms := (.cons (.ret (.tup (.cons (.idx (.var 0) (.c (.int 0))) (.cons (.bn false .tup (.cons (.lc false (.seq (.idx (.var 0) (.c (.int 1)))) (.nm 2) [((Str.ofString "row"), 2)] .no (.call (Str.ofString "row_led") [.inl 0, .inl 1] (.cons (.var 1) (.cons (.var 2) .nil)) .nil)) .nil)) .nil)))) .nil)
/-- row_led(table, row) 2 names -/
def B_row_led : Sms := (.cons (.ret (.call (Str.ofString "mix") [.inl 0, .inl 1, .inl 2, .inl 3] (.cons (.idx (.var 0) (.c (.int 0))) (.cons (.var 1) (.cons (.idx (.var 0) (.c (.int 1))) (.cons (.call (Str.ofString "size") [.inl 0] (.cons (.var 0) .nil) .nil) .nil)))) .nil)) .nil)
/-- is_row_value(p, many, thing) 4 names -/
def B_is_row_value : Sms := (.cons (.ret (.and (.isi .tup (.var 2)) (.cons (.cmp .Eq (.bn false .len (.cons (.var 2) .nil)) (.var 1)) (.cons (.bn false .all (.cons (.lc false (.seq (.var 2)) (.nm 3) [((Str.ofString "item"), 3)] .no (.call (Str.ofString "is_between") [.inl 0, .inl 1, .inl 2] (.cons (.var 3) (.cons (.c (.int 0)) (.cons (.bin .Sub false (.var 0) (.c (.int 1))) .nil))) .nil)) .nil)) .nil)))) .nil)
/-- size(table) 1 names -/
def B_size : Sms := (.cons (.ret (.bn false .len (.cons (.idx (.var 0) (.c (.int 1))) .nil))) .nil)
/-- one_table(p, n) 2 names -/
def B_one_table : Sms := (.cons (.ret (.tup (.cons (.var 0) (.cons (.bn false .tup (.cons (.call (Str.ofString "unit_rows") [.inl 0] (.cons (.var 1) .nil) .nil) .nil)) .nil)))) .nil)
/-- need_prime(p) 1 names -/
def B_need_prime : Sms := (.cons (.ite (.not (.call (Str.ofString "is_prime_value") [.inl 0] (.cons (.var 0) .nil) .nil)) (.cons .none .nil) .nil) .nil)
/-- row_times(p, row, many) 4 names -/
def B_row_times : Sms := (.cons (.ret (.bn false .tup (.cons (.lc false (.seq (.var 1)) (.nm 3) [((Str.ofString "item"), 3)] .no (.bin .Mod false (.bin .Mult false (.var 2) (.var 3)) (.var 0))) .nil))) .nil)
/-- is_table_value(thing) 2 names -/
def B_is_table_value : Sms := (.cons (.ite (.or (.not (.isi .tup (.var 0))) (.cons (.cmp .NotEq (.bn false .len (.cons (.var 0) .nil)) (.c (.int 2))) (.cons (.not (.call (Str.ofString "is_prime_value") [.inl 0] (.cons (.idx (.var 0) (.c (.int 0))) .nil) .nil)) .nil))) (.cons (.ret (.c (.bool false))) .nil) .nil) (.cons (.ite (.not (.isi .tup (.idx (.var 0) (.c (.int 1))))) (.cons (.ret (.c (.bool false))) .nil) .nil) (.cons (.ret (.and (.chain .LtE .LtE (.c (.int 1)) (.bn false .len (.cons (.idx (.var 0) (.c (.int 1))) .nil)) (.glob (.int 8))) (.cons (.bn false .all (.cons (.lc false (.seq (.idx (.var 0) (.c (.int 1)))) (.nm 1) [((Str.ofString "row"), 1)] .no (.call (Str.ofString "is_row_value") [.inl 0, .inl 1, .inl 2] (.cons (.idx (.var 0) (.c (.int 0))) (.cons (.bn false .len (.cons (.idx (.var 0) (.c (.int 1))) .nil)) (.cons (.var 1) .nil))) .nil)) .nil)) .nil))) .nil)))
/-- row_sum(p, one, other, many) 6 names -/
def B_row_sum : Sms := (.cons (.ret (.bn false .tup (.cons (.lc false (.zip (.var 1) (.var 2)) (.tp (.cons (.nm 4) (.cons (.nm 5) .nil))) [((Str.ofString "a"), 4), ((Str.ofString "b"), 5)] .no (.bin .Mod false (.bin .Add false (.var 4) (.bin .Mult false (.var 3) (.var 5))) (.var 0))) .nil))) .nil)
/-- is_fellow(table, thing) 2 names -/
def B_is_fellow : Sms := (.cons (.ret (.and (.call (Str.ofString "is_table_value") [.inl 0] (.cons (.var 1) .nil) .nil) (.cons (.cmp .Eq (.idx (.var 1) (.c (.int 0))) (.idx (.var 0) (.c (.int 0)))) (.cons (.cmp .Eq (.bn false .len (.cons (.idx (.var 1) (.c (.int 1))) .nil)) (.bn false .len (.cons (.idx (.var 0) (.c (.int 1))) .nil))) .nil)))) .nil)
/-- is_integer(thing) 1 names -/
def B_is_integer : Sms := (.cons (.ret (.and (.isi .int (.var 0)) (.cons (.not (.isi .bl (.var 0))) .nil))) .nil)
/-- mix(p, numbers, rows, n) 7 names -/
def B_mix : Sms := (.cons (.asg (.nm 4) (.call (Str.ofString "zero_row") [.inl 0] (.cons (.var 3) .nil) .nil)) (.cons (.for_ (.tup (.cons (.nm 5) (.cons (.nm 6) .nil))) (.zip (.var 1) (.var 2)) (.cons (.asg (.nm 4) (.call (Str.ofString "row_sum") [.inl 0, .inl 1, .inl 2, .inl 3] (.cons (.var 0) (.cons (.var 4) (.cons (.var 6) (.cons (.var 5) .nil)))) .nil)) .nil)) (.cons (.ret (.var 4)) .nil)))
/-- is_between(thing, least, most) 3 names -/
def B_is_between : Sms := (.cons (.ret (.and (.call (Str.ofString "is_integer") [.inl 0] (.cons (.var 0) .nil) .nil) (.cons (.chain .LtE .LtE (.var 1) (.var 0) (.var 2)) .nil))) .nil)
/-- unit_rows(n) 2 names -/
def B_unit_rows : Sms := (.cons (.ret (.lc false (.r1 (.var 0)) (.nm 1) [((Str.ofString "at"), 1)] .no (.call (Str.ofString "unit_row") [.inl 0, .inl 1] (.cons (.var 0) (.cons (.var 1) .nil)) .nil))) .nil)
/-- is_prime_value(thing) 1 names -/
def B_is_prime_value : Sms := (.cons (.ret (.and (.call (Str.ofString "is_integer") [.inl 0] (.cons (.var 0) .nil) .nil) (.cons (.cmp .In (.var 0) (.glob (.tuple [(.int 2), (.int 3), (.int 5), (.int 7)]))) .nil))) .nil)
/-- zero_row(n) 1 names -/
def B_zero_row : Sms := (.cons (.ret (.bin .Mult false (.tup (.cons (.c (.int 0)) .nil)) (.var 0))) .nil)
/-- unit_row(n, at) 3 names -/
def B_unit_row : Sms := (.cons (.ret (.bn false .tup (.cons (.lc false (.r1 (.var 0)) (.nm 2) [((Str.ofString "place"), 2)] .no (.ite (.cmp .Eq (.var 2) (.var 1)) (.c (.int 1)) (.c (.int 0)))) .nil))) .nil)
/-- power(table, k) 2 names -/
def B_power : Sms := (.cons (.exp (.call (Str.ofString "need_table") [.inl 0] (.cons (.var 0) .nil) .nil)) (.cons (.exp (.call (Str.ofString "need_integer") [.inl 0, .inl 1, .inr .none] (.cons (.var 1) (.cons (.c (.int 0)) .nil)) .nil)) (.cons (.ret (.call (Str.ofString "table_power") [.inl 0, .inl 1] (.cons (.var 0) (.cons (.var 1) .nil)) .nil)) .nil)))
/-- _law_power(p, rows, k) 5 names -/
def B__law_power : Sms := (.cons (.par 3 4 (.cons (.call (Str.ofString "_law_unit") [.inl 0, .inl 1] (.cons (.bn false .len (.cons (.var 1) .nil)) (.cons (.c (.int 1)) .nil)) .nil) (.cons (.var 1) .nil))) (.cons (.whl 4000 (.cmp .Gt (.var 2) (.c (.int 0))) (.cons (.ite (.cmp .Eq (.bin .BitAnd false (.var 2) (.c (.int 1))) (.c (.int 1))) (.cons (.asg (.nm 3) (.call (Str.ofString "_law_by") [.inl 0, .inl 1, .inl 2] (.cons (.var 0) (.cons (.var 3) (.cons (.var 4) .nil))) .nil)) .nil) .nil) (.cons (.asg (.nm 2) (.bin .FloorDiv false (.var 2) (.c (.int 2)))) (.cons (.ite (.cmp .Gt (.var 2) (.c (.int 0))) (.cons (.asg (.nm 4) (.call (Str.ofString "_law_by") [.inl 0, .inl 1, .inl 2] (.cons (.var 0) (.cons (.var 4) (.cons (.var 4) .nil))) .nil)) .nil) .nil) .nil)))) (.cons (.ret (.var 3)) .nil)))
/-- _law_exponent(deck, p) 5 names -/
def B__law_exponent : Sms := (.cons (.asg (.nm 2) (.call (Str.ofString "_law_draw") [.inl 0, .inl 1] (.cons (.var 0) (.cons (.c (.int 6)) .nil)) .nil)) (.cons (.ite (.cmp .Lt (.var 2) (.c (.int 3))) (.cons (.ret (.call (Str.ofString "_law_draw") [.inl 0, .inl 1] (.cons (.var 0) (.cons (.idx (.tup (.cons (.c (.int 3)) (.cons (.c (.int 10)) (.cons (.c (.int 60)) .nil)))) (.var 2)) .nil)) .nil)) .nil) .nil) (.cons (.ite (.cmp .Eq (.var 2) (.c (.int 3))) (.cons (.asg (.nm 3) (.c (.int 1))) (.cons (.for_ (.nm 4) (.r1 (.call (Str.ofString "_law_draw") [.inl 0, .inl 1] (.cons (.var 0) (.cons (.c (.int 30)) .nil)) .nil)) (.cons (.asg (.nm 3) (.bin .Mult false (.var 3) (.call (Str.ofString "_law_pick") [.inl 0, .inl 1] (.cons (.var 0) (.cons (.lst false (.cons (.c (.int 2)) (.cons (.var 1) .nil))) .nil)) .nil))) .nil)) (.cons (.ret (.bin .Sub false (.var 3) (.call (Str.ofString "_law_draw") [.inl 0, .inl 1] (.cons (.var 0) (.cons (.c (.int 2)) .nil)) .nil))) .nil))) .nil) (.cons (.asg (.nm 3) (.c (.int 0))) (.cons (.for_ (.nm 4) (.r1 (.bin .Add false (.c (.int 1)) (.call (Str.ofString "_law_draw") [.inl 0, .inl 1] (.cons (.var 0) (.cons (.c (.int 5)) .nil)) .nil))) (.cons (.asg (.nm 3) (.bin .Add false (.bin .Mult false (.var 3) (.c (.int 1000000))) (.call (Str.ofString "_law_draw") [.inl 0, .inl 1] (.cons (.var 0) (.cons (.c (.int 1000000)) .nil)) .nil))) .nil)) (.cons (.ret (.ite (.cmp .Eq (.var 2) (.c (.int 4))) (.var 3) (.bin .Sub false (.bin .Pow false (.c (.int 10)) (.c (.int 30))) (.call (Str.ofString "_law_draw") [.inl 0, .inl 1] (.cons (.var 0) (.cons (.c (.int 3)) .nil)) .nil)))) .nil))))))
/-- table_power(table, k) 4 names -/
def B_table_power : Sms := (.cons (.par 2 3 (.cons (.call (Str.ofString "one_like") [.inl 0] (.cons (.var 0) .nil) .nil) (.cons (.var 0) .nil))) (.cons (.whl 4000 (.cmp .Gt (.var 1) (.c (.int 0))) (.cons (.ite (.cmp .Eq (.bin .Mod false (.var 1) (.c (.int 2))) (.c (.int 1))) (.cons (.asg (.nm 2) (.call (Str.ofString "table_product") [.inl 0, .inl 1] (.cons (.var 2) (.cons (.var 3) .nil)) .nil)) .nil) .nil) (.cons (.asg (.nm 3) (.call (Str.ofString "table_product") [.inl 0, .inl 1] (.cons (.var 3) (.cons (.var 3) .nil)) .nil)) (.cons (.asg (.nm 1) (.bin .FloorDiv false (.var 1) (.c (.int 2)))) .nil)))) (.cons (.ret (.var 2)) .nil)))
/-- one_like(table) 1 names -/
def B_one_like : Sms := (.cons (.ret (.call (Str.ofString "one_table") [.inl 0, .inl 1] (.cons (.idx (.var 0) (.c (.int 0))) (.cons (.call (Str.ofString "size") [.inl 0] (.cons (.var 0) .nil) .nil) .nil)) .nil)) .nil)

end Lb

set_option linter.all false
set_option maxRecDepth 100000
set_option maxHeartbeats 1000000
namespace Lb
open PySem PySem.Spec L2 Dl
/-! LibA: the defs about tables: what they compute of well-formed tables. -/
theorem lc_map {β : Type} {t : Tg} {own : List Nat} {ρ : Slots} {Fi : Slots → Sto → Res Src} {Fe : Slots → Sto → Res D} {w : List (Nat × List D)} {S : Sto} {ys : List β} (g : β → D) (f : β → PyData)
    (hi : Fi ρ S = .ok ⟨ys.map g, w⟩ S) (hw : Wat w S) (hz : ys.length ≤ sizeLine) (h : ∀ y ∈ ys, ∃ ρ', setT t (g y) (wipeD ρ own) = some ρ' ∧ Fe ρ' S = .ok (.p (f y)) S) :
    fLc false Fi t own fYes Fe ρ S = .ok (.p (.list (ys.map f))) S := by
  have loop : ∀ (ys : List β) (acc : List PyData), acc.length + ys.length ≤ sizeLine → (∀ y ∈ ys, ∃ ρ', setT t (g y) (wipeD ρ own) = some ρ' ∧ Fe ρ' S = .ok (.p (f y)) S) →
      lcLoop w t (wipeD ρ own) fYes Fe (ys.map g) (acc.map D.p) S = .ok ((acc ++ ys.map f).map D.p) S := by
    intro ys
    induction ys with
    | nil => intro acc _ _; unfold lcLoop; simp only [List.map_nil]; rw [if_pos hw]; simp
    | cons y ys ih =>
      intro acc hz h
      obtain ⟨ρ', e1, e2⟩ := h y (by simp)
      simp only [List.length_cons] at hz
      have := ih (acc ++ [f y]) (by simp; omega) fun z hz => h z (by simp [hz])
      have lt : acc.length < sizeLine := by omega
      rw [List.map_cons]
      unfold lcLoop
      rw [if_pos hw]
      simp only [e1, fYes, Dl.Res.nx, bind_ok, e2, List.length_map, lt, if_true]
      simpa using this
  have := loop ys [] (by simpa using hz) h
  unfold fLc
  rw [hi]
  simp only [bind_ok]
  rw [show ([] : List D) = ([] : List PyData).map D.p from rfl, this]
  rw [bind_ok, mkL_map]
  rfl
section
variable {ρ : Slots} {S : Sto} {F Fa Fb : Slots → Sto → Res D}
theorem i_seqT {ds : List PyData} (h : F ρ S = .ok (.p (.tuple ds)) S) : fSeq F ρ S = .ok ⟨ds.map D.p, []⟩ S := by simp [fSeq, h]
theorem i_seqL {ds : List PyData} (h : F ρ S = .ok (.p (.list ds)) S) : fSeq F ρ S = .ok ⟨ds.map D.p, []⟩ S := by simp [fSeq, h]
theorem big62 {i : Int} (h0 : 0 ≤ i) (h : i ≤ 1000000) : -(2 ^ 62) ≤ i ∧ i < 2 ^ 62 :=
  ⟨Int.le_trans (by decide) h0, Int.lt_of_le_of_lt h (by decide)⟩
theorem i_r1i {j : Int} (h : F ρ S = .ok (.i j) S) (hn : RgB j) : fRng1 F ρ S = .ok ⟨(List.range j.toNat).map fun k => .i (k : Nat), []⟩ S := by
  simp only [fRng1, h, bind_ok]
  rw [if_pos hn]
theorem i_r1 {n : Nat} (h : F ρ S = .ok (.i n) S) (hn : n ≤ 1000000) : fRng1 F ρ S = .ok ⟨(List.range n).map fun k => .i (k : Nat), []⟩ S := by
  have := i_r1i h (big62 (Int.natCast_nonneg n) (by omega))
  rwa [Int.toNat_natCast] at this
theorem i_r2 {a b : Int} (h : Fa ρ S = .ok (.i a) S) (h2 : Fb ρ S = .ok (.i b) S) (ha : RgB a) (hb : RgB b) :
    fRng2 (fCons Fa (fCons Fb fNil)) ρ S = .ok ⟨(List.range (b - a).toNat).map fun k => .i (a + (k : Nat)), []⟩ S := by
  simp only [fRng2, e_cons, h, bind_ok, h2, e_nil]
  rw [if_pos ⟨ha, hb⟩]
def fz : PyData → Option (List PyData)
  | .tuple ds => some ds
  | .list ds => some ds
  | _ => none
theorem sq_fz {x : PyData} {xs : List PyData} (h : fz x = some xs) : sqOf (.p x) S = some ⟨xs.map D.p, []⟩ := by
  unfold fz at h
  split at h <;> first | (cases h; rfl) | cases h
theorem zip_items : ∀ xs ys : List PyData, List.zipWith (fun x y => mkT [x, y]) (xs.map D.p) (ys.map D.p) = (xs.zip ys).map fun q => .p (.tuple [q.1, q.2])
  | [], _ => rfl
  | _ :: _, [] => rfl
  | a :: xs, b :: ys => by
    simp only [List.map_cons, List.zipWith_cons_cons, List.zip_cons_cons, zip_items xs ys]
    rfl
theorem i_zip {x y : PyData} {xs ys : List PyData} (h : Fa ρ S = .ok (.p x) S) (h2 : Fb ρ S = .ok (.p y) S) (hx : fz x = some xs) (hy : fz y = some ys) :
    fZip (fCons Fa (fCons Fb fNil)) ρ S = .ok ⟨(xs.zip ys).map fun q => .p (.tuple [q.1, q.2]), []⟩ S := by
  simp only [fZip, e_cons, h, bind_ok, h2, e_nil, sq_fz hx, sq_fz hy, zipSrc, List.append_nil]
  congr 2
  exact zip_items xs ys
theorem i_enum {x : PyData} {xs : List PyData} (h : F ρ S = .ok (.p x) S) (hx : fz x = some xs) :
    fEnum F ρ S = .ok ⟨xs.zipIdx.map fun q => .p (.tuple [.int (q.2 : Nat), q.1]), []⟩ S := by
  simp only [fEnum, h, bind_ok, sq_fz hx, enumSrc]
  congr 2
  rw [List.zipIdx_map, List.map_map]
  rfl
end
/-! ### data -/
def rowP (r : List Int) : PyData := .tuple (r.map PyData.int)
def matP (M : List (List Int)) : PyData := .tuple (M.map rowP)
def tabP (p : Int) (M : List (List Int)) : PyData := .tuple [.int p, matP M]
def Pr (p : Int) : Prop := p ∈ ([2, 3, 5, 7] : List Int)
def Row (p : Int) (n : Nat) (r : List Int) : Prop := r.length = n ∧ ∀ x ∈ r, 0 ≤ x ∧ x < p
def Mat (p : Int) (n : Nat) (M : List (List Int)) : Prop := M.length = n ∧ ∀ r ∈ M, Row p n r
theorem Pr.pos {p : Int} (h : Pr p) : 2 ≤ p ∧ p ≤ 7 := by
  simp [Pr] at h
  omega
theorem at' {defs : List Df} {fl : List (Str × Str)} {sp : Fns → Fns} {f : Str} {k N : Nat} {b : Sms} (h : HasB defs f k N b) {n : Nat} (hn : 1 ≤ n) {ds : List D} (hl : ds.length = k) (S : Sto) :
    evF defs fl sp n f ds S = fin S (evSs (evF defs fl sp (n - 1)) fl b (ds.map some ++ List.replicate (N - k) none) S) := by
  obtain ⟨m, rfl⟩ : ∃ m, n = m + 1 := ⟨n - 1, by omega⟩
  exact at_ h m hl S
/-- the def's body gives back a frozen value -/
theorem gives {defs : List Df} {fl : List (Str × Str)} {sp : Fns → Fns} {f : Str} {k N : Nat} {b : Sms} (h : HasB defs f k N b) {n : Nat} (hn : 1 ≤ n) {ds : List D} (hl : ds.length = k) {S : Sto} {r : PyData}
    (e : evSs (evF defs fl sp (n - 1)) fl b (ds.map some ++ List.replicate (N - k) none) S = .rt (.p r) S) : evF defs fl sp n f ds S = .ok (.p r) S := by
  rw [at' h hn hl, e, fin_rt0]
theorem ends {defs : List Df} {fl : List (Str × Str)} {sp : Fns → Fns} {f : Str} {k N : Nat} {b : Sms} (h : HasB defs f k N b) {n : Nat} (hn : 1 ≤ n) {ds : List D} (hl : ds.length = k) {S : Sto} {ρ : Slots}
    (e : evSs (evF defs fl sp (n - 1)) fl b (ds.map some ++ List.replicate (N - k) none) S = .nx ρ S) : evF defs fl sp n f ds S = .ok .n S := by
  rw [at' h hn hl, e, fin_nx0]
structure HTab (D : List Df) : Prop where
  is_integer : HasB D (Str.ofString "is_integer") 1 1 B_is_integer
  is_between : HasB D (Str.ofString "is_between") 3 3 B_is_between
  is_prime_value : HasB D (Str.ofString "is_prime_value") 1 1 B_is_prime_value
  is_row_value : HasB D (Str.ofString "is_row_value") 3 4 B_is_row_value
  is_table_value : HasB D (Str.ofString "is_table_value") 1 2 B_is_table_value
  need_table : HasB D (Str.ofString "need_table") 1 1 B_need_table
section
variable {dfs : List Df} {fl : List (Str × Str)} {sp : Fns → Fns} {S : Sto} {n : Nat}
theorem c_is_integer (H : HTab dfs) (hn : 1 ≤ n) {x : D} {T : Ty} (h : tyD x S = some T) : evF dfs fl sp n (Str.ofString "is_integer") [x] S = .ok (.b (decide (T = .int))) S := by
  refine gives H.is_integer hn rfl ?_
  simp [B_is_integer, evSs, evS, ev, evAnd, opIsi, h]
  cases T <;> simp [Ty.sub, opIsi, h]
theorem c_is_integerI (H : HTab dfs) (hn : 1 ≤ n) {x : Int} : evF dfs fl sp n (Str.ofString "is_integer") [.p (.int x)] S = .ok (.b true) S := c_is_integer H hn (T := .int) rfl
theorem c_is_between (H : HTab dfs) (hn : 2 ≤ n) {x a b : Int} : evF dfs fl sp n (Str.ofString "is_between") [.p (.int x), .p (.int a), .p (.int b)] S = .ok (.b (decide (a ≤ x ∧ x ≤ b))) S := by
  refine gives H.is_between (by omega) rfl ?_
  have hi := c_is_integerI (fl := fl) (sp := sp) (n := n - 1) (S := S) (x := x) H (by omega)
  simp [B_is_between, evSs, evS, ev, evAnd, evs, Exs.len, arrD, hi]
  by_cases h1 : a ≤ x <;> simp [h1]
theorem c_is_prime_value (H : HTab dfs) (hn : 2 ≤ n) {p : Int} : evF dfs fl sp n (Str.ofString "is_prime_value") [.p (.int p)] S = .ok (.b (decide (p ∈ ([2, 3, 5, 7] : List Int)))) S := by
  refine gives H.is_prime_value (by omega) rfl ?_
  have hi := c_is_integerI (fl := fl) (sp := sp) (n := n - 1) (S := S) (x := p) H (by omega)
  have h2 := o_inT (S := S) (x := p) [2, 3, 5, 7]
  simp only [List.map_cons, List.map_nil] at h2
  simp [B_is_prime_value, evSs, evS, ev, evAnd, evs, Exs.len, arrD, hi, h2]
theorem c_is_row_value (H : HTab dfs) (hn : 3 ≤ n) {p : Int} {k : Nat} {r : List Int} (h : Row p k r) (hz : r.length ≤ sizeLine) :
    evF dfs fl sp n (Str.ofString "is_row_value") [.p (.int p), .p (.int (k : Nat)), .p (rowP r)] S = .ok (.b true) S := by
  refine gives H.is_row_value (by omega) rfl ?_
  have lc := lc_map (ys := r) (t := .nm 3) (own := [3]) (S := S) (ρ := [some (.i p), some (.i k), some (.p (rowP r)), none]) (Fi := fSeq (fVar 2)) (w := [])
    (Fe := fCall (evF dfs fl sp (n - 1) (Str.ofString "is_between")) 3 0 [.inl 0, .inl 1, .inl 2] (fCons (fVar 3) (fCons (fC (.int 0)) (fCons (fBin .Sub false (fVar 0) (fC (.int 1))) fNil))) fNil) (fun x => D.p (.int x)) (fun x => .bool true)
    (by rw [i_seqT (ds := r.map PyData.int) (by simp [rowP])]; simp) (by simp) hz fun x hx => ⟨_, rfl, by
      have h0 := h.2 x hx
      have hb := c_is_between (fl := fl) (sp := sp) (n := n - 1) (S := S) (x := x) (a := 0) (b := p - 1) H (by omega)
      simp [wipeD, arrD, hb]
      omega⟩
  have hall : opBn false .all [.p (.list (r.map fun _ => PyData.bool true))] S = .ok (.b true) S := by
    have := b_all (S := S) (m := false) (ns := r.map fun _ => true)
    rw [List.map_map] at this
    have e : (PyData.bool ∘ fun _ : Int => true) = fun _ => PyData.bool true := rfl
    rw [e] at this
    rw [this]
    simp
  simp [B_is_row_value, evSs, evS, ev, evAnd, evs, evt, evr, Exs.len, lc, hall]
  have lc2 := lc
  simp only [rowP] at lc2
  simp [rowP, h.1, tyP, Ty.sub, lc2, hall]
theorem c_is_table_value (H : HTab dfs) (hn : 4 ≤ n) {p : Int} {k : Nat} {M : List (List Int)} (hp : Pr p) (h : Mat p k M) (h1 : 1 ≤ k) (h8 : k ≤ 8) :
    evF dfs fl sp n (Str.ofString "is_table_value") [.p (tabP p M)] S = .ok (.b true) S := by
  refine gives H.is_table_value (by omega) rfl ?_
  have hl := h.1
  have sz : (8 : Nat) ≤ sizeLine := by decide
  have lc := lc_map (ys := M) (t := .nm 1) (own := [1]) (S := S) (ρ := [some (.p (tabP p M)), none]) (Fi := fSeq (fIdx (fVar 0) (fC (.int 1)))) (w := [])
    (Fe := fCall (evF dfs fl sp (n - 1) (Str.ofString "is_row_value")) 3 0 [.inl 0, .inl 1, .inl 2] (fCons (fIdx (fVar 0) (fC (.int 0))) (fCons (fBn false .len (fCons (fIdx (fVar 0) (fC (.int 1))) fNil)) (fCons (fVar 1) fNil))) fNil) (fun r => D.p (rowP r)) (fun x => .bool true)
    (by rw [i_seqT (ds := M.map rowP) (by simp [tabP, matP])]; simp) (by simp) (by omega) fun r hr => ⟨_, rfl, by
      have hb := c_is_row_value (fl := fl) (sp := sp) (n := n - 1) (S := S) H (by omega) (h.2 r hr) (by have := (h.2 r hr).1; omega)
      simp [wipeD, arrD, tabP, matP, hl, hb]⟩
  have hall : opBn false .all [.p (.list (M.map fun _ => PyData.bool true))] S = .ok (.b true) S := by
    have := b_all (S := S) (m := false) (ns := M.map fun _ => true)
    rw [List.map_map] at this
    have e : (PyData.bool ∘ fun _ : List Int => true) = fun _ => PyData.bool true := rfl
    rw [e] at this
    rw [this]
    simp
  have hq := c_is_prime_value (fl := fl) (sp := sp) (n := n - 1) (S := S) (p := p) H (by omega)
  have hp' : decide (p ∈ ([2, 3, 5, 7] : List Int)) = true := by simpa [Pr] using hp
  rw [hp'] at hq
  simp [B_is_table_value, evSs, evS, ev, evAnd, evOr, evs, evt, evr, Exs.len, lc, hall, arrD]
  have lc2 := lc
  simp only [tabP, matP] at lc2 hq
  have h1' : (1 : Int) ≤ k := by omega
  have h8' : (k : Int) ≤ 8 := by omega
  simp [tabP, matP, hl, tyP, Ty.sub, hq, lc2, hall, h1', h8']
theorem c_need_table (H : HTab dfs) (hn : 5 ≤ n) {p : Int} {k : Nat} {M : List (List Int)} (hp : Pr p) (h : Mat p k M) (h1 : 1 ≤ k) (h8 : k ≤ 8) :
    evF dfs fl sp n (Str.ofString "need_table") [.p (tabP p M)] S = .ok .n S := by
  refine ends (ρ := [some (.p (tabP p M))]) H.need_table (by omega) rfl ?_
  have hq := c_is_table_value (fl := fl) (sp := sp) (n := n - 1) (S := S) H (by omega) hp h h1 h8
  simp [B_need_table, evSs, evS, ev, evs, Exs.len, arrD, hq]
end
end Lb

set_option linter.all false
namespace Lb
open PySem PySem.Spec L2 Dl
abbrev tgT (n : Nat) (F : List D → Slots → Sto → Res Slots) : FT := tgTup fun ds ρ S => if ds.length = n then F ds ρ S else .st
@[simp] theorem x_tgT {n : Nat} {F : List D → Slots → Sto → Res Slots} {d : D} {ρ : Slots} {S : Sto} : tgT n F d ρ S = match seqOf d S with
  | some xs => if xs.length = n then F xs ρ S else .st
  | none => .st := rfl
end Lb

set_option linter.all false
set_option maxRecDepth 100000
/-! LibS: what the bodies mean, printed by shallow.py. -/
namespace Lb
open PySem PySem.Spec L2 Dl
theorem sh__law_are_sums_right (G : Fns) (fl : List (Str × Str)) : evSs G fl B__law_are_sums_right = (sSeq (sPar 7 8 (fCons (fIdx (fVar 2) (fC (.int 1))) (fCons (fIdx (fVar 3) (fC (.int 1))) fNil))) (sSeq (sAsg (fTup (fCons (fCall (G (Str.ofString "_law_each")) 4 0 [.inl 0, .inl 1, .inl 2, .inl 3] (fCons (fVar 0) (fCons (fVar 7) (fCons (fVar 8) (fCons (fC (.int 1)) fNil)))) fNil) (fCons (fCall (G (Str.ofString "_law_each")) 4 0 [.inl 0, .inl 1, .inl 2, .inl 3] (fCons (fVar 0) (fCons (fVar 7) (fCons (fVar 8) (fCons (fNeg (fC (.int 1))) fNil)))) fNil) (fCons (fCall (G (Str.ofString "_law_each")) 4 0 [.inl 0, .inl 1, .inl 2, .inl 3] (fCons (fVar 0) (fCons (fCall (G (Str.ofString "_law_unit")) 2 0 [.inl 0, .inl 1] (fCons (fVar 1) (fCons (fC (.int 0)) fNil)) fNil) (fCons (fVar 7) (fCons (fVar 4) fNil)))) fNil) fNil)))) (tgNm 5)) (sSeq (sIf (fTru (fCmp .NotEq (fBn false .repr (fCons (fTup (fCons (fCall (G (Str.ofString "added")) 2 0 [.inl 0, .inl 1] (fCons (fVar 2) (fCons (fVar 3) fNil)) fNil) (fCons (fCall (G (Str.ofString "taken")) 2 0 [.inl 0, .inl 1] (fCons (fVar 2) (fCons (fVar 3) fNil)) fNil) (fCons (fCall (G (Str.ofString "times")) 2 0 [.inl 0, .inl 1] (fCons (fVar 2) (fCons (fVar 4) fNil)) fNil) fNil)))) fNil)) (fBn false .repr (fCons (fVar 5) fNil)))) (sSeq (sRet (fC (.bool false))) sNil) sNil) (sSeq (sIf (fTru (fCmp .NotEq (fBn false .repr (fCons (fTup (fCons (fCall (G (Str.ofString "added")) 0 2 [.inl 1, .inl 0] fNil (fCons (fVar 3) (fCons (fVar 2) fNil))) (fCons (fCall (G (Str.ofString "taken")) 0 2 [.inl 1, .inl 0] fNil (fCons (fVar 3) (fCons (fVar 2) fNil))) (fCons (fCall (G (Str.ofString "times")) 0 2 [.inl 1, .inl 0] fNil (fCons (fVar 4) (fCons (fVar 2) fNil))) fNil)))) fNil)) (fBn false .repr (fCons (fVar 5) fNil)))) (sSeq (sRet (fC (.bool false))) sNil) sNil) (sSeq (sAsg (fTup (fCons (fCall (G (Str.ofString "mirror")) 1 0 [.inl 0] (fCons (fVar 2) fNil) fNil) (fCons (fCall (G (Str.ofString "mirror")) 0 1 [.inl 0] fNil (fCons (fCall (G (Str.ofString "mirror")) 1 0 [.inl 0] (fCons (fVar 2) fNil) fNil) fNil)) (fCons (fCall (G (Str.ofString "diagonal_sum")) 1 0 [.inl 0] (fCons (fVar 2) fNil) fNil) (fCons (fCall (G (Str.ofString "diagonal_sum")) 0 1 [.inl 0] fNil (fCons (fVar 3) fNil)) (fCons (fCall (G (Str.ofString "added")) 2 0 [.inl 0, .inl 1] (fCons (fVar 2) (fCons (fCall (G (Str.ofString "times")) 2 0 [.inl 0, .inl 1] (fCons (fVar 3) (fCons (fBin .Sub false (fVar 0) (fC (.int 1))) fNil)) fNil) fNil)) fNil) (fCons (fCall (G (Str.ofString "taken")) 2 0 [.inl 0, .inl 1] (fCons (fVar 2) (fCons (fVar 2) fNil)) fNil) fNil))))))) (tgNm 6)) (sSeq (sRet (fCmp .Eq (fBn false .repr (fCons (fVar 6) fNil)) (fBn false .repr (fCons (fTup (fCons (fTup (fCons (fVar 0) (fCons (fCall (G (Str.ofString "_law_mirror")) 1 0 [.inl 0] (fCons (fVar 7) fNil) fNil) fNil))) (fCons (fVar 2) (fCons (fCall (G (Str.ofString "_law_sum")) 2 0 [.inl 0, .inl 1] (fCons (fVar 0) (fCons (fVar 7) fNil)) fNil) (fCons (fCall (G (Str.ofString "_law_sum")) 2 0 [.inl 0, .inl 1] (fCons (fVar 0) (fCons (fVar 8) fNil)) fNil) (fCons (fIdx (fVar 5) (fC (.int 1))) (fCons (fCall (G (Str.ofString "zero")) 2 0 [.inl 0, .inl 1] (fCons (fVar 0) (fCons (fVar 1) fNil)) fNil) fNil))))))) fNil)))) sNil)))))) := by
  simp only [B__law_are_sums_right, evSs, evS, ev, evAnd, evOr, evs, evo, evt, evp, evr, evx, evxs, List.map_cons, List.map_nil, Exs.len, Txs.len] <;> rfl
theorem sh__law_are_products_right (G : Fns) (fl : List (Str × Str)) : evSs G fl B__law_are_products_right = (sSeq (sAsg (fTup (fCons (fTup (fCons (fVar 1) (fCons (fCall (G (Str.ofString "_law_by")) 3 0 [.inl 0, .inl 1, .inl 2] (fCons (fVar 1) (fCons (fIdx (fVar 3) (fC (.int 1))) (fCons (fIdx (fVar 4) (fC (.int 1))) fNil))) fNil) fNil))) (fCons (fCall (G (Str.ofString "_law_draw")) 2 0 [.inl 0, .inl 1] (fCons (fVar 0) (fCons (fVar 1) fNil)) fNil) fNil))) (tgT 2 (tgCons (tgNm 8) (tgCons (tgNm 9) tgNil)))) (sSeq (sIf (fTru (fCmp .NotEq (fBn false .repr (fCons (fTup (fCons (fCall (G (Str.ofString "product")) 2 0 [.inl 0, .inl 1] (fCons (fVar 3) (fCons (fVar 4) fNil)) fNil) (fCons (fCall (G (Str.ofString "product")) 0 2 [.inl 1, .inl 0] fNil (fCons (fVar 4) (fCons (fVar 3) fNil))) (fCons (fCall (G (Str.ofString "product")) 2 0 [.inl 0, .inl 1] (fCons (fVar 8) (fCons (fVar 5) fNil)) fNil) fNil)))) fNil)) (fBn false .repr (fCons (fTup (fCons (fVar 8) (fCons (fVar 8) (fCons (fCall (G (Str.ofString "product")) 2 0 [.inl 0, .inl 1] (fCons (fVar 3) (fCons (fCall (G (Str.ofString "product")) 2 0 [.inl 0, .inl 1] (fCons (fVar 4) (fCons (fVar 5) fNil)) fNil) fNil)) fNil) fNil)))) fNil)))) (sSeq (sRet (fC (.bool false))) sNil) sNil) (sSeq (sIf (fTru (fCmp .NotEq (fBn false .repr (fCons (fCall (G (Str.ofString "product")) 2 0 [.inl 0, .inl 1] (fCons (fVar 3) (fCons (fCall (G (Str.ofString "added")) 2 0 [.inl 0, .inl 1] (fCons (fVar 4) (fCons (fVar 5) fNil)) fNil) fNil)) fNil) fNil)) (fBn false .repr (fCons (fCall (G (Str.ofString "added")) 2 0 [.inl 0, .inl 1] (fCons (fVar 8) (fCons (fCall (G (Str.ofString "product")) 2 0 [.inl 0, .inl 1] (fCons (fVar 3) (fCons (fVar 5) fNil)) fNil) fNil)) fNil) fNil)))) (sSeq (sRet (fC (.bool false))) sNil) sNil) (sSeq (sIf (fTru (fCmp .NotEq (fBn false .repr (fCons (fCall (G (Str.ofString "product")) 2 0 [.inl 0, .inl 1] (fCons (fCall (G (Str.ofString "added")) 2 0 [.inl 0, .inl 1] (fCons (fVar 4) (fCons (fVar 5) fNil)) fNil) (fCons (fVar 3) fNil)) fNil) fNil)) (fBn false .repr (fCons (fCall (G (Str.ofString "added")) 2 0 [.inl 0, .inl 1] (fCons (fCall (G (Str.ofString "product")) 2 0 [.inl 0, .inl 1] (fCons (fVar 4) (fCons (fVar 3) fNil)) fNil) (fCons (fCall (G (Str.ofString "product")) 2 0 [.inl 0, .inl 1] (fCons (fVar 5) (fCons (fVar 3) fNil)) fNil) fNil)) fNil) fNil)))) (sSeq (sRet (fC (.bool false))) sNil) sNil) (sSeq (sIf (fTru (fCmp .NotEq (fBn false .repr (fCons (fTup (fCons (fCall (G (Str.ofString "product")) 2 0 [.inl 0, .inl 1] (fCons (fCall (G (Str.ofString "times")) 2 0 [.inl 0, .inl 1] (fCons (fVar 3) (fCons (fVar 9) fNil)) fNil) (fCons (fVar 4) fNil)) fNil) (fCons (fCall (G (Str.ofString "mirror")) 1 0 [.inl 0] (fCons (fVar 8) fNil) fNil) fNil))) fNil)) (fBn false .repr (fCons (fTup (fCons (fCall (G (Str.ofString "times")) 2 0 [.inl 0, .inl 1] (fCons (fVar 8) (fCons (fVar 9) fNil)) fNil) (fCons (fCall (G (Str.ofString "product")) 2 0 [.inl 0, .inl 1] (fCons (fCall (G (Str.ofString "mirror")) 1 0 [.inl 0] (fCons (fVar 4) fNil) fNil) (fCons (fCall (G (Str.ofString "mirror")) 1 0 [.inl 0] (fCons (fVar 3) fNil) fNil) fNil)) fNil) fNil))) fNil)))) (sSeq (sRet (fC (.bool false))) sNil) sNil) (sSeq (sPar 10 11 (fCons (fCall (G (Str.ofString "one")) 2 0 [.inl 0, .inl 1] (fCons (fVar 1) (fCons (fVar 2) fNil)) fNil) (fCons (fCall (G (Str.ofString "zero")) 0 2 [.inl 1, .inl 0] fNil (fCons (fVar 2) (fCons (fVar 1) fNil))) fNil))) (sSeq (sIf (fTru (fCmp .NotEq (fBn false .repr (fCons (fTup (fCons (fCall (G (Str.ofString "product")) 2 0 [.inl 0, .inl 1] (fCons (fVar 3) (fCons (fVar 10) fNil)) fNil) (fCons (fCall (G (Str.ofString "product")) 2 0 [.inl 0, .inl 1] (fCons (fVar 10) (fCons (fVar 3) fNil)) fNil) (fCons (fCall (G (Str.ofString "product")) 2 0 [.inl 0, .inl 1] (fCons (fVar 3) (fCons (fVar 11) fNil)) fNil) fNil)))) fNil)) (fBn false .repr (fCons (fTup (fCons (fVar 3) (fCons (fVar 3) (fCons (fVar 11) fNil)))) fNil)))) (sSeq (sRet (fC (.bool false))) sNil) sNil) (sSeq (sFor (fRng1 (fC (.int 2))) (tgNm 6) (sSeq (sAsg (fCall (G (Str.ofString "_law_row")) 3 0 [.inl 0, .inl 1, .inl 2] (fCons (fVar 0) (fCons (fVar 1) (fCons (fVar 2) fNil))) fNil) (tgNm 12)) (sSeq (sAsg (fCall (G (Str.ofString "_law_led")) 3 0 [.inl 0, .inl 1, .inl 2] (fCons (fVar 1) (fCons (fIdx (fVar 3) (fC (.int 1))) (fCons (fVar 12) fNil))) fNil) (tgNm 13)) (sSeq (sAsg (fTup (fCons (fCall (G (Str.ofString "led")) 2 0 [.inl 0, .inl 1] (fCons (fVar 3) (fCons (fVar 12) fNil)) fNil) (fCons (fCall (G (Str.ofString "led")) 0 2 [.inl 1, .inl 0] fNil (fCons (fVar 12) (fCons (fVar 3) fNil))) (fCons (fCall (G (Str.ofString "led")) 2 0 [.inl 0, .inl 1] (fCons (fVar 4) (fCons (fVar 13) fNil)) fNil) (fCons (fCall (G (Str.ofString "led")) 2 0 [.inl 0, .inl 1] (fCons (fVar 8) (fCons (fVar 12) fNil)) fNil) fNil))))) (tgNm 14)) (sSeq (sIf (fTru (fCmp .NotEq (fBn false .repr (fCons (fVar 14) fNil)) (fBn false .repr (fCons (fTup (fCons (fVar 13) (fCons (fVar 13) (fCons (fCall (G (Str.ofString "_law_led")) 3 0 [.inl 0, .inl 1, .inl 2] (fCons (fVar 1) (fCons (fIdx (fVar 4) (fC (.int 1))) (fCons (fVar 13) fNil))) fNil) (fCons (fCall (G (Str.ofString "_law_led")) 3 0 [.inl 0, .inl 1, .inl 2] (fCons (fVar 1) (fCons (fIdx (fVar 4) (fC (.int 1))) (fCons (fVar 13) fNil))) fNil) fNil))))) fNil)))) (sSeq (sRet (fC (.bool false))) sNil) sNil) sNil))))) (sSeq (sAsg (fBn false .tup (fCons (fLc false (fSeq (fIdx (fVar 10) (fC (.int 1)))) (.nm 12) [12] fYes (fCall (G (Str.ofString "led")) 2 0 [.inl 0, .inl 1] (fCons (fVar 8) (fCons (fVar 12) fNil)) fNil)) fNil)) (tgNm 7)) (sSeq (sRet (fAnd (fCmp .Eq (fBn false .repr (fCons (fTup (fCons (fVar 1) (fCons (fVar 7) fNil))) fNil)) (fBn false .repr (fCons (fVar 8) fNil))) (fCmp .Eq (fBn false .repr (fCons (fCall (G (Str.ofString "diagonal_sum")) 1 0 [.inl 0] (fCons (fVar 8) fNil) fNil) fNil)) (fBn false .repr (fCons (fCall (G (Str.ofString "diagonal_sum")) 1 0 [.inl 0] (fCons (fCall (G (Str.ofString "product")) 2 0 [.inl 0, .inl 1] (fCons (fVar 4) (fCons (fVar 3) fNil)) fNil) fNil) fNil) fNil))))) sNil)))))))))) := by
  simp only [B__law_are_products_right, evSs, evS, ev, evAnd, evOr, evs, evo, evt, evp, evr, evx, evxs, List.map_cons, List.map_nil, Exs.len, Txs.len] <;> rfl
theorem sh__law_drawn (G : Fns) (fl : List (Str × Str)) : evSs G fl B__law_drawn = (sSeq (sPar 4 5 (fCons (fCall (G (Str.ofString "_law_draw")) 2 0 [.inl 0, .inl 1] (fCons (fVar 0) (fCons (fC (.int 9)) fNil)) fNil) (fCons (fCall (G (Str.ofString "_law_draw")) 2 0 [.inl 0, .inl 1] (fCons (fVar 0) (fCons (fVar 1) fNil)) fNil) fNil))) (sSeq (sIf (fTru (fCmp .Eq (fVar 4) (fC (.int 0)))) (sSeq (sRet (fCall (G (Str.ofString "_law_unit")) 2 0 [.inl 0, .inl 1] (fCons (fVar 2) (fCons (fVar 5) fNil)) fNil)) sNil) sNil) (sSeq (sIf (fTru (fCmp .Eq (fVar 4) (fC (.int 1)))) (sSeq (sRet (fIdx (fCall (G (Str.ofString "_law_undoable")) 3 0 [.inl 0, .inl 1, .inl 2] (fCons (fVar 0) (fCons (fVar 1) (fCons (fVar 2) fNil))) fNil) (fC (.int 0)))) sNil) sNil) (sSeq (sIf (fTru (fCmp .Eq (fVar 4) (fC (.int 2)))) (sSeq (sAsg (fCall (G (Str.ofString "_law_draw")) 2 0 [.inl 0, .inl 1] (fCons (fVar 0) (fCons (fBin .Add false (fVar 2) (fC (.int 1))) fNil)) fNil) (tgNm 6)) (sSeq (sAsg (fBn false .tup (fCons (fLc false (fRng1 (fVar 2)) (.nm 10) [10] fYes (fBn false .tup (fCons (fLc false (fRng1 (fVar 2)) (.nm 11) [11] fYes (fIf (fTru (fCmp .Lt (fVar 11) (fVar 6))) (fCall (G (Str.ofString "_law_draw")) 2 0 [.inl 0, .inl 1] (fCons (fVar 0) (fCons (fVar 1) fNil)) fNil) (fC (.int 0)))) fNil))) fNil)) (tgNm 7)) (sSeq (sRet (fCall (G (Str.ofString "_law_by")) 3 0 [.inl 0, .inl 1, .inl 2] (fCons (fVar 1) (fCons (fVar 7) (fCons (fBn false .tup (fCons (fLc false (fRng1 (fVar 2)) (.nm 10) [10] fYes (fBn false .tup (fCons (fLc false (fRng1 (fVar 2)) (.nm 11) [11] fYes (fCall (G (Str.ofString "_law_draw")) 2 0 [.inl 0, .inl 1] (fCons (fVar 0) (fCons (fVar 1) fNil)) fNil)) fNil))) fNil)) fNil))) fNil)) sNil))) sNil) (sSeq (sAsg (fLc true (fSeq (fCall (G (Str.ofString "_law_unit")) 2 0 [.inl 0, .inl 1] (fCons (fVar 2) (fCons (fVar 5) fNil)) fNil)) (.nm 9) [9] fYes (fBn true .lst (fCons (fVar 9) fNil))) (tgNm 3)) (sSeq (sIf (fTru (fCmp .Eq (fVar 4) (fC (.int 3)))) (sSeq (sFor (fRng1 (fBin .Add false (fC (.int 1)) (fCall (G (Str.ofString "_law_draw")) 2 0 [.inl 0, .inl 1] (fCons (fVar 0) (fCons (fC (.int 3)) fNil)) fNil))) (tgNm 8) (sSeq (sPar 10 11 (fCons (fCall (G (Str.ofString "_law_draw")) 2 0 [.inl 0, .inl 1] (fCons (fVar 0) (fCons (fVar 2) fNil)) fNil) (fCons (fCall (G (Str.ofString "_law_draw")) 2 0 [.inl 0, .inl 1] (fCons (fVar 0) (fCons (fVar 2) fNil)) fNil) fNil))) (sSeq (sAsg (fCall (G (Str.ofString "_law_draw")) 2 0 [.inl 0, .inl 1] (fCons (fVar 0) (fCons (fVar 1) fNil)) fNil) (tgSub (fIdx (fVar 3) (fVar 10)) (fVar 11))) sNil))) (sSeq (sRet (fBn false .tup (fCons (fLc false (fSeq (fVar 3)) (.nm 9) [9] fYes (fBn false .tup (fCons (fVar 9) fNil))) fNil))) sNil)) sNil) (sSeq (sIf (fTru (fCmp .Eq (fVar 4) (fC (.int 4)))) (sSeq (sRet (fBn false .tup (fCons (fLc false (fRng1 (fVar 2)) (.nm 10) [10] fYes (fBn false .tup (fCons (fLc false (fRng1 (fVar 2)) (.nm 11) [11] fYes (fIf (fTru (fCmp .Gt (fVar 11) (fVar 10))) (fCall (G (Str.ofString "_law_draw")) 2 0 [.inl 0, .inl 1] (fCons (fVar 0) (fCons (fVar 1) fNil)) fNil) (fIf (fTru (fCmp .Eq (fVar 10) (fVar 11))) (fIdx (fIdx (fVar 3) (fC (.int 0))) (fC (.int 0))) (fC (.int 0))))) fNil))) fNil))) sNil) sNil) (sSeq (sIf (fTru (fCmp .Eq (fVar 4) (fC (.int 5)))) (sSeq (sRet (fBn false .tup (fCons (fLc false (fRng1 (fVar 2)) (.nm 10) [10] fYes (fBn false .tup (fCons (fLc false (fRng1 (fVar 2)) (.nm 11) [11] fYes (fIf (fTru (fCmp .Eq (fCall (G (Str.ofString "_law_draw")) 2 0 [.inl 0, .inl 1] (fCons (fVar 0) (fCons (fC (.int 4)) fNil)) fNil) (fC (.int 0)))) (fCall (G (Str.ofString "_law_draw")) 2 0 [.inl 0, .inl 1] (fCons (fVar 0) (fCons (fVar 1) fNil)) fNil) (fC (.int 0)))) fNil))) fNil))) sNil) sNil) (sSeq (sRet (fBn false .tup (fCons (fLc false (fRng1 (fVar 2)) (.nm 10) [10] fYes (fBn false .tup (fCons (fLc false (fRng1 (fVar 2)) (.nm 11) [11] fYes (fCall (G (Str.ofString "_law_draw")) 2 0 [.inl 0, .inl 1] (fCons (fVar 0) (fCons (fVar 1) fNil)) fNil)) fNil))) fNil))) sNil))))))))) := by
  simp only [B__law_drawn, evSs, evS, ev, evAnd, evOr, evs, evo, evt, evp, evr, evx, evxs, List.map_cons, List.map_nil, Exs.len, Txs.len] <;> rfl
theorem sh__law_pick (G : Fns) (fl : List (Str × Str)) : evSs G fl B__law_pick = (sSeq (sRet (fIdx (fVar 1) (fCall (G (Str.ofString "_law_draw")) 2 0 [.inl 0, .inl 1] (fCons (fVar 0) (fCons (fBn false .len (fCons (fVar 1) fNil)) fNil)) fNil))) sNil) := by
  simp only [B__law_pick, evSs, evS, ev, evAnd, evOr, evs, evo, evt, evp, evr, evx, evxs, List.map_cons, List.map_nil, Exs.len, Txs.len] <;> rfl
theorem sh__law_mirror (G : Fns) (fl : List (Str × Str)) : evSs G fl B__law_mirror = (sSeq (sRet (fBn false .tup (fCons (fLc false (fRng1 (fBn false .len (fCons (fVar 0) fNil))) (.nm 1) [1] fYes (fBn false .tup (fCons (fLc false (fSeq (fVar 0)) (.nm 2) [2] fYes (fIdx (fVar 2) (fVar 1))) fNil))) fNil))) sNil) := by
  simp only [B__law_mirror, evSs, evS, ev, evAnd, evOr, evs, evo, evt, evp, evr, evx, evxs, List.map_cons, List.map_nil, Exs.len, Txs.len] <;> rfl
theorem sh__law_sum (G : Fns) (fl : List (Str × Str)) : evSs G fl B__law_sum = (sSeq (sRet (fBin .Mod false (fBn false .int (fCons (fBn false .sum (fCons (fLc false (fEnum (fVar 1)) (.tp (.cons (.nm 2) (.cons (.nm 3) .nil))) [2, 3] fYes (fIdx (fVar 3) (fVar 2))) fNil)) fNil)) (fVar 0))) sNil) := by
  simp only [B__law_sum, evSs, evS, ev, evAnd, evOr, evs, evo, evt, evp, evr, evx, evxs, List.map_cons, List.map_nil, Exs.len, Txs.len] <;> rfl
theorem sh_zero (G : Fns) (fl : List (Str × Str)) : evSs G fl B_zero = (sSeq (sRet (fCall (G (Str.ofString "table_times")) 2 0 [.inl 0, .inl 1] (fCons (fCall (G (Str.ofString "one")) 2 0 [.inl 0, .inl 1] (fCons (fVar 0) (fCons (fVar 1) fNil)) fNil) (fCons (fC (.int 0)) fNil)) fNil)) sNil) := by
  simp only [B_zero, evSs, evS, ev, evAnd, evOr, evs, evo, evt, evp, evr, evx, evxs, List.map_cons, List.map_nil, Exs.len, Txs.len] <;> rfl
theorem sh_mirror (G : Fns) (fl : List (Str × Str)) : evSs G fl B_mirror = (sSeq (sExp (fCall (G (Str.ofString "need_table")) 1 0 [.inl 0] (fCons (fVar 0) fNil) fNil)) (sSeq (sRet (fCall (G (Str.ofString "mirrored")) 1 0 [.inl 0] (fCons (fVar 0) fNil) fNil)) sNil)) := by
  simp only [B_mirror, evSs, evS, ev, evAnd, evOr, evs, evo, evt, evp, evr, evx, evxs, List.map_cons, List.map_nil, Exs.len, Txs.len] <;> rfl
theorem sh_diagonal_sum (G : Fns) (fl : List (Str × Str)) : evSs G fl B_diagonal_sum = (sSeq (sExp (fCall (G (Str.ofString "need_table")) 1 0 [.inl 0] (fCons (fVar 0) fNil) fNil)) (sSeq (sRet (fCall (G (Str.ofString "sum_along")) 1 0 [.inl 0] (fCons (fVar 0) fNil) fNil)) sNil)) := by
  simp only [B_diagonal_sum, evSs, evS, ev, evAnd, evOr, evs, evo, evt, evp, evr, evx, evxs, List.map_cons, List.map_nil, Exs.len, Txs.len] <;> rfl
theorem sh_added (G : Fns) (fl : List (Str × Str)) : evSs G fl B_added = (sSeq (sExp (fCall (G (Str.ofString "need_fellows")) 2 0 [.inl 0, .inl 1] (fCons (fVar 0) (fCons (fVar 1) fNil)) fNil)) (sSeq (sRet (fCall (G (Str.ofString "table_sum")) 2 0 [.inl 0, .inl 1, .inr (.int 1)] (fCons (fVar 0) (fCons (fVar 1) fNil)) fNil)) sNil)) := by
  simp only [B_added, evSs, evS, ev, evAnd, evOr, evs, evo, evt, evp, evr, evx, evxs, List.map_cons, List.map_nil, Exs.len, Txs.len] <;> rfl
theorem sh_times (G : Fns) (fl : List (Str × Str)) : evSs G fl B_times = (sSeq (sExp (fCall (G (Str.ofString "need_table")) 1 0 [.inl 0] (fCons (fVar 0) fNil) fNil)) (sSeq (sExp (fCall (G (Str.ofString "need_integer")) 3 0 [.inl 0, .inl 1, .inl 2] (fCons (fVar 1) (fCons (fC (.int 0)) (fCons (fBin .Sub false (fIdx (fVar 0) (fC (.int 0))) (fC (.int 1))) fNil))) fNil)) (sSeq (sRet (fCall (G (Str.ofString "table_times")) 2 0 [.inl 0, .inl 1] (fCons (fVar 0) (fCons (fVar 1) fNil)) fNil)) sNil))) := by
  simp only [B_times, evSs, evS, ev, evAnd, evOr, evs, evo, evt, evp, evr, evx, evxs, List.map_cons, List.map_nil, Exs.len, Txs.len] <;> rfl
theorem sh_taken (G : Fns) (fl : List (Str × Str)) : evSs G fl B_taken = (sSeq (sExp (fCall (G (Str.ofString "need_fellows")) 2 0 [.inl 0, .inl 1] (fCons (fVar 0) (fCons (fVar 1) fNil)) fNil)) (sSeq (sRet (fCall (G (Str.ofString "table_sum")) 3 0 [.inl 0, .inl 1, .inl 2] (fCons (fVar 0) (fCons (fVar 1) (fCons (fNeg (fC (.int 1))) fNil))) fNil)) sNil)) := by
  simp only [B_taken, evSs, evS, ev, evAnd, evOr, evs, evo, evt, evp, evr, evx, evxs, List.map_cons, List.map_nil, Exs.len, Txs.len] <;> rfl
theorem sh__law_each (G : Fns) (fl : List (Str × Str)) : evSs G fl B__law_each = (sSeq (sRet (fTup (fCons (fVar 0) (fCons (fBn false .tup (fCons (fLc false (fZip (fCons (fVar 1) (fCons (fVar 2) fNil))) (.tp (.cons (.nm 4) (.cons (.nm 5) .nil))) [4, 5] fYes (fBn false .tup (fCons (fLc false (fZip (fCons (fVar 4) (fCons (fVar 5) fNil))) (.tp (.cons (.nm 6) (.cons (.nm 7) .nil))) [6, 7] fYes (fBin .Mod false (fBn false .int (fCons (fBin .Add false (fVar 6) (fBin .Mult false (fVar 3) (fVar 7))) fNil)) (fVar 0))) fNil))) fNil)) fNil)))) sNil) := by
  simp only [B__law_each, evSs, evS, ev, evAnd, evOr, evs, evo, evt, evp, evr, evx, evxs, List.map_cons, List.map_nil, Exs.len, Txs.len] <;> rfl
theorem sh__law_unit (G : Fns) (fl : List (Str × Str)) : evSs G fl B__law_unit = (sSeq (sRet (fBn false .tup (fCons (fLc false (fRng1 (fVar 0)) (.nm 2) [2] fYes (fBn false .tup (fCons (fLc false (fRng1 (fVar 0)) (.nm 3) [3] fYes (fIf (fTru (fCmp .Eq (fVar 2) (fVar 3))) (fVar 1) (fC (.int 0)))) fNil))) fNil))) sNil) := by
  simp only [B__law_unit, evSs, evS, ev, evAnd, evOr, evs, evo, evt, evp, evr, evx, evxs, List.map_cons, List.map_nil, Exs.len, Txs.len] <;> rfl
theorem sh_product (G : Fns) (fl : List (Str × Str)) : evSs G fl B_product = (sSeq (sExp (fCall (G (Str.ofString "need_fellows")) 2 0 [.inl 0, .inl 1] (fCons (fVar 0) (fCons (fVar 1) fNil)) fNil)) (sSeq (sRet (fCall (G (Str.ofString "table_product")) 2 0 [.inl 0, .inl 1] (fCons (fVar 0) (fCons (fVar 1) fNil)) fNil)) sNil)) := by
  simp only [B_product, evSs, evS, ev, evAnd, evOr, evs, evo, evt, evp, evr, evx, evxs, List.map_cons, List.map_nil, Exs.len, Txs.len] <;> rfl
theorem sh_led (G : Fns) (fl : List (Str × Str)) : evSs G fl B_led = (sSeq (sExp (fCall (G (Str.ofString "need_table")) 1 0 [.inl 0] (fCons (fVar 0) fNil) fNil)) (sSeq (sIf (gNot (fTru (fCall (G (Str.ofString "is_row_value")) 3 0 [.inl 0, .inl 1, .inl 2] (fCons (fIdx (fVar 0) (fC (.int 0))) (fCons (fCall (G (Str.ofString "size")) 1 0 [.inl 0] (fCons (fVar 0) fNil) fNil) (fCons (fVar 1) fNil))) fNil))) (sSeq (fun _ _ => .st) sNil) sNil) (sSeq (sRet (fCall (G (Str.ofString "row_led")) 2 0 [.inl 0, .inl 1] (fCons (fVar 0) (fCons (fVar 1) fNil)) fNil)) sNil))) := by
  simp only [B_led, evSs, evS, ev, evAnd, evOr, evs, evo, evt, evp, evr, evx, evxs, List.map_cons, List.map_nil, Exs.len, Txs.len] <;> rfl
theorem sh__law_led (G : Fns) (fl : List (Str × Str)) : evSs G fl B__law_led = (sSeq (sRet (fBn false .tup (fCons (fLc false (fRng1 (fBn false .len (fCons (fVar 2) fNil))) (.nm 3) [3] fYes (fBin .Mod false (fBn false .int (fCons (fBn false .sum (fCons (fLc false (fZip (fCons (fVar 2) (fCons (fVar 1) fNil))) (.tp (.cons (.nm 4) (.cons (.nm 5) .nil))) [4, 5] fYes (fBin .Mult false (fVar 4) (fIdx (fVar 5) (fVar 3)))) fNil)) fNil)) (fVar 0))) fNil))) sNil) := by
  simp only [B__law_led, evSs, evS, ev, evAnd, evOr, evs, evo, evt, evp, evr, evx, evxs, List.map_cons, List.map_nil, Exs.len, Txs.len] <;> rfl
theorem sh__law_row (G : Fns) (fl : List (Str × Str)) : evSs G fl B__law_row = (sSeq (sAsg (fTup (fCons (fCall (G (Str.ofString "_law_draw")) 2 0 [.inl 0, .inl 1] (fCons (fVar 0) (fCons (fC (.int 5)) fNil)) fNil) (fCons (fCall (G (Str.ofString "_law_draw")) 2 0 [.inl 0, .inl 1] (fCons (fVar 0) (fCons (fVar 2) fNil)) fNil) fNil))) (tgT 2 (tgCons (tgNm 3) (tgCons (tgNm 4) tgNil)))) (sSeq (sIf (fTru (fCmp .Eq (fVar 3) (fC (.int 0)))) (sSeq (sRet (fBn false .tup (fCons (fLc false (fRng1 (fVar 2)) (.nm 5) [5] fYes (fBn false .int (fCons (fCmp .Eq (fVar 5) (fVar 4)) fNil))) fNil))) sNil) sNil) (sSeq (sRet (fBn false .tup (fCons (fLc false (fRng1 (fVar 2)) (.nm 5) [5] fYes (fIf (fTru (fCmp .Gt (fVar 3) (fC (.int 1)))) (fCall (G (Str.ofString "_law_draw")) 2 0 [.inl 0, .inl 1] (fCons (fVar 0) (fCons (fVar 1) fNil)) fNil) (fC (.int 0)))) fNil))) sNil))) := by
  simp only [B__law_row, evSs, evS, ev, evAnd, evOr, evs, evo, evt, evp, evr, evx, evxs, List.map_cons, List.map_nil, Exs.len, Txs.len] <;> rfl
theorem sh_one (G : Fns) (fl : List (Str × Str)) : evSs G fl B_one = (sSeq (sExp (fCall (G (Str.ofString "need_prime")) 1 0 [.inl 0] (fCons (fVar 0) fNil) fNil)) (sSeq (sExp (fCall (G (Str.ofString "need_integer")) 3 0 [.inl 0, .inl 1, .inl 2] (fCons (fVar 1) (fCons (fC (.int 1)) (fCons (fC (.int 8)) fNil))) fNil)) (sSeq (sRet (fCall (G (Str.ofString "one_table")) 2 0 [.inl 0, .inl 1] (fCons (fVar 0) (fCons (fVar 1) fNil)) fNil)) sNil))) := by
  simp only [B_one, evSs, evS, ev, evAnd, evOr, evs, evo, evt, evp, evr, evx, evxs, List.map_cons, List.map_nil, Exs.len, Txs.len] <;> rfl
theorem sh__law_by (G : Fns) (fl : List (Str × Str)) : evSs G fl B__law_by = (sSeq (sAsg (fLc false (fRng1 (fBn false .len (fCons (fIdx (fVar 2) (fC (.int 0))) fNil))) (.nm 4) [4] fYes (fLc false (fSeq (fVar 2)) (.nm 5) [5] fYes (fIdx (fVar 5) (fVar 4)))) (tgNm 3)) (sSeq (sRet (fBn false .tup (fCons (fLc false (fSeq (fVar 1)) (.nm 5) [5] fYes (fBn false .tup (fCons (fLc false (fSeq (fVar 3)) (.nm 6) [6] fYes (fBin .Mod false (fBn false .int (fCons (fBn false .sum (fCons (fLc false (fZip (fCons (fVar 5) (fCons (fVar 6) fNil))) (.tp (.cons (.nm 7) (.cons (.nm 8) .nil))) [7, 8] fYes (fBin .Mult false (fVar 7) (fVar 8))) fNil)) fNil)) (fVar 0))) fNil))) fNil))) sNil)) := by
  simp only [B__law_by, evSs, evS, ev, evAnd, evOr, evs, evo, evt, evp, evr, evx, evxs, List.map_cons, List.map_nil, Exs.len, Txs.len] <;> rfl
theorem sh__law_undoable (G : Fns) (fl : List (Str × Str)) : evSs G fl B__law_undoable = (sSeq (sPar 4 5 (fCons (fLc true (fSeq (fCall (G (Str.ofString "_law_unit")) 2 0 [.inl 0, .inl 1] (fCons (fVar 2) (fCons (fC (.int 1)) fNil)) fNil)) (.nm 9) [9] fYes (fBn false .lst (fCons (fVar 9) fNil))) (fCons (fLc true (fSeq (fCall (G (Str.ofString "_law_unit")) 2 0 [.inl 0, .inl 1] (fCons (fVar 2) (fCons (fC (.int 1)) fNil)) fNil)) (.nm 9) [9] fYes (fBn true .lst (fCons (fVar 9) fNil))) fNil))) (sSeq (sFor (fRng1 (fCall (G (Str.ofString "_law_draw")) 2 0 [.inl 0, .inl 1] (fCons (fVar 0) (fCons (fBin .Mult false (fC (.int 3)) (fVar 2)) fNil)) fNil)) (tgNm 3) (sSeq (sAsg (fTup (fCons (fCall (G (Str.ofString "_law_draw")) 2 0 [.inl 0, .inl 1] (fCons (fVar 0) (fCons (fVar 2) fNil)) fNil) (fCons (fCall (G (Str.ofString "_law_draw")) 2 0 [.inl 0, .inl 1] (fCons (fVar 0) (fCons (fVar 2) fNil)) fNil) (fCons (fBin .Add false (fC (.int 1)) (fCall (G (Str.ofString "_law_draw")) 2 0 [.inl 0, .inl 1] (fCons (fVar 0) (fCons (fBin .Sub false (fVar 1) (fC (.int 1))) fNil)) fNil)) fNil)))) (tgT 3 (tgCons (tgNm 6) (tgCons (tgNm 7) (tgCons (tgNm 8) tgNil))))) (sSeq (sIf (fTru (fCmp .NotEq (fVar 6) (fVar 7))) (sSeq (sAsg (fLc false (fZip (fCons (fIdx (fVar 4) (fVar 6)) (fCons (fIdx (fVar 4) (fVar 7)) fNil))) (.tp (.cons (.nm 11) (.cons (.nm 12) .nil))) [11, 12] fYes (fBin .Mod false (fBn false .int (fCons (fBin .Add false (fVar 11) (fBin .Mult false (fVar 8) (fVar 12))) fNil)) (fVar 1))) (tgSub (fVar 4) (fVar 6))) (sSeq (sFor (fSeq (fVar 5)) (tgNm 9) (sSeq (sAsg (fBin .Mod false (fBn false .int (fCons (fBin .Sub false (fIdx (fVar 9) (fVar 7)) (fBin .Mult false (fVar 8) (fIdx (fVar 9) (fVar 6)))) fNil)) (fVar 1)) (tgSub (fVar 9) (fVar 7))) sNil)) sNil)) (sSeq (sAsg (fIdx (fLc false (fRng2 (fCons (fC (.int 1)) (fCons (fVar 1) fNil))) (.nm 11) [11] (fTru (fCmp .Eq (fBin .Mod false (fBn false .int (fCons (fBin .Mult false (fVar 11) (fVar 8)) fNil)) (fVar 1)) (fC (.int 1)))) (fVar 11)) (fC (.int 0))) (tgNm 10)) (sSeq (sAsg (fLc false (fSeq (fIdx (fVar 4) (fVar 6))) (.nm 11) [11] fYes (fBin .Mod false (fBn false .int (fCons (fBin .Mult false (fVar 8) (fVar 11)) fNil)) (fVar 1))) (tgSub (fVar 4) (fVar 6))) (sSeq (sFor (fSeq (fVar 5)) (tgNm 9) (sSeq (sAsg (fBin .Mod false (fBn false .int (fCons (fBin .Mult false (fVar 10) (fIdx (fVar 9) (fVar 6))) fNil)) (fVar 1)) (tgSub (fVar 9) (fVar 6))) sNil)) sNil)))) sNil))) (sSeq (sRet (fTup (fCons (fBn false .tup (fCons (fLc false (fSeq (fVar 4)) (.nm 9) [9] fYes (fBn false .tup (fCons (fVar 9) fNil))) fNil)) (fCons (fBn false .tup (fCons (fLc false (fSeq (fVar 5)) (.nm 9) [9] fYes (fBn false .tup (fCons (fVar 9) fNil))) fNil)) fNil)))) sNil))) := by
  simp only [B__law_undoable, evSs, evS, ev, evAnd, evOr, evs, evo, evt, evp, evr, evx, evxs, List.map_cons, List.map_nil, Exs.len, Txs.len] <;> rfl
theorem sh_table_times (G : Fns) (fl : List (Str × Str)) : evSs G fl B_table_times = (sSeq (sRet (fTup (fCons (fIdx (fVar 0) (fC (.int 0))) (fCons (fBn false .tup (fCons (fLc false (fSeq (fIdx (fVar 0) (fC (.int 1)))) (.nm 2) [2] fYes (fCall (G (Str.ofString "row_times")) 3 0 [.inl 0, .inl 1, .inl 2] (fCons (fIdx (fVar 0) (fC (.int 0))) (fCons (fVar 2) (fCons (fVar 1) fNil))) fNil)) fNil)) fNil)))) sNil) := by
  simp only [B_table_times, evSs, evS, ev, evAnd, evOr, evs, evo, evt, evp, evr, evx, evxs, List.map_cons, List.map_nil, Exs.len, Txs.len] <;> rfl
theorem sh_mirrored (G : Fns) (fl : List (Str × Str)) : evSs G fl B_mirrored = (sSeq (sAsg (fCall (G (Str.ofString "size")) 1 0 [.inl 0] (fCons (fVar 0) fNil) fNil) (tgNm 1)) (sSeq (sRet (fTup (fCons (fIdx (fVar 0) (fC (.int 0))) (fCons (fBn false .tup (fCons (fLc false (fRng1 (fVar 1)) (.nm 2) [2] fYes (fBn false .tup (fCons (fLc false (fRng1 (fVar 1)) (.nm 3) [3] fYes (fIdx (fIdx (fIdx (fVar 0) (fC (.int 1))) (fVar 3)) (fVar 2))) fNil))) fNil)) fNil)))) sNil)) := by
  simp only [B_mirrored, evSs, evS, ev, evAnd, evOr, evs, evo, evt, evp, evr, evx, evxs, List.map_cons, List.map_nil, Exs.len, Txs.len] <;> rfl
theorem sh_need_table (G : Fns) (fl : List (Str × Str)) : evSs G fl B_need_table = (sSeq (sIf (gNot (fTru (fCall (G (Str.ofString "is_table_value")) 1 0 [.inl 0] (fCons (fVar 0) fNil) fNil))) (sSeq (fun _ _ => .st) sNil) sNil) sNil) := by
  simp only [B_need_table, evSs, evS, ev, evAnd, evOr, evs, evo, evt, evp, evr, evx, evxs, List.map_cons, List.map_nil, Exs.len, Txs.len] <;> rfl
theorem sh_sum_along (G : Fns) (fl : List (Str × Str)) : evSs G fl B_sum_along = (sSeq (sRet (fBin .Mod false (fBn false .sum (fCons (fLc false (fRng1 (fCall (G (Str.ofString "size")) 1 0 [.inl 0] (fCons (fVar 0) fNil) fNil)) (.nm 1) [1] fYes (fIdx (fIdx (fIdx (fVar 0) (fC (.int 1))) (fVar 1)) (fVar 1))) fNil)) (fIdx (fVar 0) (fC (.int 0))))) sNil) := by
  simp only [B_sum_along, evSs, evS, ev, evAnd, evOr, evs, evo, evt, evp, evr, evx, evxs, List.map_cons, List.map_nil, Exs.len, Txs.len] <;> rfl
theorem sh_table_sum (G : Fns) (fl : List (Str × Str)) : evSs G fl B_table_sum = (sSeq (sRet (fTup (fCons (fIdx (fVar 0) (fC (.int 0))) (fCons (fBn false .tup (fCons (fLc false (fZip (fCons (fIdx (fVar 0) (fC (.int 1))) (fCons (fIdx (fVar 1) (fC (.int 1))) fNil))) (.tp (.cons (.nm 3) (.cons (.nm 4) .nil))) [3, 4] fYes (fCall (G (Str.ofString "row_sum")) 4 0 [.inl 0, .inl 1, .inl 2, .inl 3] (fCons (fIdx (fVar 0) (fC (.int 0))) (fCons (fVar 3) (fCons (fVar 4) (fCons (fVar 2) fNil)))) fNil)) fNil)) fNil)))) sNil) := by
  simp only [B_table_sum, evSs, evS, ev, evAnd, evOr, evs, evo, evt, evp, evr, evx, evxs, List.map_cons, List.map_nil, Exs.len, Txs.len] <;> rfl
theorem sh_need_fellows (G : Fns) (fl : List (Str × Str)) : evSs G fl B_need_fellows = (sSeq (sExp (fCall (G (Str.ofString "need_table")) 1 0 [.inl 0] (fCons (fVar 0) fNil) fNil)) (sSeq (sExp (fCall (G (Str.ofString "need_table")) 1 0 [.inl 0] (fCons (fVar 1) fNil) fNil)) (sSeq (sIf (gNot (fTru (fCall (G (Str.ofString "is_fellow")) 2 0 [.inl 0, .inl 1] (fCons (fVar 0) (fCons (fVar 1) fNil)) fNil))) (sSeq (fun _ _ => .st) sNil) sNil) sNil))) := by
  simp only [B_need_fellows, evSs, evS, ev, evAnd, evOr, evs, evo, evt, evp, evr, evx, evxs, List.map_cons, List.map_nil, Exs.len, Txs.len] <;> rfl
theorem sh_need_integer (G : Fns) (fl : List (Str × Str)) : evSs G fl B_need_integer = (sSeq (sIf (gOr (gNot (fTru (fCall (G (Str.ofString "is_integer")) 1 0 [.inl 0] (fCons (fVar 0) fNil) fNil))) (gOr (fTru (fCmp .Lt (fVar 0) (fVar 1))) (gAnd (fTru (fCmp .IsNot (fVar 2) (fC .none))) (fTru (fCmp .Gt (fVar 0) (fVar 2)))))) (sSeq (fun _ _ => .st) sNil) sNil) sNil) := by
  simp only [B_need_integer, evSs, evS, ev, evAnd, evOr, evs, evo, evt, evp, evr, evx, evxs, List.map_cons, List.map_nil, Exs.len, Txs.len] <;> rfl
theorem sh_table_product (G : Fns) (fl : List (Str × Str)) : evSs G fl B_table_product = (sSeq (sRet (fTup (fCons (fIdx (fVar 0) (fC (.int 0))) (fCons (fBn false .tup (fCons (fLc false (fSeq (fIdx (fVar 0) (fC (.int 1)))) (.nm 2) [2] fYes (fCall (G (Str.ofString "row_led")) 2 0 [.inl 0, .inl 1] (fCons (fVar 1) (fCons (fVar 2) fNil)) fNil)) fNil)) fNil)))) sNil) := by
  simp only [B_table_product, evSs, evS, ev, evAnd, evOr, evs, evo, evt, evp, evr, evx, evxs, List.map_cons, List.map_nil, Exs.len, Txs.len] <;> rfl
theorem sh_row_led (G : Fns) (fl : List (Str × Str)) : evSs G fl B_row_led = (sSeq (sRet (fCall (G (Str.ofString "mix")) 4 0 [.inl 0, .inl 1, .inl 2, .inl 3] (fCons (fIdx (fVar 0) (fC (.int 0))) (fCons (fVar 1) (fCons (fIdx (fVar 0) (fC (.int 1))) (fCons (fCall (G (Str.ofString "size")) 1 0 [.inl 0] (fCons (fVar 0) fNil) fNil) fNil)))) fNil)) sNil) := by
  simp only [B_row_led, evSs, evS, ev, evAnd, evOr, evs, evo, evt, evp, evr, evx, evxs, List.map_cons, List.map_nil, Exs.len, Txs.len] <;> rfl
theorem sh_is_row_value (G : Fns) (fl : List (Str × Str)) : evSs G fl B_is_row_value = (sSeq (sRet (fAnd (fIsi .tup (fVar 2)) (fAnd (fCmp .Eq (fBn false .len (fCons (fVar 2) fNil)) (fVar 1)) (fBn false .all (fCons (fLc false (fSeq (fVar 2)) (.nm 3) [3] fYes (fCall (G (Str.ofString "is_between")) 3 0 [.inl 0, .inl 1, .inl 2] (fCons (fVar 3) (fCons (fC (.int 0)) (fCons (fBin .Sub false (fVar 0) (fC (.int 1))) fNil))) fNil)) fNil))))) sNil) := by
  simp only [B_is_row_value, evSs, evS, ev, evAnd, evOr, evs, evo, evt, evp, evr, evx, evxs, List.map_cons, List.map_nil, Exs.len, Txs.len] <;> rfl
theorem sh_size (G : Fns) (fl : List (Str × Str)) : evSs G fl B_size = (sSeq (sRet (fBn false .len (fCons (fIdx (fVar 0) (fC (.int 1))) fNil))) sNil) := by
  simp only [B_size, evSs, evS, ev, evAnd, evOr, evs, evo, evt, evp, evr, evx, evxs, List.map_cons, List.map_nil, Exs.len, Txs.len] <;> rfl
theorem sh_one_table (G : Fns) (fl : List (Str × Str)) : evSs G fl B_one_table = (sSeq (sRet (fTup (fCons (fVar 0) (fCons (fBn false .tup (fCons (fCall (G (Str.ofString "unit_rows")) 1 0 [.inl 0] (fCons (fVar 1) fNil) fNil) fNil)) fNil)))) sNil) := by
  simp only [B_one_table, evSs, evS, ev, evAnd, evOr, evs, evo, evt, evp, evr, evx, evxs, List.map_cons, List.map_nil, Exs.len, Txs.len] <;> rfl
theorem sh_need_prime (G : Fns) (fl : List (Str × Str)) : evSs G fl B_need_prime = (sSeq (sIf (gNot (fTru (fCall (G (Str.ofString "is_prime_value")) 1 0 [.inl 0] (fCons (fVar 0) fNil) fNil))) (sSeq (fun _ _ => .st) sNil) sNil) sNil) := by
  simp only [B_need_prime, evSs, evS, ev, evAnd, evOr, evs, evo, evt, evp, evr, evx, evxs, List.map_cons, List.map_nil, Exs.len, Txs.len] <;> rfl
theorem sh_row_times (G : Fns) (fl : List (Str × Str)) : evSs G fl B_row_times = (sSeq (sRet (fBn false .tup (fCons (fLc false (fSeq (fVar 1)) (.nm 3) [3] fYes (fBin .Mod false (fBin .Mult false (fVar 2) (fVar 3)) (fVar 0))) fNil))) sNil) := by
  simp only [B_row_times, evSs, evS, ev, evAnd, evOr, evs, evo, evt, evp, evr, evx, evxs, List.map_cons, List.map_nil, Exs.len, Txs.len] <;> rfl
theorem sh_is_table_value (G : Fns) (fl : List (Str × Str)) : evSs G fl B_is_table_value = (sSeq (sIf (gOr (gNot (fTru (fIsi .tup (fVar 0)))) (gOr (fTru (fCmp .NotEq (fBn false .len (fCons (fVar 0) fNil)) (fC (.int 2)))) (gNot (fTru (fCall (G (Str.ofString "is_prime_value")) 1 0 [.inl 0] (fCons (fIdx (fVar 0) (fC (.int 0))) fNil) fNil))))) (sSeq (sRet (fC (.bool false))) sNil) sNil) (sSeq (sIf (gNot (fTru (fIsi .tup (fIdx (fVar 0) (fC (.int 1)))))) (sSeq (sRet (fC (.bool false))) sNil) sNil) (sSeq (sRet (fAnd (fChain .LtE .LtE (fC (.int 1)) (fBn false .len (fCons (fIdx (fVar 0) (fC (.int 1))) fNil)) (fC (.int 8))) (fBn false .all (fCons (fLc false (fSeq (fIdx (fVar 0) (fC (.int 1)))) (.nm 1) [1] fYes (fCall (G (Str.ofString "is_row_value")) 3 0 [.inl 0, .inl 1, .inl 2] (fCons (fIdx (fVar 0) (fC (.int 0))) (fCons (fBn false .len (fCons (fIdx (fVar 0) (fC (.int 1))) fNil)) (fCons (fVar 1) fNil))) fNil)) fNil)))) sNil))) := by
  simp only [B_is_table_value, evSs, evS, ev, evAnd, evOr, evs, evo, evt, evp, evr, evx, evxs, List.map_cons, List.map_nil, Exs.len, Txs.len] <;> rfl
theorem sh_row_sum (G : Fns) (fl : List (Str × Str)) : evSs G fl B_row_sum = (sSeq (sRet (fBn false .tup (fCons (fLc false (fZip (fCons (fVar 1) (fCons (fVar 2) fNil))) (.tp (.cons (.nm 4) (.cons (.nm 5) .nil))) [4, 5] fYes (fBin .Mod false (fBin .Add false (fVar 4) (fBin .Mult false (fVar 3) (fVar 5))) (fVar 0))) fNil))) sNil) := by
  simp only [B_row_sum, evSs, evS, ev, evAnd, evOr, evs, evo, evt, evp, evr, evx, evxs, List.map_cons, List.map_nil, Exs.len, Txs.len] <;> rfl
theorem sh_is_fellow (G : Fns) (fl : List (Str × Str)) : evSs G fl B_is_fellow = (sSeq (sRet (fAnd (fCall (G (Str.ofString "is_table_value")) 1 0 [.inl 0] (fCons (fVar 1) fNil) fNil) (fAnd (fCmp .Eq (fIdx (fVar 1) (fC (.int 0))) (fIdx (fVar 0) (fC (.int 0)))) (fCmp .Eq (fBn false .len (fCons (fIdx (fVar 1) (fC (.int 1))) fNil)) (fBn false .len (fCons (fIdx (fVar 0) (fC (.int 1))) fNil)))))) sNil) := by
  simp only [B_is_fellow, evSs, evS, ev, evAnd, evOr, evs, evo, evt, evp, evr, evx, evxs, List.map_cons, List.map_nil, Exs.len, Txs.len] <;> rfl
theorem sh_is_integer (G : Fns) (fl : List (Str × Str)) : evSs G fl B_is_integer = (sSeq (sRet (fAnd (fIsi .int (fVar 0)) (fNot (fIsi .bl (fVar 0))))) sNil) := by
  simp only [B_is_integer, evSs, evS, ev, evAnd, evOr, evs, evo, evt, evp, evr, evx, evxs, List.map_cons, List.map_nil, Exs.len, Txs.len] <;> rfl
theorem sh_mix (G : Fns) (fl : List (Str × Str)) : evSs G fl B_mix = (sSeq (sAsg (fCall (G (Str.ofString "zero_row")) 1 0 [.inl 0] (fCons (fVar 3) fNil) fNil) (tgNm 4)) (sSeq (sFor (fZip (fCons (fVar 1) (fCons (fVar 2) fNil))) (tgT 2 (tgCons (tgNm 5) (tgCons (tgNm 6) tgNil))) (sSeq (sAsg (fCall (G (Str.ofString "row_sum")) 4 0 [.inl 0, .inl 1, .inl 2, .inl 3] (fCons (fVar 0) (fCons (fVar 4) (fCons (fVar 6) (fCons (fVar 5) fNil)))) fNil) (tgNm 4)) sNil)) (sSeq (sRet (fVar 4)) sNil))) := by
  simp only [B_mix, evSs, evS, ev, evAnd, evOr, evs, evo, evt, evp, evr, evx, evxs, List.map_cons, List.map_nil, Exs.len, Txs.len] <;> rfl
theorem sh_is_between (G : Fns) (fl : List (Str × Str)) : evSs G fl B_is_between = (sSeq (sRet (fAnd (fCall (G (Str.ofString "is_integer")) 1 0 [.inl 0] (fCons (fVar 0) fNil) fNil) (fChain .LtE .LtE (fVar 1) (fVar 0) (fVar 2)))) sNil) := by
  simp only [B_is_between, evSs, evS, ev, evAnd, evOr, evs, evo, evt, evp, evr, evx, evxs, List.map_cons, List.map_nil, Exs.len, Txs.len] <;> rfl
theorem sh_unit_rows (G : Fns) (fl : List (Str × Str)) : evSs G fl B_unit_rows = (sSeq (sRet (fLc false (fRng1 (fVar 0)) (.nm 1) [1] fYes (fCall (G (Str.ofString "unit_row")) 2 0 [.inl 0, .inl 1] (fCons (fVar 0) (fCons (fVar 1) fNil)) fNil))) sNil) := by
  simp only [B_unit_rows, evSs, evS, ev, evAnd, evOr, evs, evo, evt, evp, evr, evx, evxs, List.map_cons, List.map_nil, Exs.len, Txs.len] <;> rfl
theorem sh_is_prime_value (G : Fns) (fl : List (Str × Str)) : evSs G fl B_is_prime_value = (sSeq (sRet (fAnd (fCall (G (Str.ofString "is_integer")) 1 0 [.inl 0] (fCons (fVar 0) fNil) fNil) (fCmp .In (fVar 0) (fC (.tuple [(.int 2), (.int 3), (.int 5), (.int 7)]))))) sNil) := by
  simp only [B_is_prime_value, evSs, evS, ev, evAnd, evOr, evs, evo, evt, evp, evr, evx, evxs, List.map_cons, List.map_nil, Exs.len, Txs.len] <;> rfl
theorem sh_zero_row (G : Fns) (fl : List (Str × Str)) : evSs G fl B_zero_row = (sSeq (sRet (fBin .Mult false (fTup (fCons (fC (.int 0)) fNil)) (fVar 0))) sNil) := by
  simp only [B_zero_row, evSs, evS, ev, evAnd, evOr, evs, evo, evt, evp, evr, evx, evxs, List.map_cons, List.map_nil, Exs.len, Txs.len] <;> rfl
theorem sh_unit_row (G : Fns) (fl : List (Str × Str)) : evSs G fl B_unit_row = (sSeq (sRet (fBn false .tup (fCons (fLc false (fRng1 (fVar 0)) (.nm 2) [2] fYes (fIf (fTru (fCmp .Eq (fVar 2) (fVar 1))) (fC (.int 1)) (fC (.int 0)))) fNil))) sNil) := by
  simp only [B_unit_row, evSs, evS, ev, evAnd, evOr, evs, evo, evt, evp, evr, evx, evxs, List.map_cons, List.map_nil, Exs.len, Txs.len] <;> rfl
theorem sh_power (G : Fns) (fl : List (Str × Str)) : evSs G fl B_power = (sSeq (sExp (fCall (G (Str.ofString "need_table")) 1 0 [.inl 0] (fCons (fVar 0) fNil) fNil)) (sSeq (sExp (fCall (G (Str.ofString "need_integer")) 2 0 [.inl 0, .inl 1, .inr .none] (fCons (fVar 1) (fCons (fC (.int 0)) fNil)) fNil)) (sSeq (sRet (fCall (G (Str.ofString "table_power")) 2 0 [.inl 0, .inl 1] (fCons (fVar 0) (fCons (fVar 1) fNil)) fNil)) sNil))) := by
  simp only [B_power, evSs, evS, ev, evAnd, evOr, evs, evo, evt, evp, evr, evx, evxs, List.map_cons, List.map_nil, Exs.len, Txs.len] <;> rfl
theorem sh__law_power (G : Fns) (fl : List (Str × Str)) : evSs G fl B__law_power = (sSeq (sPar 3 4 (fCons (fCall (G (Str.ofString "_law_unit")) 2 0 [.inl 0, .inl 1] (fCons (fBn false .len (fCons (fVar 1) fNil)) (fCons (fC (.int 1)) fNil)) fNil) (fCons (fVar 1) fNil))) (sSeq (whileF (fTru (fCmp .Gt (fVar 2) (fC (.int 0)))) (sSeq (sIf (fTru (fCmp .Eq (fBin .BitAnd false (fVar 2) (fC (.int 1))) (fC (.int 1)))) (sSeq (sAsg (fCall (G (Str.ofString "_law_by")) 3 0 [.inl 0, .inl 1, .inl 2] (fCons (fVar 0) (fCons (fVar 3) (fCons (fVar 4) fNil))) fNil) (tgNm 3)) sNil) sNil) (sSeq (sAsg (fBin .FloorDiv false (fVar 2) (fC (.int 2))) (tgNm 2)) (sSeq (sIf (fTru (fCmp .Gt (fVar 2) (fC (.int 0)))) (sSeq (sAsg (fCall (G (Str.ofString "_law_by")) 3 0 [.inl 0, .inl 1, .inl 2] (fCons (fVar 0) (fCons (fVar 4) (fCons (fVar 4) fNil))) fNil) (tgNm 4)) sNil) sNil) sNil))) 4000) (sSeq (sRet (fVar 3)) sNil))) := by
  simp only [B__law_power, evSs, evS, ev, evAnd, evOr, evs, evo, evt, evp, evr, evx, evxs, List.map_cons, List.map_nil, Exs.len, Txs.len] <;> rfl
theorem sh__law_exponent (G : Fns) (fl : List (Str × Str)) : evSs G fl B__law_exponent = (sSeq (sAsg (fCall (G (Str.ofString "_law_draw")) 2 0 [.inl 0, .inl 1] (fCons (fVar 0) (fCons (fC (.int 6)) fNil)) fNil) (tgNm 2)) (sSeq (sIf (fTru (fCmp .Lt (fVar 2) (fC (.int 3)))) (sSeq (sRet (fCall (G (Str.ofString "_law_draw")) 2 0 [.inl 0, .inl 1] (fCons (fVar 0) (fCons (fIdx (fTup (fCons (fC (.int 3)) (fCons (fC (.int 10)) (fCons (fC (.int 60)) fNil)))) (fVar 2)) fNil)) fNil)) sNil) sNil) (sSeq (sIf (fTru (fCmp .Eq (fVar 2) (fC (.int 3)))) (sSeq (sAsg (fC (.int 1)) (tgNm 3)) (sSeq (sFor (fRng1 (fCall (G (Str.ofString "_law_draw")) 2 0 [.inl 0, .inl 1] (fCons (fVar 0) (fCons (fC (.int 30)) fNil)) fNil)) (tgNm 4) (sSeq (sAsg (fBin .Mult false (fVar 3) (fCall (G (Str.ofString "_law_pick")) 2 0 [.inl 0, .inl 1] (fCons (fVar 0) (fCons (fLst false (fCons (fC (.int 2)) (fCons (fVar 1) fNil))) fNil)) fNil)) (tgNm 3)) sNil)) (sSeq (sRet (fBin .Sub false (fVar 3) (fCall (G (Str.ofString "_law_draw")) 2 0 [.inl 0, .inl 1] (fCons (fVar 0) (fCons (fC (.int 2)) fNil)) fNil))) sNil))) sNil) (sSeq (sAsg (fC (.int 0)) (tgNm 3)) (sSeq (sFor (fRng1 (fBin .Add false (fC (.int 1)) (fCall (G (Str.ofString "_law_draw")) 2 0 [.inl 0, .inl 1] (fCons (fVar 0) (fCons (fC (.int 5)) fNil)) fNil))) (tgNm 4) (sSeq (sAsg (fBin .Add false (fBin .Mult false (fVar 3) (fC (.int 1000000))) (fCall (G (Str.ofString "_law_draw")) 2 0 [.inl 0, .inl 1] (fCons (fVar 0) (fCons (fC (.int 1000000)) fNil)) fNil)) (tgNm 3)) sNil)) (sSeq (sRet (fIf (fTru (fCmp .Eq (fVar 2) (fC (.int 4)))) (fVar 3) (fBin .Sub false (fBin .Pow false (fC (.int 10)) (fC (.int 30))) (fCall (G (Str.ofString "_law_draw")) 2 0 [.inl 0, .inl 1] (fCons (fVar 0) (fCons (fC (.int 3)) fNil)) fNil)))) sNil)))))) := by
  simp only [B__law_exponent, evSs, evS, ev, evAnd, evOr, evs, evo, evt, evp, evr, evx, evxs, List.map_cons, List.map_nil, Exs.len, Txs.len] <;> rfl
theorem sh_table_power (G : Fns) (fl : List (Str × Str)) : evSs G fl B_table_power = (sSeq (sPar 2 3 (fCons (fCall (G (Str.ofString "one_like")) 1 0 [.inl 0] (fCons (fVar 0) fNil) fNil) (fCons (fVar 0) fNil))) (sSeq (whileF (fTru (fCmp .Gt (fVar 1) (fC (.int 0)))) (sSeq (sIf (fTru (fCmp .Eq (fBin .Mod false (fVar 1) (fC (.int 2))) (fC (.int 1)))) (sSeq (sAsg (fCall (G (Str.ofString "table_product")) 2 0 [.inl 0, .inl 1] (fCons (fVar 2) (fCons (fVar 3) fNil)) fNil) (tgNm 2)) sNil) sNil) (sSeq (sAsg (fCall (G (Str.ofString "table_product")) 2 0 [.inl 0, .inl 1] (fCons (fVar 3) (fCons (fVar 3) fNil)) fNil) (tgNm 3)) (sSeq (sAsg (fBin .FloorDiv false (fVar 1) (fC (.int 2))) (tgNm 1)) sNil))) 4000) (sSeq (sRet (fVar 2)) sNil))) := by
  simp only [B_table_power, evSs, evS, ev, evAnd, evOr, evs, evo, evt, evp, evr, evx, evxs, List.map_cons, List.map_nil, Exs.len, Txs.len] <;> rfl
theorem sh_one_like (G : Fns) (fl : List (Str × Str)) : evSs G fl B_one_like = (sSeq (sRet (fCall (G (Str.ofString "one_table")) 2 0 [.inl 0, .inl 1] (fCons (fIdx (fVar 0) (fC (.int 0))) (fCons (fCall (G (Str.ofString "size")) 1 0 [.inl 0] (fCons (fVar 0) fNil) fNil) fNil)) fNil)) sNil) := by
  simp only [B_one_like, evSs, evS, ev, evAnd, evOr, evs, evo, evt, evp, evr, evx, evxs, List.map_cons, List.map_nil, Exs.len, Txs.len] <;> rfl
end Lb

set_option linter.all false
set_option maxRecDepth 100000
set_option maxHeartbeats 1000000
namespace Lb
open PySem PySem.Spec L2 Dl
/-! LibC: the defs that reckon with tables. -/
@[simp] theorem s_for {Fi : Slots → Sto → Res Src} {G : FT} {B : Slots → Sto → Out} {ρ : Slots} {S : Sto} : sFor Fi G B ρ S = (Fi ρ S).out fun src S1 => forL src.w G B src.xs ρ S1 := rfl
theorem for_inv {β : Type} {G : FT} {B : Slots → Sto → Out} {w : List (Nat × List D)} {ys : List β} (g : β → D) (P : List β → Slots → Sto → Prop) (hw : ∀ done ρ S, P done ρ S → Wat w S)
    (hs : ∀ done y ρ S, P done ρ S → y ∈ ys → ∃ ρ1 S1 ρ2 S2, G (g y) ρ S = .ok ρ1 S1 ∧ (B ρ1 S1 = .nx ρ2 S2 ∨ B ρ1 S1 = .ct ρ2 S2) ∧ P (done ++ [y]) ρ2 S2) :
    ∀ (rest done : List β) (ρ : Slots) (S : Sto), (∀ y ∈ rest, y ∈ ys) → P done ρ S → ∃ ρ' S', forL w G B (rest.map g) ρ S = .nx ρ' S' ∧ P (done ++ rest) ρ' S' := by
  intro rest
  induction rest with
  | nil =>
    intro done ρ S _ p
    refine ⟨ρ, S, ?_, by simpa using p⟩
    unfold forL
    simp only [List.map_nil]
    rw [if_pos (hw _ _ _ p)]
  | cons y rest ih =>
    intro done ρ S hy p
    obtain ⟨ρ1, S1, ρ2, S2, e1, e2, p2⟩ := hs done y ρ S p (hy y (by simp))
    obtain ⟨ρ', S', e3, p3⟩ := ih (done ++ [y]) ρ2 S2 (fun z hz => hy z (by simp [hz])) p2
    refine ⟨ρ', S', ?_, by simpa using p3⟩
    rw [List.map_cons]
    unfold forL
    rw [if_pos (hw _ _ _ p), e1, out_ok]
    rcases e2 with e2 | e2
    · simp only [e2]; exact e3
    · simp only [e2]; exact e3
/-! ### what is reckoned -/
def rsum (p : Int) (a b : List Int) (k : Int) : List Int := (a.zip b).map fun q => (q.1 + k * q.2) % p
def rtimes (p : Int) (r : List Int) (k : Int) : List Int := r.map fun x => k * x % p
def urow (n : Nat) (i : Int) : List Int := (List.range n).map fun j => if ((j : Nat) : Int) = i then 1 else 0
def mixL (p : Int) (nums : List Int) (rows : List (List Int)) (n : Nat) : List Int := (nums.zip rows).foldl (fun acc q => rsum p acc q.2 q.1) (List.replicate n 0)
def lim (x : Int) : Prop := -(2 ^ 64) < x ∧ x < 2 ^ 64
theorem Row.lim {p : Int} {n : Nat} {r : List Int} (h : Row p n r) (hp : p ≤ 7) : ∀ x ∈ r, lim x := fun x hx => by
  have := h.2 x hx
  unfold Lb.lim
  omega
theorem szl : (8 : Nat) ≤ sizeLine := by decide
structure HRow (D : List Df) : Prop where
  row_times : HasB D (Str.ofString "row_times") 3 4 B_row_times
  row_sum : HasB D (Str.ofString "row_sum") 4 6 B_row_sum
  unit_row : HasB D (Str.ofString "unit_row") 2 3 B_unit_row
  unit_rows : HasB D (Str.ofString "unit_rows") 1 2 B_unit_rows
  zero_row : HasB D (Str.ofString "zero_row") 1 1 B_zero_row
  mix : HasB D (Str.ofString "mix") 4 7 B_mix
  size : HasB D (Str.ofString "size") 1 1 B_size
  row_led : HasB D (Str.ofString "row_led") 2 2 B_row_led
  table_product : HasB D (Str.ofString "table_product") 2 3 B_table_product
  table_times : HasB D (Str.ofString "table_times") 2 3 B_table_times
  one_table : HasB D (Str.ofString "one_table") 2 2 B_one_table
  mirrored : HasB D (Str.ofString "mirrored") 1 4 B_mirrored
section
variable {dfs : List Df} {fl : List (Str × Str)} {sp : Fns → Fns} {S : Sto} {n : Nat}
theorem c_row_times (H : HRow dfs) (hn : 1 ≤ n) {p k : Int} {r : List Int} (hp : 0 < p) (hk : lim k) (hr : ∀ x ∈ r, lim x) (hz : r.length ≤ sizeLine) :
    evF dfs fl sp n (Str.ofString "row_times") [.p (.int p), .p (rowP r), .p (.int k)] S = .ok (.p (rowP (rtimes p r k))) S := by
  refine gives H.row_times hn rfl ?_
  have lc := lc_map (ys := r) (t := .nm 3) (own := [3]) (S := S) (ρ := [some (.i p), some (.p (rowP r)), some (.i k), none]) (Fi := fSeq (fVar 1)) (w := []) (Fe := fBin .Mod false (fBin .Mult false (fVar 2) (fVar 3)) (fVar 0)) (fun x => D.p (.int x)) (fun x => .int (k * x % p))
    (by rw [i_seqT (ds := r.map PyData.int) (by simp [rowP])]; simp) (by simp) hz fun x hx => ⟨_, rfl, by simp [wipeD, o_mul6 hk (hr x hx), o_mod hp]⟩
  simp [B_row_times, evSs, evS, ev, evs, evt, evr, lc]
  simp [rowP, rtimes]
theorem c_row_sum (H : HRow dfs) (hn : 1 ≤ n) {p k : Int} {a b : List Int} (hp : 0 < p) (hk : lim k) (hb : ∀ x ∈ b, lim x) (hz : a.length ≤ sizeLine) :
    evF dfs fl sp n (Str.ofString "row_sum") [.p (.int p), .p (rowP a), .p (rowP b), .p (.int k)] S = .ok (.p (rowP (rsum p a b k))) S := by
  refine gives H.row_sum hn rfl ?_
  have lc := lc_map (ys := a.zip b) (t := .tp (.cons (.nm 4) (.cons (.nm 5) .nil))) (own := [4, 5]) (S := S) (ρ := [some (.i p), some (.p (rowP a)), some (.p (rowP b)), some (.i k), none, none]) (Fi := fZip (fCons (fVar 1) (fCons (fVar 2) fNil))) (w := [])
    (Fe := fBin .Mod false (fBin .Add false (fVar 4) (fBin .Mult false (fVar 3) (fVar 5))) (fVar 0)) (fun q => D.p (.tuple [.int q.1, .int q.2])) (fun q => .int ((q.1 + k * q.2) % p))
    (by
      rw [i_zip (x := rowP a) (y := rowP b) (xs := a.map PyData.int) (ys := b.map PyData.int) (by simp) (by simp) rfl rfl, List.zip_map]
      simp [Function.comp_def]) (by simp) (by simp only [List.length_zip]; omega) fun q hq => ⟨_, rfl, by
        have := hb q.2 (List.of_mem_zip hq).2
        simp [wipeD, o_mul6 hk this, o_mod hp]⟩
  simp [B_row_sum, evSs, evS, ev, evs, evt, evr, lc]
  simp [rowP, rsum]
theorem c_unit_row (H : HRow dfs) (hn : 1 ≤ n) {k : Nat} {i : Int} (hk : k ≤ 8) : evF dfs fl sp n (Str.ofString "unit_row") [.p (.int (k : Nat)), .p (.int i)] S = .ok (.p (rowP (urow k i))) S := by
  refine gives H.unit_row hn rfl ?_
  have sz := szl
  have lc := lc_map (ys := List.range k) (t := .nm 2) (own := [2]) (S := S) (ρ := [some (.i k), some (.i i), none]) (Fi := fRng1 (fVar 0)) (w := []) (Fe := fIf (fTru (fCmp .Eq (fVar 2) (fVar 1))) (fC (.int 1)) (fC (.int 0))) (fun x => D.i (x : Nat)) (fun x => .int (if ((x : Nat) : Int) = i then 1 else 0))
    (i_r1 (by simp) (by omega)) (by simp) (by simp; omega) fun x hx => ⟨_, rfl, by
      by_cases q : ((x : Nat) : Int) = i <;> simp [wipeD, q]⟩
  rw [sh_unit_row, s_seq, s_ret, e_bn, e_cons]
  simp only [List.map_cons, List.map_nil, List.cons_append, List.nil_append, List.replicate]
  rw [lc]
  simp [rowP, urow, Function.comp_def]
theorem c_unit_rows (H : HRow dfs) (hn : 2 ≤ n) {k : Nat} (hk : k ≤ 8) : evF dfs fl sp n (Str.ofString "unit_rows") [.p (.int (k : Nat))] S = .ok (.p (.list ((List.range k).map fun i => rowP (urow k (i : Nat))))) S := by
  refine gives H.unit_rows (by omega) rfl ?_
  have sz := szl
  have lc := lc_map (ys := List.range k) (t := .nm 1) (own := [1]) (S := S) (ρ := [some (.i k), none]) (Fi := fRng1 (fVar 0)) (w := []) (Fe := fCall (evF dfs fl sp (n - 1) (Str.ofString "unit_row")) 2 0 [.inl 0, .inl 1] (fCons (fVar 0) (fCons (fVar 1) fNil)) fNil) (fun x => D.i (x : Nat)) (fun x => rowP (urow k (x : Nat)))
    (i_r1 (by simp) (by omega)) (by simp) (by simp; omega) fun x hx => ⟨_, rfl, by
      have := c_unit_row (fl := fl) (sp := sp) (n := n - 1) (S := S) (i := (x : Nat)) H (by omega) hk
      simp [wipeD, arrD, this]⟩
  rw [sh_unit_rows, s_seq, s_ret]
  simp only [List.map_cons, List.map_nil, List.cons_append, List.nil_append, List.replicate]
  rw [lc]
  rfl
theorem c_zero_row (H : HRow dfs) (hn : 1 ≤ n) {k : Nat} (hk : k ≤ 8) : evF dfs fl sp n (Str.ofString "zero_row") [.p (.int (k : Nat))] S = .ok (.p (rowP (List.replicate k 0))) S := by
  refine gives H.zero_row hn rfl ?_
  have e : opBin .Mult false (.p (.tuple [.int 0])) (.p (.int (k : Nat))) S = .ok (.p (rowP (List.replicate k 0))) S := by
    show opMul false (.p (.tuple [.int 0])) (.p (.int (k : Nat))) S = _
    unfold opMul
    simp only [tupOf_tuple, List.map_cons, List.map_nil]
    rw [if_pos ⟨by simp, by omega, by omega⟩]
    have : (List.replicate ((k : Nat) : Int).toNat [D.p (.int 0)]).flatten = (List.replicate k (PyData.int 0)).map D.p := by
      rw [Int.toNat_natCast]
      induction k with
      | zero => rfl
      | succ k ih => simp only [List.replicate_succ, List.flatten_cons, List.map_cons, List.cons_append, List.nil_append]; rw [ih (by omega)]
    rw [this, mkT_map]
    simp [rowP]
  have t1 : mkT [D.p (.int 0)] = .p (.tuple [.int 0]) := rfl
  have sz : 1 ≤ sizeLine := by decide
  simp [B_zero_row, evSs, evS, ev, evs, t1, e, sz]
theorem rsum_len {p k : Int} {a b : List Int} : (rsum p a b k).length = min a.length b.length := by simp [rsum]
theorem c_mix (H : HRow dfs) (hn : 2 ≤ n) {p : Int} {k : Nat} {nums : List Int} {rows : List (List Int)} (hp : 0 < p) (hk : k ≤ 8) (h1 : ∀ x ∈ nums, lim x) (h2 : ∀ r ∈ rows, (∀ x ∈ r, lim x)) :
    evF dfs fl sp n (Str.ofString "mix") [.p (.int p), .p (rowP nums), .p (matP rows), .p (.int (k : Nat))] S = .ok (.p (rowP (mixL p nums rows k))) S := by
  refine gives H.mix (by omega) rfl ?_
  have sz := szl
  have z := c_zero_row (fl := fl) (sp := sp) (n := n - 1) (S := S) H (by omega) hk
  have src := i_zip (ρ := [some (.i p), some (.p (rowP nums)), some (.p (matP rows)), some (.i k), some (.p (rowP (List.replicate k 0))), none, none]) (S := S) (Fa := fVar 1) (Fb := fVar 2) (x := rowP nums) (y := matP rows) (xs := nums.map PyData.int) (ys := rows.map rowP) (by simp) (by simp) rfl rfl
  rw [List.zip_map, List.map_map] at src
  have loop := for_inv (G := tgT 2 (tgCons (tgNm 5) (tgCons (tgNm 6) tgNil))) (B := sSeq (sAsg (fCall (evF dfs fl sp (n - 1) (Str.ofString "row_sum")) 4 0 [.inl 0, .inl 1, .inl 2, .inl 3] (fCons (fVar 0) (fCons (fVar 4) (fCons (fVar 6) (fCons (fVar 5) fNil)))) fNil) (tgNm 4)) sNil) (w := []) (ys := nums.zip rows) (fun q => D.p (.tuple [.int q.1, rowP q.2]))
    (fun done ρ S' => S' = S ∧ ∃ x y, ρ = [some (.i p), some (.p (rowP nums)), some (.p (matP rows)), some (.i k), some (.p (rowP (done.foldl (fun acc q => rsum p acc q.2 q.1) (List.replicate k 0)))), x, y] ∧ (done.foldl (fun acc q => rsum p acc q.2 q.1) (List.replicate k 0)).length ≤ 8)
    (fun _ _ _ _ => by simp) (by
      rintro done ⟨a, r⟩ ρ S' ⟨rfl, x, y, rfl, hl⟩ hq
      have hm := List.of_mem_zip hq
      have rs := c_row_sum (fl := fl) (sp := sp) (n := n - 1) (S := S') (p := p) (k := a) (a := done.foldl (fun acc q => rsum p acc q.2 q.1) (List.replicate k 0)) (b := r) H (by omega) hp (h1 a hm.1) (h2 r hm.2) (by omega)
      refine ⟨[some (.i p), some (.p (rowP nums)), some (.p (matP rows)), some (.i k), some (.p (rowP (done.foldl (fun acc q => rsum p acc q.2 q.1) (List.replicate k 0)))), some (.i a), some (.p (rowP r))], S', _, S', by simp, .inl (by simp [arrD, rs]; rfl), rfl, some (.i a), some (.p (rowP r)), ?_, ?_⟩
      · simp
      · simp only [List.foldl_append, List.foldl_cons, List.foldl_nil, rsum_len]; omega)
    (nums.zip rows) [] [some (.i p), some (.p (rowP nums)), some (.p (matP rows)), some (.i k), some (.p (rowP (List.replicate k 0))), none, none] S (fun _ h => h) ⟨rfl, none, none, rfl, by simp; omega⟩
  obtain ⟨ρ', S', e1, rfl, x, y, e2, _⟩ := loop
  have src' : fZip (fCons (fVar 1) (fCons (fVar 2) fNil)) [some (.i p), some (.p (rowP nums)), some (.p (matP rows)), some (.i k), some (.p (rowP (List.replicate k 0))), none, none] S' = .ok ⟨(nums.zip rows).map fun q => D.p (.tuple [.int q.1, rowP q.2]), []⟩ S' := src
  rw [sh_mix, s_seq, s_asg]
  simp [arrD, z]
  rw [src', out_ok, e1, e2]
  simp [mixL]
end
end Lb

set_option linter.all false
set_option maxRecDepth 100000
set_option maxHeartbeats 1000000
namespace Lb
open PySem PySem.Spec L2 Dl
/-! LibD: tables as functions of two places; the program's defs of whole tables. -/
def sm (n : Nat) (h : Nat → Int) : Int := ((List.range n).map h).sum
def mkR (n : Nat) (f : Nat → Int) : List Int := (List.range n).map f
def mkM (n : Nat) (f : Nat → Nat → Int) : List (List Int) := (List.range n).map fun i => mkR n (f i)
theorem sm0 (h : Nat → Int) : sm 0 h = 0 := rfl
theorem smS (n : Nat) (h : Nat → Int) : sm (n + 1) h = sm n h + h n := by simp [sm, List.range_succ]
theorem mkR_len {n : Nat} {f : Nat → Int} : (mkR n f).length = n := by simp [mkR]
theorem mkM_len {n : Nat} {f : Nat → Nat → Int} : (mkM n f).length = n := by simp [mkM]
theorem mkR_ext {n : Nat} {f g : Nat → Int} (h : ∀ i, i < n → f i = g i) : mkR n f = mkR n g := List.map_congr_left fun i hi => h i (List.mem_range.mp hi)
theorem mkM_ext {n : Nat} {f g : Nat → Nat → Int} (h : ∀ i j, i < n → j < n → f i j = g i j) : mkM n f = mkM n g :=
  List.map_congr_left fun i hi => mkR_ext fun j hj => h i j (List.mem_range.mp hi) hj
def In1 (p : Int) (f : Nat → Int) : Prop := ∀ i, 0 ≤ f i ∧ f i < p
def In2 (p : Int) (f : Nat → Nat → Int) : Prop := ∀ i j, 0 ≤ f i j ∧ f i j < p
theorem mkR_row {p : Int} {n : Nat} {f : Nat → Int} (h : In1 p f) : Row p n (mkR n f) := ⟨mkR_len, fun x hx => by
  simp only [mkR, List.mem_map] at hx
  obtain ⟨i, _, rfl⟩ := hx
  exact h i⟩
theorem mkM_mat {p : Int} {n : Nat} {f : Nat → Nat → Int} (h : In2 p f) : Mat p n (mkM n f) := ⟨mkM_len, fun x hx => by
  simp only [mkM, List.mem_map] at hx
  obtain ⟨i, _, rfl⟩ := hx
  exact mkR_row (h i)⟩
theorem mod_in {p x : Int} (hp : 0 < p) : 0 ≤ x % p ∧ x % p < p := ⟨Int.emod_nonneg _ (by omega), Int.emod_lt_of_pos _ hp⟩
theorem rsum_mk {p k : Int} {n : Nat} {f g : Nat → Int} : rsum p (mkR n f) (mkR n g) k = mkR n fun j => (f j + k * g j) % p := by
  simp only [rsum, mkR]
  rw [List.zip_map, List.map_map]
  have : (List.range n).zip (List.range n) = (List.range n).map fun i => (i, i) := by
    have := List.zip_map' (f := fun i : Nat => i) (g := fun i : Nat => i) (l := List.range n)
    simpa using this
  rw [this, List.map_map]
  rfl
theorem rtimes_mk {p k : Int} {n : Nat} {f : Nat → Int} : rtimes p (mkR n f) k = mkR n fun j => k * f j % p := by
  simp [rtimes, mkR, Function.comp_def]
theorem mix_mk {p : Int} {n : Nat} {f : Nat → Int} {g : Nat → Nat → Int} : ∀ m : Nat, mixL p (mkR m f) ((List.range m).map fun i => mkR n (g i)) n = mkR n fun j => (sm m fun i => f i * g i j) % p := by
  have zp : ∀ m : Nat, (mkR m f).zip ((List.range m).map fun i => mkR n (g i)) = (List.range m).map fun i => (f i, mkR n (g i)) := by
    intro m
    simp only [mkR]
    exact List.zip_map'
  intro m
  unfold mixL
  rw [zp]
  induction m with
  | zero =>
    simp only [List.range_zero, List.map_nil, List.foldl_nil, sm0, Int.zero_emod, mkR]
    rw [List.map_const']
    simp
  | succ m ih =>
    rw [List.range_succ, List.map_append, List.foldl_append, ih]
    simp only [List.map_cons, List.map_nil, List.foldl_cons, List.foldl_nil, rsum_mk, smS]
    apply mkR_ext
    intro j _
    rw [Int.emod_add_emod]
theorem matP_mk {n : Nat} {f : Nat → Nat → Int} : matP (mkM n f) = .tuple ((List.range n).map fun i => rowP (mkR n (f i))) := by simp [matP, mkM, Function.comp_def]
theorem ent_row {n j : Nat} (h : j < n) {f : Nat → Int} : ((mkR n f).map PyData.int)[j]? = some (.int (f j)) := by simp [mkR, h]
theorem ent_mat {n i : Nat} (h : i < n) {f : Nat → Nat → Int} : ((mkM n f).map rowP)[i]? = some (rowP (mkR n (f i))) := by simp [mkM, h]
/-- a row of any numbers is one of its places -/
theorem row_fn {p : Int} {n : Nat} {r : List Int} (hp : 0 < p) (h : Row p n r) : ∃ f, In1 p f ∧ r = mkR n f := by
  refine ⟨fun j => (r[j]?).getD 0, fun j => ?_, ?_⟩
  · show 0 ≤ (r[j]?).getD 0 ∧ (r[j]?).getD 0 < p
    cases e : r[j]? with
    | none => simpa using hp
    | some x => simpa using h.2 x (List.mem_of_getElem? e)
  · apply List.ext_getElem?
    intro j
    by_cases q : j < n
    · have : j < r.length := by rw [h.1]; exact q
      simp [mkR, q, this]
    · have : r.length ≤ j := by rw [h.1]; omega
      simp [mkR, q, this]
theorem mat_fn {p : Int} {n : Nat} {M : List (List Int)} (hp : 0 < p) (h : Mat p n M) : ∃ f, In2 p f ∧ M = mkM n f := by
  have rows : ∀ i : Nat, ∃ f, In1 p f ∧ ∀ r : List Int, M[i]? = some r → r = mkR n f := by
    intro i
    cases e : M[i]? with
    | none => exact ⟨fun _ => 0, fun _ => ⟨Int.le_refl _, hp⟩, fun r z => nomatch z⟩
    | some r =>
      obtain ⟨f, h1, h2⟩ := row_fn hp (h.2 r (List.mem_of_getElem? e))
      exact ⟨f, h1, fun r' z => by cases z; exact h2⟩
  refine ⟨fun i => (rows i).choose, fun i => (rows i).choose_spec.1, ?_⟩
  apply List.ext_getElem?
  intro i
  by_cases q : i < n
  · have : i < M.length := by rw [h.1]; exact q
    have e : M[i]? = some M[i] := List.getElem?_eq_getElem this
    rw [e]
    have := (rows i).choose_spec.2 _ e
    simp only [mkM, List.getElem?_map, List.getElem?_range q, Option.map_some]
    rw [← this]
  · have : M.length ≤ i := by rw [h.1]; omega
    simp [mkM, q, this]
structure HWhole (D : List Df) : Prop where
  is_fellow : HasB D (Str.ofString "is_fellow") 2 2 B_is_fellow
  need_fellows : HasB D (Str.ofString "need_fellows") 2 2 B_need_fellows
  need_prime : HasB D (Str.ofString "need_prime") 1 1 B_need_prime
  need_integer : HasB D (Str.ofString "need_integer") 3 3 B_need_integer
section
variable {dfs : List Df} {fl : List (Str × Str)} {sp : Fns → Fns} {S : Sto} {n : Nat}
theorem c_size (H : HRow dfs) (hn : 1 ≤ n) {p : Int} {M : List (List Int)} : evF dfs fl sp n (Str.ofString "size") [.p (tabP p M)] S = .ok (.i M.length) S := by
  refine gives H.size hn rfl ?_
  simp [B_size, evSs, evS, ev, evs, tabP, matP]
theorem limP {p : Int} (hp : Pr p) {x : Int} (h : 0 ≤ x ∧ x < p) : lim x := by
  have := hp.pos
  unfold lim
  omega
theorem c_row_led (H : HRow dfs) (hn : 3 ≤ n) {p : Int} {k : Nat} {f : Nat → Nat → Int} {r : Nat → Int} (hp : Pr p) (hk : k ≤ 8) (hf : In2 p f) (hr : In1 p r) :
    evF dfs fl sp n (Str.ofString "row_led") [.p (tabP p (mkM k f)), .p (rowP (mkR k r))] S = .ok (.p (rowP (mkR k fun j => (sm k fun i => r i * f i j) % p))) S := by
  refine gives H.row_led (by omega) rfl ?_
  have h1 := c_size (fl := fl) (sp := sp) (n := n - 1) (S := S) (p := p) (M := mkM k f) H (by omega)
  rw [mkM_len] at h1
  have h2 := c_mix (fl := fl) (sp := sp) (n := n - 1) (S := S) (p := p) (k := k) (nums := mkR k r) (rows := mkM k f) H (by omega) (by have := hp.pos; omega) hk
    (fun x hx => limP hp ((mkR_row (n := k) hr).2 x hx)) (fun r' hr' x hx => limP hp (((mkM_mat (n := k) hf).2 r' hr').2 x hx))
  rw [show mkM k f = (List.range k).map fun i => mkR k (f i) from rfl, mix_mk] at h2
  have e1 : opIdx (.p (tabP p (mkM k f))) (.p (.int 0)) S = .ok (.p (.int p)) S := by simp [tabP]
  have e2 : opIdx (.p (tabP p (mkM k f))) (.p (.int 1)) S = .ok (.p (matP (mkM k f))) S := by simp [tabP]
  simp [B_row_led, evSs, evS, ev, evs, Exs.len, arrD, h1, e1, e2]
  rw [show mkM k f = (List.range k).map fun i => mkR k (f i) from rfl, h2]
  rfl
theorem t0 {p : Int} {M : List (List Int)} : opIdx (.p (tabP p M)) (.p (.int 0)) S = .ok (.p (.int p)) S := by simp [tabP]
theorem t1 {p : Int} {M : List (List Int)} : opIdx (.p (tabP p M)) (.p (.int 1)) S = .ok (.p (matP M)) S := by simp [tabP]
theorem sz2 : 2 ≤ sizeLine := by decide
theorem sz3 : 3 ≤ sizeLine := by decide
theorem sz4 : 4 ≤ sizeLine := by decide
theorem sz6 : 6 ≤ sizeLine := by decide
theorem mk2 {a b : PyData} : mkT [.p a, .p b] = .p (.tuple [a, b]) := rfl
theorem mk3 {a b c : PyData} : mkT [.p a, .p b, .p c] = .p (.tuple [a, b, c]) := rfl
theorem mk4 {a b c d : PyData} : mkT [.p a, .p b, .p c, .p d] = .p (.tuple [a, b, c, d]) := rfl
theorem mk6 {a b c d e f : PyData} : mkT [.p a, .p b, .p c, .p d, .p e, .p f] = .p (.tuple [a, b, c, d, e, f]) := rfl
theorem szk {k : Nat} (hk : k ≤ 8) : k ≤ sizeLine := by have := szl; omega
theorem c_table_product (H : HRow dfs) (hn : 4 ≤ n) {p : Int} {k : Nat} {f g : Nat → Nat → Int} (hp : Pr p) (hk : k ≤ 8) (hf : In2 p f) (hg : In2 p g) :
    evF dfs fl sp n (Str.ofString "table_product") [.p (tabP p (mkM k f)), .p (tabP p (mkM k g))] S = .ok (.p (tabP p (mkM k fun i j => (sm k fun l => f i l * g l j) % p))) S := by
  refine gives H.table_product (by omega) rfl ?_
  have lc := lc_map (ys := List.range k) (t := .nm 2) (own := [2]) (S := S) (ρ := [some (.p (tabP p (mkM k f))), some (.p (tabP p (mkM k g))), none]) (Fi := fSeq (fIdx (fVar 0) (fC (.int 1)))) (w := [])
    (Fe := fCall (evF dfs fl sp (n - 1) (Str.ofString "row_led")) 2 0 [.inl 0, .inl 1] (fCons (fVar 1) (fCons (fVar 2) fNil)) fNil) (fun i => D.p (rowP (mkR k (f i)))) (fun i => rowP (mkR k fun j => (sm k fun l => f i l * g l j) % p))
    (by rw [i_seqT (ds := (List.range k).map fun i => rowP (mkR k (f i))) (by simp [t1, matP_mk])]; simp [Function.comp_def]) (by simp) (by simpa using szk hk) fun i _ => ⟨_, rfl, by
      have := c_row_led (fl := fl) (sp := sp) (n := n - 1) (S := S) (k := k) (r := f i) H (by omega) hp hk hg (hf i)
      simp [wipeD, arrD, this]⟩
  rw [sh_table_product]
  simp only [List.map_cons, List.map_nil, List.cons_append, List.nil_append, List.replicate]
  simp [t0, lc, sz2, mk2]
  simp [tabP, matP_mk]
theorem c_table_sum (H : HasB dfs (Str.ofString "table_sum") 3 5 B_table_sum) (H2 : HRow dfs) (hn : 2 ≤ n) {p c : Int} {k : Nat} {f g : Nat → Nat → Int} (hp : Pr p) (hk : k ≤ 8) (hc : lim c) (hf : In2 p f) (hg : In2 p g) :
    evF dfs fl sp n (Str.ofString "table_sum") [.p (tabP p (mkM k f)), .p (tabP p (mkM k g)), .p (.int c)] S = .ok (.p (tabP p (mkM k fun i j => (f i j + c * g i j) % p))) S := by
  refine gives H (by omega) rfl ?_
  have pp := hp.pos
  have zp : ((List.range k).map fun i => rowP (mkR k (f i))).zip ((List.range k).map fun i => rowP (mkR k (g i))) = (List.range k).map fun i => (rowP (mkR k (f i)), rowP (mkR k (g i))) := List.zip_map'
  have lc := lc_map (ys := List.range k) (t := .tp (.cons (.nm 3) (.cons (.nm 4) .nil))) (own := [3, 4]) (S := S) (ρ := [some (.p (tabP p (mkM k f))), some (.p (tabP p (mkM k g))), some (.p (.int c)), none, none]) (Fi := fZip (fCons (fIdx (fVar 0) (fC (.int 1))) (fCons (fIdx (fVar 1) (fC (.int 1))) fNil))) (w := [])
    (Fe := fCall (evF dfs fl sp (n - 1) (Str.ofString "row_sum")) 4 0 [.inl 0, .inl 1, .inl 2, .inl 3] (fCons (fIdx (fVar 0) (fC (.int 0))) (fCons (fVar 3) (fCons (fVar 4) (fCons (fVar 2) fNil)))) fNil) (fun i => D.p (.tuple [rowP (mkR k (f i)), rowP (mkR k (g i))])) (fun i => rowP (mkR k fun j => (f i j + c * g i j) % p))
    (by
      rw [i_zip (x := matP (mkM k f)) (y := matP (mkM k g)) (xs := (List.range k).map fun i => rowP (mkR k (f i))) (ys := (List.range k).map fun i => rowP (mkR k (g i))) (by simp [t1]) (by simp [t1]) (by rw [matP_mk]; rfl) (by rw [matP_mk]; rfl), zp, List.map_map]
      rfl) (by simp) (by simpa using szk hk) fun i _ => ⟨_, rfl, by
      have := c_row_sum (fl := fl) (sp := sp) (n := n - 1) (S := S) (p := p) (k := c) (a := mkR k (f i)) (b := mkR k (g i)) H2 (by omega) (by omega) hc (fun x hx => limP hp ((mkR_row (n := k) (hg i)).2 x hx)) (by rw [mkR_len]; exact szk hk)
      rw [rsum_mk] at this
      simp [wipeD, arrD, t0, this]⟩
  rw [sh_table_sum]
  simp only [List.map_cons, List.map_nil, List.cons_append, List.nil_append, List.replicate]
  simp [t0, lc, sz2, mk2]
  simp [tabP, matP_mk]
theorem c_table_times (H : HRow dfs) (hn : 2 ≤ n) {p c : Int} {k : Nat} {f : Nat → Nat → Int} (hp : Pr p) (hk : k ≤ 8) (hc : lim c) (hf : In2 p f) :
    evF dfs fl sp n (Str.ofString "table_times") [.p (tabP p (mkM k f)), .p (.int c)] S = .ok (.p (tabP p (mkM k fun i j => c * f i j % p))) S := by
  refine gives H.table_times (by omega) rfl ?_
  have pp := hp.pos
  have lc := lc_map (ys := List.range k) (t := .nm 2) (own := [2]) (S := S) (ρ := [some (.p (tabP p (mkM k f))), some (.p (.int c)), none]) (Fi := fSeq (fIdx (fVar 0) (fC (.int 1)))) (w := [])
    (Fe := fCall (evF dfs fl sp (n - 1) (Str.ofString "row_times")) 3 0 [.inl 0, .inl 1, .inl 2] (fCons (fIdx (fVar 0) (fC (.int 0))) (fCons (fVar 2) (fCons (fVar 1) fNil))) fNil) (fun i => D.p (rowP (mkR k (f i)))) (fun i => rowP (mkR k fun j => c * f i j % p))
    (by rw [i_seqT (ds := (List.range k).map fun i => rowP (mkR k (f i))) (by simp [t1, matP_mk])]; simp [Function.comp_def]) (by simp) (by simpa using szk hk) fun i _ => ⟨_, rfl, by
      have := c_row_times (fl := fl) (sp := sp) (n := n - 1) (S := S) (p := p) (k := c) (r := mkR k (f i)) H (by omega) (by omega) hc (fun x hx => limP hp ((mkR_row (n := k) (hf i)).2 x hx)) (by rw [mkR_len]; exact szk hk)
      rw [rtimes_mk] at this
      simp [wipeD, arrD, t0, this]⟩
  rw [sh_table_times]
  simp only [List.map_cons, List.map_nil, List.cons_append, List.nil_append, List.replicate]
  simp [t0, lc, sz2, mk2]
  simp [tabP, matP_mk]
def unitF (i j : Nat) : Int := if i = j then 1 else 0
theorem c_one_table (H : HRow dfs) (hn : 3 ≤ n) {p : Int} {k : Nat} (hk : k ≤ 8) :
    evF dfs fl sp n (Str.ofString "one_table") [.p (.int p), .p (.int (k : Nat))] S = .ok (.p (tabP p (mkM k unitF))) S := by
  refine gives H.one_table (by omega) rfl ?_
  have := c_unit_rows (fl := fl) (sp := sp) (n := n - 1) (S := S) (k := k) H (by omega) hk
  have e : ∀ i : Nat, urow k (i : Nat) = mkR k (unitF i) := fun i => by
    unfold urow mkR
    apply List.map_congr_left
    intro j _
    unfold unitF
    by_cases q : i = j
    · subst q; simp
    · have : ¬ ((j : Nat) : Int) = (i : Nat) := by omega
      simp [q, this]
  simp only [e] at this
  simp [B_one_table, evSs, evS, ev, evs, Exs.len, arrD, this, sz2, mk2]
  simp [tabP, matP_mk]
end
end Lb

set_option linter.all false
set_option maxRecDepth 100000
set_option maxHeartbeats 1000000
namespace Lb
open PySem PySem.Spec L2 Dl
/-! LibF: comprehensions over ranges and rows; the rest of the program's defs of whole tables; the law's own reckonings. -/
section
variable {S : Sto} {ρ : Slots} {F Fa Fb Fe : Slots → Sto → Res D} {k : Nat} {own : List Nat} {u v : Nat}
theorem lc_r1 (f : Nat → PyData) (h : F ρ S = .ok (.i (k : Nat)) S) (hk : k ≤ 8) (hb : ∀ j, j < k → Fe ((wipeD ρ own).set v (some (.i (j : Nat)))) S = .ok (.p (f j)) S) :
    fLc false (fRng1 F) (.nm v) own fYes Fe ρ S = .ok (.p (.list ((List.range k).map f))) S :=
  lc_map (ys := List.range k) (fun x => D.i (x : Nat)) f (i_r1 h (by omega)) (by simp) (by simpa using szk hk) fun j hj => ⟨_, rfl, hb j (List.mem_range.mp hj)⟩
theorem sq_of {x : PyData} {xs : List PyData} (h : F ρ S = .ok (.p x) S) (hx : fz x = some xs) : fSeq F ρ S = .ok ⟨xs.map D.p, []⟩ S := by
  unfold fz at hx
  split at hx
  · cases hx; exact i_seqT h
  · cases hx; exact i_seqL h
  · cases hx
theorem lc_rows {x : PyData} {g : Nat → PyData} (f : Nat → PyData) (h : F ρ S = .ok (.p x) S) (hx : fz x = some ((List.range k).map g)) (hk : k ≤ 8) (hb : ∀ j, j < k → Fe ((wipeD ρ own).set v (some (.p (g j)))) S = .ok (.p (f j)) S) :
    fLc false (fSeq F) (.nm v) own fYes Fe ρ S = .ok (.p (.list ((List.range k).map f))) S :=
  lc_map (ys := List.range k) (fun j => D.p (g j)) f (by rw [sq_of h hx, List.map_map]; rfl) (by simp) (by simpa using szk hk) fun j hj => ⟨_, rfl, hb j (List.mem_range.mp hj)⟩
theorem lc_zip {x y : PyData} {a b : Nat → PyData} (f : Nat → PyData) (h : Fa ρ S = .ok (.p x) S) (h2 : Fb ρ S = .ok (.p y) S) (hx : fz x = some ((List.range k).map a)) (hy : fz y = some ((List.range k).map b)) (hk : k ≤ 8)
    (hb : ∀ j, j < k → Fe (((wipeD ρ own).set u (some (.p (a j)))).set v (some (.p (b j)))) S = .ok (.p (f j)) S) :
    fLc false (fZip (fCons Fa (fCons Fb fNil))) (.tp (.cons (.nm u) (.cons (.nm v) .nil))) own fYes Fe ρ S = .ok (.p (.list ((List.range k).map f))) S :=
  lc_map (ys := List.range k) (fun j => D.p (.tuple [a j, b j])) f (by
    have zp : ((List.range k).map a).zip ((List.range k).map b) = (List.range k).map fun i => (a i, b i) := List.zip_map'
    rw [i_zip h h2 hx hy, zp, List.map_map]; rfl) (by simp) (by simpa using szk hk) fun j hj => ⟨_, rfl, hb j (List.mem_range.mp hj)⟩
theorem lc_enum {x : PyData} {g : Nat → PyData} (f : Nat → PyData) (h : F ρ S = .ok (.p x) S) (hx : fz x = some ((List.range k).map g)) (hk : k ≤ 8)
    (hb : ∀ j, j < k → Fe (((wipeD ρ own).set u (some (.i (j : Nat)))).set v (some (.p (g j)))) S = .ok (.p (f j)) S) :
    fLc false (fEnum F) (.tp (.cons (.nm u) (.cons (.nm v) .nil))) own fYes Fe ρ S = .ok (.p (.list ((List.range k).map f))) S :=
  lc_map (ys := List.range k) (fun j => D.p (.tuple [.int (j : Nat), g j])) f (by
    rw [i_enum h hx]
    congr 2
    apply List.ext_getElem?
    intro i
    by_cases q : i < k
    · simp [q]
    · simp [q]) (by simp) (by simpa using szk hk) fun j hj => ⟨_, rfl, hb j (List.mem_range.mp hj)⟩
end
theorem rowP_mk {k : Nat} {f : Nat → Int} : rowP (mkR k f) = .tuple ((List.range k).map fun i => PyData.int (f i)) := by simp [rowP, mkR, Function.comp_def]
theorem fz_row {k : Nat} {f : Nat → Int} : fz (rowP (mkR k f)) = some ((List.range k).map fun i => PyData.int (f i)) := by rw [rowP_mk]; rfl
theorem fz_mat {k : Nat} {f : Nat → Nat → Int} : fz (matP (mkM k f)) = some ((List.range k).map fun i => rowP (mkR k (f i))) := by rw [matP_mk]; rfl
section
variable {S : Sto} {m : Bool}
theorem ix_row {k j : Nat} {f : Nat → Int} (h : j < k) : opIdx (.p (rowP (mkR k f))) (.p (.int (j : Nat))) S = .ok (.i (f j)) S := o_idxT (ent_row h)
theorem ix_mat {k j : Nat} {f : Nat → Nat → Int} (h : j < k) : opIdx (.p (matP (mkM k f))) (.p (.int (j : Nat))) S = .ok (.p (rowP (mkR k (f j)))) S := o_idxT (ent_mat h)
theorem b_sumF {k : Nat} {h : Nat → Int} : opBn m .sum [.p (.list ((List.range k).map fun i => PyData.int (h i)))] S = .ok (.i (sm k h)) S := by
  have := b_sum (m := m) (S := S) (ns := mkR k h)
  rw [mkR, List.map_map] at this
  exact this
theorem len_row {k : Nat} {f : Nat → Int} : opBn m .len [.p (rowP (mkR k f))] S = .ok (.i (k : Nat)) S := by rw [rowP_mk]; simp
theorem len_mat {k : Nat} {f : Nat → Nat → Int} : opBn m .len [.p (matP (mkM k f))] S = .ok (.i (k : Nat)) S := by rw [matP_mk]; simp
end
theorem Pr.p0 {p : Int} (h : Pr p) : 0 < p := by have := h.pos; omega
theorem c_lim {x : Int} (h : -1000 ≤ x ∧ x ≤ 1000) : lim x := by unfold lim; omega
section
variable {dfs : List Df} {fl : List (Str × Str)} {sp : Fns → Fns} {S : Sto} {n : Nat} {p : Int} {k : Nat} {f g : Nat → Nat → Int}
theorem c_mirrored (H : HRow dfs) (hn : 2 ≤ n) (hk : k ≤ 8) : evF dfs fl sp n (Str.ofString "mirrored") [.p (tabP p (mkM k f))] S = .ok (.p (tabP p (mkM k fun j i => f i j))) S := by
  refine gives H.mirrored (by omega) rfl ?_
  have h1 := c_size (fl := fl) (sp := sp) (n := n - 1) (S := S) (p := p) (M := mkM k f) H (by omega)
  rw [mkM_len] at h1
  have inner : ∀ j, j < k → fLc false (fRng1 (fVar 1)) (.nm 3) [3] fYes (fIdx (fIdx (fIdx (fVar 0) (fC (.int 1))) (fVar 3)) (fVar 2)) [some (.p (tabP p (mkM k f))), some (.i (k : Nat)), some (.i (j : Nat)), none] S = .ok (.p (.list ((List.range k).map fun i => PyData.int (f i j)))) S :=
    fun j hj => lc_r1 (fun i => PyData.int (f i j)) (by simp) hk fun i hi => by simp [wipeD, t1, ix_mat hi, ix_row hj]
  have outer := lc_r1 (S := S) (ρ := [some (.p (tabP p (mkM k f))), some (.i (k : Nat)), none, none]) (own := [2]) (v := 2) (F := fVar 1) (Fe := fBn false .tup (fCons (fLc false (fRng1 (fVar 1)) (.nm 3) [3] fYes (fIdx (fIdx (fIdx (fVar 0) (fC (.int 1))) (fVar 3)) (fVar 2))) fNil)) (fun j => rowP (mkR k fun i => f i j)) (by simp) hk fun j hj => by
    simp [wipeD, inner j hj, rowP_mk]
  rw [sh_mirrored]
  simp only [List.map_cons, List.map_nil, List.cons_append, List.nil_append, List.replicate]
  simp [arrD, h1, t0, outer, sz2, mk2]
  simp [tabP, matP_mk]
theorem c_sum_along (H : HasB dfs (Str.ofString "sum_along") 1 2 B_sum_along) (H2 : HRow dfs) (hn : 2 ≤ n) (hp : Pr p) (hk : k ≤ 8) : evF dfs fl sp n (Str.ofString "sum_along") [.p (tabP p (mkM k f))] S = .ok (.i ((sm k fun i => f i i) % p)) S := by
  refine gives H (by omega) rfl ?_
  have h1 := c_size (fl := fl) (sp := sp) (n := n - 1) (S := S) (p := p) (M := mkM k f) H2 (by omega)
  rw [mkM_len] at h1
  have lc := lc_r1 (S := S) (ρ := [some (.p (tabP p (mkM k f))), none]) (own := [1]) (v := 1) (F := fCall (evF dfs fl sp (n - 1) (Str.ofString "size")) 1 0 [.inl 0] (fCons (fVar 0) fNil) fNil) (Fe := fIdx (fIdx (fIdx (fVar 0) (fC (.int 1))) (fVar 1)) (fVar 1)) (fun i => PyData.int (f i i)) (by simp [arrD, h1]) hk fun i hi => by
    simp [wipeD, t1, ix_mat hi, ix_row hi]
  rw [sh_sum_along]
  simp only [List.map_cons, List.map_nil, List.cons_append, List.nil_append, List.replicate]
  simp [lc, t0, b_sumF, o_mod hp.p0]
theorem c_is_fellow (H : HWhole dfs) (H1 : HTab dfs) (hn : 5 ≤ n) (hp : Pr p) (hg : In2 p g) (h1 : 1 ≤ k) (hk : k ≤ 8) : evF dfs fl sp n (Str.ofString "is_fellow") [.p (tabP p (mkM k f)), .p (tabP p (mkM k g))] S = .ok (.b true) S := by
  refine gives H.is_fellow (by omega) rfl ?_
  have e := c_is_table_value (fl := fl) (sp := sp) (n := n - 1) (S := S) H1 (by omega) hp (mkM_mat (n := k) hg) h1 hk
  simp [B_is_fellow, evSs, evS, ev, evAnd, evs, Exs.len, arrD, e, t0, t1, len_mat]
theorem c_need_fellows (H : HWhole dfs) (H1 : HTab dfs) (hn : 6 ≤ n) (hp : Pr p) (hf : In2 p f) (hg : In2 p g) (h1 : 1 ≤ k) (hk : k ≤ 8) : evF dfs fl sp n (Str.ofString "need_fellows") [.p (tabP p (mkM k f)), .p (tabP p (mkM k g))] S = .ok .n S := by
  refine ends (ρ := [some (.p (tabP p (mkM k f))), some (.p (tabP p (mkM k g)))]) H.need_fellows (by omega) rfl ?_
  have e1 := c_need_table (fl := fl) (sp := sp) (n := n - 1) (S := S) H1 (by omega) hp (mkM_mat (n := k) hf) h1 hk
  have e2 := c_need_table (fl := fl) (sp := sp) (n := n - 1) (S := S) H1 (by omega) hp (mkM_mat (n := k) hg) h1 hk
  have e3 := c_is_fellow (fl := fl) (sp := sp) (n := n - 1) (S := S) (f := f) H H1 (by omega) hp hg h1 hk
  simp [B_need_fellows, evSs, evS, ev, evs, Exs.len, arrD, e1, e2, e3]
theorem c_need_prime (H : HWhole dfs) (H1 : HTab dfs) (hn : 3 ≤ n) (hp : Pr p) : evF dfs fl sp n (Str.ofString "need_prime") [.p (.int p)] S = .ok .n S := by
  refine ends (ρ := [some (.p (.int p))]) H.need_prime (by omega) rfl ?_
  have hq := c_is_prime_value (fl := fl) (sp := sp) (n := n - 1) (S := S) (p := p) H1 (by omega)
  have hp' : decide (p ∈ ([2, 3, 5, 7] : List Int)) = true := by simpa [Pr] using hp
  rw [hp'] at hq
  simp [B_need_prime, evSs, evS, ev, evs, Exs.len, arrD, hq]
theorem c_need_integer (H : HWhole dfs) (H1 : HTab dfs) (hn : 2 ≤ n) {x a b : Int} (h : a ≤ x ∧ x ≤ b) : evF dfs fl sp n (Str.ofString "need_integer") [.p (.int x), .p (.int a), .p (.int b)] S = .ok .n S := by
  refine ends (ρ := [some (.p (.int x)), some (.p (.int a)), some (.p (.int b))]) H.need_integer (by omega) rfl ?_
  have e := c_is_integerI (fl := fl) (sp := sp) (n := n - 1) (S := S) (x := x) H1 (by omega)
  have h1 : ¬ x < a := by omega
  have h2 : ¬ b < x := by omega
  rw [sh_need_integer]
  simp [arrD, e, h1, h2]
end
end Lb

set_option linter.all false
set_option maxRecDepth 100000
set_option maxHeartbeats 1000000
namespace Lb
open PySem PySem.Spec L2 Dl
/-! LibG: the open defs of tables. -/
structure HOps (D : List Df) : Prop where
  one : HasB D (Str.ofString "one") 2 2 B_one
  zero : HasB D (Str.ofString "zero") 2 2 B_zero
  product : HasB D (Str.ofString "product") 2 2 B_product
  added : HasB D (Str.ofString "added") 2 2 B_added
  taken : HasB D (Str.ofString "taken") 2 2 B_taken
  times : HasB D (Str.ofString "times") 2 2 B_times
  diagonal_sum : HasB D (Str.ofString "diagonal_sum") 1 1 B_diagonal_sum
  mirror : HasB D (Str.ofString "mirror") 1 1 B_mirror
  led : HasB D (Str.ofString "led") 2 2 B_led
  table_sum : HasB D (Str.ofString "table_sum") 3 5 B_table_sum
  sum_along : HasB D (Str.ofString "sum_along") 1 2 B_sum_along
/-- all that stands under a table's work -/
structure HAll (D : List Df) : Prop where
  tab : HTab D
  row : HRow D
  whole : HWhole D
def mulF (p : Int) (k : Nat) (f g : Nat → Nat → Int) (i j : Nat) : Int := (sm k fun l => f i l * g l j) % p
def addF (p c : Int) (f g : Nat → Nat → Int) (i j : Nat) : Int := (f i j + c * g i j) % p
def timF (p c : Int) (f : Nat → Nat → Int) (i j : Nat) : Int := c * f i j % p
def ledF (p : Int) (k : Nat) (f : Nat → Nat → Int) (r : Nat → Int) (j : Nat) : Int := (sm k fun i => r i * f i j) % p
def traF (p : Int) (k : Nat) (f : Nat → Nat → Int) : Int := (sm k fun i => f i i) % p
def swF (f : Nat → Nat → Int) (i j : Nat) : Int := f j i
def zerF (_ _ : Nat) : Int := 0
theorem in_mul {p : Int} {k : Nat} {f g : Nat → Nat → Int} (hp : 0 < p) : In2 p (mulF p k f g) := fun _ _ => mod_in hp
theorem in_add {p c : Int} {f g : Nat → Nat → Int} (hp : 0 < p) : In2 p (addF p c f g) := fun _ _ => mod_in hp
theorem in_tim {p c : Int} {f : Nat → Nat → Int} (hp : 0 < p) : In2 p (timF p c f) := fun _ _ => mod_in hp
theorem in_led {p : Int} {k : Nat} {f : Nat → Nat → Int} {r : Nat → Int} (hp : 0 < p) : In1 p (ledF p k f r) := fun _ => mod_in hp
theorem in_sw {p : Int} {f : Nat → Nat → Int} (h : In2 p f) : In2 p (swF f) := fun i j => h j i
theorem in_unit {p : Int} (hp : 2 ≤ p) : In2 p unitF := fun i j => by
  unfold unitF
  split <;> omega
theorem in_zer {p : Int} (hp : 0 < p) : In2 p zerF := fun i j => ⟨Int.le_refl _, hp⟩
section
variable {dfs : List Df} {fl : List (Str × Str)} {sp : Fns → Fns} {S : Sto} {n : Nat} {p : Int} {k : Nat} {f g : Nat → Nat → Int}
theorem c_one (H : HasB dfs (Str.ofString "one") 2 2 B_one) (A : HAll dfs) (hn : 4 ≤ n) (hp : Pr p) (h1 : 1 ≤ k) (hk : k ≤ 8) : evF dfs fl sp n (Str.ofString "one") [.p (.int p), .p (.int (k : Nat))] S = .ok (.p (tabP p (mkM k unitF))) S := by
  refine gives H (by omega) rfl ?_
  have e1 := c_need_prime (fl := fl) (sp := sp) (n := n - 1) (S := S) A.whole A.tab (by omega) hp
  have e2 := c_need_integer (fl := fl) (sp := sp) (n := n - 1) (S := S) A.whole A.tab (by omega) (x := (k : Nat)) (a := 1) (b := 8) (by omega)
  have e3 := c_one_table (fl := fl) (sp := sp) (n := n - 1) (S := S) (p := p) A.row (by omega) hk
  rw [sh_one]
  simp [arrD, e1, e2, e3]
theorem c_zero (H : HasB dfs (Str.ofString "zero") 2 2 B_zero) (H1 : HasB dfs (Str.ofString "one") 2 2 B_one) (A : HAll dfs) (hn : 5 ≤ n) (hp : Pr p) (h1 : 1 ≤ k) (hk : k ≤ 8) : evF dfs fl sp n (Str.ofString "zero") [.p (.int p), .p (.int (k : Nat))] S = .ok (.p (tabP p (mkM k zerF))) S := by
  refine gives H (by omega) rfl ?_
  have e1 := c_one (fl := fl) (sp := sp) (n := n - 1) (S := S) H1 A (by omega) hp h1 hk
  have e2 := c_table_times (fl := fl) (sp := sp) (n := n - 1) (S := S) (k := k) (f := unitF) (c := 0) A.row (by omega) hp hk (c_lim (by omega)) (in_unit hp.pos.1)
  rw [sh_zero]
  simp [arrD, e1, e2]
  rfl
theorem c_product (H : HasB dfs (Str.ofString "product") 2 2 B_product) (A : HAll dfs) (hn : 7 ≤ n) (hp : Pr p) (hf : In2 p f) (hg : In2 p g) (h1 : 1 ≤ k) (hk : k ≤ 8) : evF dfs fl sp n (Str.ofString "product") [.p (tabP p (mkM k f)), .p (tabP p (mkM k g))] S = .ok (.p (tabP p (mkM k (mulF p k f g)))) S := by
  refine gives H (by omega) rfl ?_
  have e1 := c_need_fellows (fl := fl) (sp := sp) (n := n - 1) (S := S) A.whole A.tab (by omega) hp hf hg h1 hk
  have e2 := c_table_product (fl := fl) (sp := sp) (n := n - 1) (S := S) A.row (by omega) hp hk hf hg
  rw [sh_product]
  simp [arrD, e1, e2]
  rfl
theorem c_added (H : HasB dfs (Str.ofString "added") 2 2 B_added) (T : HasB dfs (Str.ofString "table_sum") 3 5 B_table_sum) (A : HAll dfs) (hn : 7 ≤ n) (hp : Pr p) (hf : In2 p f) (hg : In2 p g) (h1 : 1 ≤ k) (hk : k ≤ 8) : evF dfs fl sp n (Str.ofString "added") [.p (tabP p (mkM k f)), .p (tabP p (mkM k g))] S = .ok (.p (tabP p (mkM k (addF p 1 f g)))) S := by
  refine gives H (by omega) rfl ?_
  have e1 := c_need_fellows (fl := fl) (sp := sp) (n := n - 1) (S := S) A.whole A.tab (by omega) hp hf hg h1 hk
  have e2 : evF dfs fl sp (n - 1) (Str.ofString "table_sum") [.p (tabP p (mkM k f)), .p (tabP p (mkM k g)), .p (.int 1)] S = .ok (.p (tabP p (mkM k (addF p 1 f g)))) S := c_table_sum (fl := fl) (sp := sp) (n := n - 1) (S := S) (c := 1) T A.row (by omega) hp hk (c_lim (by omega)) hf hg
  rw [sh_added]
  simp [arrD, e1, e2]
theorem c_taken (H : HasB dfs (Str.ofString "taken") 2 2 B_taken) (T : HasB dfs (Str.ofString "table_sum") 3 5 B_table_sum) (A : HAll dfs) (hn : 7 ≤ n) (hp : Pr p) (hf : In2 p f) (hg : In2 p g) (h1 : 1 ≤ k) (hk : k ≤ 8) : evF dfs fl sp n (Str.ofString "taken") [.p (tabP p (mkM k f)), .p (tabP p (mkM k g))] S = .ok (.p (tabP p (mkM k (addF p (-1) f g)))) S := by
  refine gives H (by omega) rfl ?_
  have e1 := c_need_fellows (fl := fl) (sp := sp) (n := n - 1) (S := S) A.whole A.tab (by omega) hp hf hg h1 hk
  have e2 : evF dfs fl sp (n - 1) (Str.ofString "table_sum") [.p (tabP p (mkM k f)), .p (tabP p (mkM k g)), .p (.int (-1))] S = .ok (.p (tabP p (mkM k (addF p (-1) f g)))) S := c_table_sum (fl := fl) (sp := sp) (n := n - 1) (S := S) (c := -1) T A.row (by omega) hp hk (c_lim (by omega)) hf hg
  rw [sh_taken]
  simp [arrD, e1, e2]
theorem c_times (H : HasB dfs (Str.ofString "times") 2 2 B_times) (A : HAll dfs) (hn : 6 ≤ n) (hp : Pr p) (hf : In2 p f) (h1 : 1 ≤ k) (hk : k ≤ 8) {c : Int} (hc : 0 ≤ c ∧ c < p) : evF dfs fl sp n (Str.ofString "times") [.p (tabP p (mkM k f)), .p (.int c)] S = .ok (.p (tabP p (mkM k (timF p c f)))) S := by
  refine gives H (by omega) rfl ?_
  have e1 := c_need_table (fl := fl) (sp := sp) (n := n - 1) (S := S) A.tab (by omega) hp (mkM_mat (n := k) hf) h1 hk
  have e2 := c_need_integer (fl := fl) (sp := sp) (n := n - 1) (S := S) A.whole A.tab (by omega) (x := c) (a := 0) (b := p - 1) (by omega)
  have e3 := c_table_times (fl := fl) (sp := sp) (n := n - 1) (S := S) (k := k) (f := f) (c := c) A.row (by omega) hp hk (limP hp hc) hf
  rw [sh_times]
  simp [arrD, e1, e2, e3, t0]
  rfl
theorem c_diagonal_sum (H : HasB dfs (Str.ofString "diagonal_sum") 1 1 B_diagonal_sum) (T : HasB dfs (Str.ofString "sum_along") 1 2 B_sum_along) (A : HAll dfs) (hn : 6 ≤ n) (hp : Pr p) (hf : In2 p f) (h1 : 1 ≤ k) (hk : k ≤ 8) : evF dfs fl sp n (Str.ofString "diagonal_sum") [.p (tabP p (mkM k f))] S = .ok (.i (traF p k f)) S := by
  refine gives H (by omega) rfl ?_
  have e1 := c_need_table (fl := fl) (sp := sp) (n := n - 1) (S := S) A.tab (by omega) hp (mkM_mat (n := k) hf) h1 hk
  have e2 := c_sum_along (fl := fl) (sp := sp) (n := n - 1) (S := S) (k := k) (f := f) T A.row (by omega) hp hk
  rw [sh_diagonal_sum]
  simp [arrD, e1, e2]
  rfl
theorem c_mirror (H : HasB dfs (Str.ofString "mirror") 1 1 B_mirror) (A : HAll dfs) (hn : 6 ≤ n) (hp : Pr p) (hf : In2 p f) (h1 : 1 ≤ k) (hk : k ≤ 8) : evF dfs fl sp n (Str.ofString "mirror") [.p (tabP p (mkM k f))] S = .ok (.p (tabP p (mkM k (swF f)))) S := by
  refine gives H (by omega) rfl ?_
  have e1 := c_need_table (fl := fl) (sp := sp) (n := n - 1) (S := S) A.tab (by omega) hp (mkM_mat (n := k) hf) h1 hk
  have e2 := c_mirrored (fl := fl) (sp := sp) (n := n - 1) (S := S) (k := k) (f := f) (p := p) A.row (by omega) hk
  rw [sh_mirror]
  simp [arrD, e1, e2]
  rfl
theorem c_led (H : HasB dfs (Str.ofString "led") 2 2 B_led) (A : HAll dfs) (hn : 6 ≤ n) (hp : Pr p) (hf : In2 p f) {r : Nat → Int} (hr : In1 p r) (h1 : 1 ≤ k) (hk : k ≤ 8) : evF dfs fl sp n (Str.ofString "led") [.p (tabP p (mkM k f)), .p (rowP (mkR k r))] S = .ok (.p (rowP (mkR k (ledF p k f r)))) S := by
  refine gives H (by omega) rfl ?_
  have e1 := c_need_table (fl := fl) (sp := sp) (n := n - 1) (S := S) A.tab (by omega) hp (mkM_mat (n := k) hf) h1 hk
  have e2 := c_size (fl := fl) (sp := sp) (n := n - 1) (S := S) (p := p) (M := mkM k f) A.row (by omega)
  rw [mkM_len] at e2
  have e3 := c_is_row_value (fl := fl) (sp := sp) (n := n - 1) (S := S) A.tab (by omega) (mkR_row (n := k) hr) (by rw [mkR_len]; exact szk hk)
  have e4 := c_row_led (fl := fl) (sp := sp) (n := n - 1) (S := S) (k := k) (f := f) A.row (by omega) hp hk hf hr
  rw [sh_led]
  simp [arrD, e1, e2, e3, e4, t0]
  rfl
end
/-! ### the law's own -/
structure HLaw (D : List Df) : Prop where
  by_ : HasB D (Str.ofString "_law_by") 3 9 B__law_by
  unit : HasB D (Str.ofString "_law_unit") 2 4 B__law_unit
structure HLawX (D : List Df) : Prop where
  each : HasB D (Str.ofString "_law_each") 4 8 B__law_each
  mirror : HasB D (Str.ofString "_law_mirror") 1 3 B__law_mirror
  sum : HasB D (Str.ofString "_law_sum") 2 4 B__law_sum
  led : HasB D (Str.ofString "_law_led") 3 6 B__law_led
section
variable {dfs : List Df} {fl : List (Str × Str)} {sp : Fns → Fns} {S : Sto} {n : Nat} {p : Int} {k : Nat} {f g : Nat → Nat → Int}
theorem mulP (hp : Pr p) {a b : Int} (ha : 0 ≤ a ∧ a < p) (hb : 0 ≤ b ∧ b < p) : opBin .Mult false (.p (.int a)) (.p (.int b)) S = .ok (.i (a * b)) S := o_mul6 (limP hp ha) (limP hp hb)
theorem l_by (H : HLaw dfs) (hn : 1 ≤ n) (hp : Pr p) (hf : In2 p f) (hg : In2 p g) (h1 : 1 ≤ k) (hk : k ≤ 8) : evF dfs fl sp n (Str.ofString "_law_by") [.p (.int p), .p (matP (mkM k f)), .p (matP (mkM k g))] S = .ok (.p (matP (mkM k (mulF p k f g)))) S := by
  refine gives H.by_ hn rfl ?_
  have g0 : opIdx (.p (matP (mkM k g))) (.p (.int 0)) S = .ok (.p (rowP (mkR k (g 0)))) S := ix_mat (j := 0) (by omega)
  have col : ∀ j, j < k → fLc false (fSeq (fVar 2)) (.nm 5) [5] fYes (fIdx (fVar 5) (fVar 4)) [some (.p (.int p)), some (.p (matP (mkM k f))), some (.p (matP (mkM k g))), none, some (.i (j : Nat)), none, none, none, none] S = .ok (.p (.list ((List.range k).map fun i => PyData.int (g i j)))) S :=
    fun j hj => lc_rows (x := matP (mkM k g)) (fun i => PyData.int (g i j)) (by simp) fz_mat hk fun i hi => by simp [wipeD, ix_row hj]
  have cols := lc_r1 (S := S) (ρ := [some (.p (.int p)), some (.p (matP (mkM k f))), some (.p (matP (mkM k g))), none, none, none, none, none, none]) (own := [4]) (v := 4) (F := fBn false .len (fCons (fIdx (fVar 2) (fC (.int 0))) fNil)) (Fe := fLc false (fSeq (fVar 2)) (.nm 5) [5] fYes (fIdx (fVar 5) (fVar 4))) (fun j => .list ((List.range k).map fun i => PyData.int (g i j))) (by simp [g0, len_row]) hk fun j hj => by
    simp [wipeD, col j hj]
  let cs : PyData := .list ((List.range k).map fun j => .list ((List.range k).map fun i => PyData.int (g i j)))
  have dot : ∀ i j, i < k → j < k → fLc false (fZip (fCons (fVar 5) (fCons (fVar 6) fNil))) (.tp (.cons (.nm 7) (.cons (.nm 8) .nil))) [7, 8] fYes (fBin .Mult false (fVar 7) (fVar 8)) [some (.p (.int p)), some (.p (matP (mkM k f))), some (.p (matP (mkM k g))), some (.p cs), none, some (.p (rowP (mkR k (f i)))), some (.p (.list ((List.range k).map fun i => PyData.int (g i j)))), none, none] S = .ok (.p (.list ((List.range k).map fun l => PyData.int (f i l * g l j)))) S :=
    fun i j hi hj => lc_zip (x := rowP (mkR k (f i))) (y := .list ((List.range k).map fun i => PyData.int (g i j))) (fun l => PyData.int (f i l * g l j)) (by simp) (by simp) fz_row rfl hk fun l hl => by
      simp [wipeD, mulP hp (hf i l) (hg l j)]
  have row : ∀ i, i < k → fLc false (fSeq (fVar 3)) (.nm 6) [6] fYes (fBin .Mod false (fBn false .int (fCons (fBn false .sum (fCons (fLc false (fZip (fCons (fVar 5) (fCons (fVar 6) fNil))) (.tp (.cons (.nm 7) (.cons (.nm 8) .nil))) [7, 8] fYes (fBin .Mult false (fVar 7) (fVar 8))) fNil)) fNil)) (fVar 0)) [some (.p (.int p)), some (.p (matP (mkM k f))), some (.p (matP (mkM k g))), some (.p cs), none, some (.p (rowP (mkR k (f i)))), none, none, none] S = .ok (.p (.list ((List.range k).map fun j => PyData.int (mulF p k f g i j)))) S :=
    fun i hi => lc_rows (x := cs) (fun j => PyData.int (mulF p k f g i j)) (by simp) rfl hk fun j hj => by simp [wipeD, dot i j hi hj, b_sumF, o_mod hp.p0, mulF]
  have rows := lc_rows (S := S) (ρ := [some (.p (.int p)), some (.p (matP (mkM k f))), some (.p (matP (mkM k g))), some (.p cs), none, none, none, none, none]) (own := [5]) (v := 5) (F := fVar 1) (x := matP (mkM k f)) (Fe := fBn false .tup (fCons (fLc false (fSeq (fVar 3)) (.nm 6) [6] fYes (fBin .Mod false (fBn false .int (fCons (fBn false .sum (fCons (fLc false (fZip (fCons (fVar 5) (fCons (fVar 6) fNil))) (.tp (.cons (.nm 7) (.cons (.nm 8) .nil))) [7, 8] fYes (fBin .Mult false (fVar 7) (fVar 8))) fNil)) fNil)) (fVar 0))) fNil)) (fun i => rowP (mkR k (mulF p k f g i))) (by simp) fz_mat hk fun i hi => by
    simp [wipeD, row i hi]
    simp [rowP_mk]
  rw [sh__law_by]
  simp only [List.map_cons, List.map_nil, List.cons_append, List.nil_append, List.replicate]
  simp [cols]
  simp only [cs] at rows
  simp [rows]
  simp [matP_mk]
theorem l_unit (H : HLaw dfs) (hn : 1 ≤ n) {c : Int} (hk : k ≤ 8) : evF dfs fl sp n (Str.ofString "_law_unit") [.p (.int (k : Nat)), .p (.int c)] S = .ok (.p (matP (mkM k fun i j => if i = j then c else 0))) S := by
  refine gives H.unit hn rfl ?_
  have inner : ∀ i, i < k → fLc false (fRng1 (fVar 0)) (.nm 3) [3] fYes (fIf (fTru (fCmp .Eq (fVar 2) (fVar 3))) (fVar 1) (fC (.int 0))) [some (.p (.int (k : Nat))), some (.p (.int c)), some (.i (i : Nat)), none] S = .ok (.p (.list ((List.range k).map fun j => PyData.int (if i = j then c else 0)))) S :=
    fun i hi => lc_r1 (fun j => PyData.int (if i = j then c else 0)) (by simp) hk fun j hj => by
      by_cases q : i = j
      · subst q; simp [wipeD]
      · have : ¬ ((i : Nat) : Int) = (j : Nat) := by omega
        simp [wipeD, q, this]
  have outer := lc_r1 (S := S) (ρ := [some (.p (.int (k : Nat))), some (.p (.int c)), none, none]) (own := [2]) (v := 2) (F := fVar 0) (Fe := fBn false .tup (fCons (fLc false (fRng1 (fVar 0)) (.nm 3) [3] fYes (fIf (fTru (fCmp .Eq (fVar 2) (fVar 3))) (fVar 1) (fC (.int 0)))) fNil)) (fun i => rowP (mkR k fun j => if i = j then c else 0)) (by simp) hk fun i hi => by
    simp [wipeD, inner i hi]
    simp [rowP_mk]
  rw [sh__law_unit]
  simp only [List.map_cons, List.map_nil, List.cons_append, List.nil_append, List.replicate]
  simp [outer]
  simp [matP_mk]
theorem l_each (H : HasB dfs (Str.ofString "_law_each") 4 8 B__law_each) (hn : 1 ≤ n) {c : Int} (hp : Pr p) (hc : lim c) (hg : In2 p g) (hk : k ≤ 8) : evF dfs fl sp n (Str.ofString "_law_each") [.p (.int p), .p (matP (mkM k f)), .p (matP (mkM k g)), .p (.int c)] S = .ok (.p (tabP p (mkM k (addF p c f g)))) S := by
  refine gives H hn rfl ?_
  have inner : ∀ i, i < k → fLc false (fZip (fCons (fVar 4) (fCons (fVar 5) fNil))) (.tp (.cons (.nm 6) (.cons (.nm 7) .nil))) [6, 7] fYes (fBin .Mod false (fBn false .int (fCons (fBin .Add false (fVar 6) (fBin .Mult false (fVar 3) (fVar 7))) fNil)) (fVar 0)) [some (.p (.int p)), some (.p (matP (mkM k f))), some (.p (matP (mkM k g))), some (.p (.int c)), some (.p (rowP (mkR k (f i)))), some (.p (rowP (mkR k (g i)))), none, none] S = .ok (.p (.list ((List.range k).map fun j => PyData.int (addF p c f g i j)))) S :=
    fun i hi => lc_zip (x := rowP (mkR k (f i))) (y := rowP (mkR k (g i))) (fun j => PyData.int (addF p c f g i j)) (by simp) (by simp) fz_row fz_row hk fun j hj => by
      simp [wipeD, o_mul6 hc (limP hp (hg i j)), o_mod hp.p0, addF]
  have outer := lc_zip (S := S) (ρ := [some (.p (.int p)), some (.p (matP (mkM k f))), some (.p (matP (mkM k g))), some (.p (.int c)), none, none, none, none]) (own := [4, 5]) (u := 4) (v := 5) (Fa := fVar 1) (Fb := fVar 2) (x := matP (mkM k f)) (y := matP (mkM k g)) (Fe := fBn false .tup (fCons (fLc false (fZip (fCons (fVar 4) (fCons (fVar 5) fNil))) (.tp (.cons (.nm 6) (.cons (.nm 7) .nil))) [6, 7] fYes (fBin .Mod false (fBn false .int (fCons (fBin .Add false (fVar 6) (fBin .Mult false (fVar 3) (fVar 7))) fNil)) (fVar 0))) fNil)) (fun i => rowP (mkR k (addF p c f g i))) (by simp) (by simp) fz_mat fz_mat hk fun i hi => by
    simp [wipeD, inner i hi]
    simp [rowP_mk]
  rw [sh__law_each]
  simp only [List.map_cons, List.map_nil, List.cons_append, List.nil_append, List.replicate]
  simp [outer, sz2, mk2]
  simp [tabP, matP_mk]
theorem l_mirror (H : HasB dfs (Str.ofString "_law_mirror") 1 3 B__law_mirror) (hn : 1 ≤ n) (hk : k ≤ 8) : evF dfs fl sp n (Str.ofString "_law_mirror") [.p (matP (mkM k f))] S = .ok (.p (matP (mkM k (swF f)))) S := by
  refine gives H hn rfl ?_
  have inner : ∀ j, j < k → fLc false (fSeq (fVar 0)) (.nm 2) [2] fYes (fIdx (fVar 2) (fVar 1)) [some (.p (matP (mkM k f))), some (.i (j : Nat)), none] S = .ok (.p (.list ((List.range k).map fun i => PyData.int (f i j)))) S :=
    fun j hj => lc_rows (x := matP (mkM k f)) (fun i => PyData.int (f i j)) (by simp) fz_mat hk fun i hi => by simp [wipeD, ix_row hj]
  have outer := lc_r1 (S := S) (ρ := [some (.p (matP (mkM k f))), none, none]) (own := [1]) (v := 1) (F := fBn false .len (fCons (fVar 0) fNil)) (Fe := fBn false .tup (fCons (fLc false (fSeq (fVar 0)) (.nm 2) [2] fYes (fIdx (fVar 2) (fVar 1))) fNil)) (fun j => rowP (mkR k (swF f j))) (by simp [len_mat]) hk fun j hj => by
    simp [wipeD, inner j hj]
    simp [rowP_mk, swF]
  rw [sh__law_mirror]
  simp only [List.map_cons, List.map_nil, List.cons_append, List.nil_append, List.replicate]
  simp [outer]
  simp [matP_mk]
theorem l_sum (H : HasB dfs (Str.ofString "_law_sum") 2 4 B__law_sum) (hn : 1 ≤ n) (hp : Pr p) (hk : k ≤ 8) : evF dfs fl sp n (Str.ofString "_law_sum") [.p (.int p), .p (matP (mkM k f))] S = .ok (.i (traF p k f)) S := by
  refine gives H hn rfl ?_
  have lc := lc_enum (S := S) (ρ := [some (.p (.int p)), some (.p (matP (mkM k f))), none, none]) (own := [2, 3]) (u := 2) (v := 3) (F := fVar 1) (x := matP (mkM k f)) (Fe := fIdx (fVar 3) (fVar 2)) (fun i => PyData.int (f i i)) (by simp) fz_mat hk fun i hi => by
    simp [wipeD, ix_row hi]
  rw [sh__law_sum]
  simp only [List.map_cons, List.map_nil, List.cons_append, List.nil_append, List.replicate]
  simp [lc, b_sumF, o_mod hp.p0, traF]
theorem l_led (H : HasB dfs (Str.ofString "_law_led") 3 6 B__law_led) (hn : 1 ≤ n) (hp : Pr p) {r : Nat → Int} (hf : In2 p f) (hr : In1 p r) (hk : k ≤ 8) : evF dfs fl sp n (Str.ofString "_law_led") [.p (.int p), .p (matP (mkM k f)), .p (rowP (mkR k r))] S = .ok (.p (rowP (mkR k (ledF p k f r)))) S := by
  refine gives H hn rfl ?_
  have inner : ∀ j, j < k → fLc false (fZip (fCons (fVar 2) (fCons (fVar 1) fNil))) (.tp (.cons (.nm 4) (.cons (.nm 5) .nil))) [4, 5] fYes (fBin .Mult false (fVar 4) (fIdx (fVar 5) (fVar 3))) [some (.p (.int p)), some (.p (matP (mkM k f))), some (.p (rowP (mkR k r))), some (.i (j : Nat)), none, none] S = .ok (.p (.list ((List.range k).map fun i => PyData.int (r i * f i j)))) S :=
    fun j hj => lc_zip (x := rowP (mkR k r)) (y := matP (mkM k f)) (fun i => PyData.int (r i * f i j)) (by simp) (by simp) fz_row fz_mat hk fun i hi => by
      simp [wipeD, ix_row hj, mulP hp (hr i) (hf i j)]
  have outer := lc_r1 (S := S) (ρ := [some (.p (.int p)), some (.p (matP (mkM k f))), some (.p (rowP (mkR k r))), none, none, none]) (own := [3]) (v := 3) (F := fBn false .len (fCons (fVar 2) fNil)) (Fe := fBin .Mod false (fBn false .int (fCons (fBn false .sum (fCons (fLc false (fZip (fCons (fVar 2) (fCons (fVar 1) fNil))) (.tp (.cons (.nm 4) (.cons (.nm 5) .nil))) [4, 5] fYes (fBin .Mult false (fVar 4) (fIdx (fVar 5) (fVar 3)))) fNil)) fNil)) (fVar 0)) (fun j => PyData.int (ledF p k f r j)) (by simp [len_row]) hk fun j hj => by
    simp [wipeD, inner j hj, b_sumF, o_mod hp.p0, ledF]
  rw [sh__law_led]
  simp only [List.map_cons, List.map_nil, List.cons_append, List.nil_append, List.replicate]
  simp [outer]
  simp [rowP_mk]
end
end Lb

set_option linter.all false
set_option maxRecDepth 100000
set_option maxHeartbeats 1000000
namespace Lb
open PySem PySem.Spec L2 Dl
/-! LibK: the bodies of the drawing defs, their numbers left open (printed by drawk.py). -/
structure DrK where
  a1 : Int
  a2 : Int
  a3 : Int
  a4 : Int
  a5 : Int
  a6 : Int
  a7 : Int
  a8 : Int
  a9 : Int
  a10 : Int
  b0 : Int
  b1 : Int
  b2 : Int
  b3 : Int
  b4 : Int
def B_draw (k : DrK) : Sms := (.cons (.asg (.sub (.var 0) (.c (.str (Str.ofString "draws")))) (.bin .Add true (.idx (.var 0) (.c (.str (Str.ofString "draws")))) (.c (.int 1)))) (.cons (.asg (.nm 2) (.bin .Add false (.idx (.var 0) (.c (.str (Str.ofString "mixed")))) (.bin .Mult false (.c (.int k.a1)) (.idx (.var 0) (.c (.str (Str.ofString "draws"))))))) (.cons (.ite (.cmp .NotEq (.idx (.var 0) (.c (.str (Str.ofString "cells")))) (.lst false .nil)) (.cons (.asg (.nm 3) (.mt false .pop (.idx (.var 0) (.c (.str (Str.ofString "cells")))) .nil)) (.cons (.ite (.cmp .GtE (.var 3) (.bin .Pow false (.c (.int 10)) (.c (.int 18)))) (.cons (.exp (.mt false .append (.idx (.var 0) (.c (.str (Str.ofString "cells")))) (.cons (.bin .FloorDiv false (.var 3) (.bn false .mx (.cons (.c (.int 2)) (.cons (.var 1) .nil)))) .nil))) (.cons (.ret (.bin .Mod false (.bn false .int (.cons (.var 3) .nil)) (.var 1))) .nil)) .nil) (.cons (.asg (.nm 2) (.bin .Add false (.var 2) (.bin .Mod false (.bn false .int (.cons (.var 3) .nil)) (.c (.int k.a2))))) .nil))) .nil) (.cons (.asg (.nm 2) (.bin .Mod false (.bn false .int (.cons (.bin .Add false (.bin .Mult false (.var 2) (.c (.int k.a3))) (.c (.int k.a4))) .nil)) (.c (.int k.a5)))) (.cons (.asg (.nm 2) (.bin .Mod false (.bn false .int (.cons (.bin .Add false (.bin .Add false (.bin .Mult false (.var 2) (.var 2)) (.bin .Mult false (.c (.int k.a6)) (.idx (.var 0) (.c (.str (Str.ofString "draws")))))) (.c (.int k.a7))) .nil)) (.c (.int k.a8)))) (.cons (.asg (.nm 2) (.bin .Mod false (.bn false .int (.cons (.bin .Mult false (.var 2) (.c (.int k.a9))) .nil)) (.c (.int k.a10)))) (.cons (.ret (.bin .Mod false (.bn false .int (.cons (.bin .FloorDiv false (.var 2) (.c (.int 64))) .nil)) (.var 1))) .nil)))))))
def B_deck (k : DrK) : Sms := (.cons (.asg (.nm 1) (.c (.int k.b0))) (.cons (.for_ (.nm 2) (.seq (.sli false (.var 0) .no (.so (.c (.int 63))))) (.cons (.asg (.nm 1) (.bin .Mod false (.bn false .int (.cons (.bin .Add false (.bin .Add false (.bin .Mult false (.var 1) (.c (.int k.b1))) (.bin .Mod false (.bn false .int (.cons (.var 2) .nil)) (.c (.int k.b2)))) (.c (.int k.b3))) .nil)) (.c (.int k.b4)))) .nil)) (.cons (.ret (.dct (.cons (.c (.str (Str.ofString "cells"))) (.rev true (.bn false .lst (.cons (.sli false (.var 0) .no (.so (.c (.int 63)))) .nil))) (.cons (.c (.str (Str.ofString "mixed"))) (.var 1) (.cons (.c (.str (Str.ofString "draws"))) (.c (.int 0)) .nil))))) .nil)))
theorem sh_draw (k : DrK) (G : Fns) (fl : List (Str × Str)) : evSs G fl (B_draw k) = (sSeq (sAsg (fBin .Add true (fIdx (fVar 0) (fC (.str (Str.ofString "draws")))) (fC (.int 1))) (tgSub (fVar 0) (fC (.str (Str.ofString "draws"))))) (sSeq (sAsg (fBin .Add false (fIdx (fVar 0) (fC (.str (Str.ofString "mixed")))) (fBin .Mult false (fC (.int k.a1)) (fIdx (fVar 0) (fC (.str (Str.ofString "draws")))))) (tgNm 2)) (sSeq (sIf (fTru (fCmp .NotEq (fIdx (fVar 0) (fC (.str (Str.ofString "cells")))) (fLst false fNil))) (sSeq (sAsg (fMt false .pop (fIdx (fVar 0) (fC (.str (Str.ofString "cells")))) fNil) (tgNm 3)) (sSeq (sIf (fTru (fCmp .GtE (fVar 3) (fBin .Pow false (fC (.int 10)) (fC (.int 18))))) (sSeq (sExp (fMt false .append (fIdx (fVar 0) (fC (.str (Str.ofString "cells")))) (fCons (fBin .FloorDiv false (fVar 3) (fBn false .mx (fCons (fC (.int 2)) (fCons (fVar 1) fNil)))) fNil))) (sSeq (sRet (fBin .Mod false (fBn false .int (fCons (fVar 3) fNil)) (fVar 1))) sNil)) sNil) (sSeq (sAsg (fBin .Add false (fVar 2) (fBin .Mod false (fBn false .int (fCons (fVar 3) fNil)) (fC (.int k.a2)))) (tgNm 2)) sNil))) sNil) (sSeq (sAsg (fBin .Mod false (fBn false .int (fCons (fBin .Add false (fBin .Mult false (fVar 2) (fC (.int k.a3))) (fC (.int k.a4))) fNil)) (fC (.int k.a5))) (tgNm 2)) (sSeq (sAsg (fBin .Mod false (fBn false .int (fCons (fBin .Add false (fBin .Add false (fBin .Mult false (fVar 2) (fVar 2)) (fBin .Mult false (fC (.int k.a6)) (fIdx (fVar 0) (fC (.str (Str.ofString "draws")))))) (fC (.int k.a7))) fNil)) (fC (.int k.a8))) (tgNm 2)) (sSeq (sAsg (fBin .Mod false (fBn false .int (fCons (fBin .Mult false (fVar 2) (fC (.int k.a9))) fNil)) (fC (.int k.a10))) (tgNm 2)) (sSeq (sRet (fBin .Mod false (fBn false .int (fCons (fBin .FloorDiv false (fVar 2) (fC (.int 64))) fNil)) (fVar 1))) sNil))))))) := by
  simp only [B_draw, evSs, evS, ev, evAnd, evOr, evs, evo, evt, evp, evr, evx, evxs, List.map_cons, List.map_nil, Exs.len, Txs.len] <;> rfl
theorem sh_deck (k : DrK) (G : Fns) (fl : List (Str × Str)) : evSs G fl (B_deck k) = (sSeq (sAsg (fC (.int k.b0)) (tgNm 1)) (sSeq (sFor (fSeq (fSli false (fVar 0) .none (some (fC (.int 63))))) (tgNm 2) (sSeq (sAsg (fBin .Mod false (fBn false .int (fCons (fBin .Add false (fBin .Add false (fBin .Mult false (fVar 1) (fC (.int k.b1))) (fBin .Mod false (fBn false .int (fCons (fVar 2) fNil)) (fC (.int k.b2)))) (fC (.int k.b3))) fNil)) (fC (.int k.b4))) (tgNm 1)) sNil)) (sSeq (sRet (fDct [((fC (.str (Str.ofString "cells"))), (fRev true (fBn false .lst (fCons (fSli false (fVar 0) .none (some (fC (.int 63)))) fNil)))), ((fC (.str (Str.ofString "mixed"))), (fVar 1)), ((fC (.str (Str.ofString "draws"))), (fC (.int 0)))])) sNil))) := by
  simp only [B_deck, evSs, evS, ev, evAnd, evOr, evs, evo, evt, evp, evr, evx, evxs, List.map_cons, List.map_nil, Exs.len, Txs.len] <;> rfl
end Lb

set_option linter.all false
set_option maxRecDepth 100000
set_option maxHeartbeats 1000000
namespace Lb
open PySem PySem.Spec L2 Dl
/-! LibL: the deck of numbers and the drawing from it. -/
abbrev kC : Key := .inr (Str.ofString "cells")
abbrev kM : Key := .inr (Str.ofString "mixed")
abbrev kD : Key := .inr (Str.ofString "draws")
theorem kCM : ¬ kC = kM := by decide
theorem kCD : ¬ kC = kD := by decide
theorem kMD : ¬ kM = kD := by decide
theorem kDM : ¬ kD = kM := by decide
def dk (c : Nat) (mx dr : Int) : List (Key × D) := [(kC, .loc c), (kM, .i mx), (kD, .i dr)]
theorem val_C {c : Nat} {mx dr : Int} : valD (dk c mx dr) kC = some (.loc c) := by simp [dk, valD]
theorem val_M {c : Nat} {mx dr : Int} : valD (dk c mx dr) kM = some (.i mx) := by
  unfold valD dk
  rw [List.find?_cons_of_neg (by simpa using kCM), List.find?_cons_of_pos (by simp)]
  rfl
theorem val_D {c : Nat} {mx dr : Int} : valD (dk c mx dr) kD = some (.i dr) := by
  unfold valD dk
  rw [List.find?_cons_of_neg (by simpa using kCD), List.find?_cons_of_neg (by simpa using kMD), List.find?_cons_of_pos (by simp)]
  rfl
theorem put_D {c : Nat} {mx dr v : Int} : putKD (dk c mx dr) kD (.i v) = dk c mx v := by
  unfold putKD dk
  rw [if_pos (by simp)]
  simp only [List.map_cons, List.map_nil, if_neg kCD, if_neg kMD, if_true]
/-- the deck: its dict in cell l, its numbers in cell c; N draws may still be made -/
def Dk (l c N : Nat) (S : Sto) : Prop := ∃ (cs : List Int) (mx dr : Int), S[l]? = some (.dK (dk c mx dr)) ∧ S[c]? = some (.lst (cs.map D.i)) ∧ l ≠ c ∧ cs.length ≤ 100 ∧ 0 ≤ mx ∧ mx < 2 ^ 32 ∧ 0 ≤ dr ∧ dr + N < 2 ^ 40
/-- the other cells stay; new ones may have come -/
def Fr (l c : Nat) (S S' : Sto) : Prop := S.length ≤ S'.length ∧ ∀ i, i < S.length → i ≠ l → i ≠ c → S'[i]? = S[i]?
theorem Fr.refl (l c : Nat) (S : Sto) : Fr l c S S := ⟨Nat.le_refl _, fun _ _ _ _ => rfl⟩
theorem Fr.trans {l c : Nat} {S S1 S2 : Sto} (h : Fr l c S S1) (h2 : Fr l c S1 S2) : Fr l c S S2 := ⟨Nat.le_trans h.1 h2.1, fun i hi a b => by
  rw [h2.2 i (by have := h.1; omega) a b, h.2 i hi a b]⟩
theorem Dk.le {l c N M : Nat} {S : Sto} (h : Dk l c N S) (hm : M ≤ N) : Dk l c M S := by
  obtain ⟨cs, mx, dr, h1, h2, h3, h4, h5, h6, h7, h8⟩ := h
  exact ⟨cs, mx, dr, h1, h2, h3, h4, h5, h6, h7, by omega⟩
theorem Dk.lt {l c N : Nat} {S : Sto} (h : Dk l c N S) : l < S.length ∧ c < S.length := by
  obtain ⟨cs, mx, dr, h1, h2, _⟩ := h
  exact ⟨(List.getElem?_eq_some_iff.mp h1).1, (List.getElem?_eq_some_iff.mp h2).1⟩
theorem closed_ints (n : Nat) : ∀ cs : List Int, closedAll n (cs.map D.i) = true
  | [] => rfl
  | x :: cs => by simp only [List.map_cons, closedAll, D.closed, closed_ints n cs, Bool.and_self]
/-- a def that touches only the deck hands back a frozen value -/
theorem fin_dk {l c N : Nat} {S S' : Sto} {d : PyData} (f : Fr l c S S') (h : Dk l c N S') (hl : l < S.length) (hc : c < S.length) :
    fin S (.rt (.p d) S') = .ok (.p d) (S'.take S.length) ∧ Dk l c N (S'.take S.length) ∧ Fr l c S (S'.take S.length) ∧ (S'.take S.length).length = S.length := by
  obtain ⟨cs, mx, dr, h1, h2, h3, h4, h5, h6, h7, h8⟩ := h
  have t : TrimOk S S' := ⟨f.1, fun i x hi hx => by
    by_cases a : i = l
    · subst a
      rw [h1] at hx
      cases hx
      right
      simp [Cell.closed, dk, D.closed, hc]
    · by_cases b : i = c
      · subst b
        rw [h2] at hx
        cases hx
        right
        simpa [Cell.closed] using closed_ints _ cs
      · left
        rw [f.2 i hi a b] at hx
        exact hx⟩
  have len : (S'.take S.length).length = S.length := by
    have := f.1
    simp
    omega
  refine ⟨?_, ⟨cs, mx, dr, ?_, ?_, h3, h4, h5, h6, h7, h8⟩, ⟨by omega, fun i hi a b => ?_⟩, len⟩
  · simp only [fin]
    rw [if_pos ⟨t, by simp [D.closed]⟩]
  · rw [List.getElem?_take, if_pos hl, h1]
  · rw [List.getElem?_take, if_pos hc, h2]
  · rw [List.getElem?_take, if_pos hi, f.2 i hi a b]
structure DrK.Ok (k : DrK) : Prop where
  a1 : 0 ≤ k.a1 ∧ k.a1 < 2 ^ 32
  a2 : 0 < k.a2 ∧ k.a2 < 2 ^ 32
  a3 : 0 ≤ k.a3 ∧ k.a3 < 2 ^ 32
  a4 : 0 ≤ k.a4 ∧ k.a4 < 2 ^ 32
  a5 : 0 < k.a5 ∧ k.a5 < 2 ^ 32
  a6 : 0 ≤ k.a6 ∧ k.a6 < 2 ^ 32
  a7 : 0 ≤ k.a7 ∧ k.a7 < 2 ^ 32
  a8 : 0 < k.a8 ∧ k.a8 < 2 ^ 32
  a9 : 0 ≤ k.a9 ∧ k.a9 < 2 ^ 32
  a10 : 0 < k.a10 ∧ k.a10 < 2 ^ 32
  b0 : 0 ≤ k.b0 ∧ k.b0 < 2 ^ 32
  b1 : 0 ≤ k.b1 ∧ k.b1 < 2 ^ 32
  b2 : 0 < k.b2 ∧ k.b2 < 2 ^ 32
  b3 : 0 ≤ k.b3 ∧ k.b3 < 2 ^ 32
  b4 : 0 < k.b4 ∧ k.b4 < 2 ^ 32
section
variable {S : Sto} {l c : Nat} {mx dr : Int} {cs : List Int}
theorem ix_C (h : S[l]? = some (.dK (dk c mx dr))) : opIdx (.loc l) (.p (.str (Str.ofString "cells"))) S = .ok (.loc c) S := by
  simp only [opIdx, dctOf, h, keyOf]
  rw [show (Sum.inr (Str.ofString "cells") : Key) = kC from rfl, val_C]
theorem ix_M (h : S[l]? = some (.dK (dk c mx dr))) : opIdx (.loc l) (.p (.str (Str.ofString "mixed"))) S = .ok (.i mx) S := by
  simp only [opIdx, dctOf, h, keyOf]
  rw [show (Sum.inr (Str.ofString "mixed") : Key) = kM from rfl, val_M]
theorem ix_D (h : S[l]? = some (.dK (dk c mx dr))) : opIdx (.loc l) (.p (.str (Str.ofString "draws"))) S = .ok (.i dr) S := by
  simp only [opIdx, dctOf, h, keyOf]
  rw [show (Sum.inr (Str.ofString "draws") : Key) = kD from rfl, val_D]
theorem set_D {v : Int} (h : S[l]? = some (.dK (dk c mx dr))) : opSet (.loc l) (.p (.str (Str.ofString "draws"))) (.i v) S = .ok () (S.set l (.dK (dk c mx v))) := by
  have sz : 3 < sizeLine := by decide
  simp only [opSet, h, keyOf]
  rw [show (Sum.inr (Str.ofString "draws") : Key) = kD from rfl, put_D, if_pos (by simpa [dk] using sz)]
theorem shp_ints : ∀ cs : List Int, PyData.canLayAll0 (cs.map PyData.int) = true ∧ PyData.depthAll (cs.map PyData.int) = 0
  | [] => by simp [PyData.canLayAll0, PyData.depthAll]
  | x :: cs => by simp [PyData.canLayAll0, PyData.depthAll, PyData.canLay0, PyData.depth, shp_ints cs]
theorem ints_D (cs : List Int) : cs.map D.i = (cs.map PyData.int).map D.p := by simp [Function.comp_def]
theorem ne_nil (h : S[c]? = some (.lst (cs.map D.i))) : opCmp .NotEq (.loc c) (.p (.list [])) S = .ok (.b (!decide (cs = []))) S := by
  show opEq true (.loc c) (.p (.list [])) S = _
  have e : asP (.loc c) S = some (.list (cs.map PyData.int)) := by
    simp only [asP, h, ints_D, allP_map, Option.map_some]
  simp only [opEq, e, asP_p]
  rw [if_pos ⟨by simp [SeqAt.shaped, PyData.canLay0, PyData.depth, shp_ints], by simp [SeqAt.shaped, PyData.canLay0, PyData.depth, PyData.canLayAll0, PyData.depthAll]⟩]
  cases cs <;> simp [PyData.eqv, PyData.eqvAll]
theorem pop_c {x : Int} (h : S[c]? = some (.lst ((cs ++ [x]).map D.i))) : opMt false .pop (.loc c) [] S = .ok (.i x) (S.set c (.lst (cs.map D.i))) := by
  simp only [opMt, cellL, h]
  simp
theorem app_c {x : Int} (h : S[c]? = some (.lst (cs.map D.i))) (hz : cs.length ≤ 100) : opMt false .append (.loc c) [.i x] S = .ok .n (S.set c (.lst ((cs ++ [x]).map D.i))) := by
  have sz : 100 < sizeLine := by decide
  simp only [opMt, cellL, h]
  rw [if_pos (by simp; omega)]
  simp
theorem rcv_c (h : S[c]? = some (.lst (cs.map D.i))) : rcv (.loc c) S = some "list" := by simp only [rcv, h]
theorem set_at {i : Nat} {x : Cell} (h : i < S.length) : (S.set i x)[i]? = some x := by simp [h]
theorem set_ne {i j : Nat} {x : Cell} (h : i ≠ j) : (S.set i x)[j]? = S[j]? := by simp [h]
end
section
variable {dfs : List Df} {fl : List (Str × Str)} {sp : Fns → Fns} {S : Sto} {n : Nat} {k : DrK} {l c N : Nat}
theorem o_mul9 {S : Sto} {m : Bool} {a b : Int} (ha : -(2 ^ 128) < a ∧ a < 2 ^ 128) (hb : -(2 ^ 128) < b ∧ b < 2 ^ 128) : opBin .Mult m (.p (.int a)) (.p (.int b)) S = .ok (.i (a * b)) S :=
  o_mulB (k := 128) (by omega) (by omega) (by omega)
theorem mul_32 {a b : Int} (ha : 0 ≤ a ∧ a < 2 ^ 32) (hb : 0 ≤ b ∧ b < 2 ^ 40) : 0 ≤ a * b ∧ a * b < 2 ^ 72 := by
  have h1 := Int.mul_nonneg ha.1 hb.1
  have h2 : a * b ≤ 2 ^ 32 * b := Int.mul_le_mul_of_nonneg_right (by omega) hb.1
  omega
/-- the last part: three mixings and the answer -/
theorem draw_end (K : k.Ok) {mx dr num many : Int} {d3 : Option D} (h : S[l]? = some (.dK (dk c mx dr))) (hd : 0 ≤ dr ∧ dr < 2 ^ 40) (hn : 0 ≤ num ∧ num < 2 ^ 100) (hm : 0 < many) :
    ∃ r, 0 ≤ r ∧ r < many ∧ (sSeq (sAsg (fBin .Mod false (fBn false .int (fCons (fBin .Add false (fBin .Mult false (fVar 2) (fC (.int k.a3))) (fC (.int k.a4))) fNil)) (fC (.int k.a5))) (tgNm 2)) (sSeq (sAsg (fBin .Mod false (fBn false .int (fCons (fBin .Add false (fBin .Add false (fBin .Mult false (fVar 2) (fVar 2)) (fBin .Mult false (fC (.int k.a6)) (fIdx (fVar 0) (fC (.str (Str.ofString "draws")))))) (fC (.int k.a7))) fNil)) (fC (.int k.a8))) (tgNm 2)) (sSeq (sAsg (fBin .Mod false (fBn false .int (fCons (fBin .Mult false (fVar 2) (fC (.int k.a9))) fNil)) (fC (.int k.a10))) (tgNm 2)) (sSeq (sRet (fBin .Mod false (fBn false .int (fCons (fBin .FloorDiv false (fVar 2) (fC (.int 64))) fNil)) (fVar 1))) sNil)))) [some (.loc l), some (.i many), some (.i num), d3] S = .rt (.i r) S := by
  have b3 := K.a3
  have b6 := K.a6
  have b9 := K.a9
  have x1 := mod_in (p := k.a5) (x := num * k.a3 + k.a4) K.a5.1
  have x1' := K.a5.2
  have x2 := mod_in (p := k.a8) (x := (num * k.a3 + k.a4) % k.a5 * ((num * k.a3 + k.a4) % k.a5) + k.a6 * dr + k.a7) K.a8.1
  have x2' := K.a8.2
  refine ⟨((((num * k.a3 + k.a4) % k.a5 * ((num * k.a3 + k.a4) % k.a5) + k.a6 * dr + k.a7) % k.a8) * k.a9 % k.a10) / 64 % many, (mod_in hm).1, (mod_in hm).2, ?_⟩
  simp [o_mul9 (a := num) (b := k.a3) (by omega) (by omega), o_mod K.a5.1, ix_D h]
  rw [o_mul9 (by omega) (by omega)]
  simp [ix_D h, o_mul9 (a := k.a6) (b := dr) (by omega) (by omega), o_mod K.a8.1]
  rw [o_mul9 (by omega) (by omega)]
  simp [o_mod K.a10.1, o_div, o_mod hm]
theorem c_draw (H : HasB dfs (Str.ofString "_law_draw") 2 4 (B_draw k)) (K : k.Ok) (hn : 1 ≤ n) (Hd : Dk l c (N + 1) S) {many : Int} (hm : 0 < many) (hm2 : many < 2 ^ 60) :
    ∃ r S', evF dfs fl sp n (Str.ofString "_law_draw") [.loc l, .p (.int many)] S = .ok (.i r) S' ∧ 0 ≤ r ∧ r < many ∧ Dk l c N S' ∧ Fr l c S S' ∧ S'.length = S.length := by
  obtain ⟨hl, hc⟩ := Hd.lt
  rw [at' H hn rfl]
  suffices h : ∃ r S', evSs (evF dfs fl sp (n - 1)) fl (B_draw k) [some (.loc l), some (.i many), none, none] S = .rt (.i r) S' ∧ 0 ≤ r ∧ r < many ∧ Dk l c N S' ∧ Fr l c S S' by
    obtain ⟨r, S', h1, h2, h3, h4, h5⟩ := h
    obtain ⟨f1, f2, f3, f4⟩ := fin_dk (d := .int r) h5 h4 hl hc
    exact ⟨r, _, by rw [show ([D.loc l, D.p (.int many)].map some ++ List.replicate (4 - 2) none : Slots) = [some (.loc l), some (.i many), none, none] from rfl, h1, f1], h2, h3, f2, f3, f4⟩
  obtain ⟨cs, mx, dr, h1, h2, h3, h4, h5, h6, h7, h8⟩ := Hd
  have e1 : (S.set l (.dK (dk c mx (dr + 1))))[l]? = some (.dK (dk c mx (dr + 1))) := set_at hl
  have e2 : (S.set l (.dK (dk c mx (dr + 1))))[c]? = some (.lst (cs.map D.i)) := by rw [set_ne h3, h2]
  have b1 := K.a1
  let S1 : Sto := S.set l (.dK (dk c mx (dr + 1)))
  have e1 : S1[l]? = some (.dK (dk c mx (dr + 1))) := e1
  have e2 : S1[c]? = some (.lst (cs.map D.i)) := e2
  have f1 : Fr l c S S1 := ⟨by simp [S1], fun i _ a _ => set_ne fun z => a z.symm⟩
  have dr1 : 0 ≤ dr + 1 ∧ dr + 1 < 2 ^ 40 := by omega
  have dm := mul_32 b1 dr1
  have q1 : (sAsg (fBin .Add true (fIdx (fVar 0) (fC (.str (Str.ofString "draws")))) (fC (.int 1))) (tgSub (fVar 0) (fC (.str (Str.ofString "draws"))))) [some (.loc l), some (.i many), none, none] S = .nx [some (.loc l), some (.i many), none, none] S1 := by
    simp [ix_D h1, set_D h1, S1]
  have q2 : (sAsg (fBin .Add false (fIdx (fVar 0) (fC (.str (Str.ofString "mixed")))) (fBin .Mult false (fC (.int k.a1)) (fIdx (fVar 0) (fC (.str (Str.ofString "draws")))))) (tgNm 2)) [some (.loc l), some (.i many), none, none] S1 = .nx [some (.loc l), some (.i many), some (.i (mx + k.a1 * (dr + 1))), none] S1 := by
    simp [ix_M e1, ix_D e1, o_mul9 (a := k.a1) (b := dr + 1) (by omega) (by omega)]
  rw [sh_draw, s_seq, q1]
  dsimp only
  rw [s_seq, q2]
  dsimp only
  rw [s_seq]
  have fn : evF dfs fl sp = evF dfs fl sp := rfl
  rcases List.eq_nil_or_concat cs with z | ⟨cs', x, z⟩
  · subst z
    have q3 : (sIf (fTru (fCmp .NotEq (fIdx (fVar 0) (fC (.str (Str.ofString "cells")))) (fLst false fNil))) (sSeq (sAsg (fMt false .pop (fIdx (fVar 0) (fC (.str (Str.ofString "cells")))) fNil) (tgNm 3)) (sSeq (sIf (fTru (fCmp .GtE (fVar 3) (fBin .Pow false (fC (.int 10)) (fC (.int 18))))) (sSeq (sExp (fMt false .append (fIdx (fVar 0) (fC (.str (Str.ofString "cells")))) (fCons (fBin .FloorDiv false (fVar 3) (fBn false .mx (fCons (fC (.int 2)) (fCons (fVar 1) fNil)))) fNil))) (sSeq (sRet (fBin .Mod false (fBn false .int (fCons (fVar 3) fNil)) (fVar 1))) sNil)) sNil) (sSeq (sAsg (fBin .Add false (fVar 2) (fBin .Mod false (fBn false .int (fCons (fVar 3) fNil)) (fC (.int k.a2)))) (tgNm 2)) sNil))) sNil) [some (.loc l), some (.i many), some (.i (mx + k.a1 * (dr + 1))), none] S1 = .nx [some (.loc l), some (.i many), some (.i (mx + k.a1 * (dr + 1))), none] S1 := by
      have en := ne_nil e2
      simp [ix_C e1, mkL, allP, en]
    rw [q3]
    dsimp only
    obtain ⟨r, r0, r1, r2⟩ := draw_end (d3 := none) (many := many) (num := mx + k.a1 * (dr + 1)) K e1 dr1 (by omega) hm
    exact ⟨r, S1, r2, r0, r1, ⟨[], mx, dr + 1, e1, e2, h3, by simp, h5, h6, dr1.1, by omega⟩, f1⟩
  · rw [List.concat_eq_append] at z
    subst z
    have hlen : cs'.length < 100 := by simp at h4; omega
    let S2 : Sto := S1.set c (.lst (cs'.map D.i))
    have hc1 : c < S1.length := by simpa [S1] using hc
    have e3 : S2[c]? = some (.lst (cs'.map D.i)) := set_at hc1
    have e4 : S2[l]? = some (.dK (dk c mx (dr + 1))) := by rw [show S2 = S1.set c (.lst (cs'.map D.i)) from rfl, set_ne (fun z => h3 z.symm), e1]
    have f2 : Fr l c S S2 := f1.trans ⟨by simp [S2], fun i _ _ b => set_ne fun z => b z.symm⟩
    have en : opCmp .NotEq (.loc c) (.p (.list [])) S1 = .ok (.b true) S1 := by
      rw [ne_nil e2]; simp
    have pw : opBin .Pow false (.p (.int 10)) (.p (.int 18)) S2 = .ok (.i (10 ^ 18)) S2 := o_pow (by omega) (by omega)
    have pp : opMt false .pop (.loc c) [] S1 = .ok (.i x) S2 := pop_c e2
    by_cases big : (1000000000000000000 : Int) ≤ x
    · let v : Int := if many > 2 then many else 2
      have v0 : 0 < v ∧ v < 2 ^ 64 := by
        simp only [v]
        split <;> omega
      let S3 : Sto := S2.set c (.lst ((cs' ++ [x / v]).map D.i))
      have ap : opMt false .append (.loc c) [.i (x / v)] S2 = .ok .n S3 := app_c e3 (by omega)
      have hc2 : c < S2.length := by simpa [S2] using hc1
      have e5 : S3[c]? = some (.lst ((cs' ++ [x / v]).map D.i)) := set_at hc2
      have e6 : S3[l]? = some (.dK (dk c mx (dr + 1))) := by rw [show S3 = S2.set c (.lst ((cs' ++ [x / v]).map D.i)) from rfl, set_ne (fun z => h3 z.symm), e4]
      have f3 : Fr l c S S3 := f2.trans ⟨by simp [S3], fun i _ _ b => set_ne fun z => b z.symm⟩
      refine ⟨x % many, S3, ?_, (mod_in hm).1, (mod_in hm).2, ⟨cs' ++ [x / v], mx, dr + 1, e6, e5, h3, by simp; omega, h5, h6, dr1.1, by omega⟩, f3⟩
      have od : opBin .FloorDiv false (.p (.int x)) (.p (.int v)) S2 = .ok (.i (x / v)) S2 := o_div v0.1 v0.2
      simp only [v] at od ap
      simp [ix_C e1, mkL, allP, en, rcv_c e2, Mt.ty, pp]
      simp [pw, ix_C e4, rcv_c e3, big, Mt.ty, od, ap, o_mod hm]
    · have ms := mod_in (x := x) K.a2.1
      have ms' := K.a2.2
      obtain ⟨r, r0, r1, r2⟩ := draw_end (d3 := some (.i x)) (many := many) (num := mx + k.a1 * (dr + 1) + x % k.a2) K e4 dr1 (by omega) hm
      refine ⟨r, S2, ?_, r0, r1, ⟨cs', mx, dr + 1, e4, e3, h3, by omega, h5, h6, dr1.1, by omega⟩, f2⟩
      have q3 : (sIf (fTru (fCmp .NotEq (fIdx (fVar 0) (fC (.str (Str.ofString "cells")))) (fLst false fNil))) (sSeq (sAsg (fMt false .pop (fIdx (fVar 0) (fC (.str (Str.ofString "cells")))) fNil) (tgNm 3)) (sSeq (sIf (fTru (fCmp .GtE (fVar 3) (fBin .Pow false (fC (.int 10)) (fC (.int 18))))) (sSeq (sExp (fMt false .append (fIdx (fVar 0) (fC (.str (Str.ofString "cells")))) (fCons (fBin .FloorDiv false (fVar 3) (fBn false .mx (fCons (fC (.int 2)) (fCons (fVar 1) fNil)))) fNil))) (sSeq (sRet (fBin .Mod false (fBn false .int (fCons (fVar 3) fNil)) (fVar 1))) sNil)) sNil) (sSeq (sAsg (fBin .Add false (fVar 2) (fBin .Mod false (fBn false .int (fCons (fVar 3) fNil)) (fC (.int k.a2)))) (tgNm 2)) sNil))) sNil) [some (.loc l), some (.i many), some (.i (mx + k.a1 * (dr + 1))), none] S1 = .nx [some (.loc l), some (.i many), some (.i (mx + k.a1 * (dr + 1) + x % k.a2)), some (.i x)] S2 := by
        simp [ix_C e1, mkL, allP, en, rcv_c e2, Mt.ty, pp]
        simp [pw, big, o_mod K.a2.1]
      rw [q3]
      dsimp only
      exact r2
end
end Lb

set_option linter.all false
set_option maxRecDepth 100000
set_option maxHeartbeats 1000000
namespace Lb
open PySem PySem.Spec L2 Dl
/-! LibM: the deck made of a script; comprehensions that draw. -/
section
variable {dfs : List Df} {fl : List (Str × Str)} {sp : Fns → Fns} {S : Sto} {n : Nat} {k : DrK} {l c N : Nat}
theorem c_deck (H : HasB dfs (Str.ofString "_law_deck") 1 3 (B_deck k)) (K : k.Ok) (hn : 1 ≤ n) {ns : List Int} (h : ns.length ≤ 63) :
    ∃ S', evF dfs fl sp n (Str.ofString "_law_deck") [.p (.list (ns.map PyData.int))] S = .ok (.loc S.length) S' ∧ Dk S.length (S.length + 1) 1000000 S' ∧ S'.length = S.length + 2 := by
  have sz : 63 ≤ sizeLine := by decide
  have cut : cutD ((ns.map PyData.int).map D.p) none (some 63) = (ns.map PyData.int).map D.p := by
    unfold cutD
    rw [show HT.sIx ((ns.map PyData.int).map D.p).length 0 none = 0 from rfl, show (some (63 : Int)) = some ((63 : Nat) : Int) from rfl, HT.sIx_nat]
    rw [List.drop_zero, List.take_of_length_le (by simp only [List.length_map]; omega)]
  have sl : ∀ S : Sto, opSli false (.p (.list (ns.map PyData.int))) none (some 63) S = .ok (.p (.list (ns.map PyData.int))) S := fun S => by
    simp only [opSli, tupOf_list, lstOf_list]
    rw [cut, mkL_map]
  have loop := for_inv (G := tgNm 2) (B := (sSeq (sAsg (fBin .Mod false (fBn false .int (fCons (fBin .Add false (fBin .Add false (fBin .Mult false (fVar 1) (fC (.int k.b1))) (fBin .Mod false (fBn false .int (fCons (fVar 2) fNil)) (fC (.int k.b2)))) (fC (.int k.b3))) fNil)) (fC (.int k.b4))) (tgNm 1)) sNil)) (w := []) (ys := ns) (fun x => D.p (.int x))
    (fun _ ρ S' => S' = S ∧ ∃ mx x, ρ = [some (.p (.list (ns.map PyData.int))), some (.i mx), x] ∧ 0 ≤ mx ∧ mx < 2 ^ 32) (fun _ _ _ _ => by simp) (by
      rintro done y ρ S' ⟨rfl, mx, x, rfl, m0, m1⟩ _
      have b1 := K.b1
      have b4 := mod_in (p := k.b4) (x := mx * k.b1 + y % k.b2 + k.b3) K.b4.1
      have b4' := K.b4.2
      refine ⟨[some (.p (.list (ns.map PyData.int))), some (.i mx), some (.i y)], S', _, S', rfl, .inl (by simp [o_mul9 (a := mx) (b := k.b1) (by omega) (by omega), o_mod K.b2.1, o_mod K.b4.1]; rfl), rfl, (mx * k.b1 + y % k.b2 + k.b3) % k.b4, some (.i y), ?_, b4.1, by omega⟩
      simp)
    ns [] [some (.p (.list (ns.map PyData.int))), some (.i k.b0), none] S (fun _ h => h) ⟨rfl, k.b0, none, rfl, K.b0.1, K.b0.2⟩
  obtain ⟨ρ', S', e1, rfl, mx, x, rfl, m0, m1⟩ := loop
  have src : fSeq (fSli false (fVar 0) .none (some (fC (.int 63)))) [some (.p (.list (ns.map PyData.int))), some (.i k.b0), none] S' = .ok ⟨ns.map fun x => D.p (.int x), []⟩ S' := by
    rw [i_seqL (ds := ns.map PyData.int) (by simp [sl])]
    simp
  let S2 : Sto := S' ++ [.dK []] ++ [.lst (ns.reverse.map D.i)]
  let S3 : Sto := S2.set S'.length (.dK (dk (S'.length + 1) mx 0))
  have g2 : S2[S'.length]? = some (.dK []) := by simp [S2]
  have dct : fDct [((fC (.str (Str.ofString "cells"))), (fRev true (fBn false .lst (fCons (fSli false (fVar 0) .none (some (fC (.int 63)))) fNil)))), ((fC (.str (Str.ofString "mixed"))), (fVar 1)), ((fC (.str (Str.ofString "draws"))), (fC (.int 0)))] [some (.p (.list (ns.map PyData.int))), some (.i mx), x] S' = .ok (.loc S'.length) S3 := by
    have rv : opRev true (.p (.list (ns.map PyData.int))) (S' ++ [.dK []]) = .ok (.loc (S'.length + 1)) S2 := by
      simp [opRev, S2]
    have mg : mergeD [] (dk (S'.length + 1) mx 0) = dk (S'.length + 1) mx 0 := by
      unfold mergeD dk
      simp only [List.foldl_cons, List.foldl_nil]
      have p1 : putKD ([] : List (Key × D)) kC (.loc (S'.length + 1)) = [(kC, .loc (S'.length + 1))] := rfl
      have p2 : putKD [(kC, D.loc (S'.length + 1))] kM (.i mx) = [(kC, .loc (S'.length + 1)), (kM, .i mx)] := by
        unfold putKD
        rw [if_neg (by simpa using kCM)]
        rfl
      have p3 : putKD [(kC, D.loc (S'.length + 1)), (kM, .i mx)] kD (.i 0) = [(kC, .loc (S'.length + 1)), (kM, .i mx), (kD, .i 0)] := by
        unfold putKD
        have e : ([(kC, D.loc (S'.length + 1)), (kM, D.i mx)].any fun q => decide (q.1 = kD)) = false := by
          simp only [List.any_cons, List.any_nil, decide_eq_false kCD, decide_eq_false kMD, Bool.or_self]
        rw [e]
        rfl
      rw [p1, p2, p3]
    simp only [fDct, pairsF, e_c, bind_ok, fRev, e_bn, e_cons, e_sli, e_var, List.getElem?_cons_zero, e_part0, e_part1, e_nil, sl, b_lstL, rv, List.getElem?_cons_succ, g2, keysOf, keyOf]
    show (if ([(kC, D.loc (S'.length + 1)), (kM, .i mx), (kD, .i 0)] : List (Key × D)).length ≤ 15 then _ else _) = _
    rw [if_pos (by simp), show ([(kC, D.loc (S'.length + 1)), (kM, .i mx), (kD, .i 0)] : List (Key × D)) = dk (S'.length + 1) mx 0 from rfl, mg]
  refine ⟨S3, ?_, ⟨ns.reverse, mx, 0, by simp [S3, S2], by simp [S3, S2], by omega, by simp; omega, m0, m1, by omega, by omega⟩, by simp [S3, S2]⟩
  rw [at' H hn rfl, sh_deck, s_seq]
  simp only [List.map_cons, List.map_nil, List.cons_append, List.nil_append, List.replicate]
  simp
  rw [src]
  simp only [out_ok]
  rw [e1]
  dsimp only
  rw [dct]
  simp only [out_ok, fin]
  rw [if_neg (by simp [D.closed])]
end
end Lb

set_option linter.all false
set_option maxRecDepth 100000
set_option maxHeartbeats 1000000
namespace Lb
open PySem PySem.Spec L2 Dl
/-! LibN: comprehensions that draw; picking, rows. -/
/-- from S to S' only the deck went on -/
def Go (l c N : Nat) (S S' : Sto) : Prop := Dk l c N S' ∧ Fr l c S S' ∧ S'.length = S.length
theorem Go.trans {l c N M : Nat} {S S1 S2 : Sto} (h : Go l c N S S1) (h2 : Go l c M S1 S2) : Go l c M S S2 := ⟨h2.1, h.2.1.trans h2.2.1, by rw [h2.2.2, h.2.2]⟩
theorem Go.le {l c N M : Nat} {S S1 : Sto} (h : Go l c N S S1) (hm : M ≤ N) : Go l c M S S1 := ⟨h.1.le hm, h.2⟩
theorem Go.refl {l c N : Nat} {S : Sto} (h : Dk l c N S) : Go l c N S S := ⟨h, Fr.refl _ _ _, rfl⟩
theorem lcS {β : Type} {t : Tg} {own : List Nat} {ρ : Slots} {Fi : Slots → Sto → Res Src} {Fe : Slots → Sto → Res D} {S : Sto} {ys : List β} (g : β → D) (Q : PyData → Prop) {l c : Nat} (e N : Nat)
    (hi : Fi ρ S = .ok ⟨ys.map g, []⟩ S) (hz : ys.length ≤ sizeLine) (hd : Dk l c (N + ys.length * e) S)
    (h : ∀ y ∈ ys, ∃ ρ', setT t (g y) (wipeD ρ own) = some ρ' ∧ ∀ M S, Dk l c (M + e) S → ∃ v S', Fe ρ' S = .ok (.p v) S' ∧ Q v ∧ Go l c M S S') :
    ∃ vs S', fLc false Fi t own fYes Fe ρ S = .ok (.p (.list vs)) S' ∧ vs.length = ys.length ∧ (∀ v ∈ vs, Q v) ∧ Go l c N S S' := by
  have loop : ∀ (ys : List β) (acc : List PyData) (S : Sto), acc.length + ys.length ≤ sizeLine → Dk l c (N + ys.length * e) S → (∀ y ∈ ys, ∃ ρ', setT t (g y) (wipeD ρ own) = some ρ' ∧ ∀ M S, Dk l c (M + e) S → ∃ v S', Fe ρ' S = .ok (.p v) S' ∧ Q v ∧ Go l c M S S') →
      ∃ vs S', lcLoop [] t (wipeD ρ own) fYes Fe (ys.map g) (acc.map D.p) S = .ok ((acc ++ vs).map D.p) S' ∧ vs.length = ys.length ∧ (∀ v ∈ vs, Q v) ∧ Go l c N S S' := by
    intro ys
    induction ys with
    | nil =>
      intro acc S _ hd _
      refine ⟨[], S, ?_, rfl, by simp, .refl (hd.le (by simp))⟩
      unfold lcLoop
      simp only [List.map_nil]
      rw [if_pos (by simp)]
      simp
    | cons y ys ih =>
      intro acc S hz hd h
      obtain ⟨ρ', e1, e2⟩ := h y (by simp)
      simp only [List.length_cons] at hz hd
      obtain ⟨v, S1, e3, q, go⟩ := e2 (N + ys.length * e) S (hd.le (by rw [Nat.add_mul]; omega))
      obtain ⟨vs, S2, e4, len, qs, go2⟩ := ih (acc ++ [v]) S1 (by simp; omega) go.1 fun z hz => h z (by simp [hz])
      refine ⟨v :: vs, S2, ?_, by simp [len], by simpa using ⟨q, qs⟩, go.trans go2⟩
      have lt : acc.length < sizeLine := by omega
      rw [List.map_cons]
      unfold lcLoop
      rw [if_pos (by simp)]
      simp only [e1, fYes, Dl.Res.nx, bind_ok, e3, List.length_map, lt, if_true]
      simpa using e4
  obtain ⟨vs, S', e1, len, qs, go⟩ := loop ys [] S (by simpa using hz) hd h
  refine ⟨vs, S', ?_, len, qs, go⟩
  unfold fLc
  rw [hi]
  simp only [bind_ok]
  rw [show ([] : List D) = ([] : List PyData).map D.p from rfl, e1]
  rw [bind_ok, mkL_map]
  simp
/-- a drawn value below p -/
def Qi (p : Int) (v : PyData) : Prop := ∃ x, v = .int x ∧ 0 ≤ x ∧ x < p
/-- a drawn row -/
def Qr (p : Int) (k : Nat) (v : PyData) : Prop := ∃ f, In1 p f ∧ v = rowP (mkR k f)
theorem ints_of {p : Int} : ∀ {vs : List PyData}, (∀ v ∈ vs, Qi p v) → ∃ xs : List Int, vs = xs.map PyData.int ∧ ∀ x ∈ xs, 0 ≤ x ∧ x < p
  | [], _ => ⟨[], rfl, by simp⟩
  | v :: vs, h => by
    obtain ⟨x, rfl, hx⟩ := h v (by simp)
    obtain ⟨xs, rfl, hs⟩ := ints_of (vs := vs) fun z hz => h z (by simp [hz])
    exact ⟨x :: xs, rfl, by simpa using ⟨hx, hs⟩⟩
theorem row_of {p : Int} {k : Nat} {vs : List PyData} (hp : 0 < p) (hl : vs.length = k) (h : ∀ v ∈ vs, Qi p v) : Qr p k (.tuple vs) := by
  obtain ⟨xs, rfl, hs⟩ := ints_of h
  obtain ⟨f, h1, h2⟩ := row_fn hp (r := xs) (n := k) ⟨by simpa using hl, hs⟩
  exact ⟨f, h1, by rw [← h2]; rfl⟩
theorem rows_of {p : Int} {k : Nat} : ∀ {vs : List PyData}, (∀ v ∈ vs, Qr p k v) → ∃ M : List (List Int), vs = M.map rowP ∧ ∀ r ∈ M, Row p k r
  | [], _ => ⟨[], rfl, by simp⟩
  | v :: vs, h => by
    obtain ⟨f, h1, rfl⟩ := h v (by simp)
    obtain ⟨M, rfl, hs⟩ := rows_of (vs := vs) fun z hz => h z (by simp [hz])
    exact ⟨mkR k f :: M, rfl, by simpa using ⟨mkR_row h1, hs⟩⟩
def Qm (p : Int) (k : Nat) (v : PyData) : Prop := ∃ f, In2 p f ∧ v = matP (mkM k f)
theorem mat_of {p : Int} {k : Nat} {vs : List PyData} (hp : 0 < p) (hl : vs.length = k) (h : ∀ v ∈ vs, Qr p k v) : Qm p k (.tuple vs) := by
  obtain ⟨M, rfl, hs⟩ := rows_of h
  obtain ⟨f, h1, h2⟩ := mat_fn hp (M := M) (n := k) ⟨by simpa using hl, hs⟩
  exact ⟨f, h1, by rw [← h2]; rfl⟩
section
variable {S : Sto} {ρ : Slots} {F Fe : Slots → Sto → Res D} {k : Nat} {own : List Nat} {v l c : Nat}
/-- over a range, each item draws -/
theorem lcS_r1 (Q : PyData → Prop) (e N : Nat) (h : F ρ S = .ok (.i (k : Nat)) S) (hk : k ≤ 8) (hd : Dk l c (N + 8 * e) S)
    (hb : ∀ j, j < k → ∀ M S, Dk l c (M + e) S → ∃ x S', Fe ((wipeD ρ own).set v (some (.i (j : Nat)))) S = .ok (.p x) S' ∧ Q x ∧ Go l c M S S') :
    ∃ vs S', fLc false (fRng1 F) (.nm v) own fYes Fe ρ S = .ok (.p (.list vs)) S' ∧ vs.length = k ∧ (∀ v ∈ vs, Q v) ∧ Go l c N S S' := by
  have := lcS (t := .nm v) (own := own) (Fe := Fe) (ys := List.range k) (fun x => D.i (x : Nat)) Q e N (i_r1 h (by omega)) (by simpa using szk hk) (hd.le (by
    have := Nat.mul_le_mul_right e hk
    simp only [List.length_range]
    omega)) fun j hj => ⟨_, rfl, hb j (List.mem_range.mp hj)⟩
  simpa using this
end
structure HDrw (D : List Df) (k : DrK) : Prop where
  ok : k.Ok
  draw : HasB D (Str.ofString "_law_draw") 2 4 (B_draw k)
  deck : HasB D (Str.ofString "_law_deck") 1 3 (B_deck k)
section
variable {dfs : List Df} {fl : List (Str × Str)} {sp : Fns → Fns} {S : Sto} {n : Nat} {q : DrK} {l c N k : Nat} {p : Int}
theorem l_draw (H : HDrw dfs q) (hn : 1 ≤ n) (hd : Dk l c (N + 1) S) {many : Int} (hm : 0 < many) (hm2 : many < 2 ^ 60) :
    ∃ r S', evF dfs fl sp n (Str.ofString "_law_draw") [.loc l, .p (.int many)] S = .ok (.i r) S' ∧ 0 ≤ r ∧ r < many ∧ Go l c N S S' := by
  obtain ⟨r, S', h1, h2, h3, h4, h5, h6⟩ := c_draw H.draw H.ok hn hd hm hm2
  exact ⟨r, S', h1, h2, h3, h4, h5, h6⟩
theorem l_drawN (H : HDrw dfs q) (hn : 1 ≤ n) (hd : Dk l c (N + 1) S) {many : Nat} (hm : 0 < many) (hm2 : many < 1000000) :
    ∃ (r : Nat) (S' : Sto), evF dfs fl sp n (Str.ofString "_law_draw") [.loc l, .p (.int (many : Nat))] S = .ok (.i (r : Nat)) S' ∧ r < many ∧ Go l c N S S' := by
  obtain ⟨r, S', h1, h2, h3, h4⟩ := l_draw H hn hd (many := (many : Nat)) (by omega) (by omega)
  refine ⟨r.toNat, S', ?_, by omega, h4⟩
  rw [h1, Int.toNat_of_nonneg h2]
theorem fin_go {S S' : Sto} {d : PyData} (hd : Go l c N S S') : fin S (.rt (.p d) S') = .ok (.p d) S' := by
  have lt := hd.1.lt
  rw [hd.2.2] at lt
  obtain ⟨h1, _⟩ := fin_dk (d := d) hd.2.1 hd.1 lt.1 lt.2
  rw [h1, List.take_of_length_le (by rw [hd.2.2]; exact Nat.le_refl _)]
/-- the def's body goes on with the deck and gives back a frozen value -/
theorem givesS {f : Str} {a b : Nat} {B : Sms} (h : HasB dfs f a b B) (hn : 1 ≤ n) {ds : List D} (hl : ds.length = a) {S : Sto} {Q : PyData → Prop}
    (e : ∃ r S', evSs (evF dfs fl sp (n - 1)) fl B (ds.map some ++ List.replicate (b - a) none) S = .rt (.p r) S' ∧ Q r ∧ Go l c N S S') : ∃ r S', evF dfs fl sp n f ds S = .ok (.p r) S' ∧ Q r ∧ Go l c N S S' := by
  obtain ⟨r, S', e1, e2, e3⟩ := e
  exact ⟨r, S', by rw [at' h hn hl, e1, fin_go e3], e2, e3⟩
theorem l_pick (H : HDrw dfs q) (H2 : HasB dfs (Str.ofString "_law_pick") 2 2 B__law_pick) (hn : 2 ≤ n) {ds : List PyData} (h0 : 0 < ds.length) (h1 : ds.length < 1000000) (hd : Dk l c (N + 1) S) :
    ∃ r S', evF dfs fl sp n (Str.ofString "_law_pick") [.loc l, .p (.list ds)] S = .ok (.p r) S' ∧ r ∈ ds ∧ Go l c N S S' := by
  refine givesS H2 (by omega) rfl ?_
  obtain ⟨r, S', e1, e2, e3⟩ := l_drawN (fl := fl) (sp := sp) (n := n - 1) H (by omega) hd h0 h1
  refine ⟨ds[r], S', ?_, List.getElem_mem _, e3⟩
  have ix : opIdx (.p (.list ds)) (.p (.int (r : Nat))) S' = .ok (.p ds[r]) S' := o_idxL (List.getElem?_eq_getElem e2)
  rw [sh__law_pick]
  simp [arrD, e1, ix]
theorem l_row (H : HDrw dfs q) (H2 : HasB dfs (Str.ofString "_law_row") 3 6 B__law_row) (hn : 2 ≤ n) (hp : Pr p) (h1 : 1 ≤ k) (hk : k ≤ 8) (hd : Dk l c (N + 10) S) :
    ∃ r S', evF dfs fl sp n (Str.ofString "_law_row") [.loc l, .p (.int p), .p (.int (k : Nat))] S = .ok (.p r) S' ∧ Qr p k r ∧ Go l c N S S' := by
  refine givesS H2 (by omega) rfl ?_
  have pp := hp.pos
  obtain ⟨w, S1, e1, w5, g1⟩ := l_drawN (fl := fl) (sp := sp) (n := n - 1) (N := N + 9) (many := 5) H (by omega) hd (by omega) (by omega)
  obtain ⟨a, S2, e2, a5, g2⟩ := l_drawN (fl := fl) (sp := sp) (n := n - 1) (N := N + 8) (many := k) H (by omega) g1.1 (by omega) (by omega)
  have e1' : evF dfs fl sp (n - 1) (Str.ofString "_law_draw") [.loc l, .p (.int 5)] S = .ok (.i (w : Nat)) S1 := e1
  by_cases w0 : w = 0
  · subst w0
    have lc := lc_r1 (S := S2) (ρ := [some (.loc l), some (.i p), some (.i (k : Nat)), some (.i 0), some (.i (a : Nat)), none]) (own := [5]) (v := 5) (F := fVar 2) (Fe := fBn false .int (fCons (fCmp .Eq (fVar 5) (fVar 4)) fNil)) (fun j => PyData.int (if j = a then 1 else 0)) (by simp) hk fun j hj => by
      by_cases z : j = a
      · subst z; simp [wipeD]
      · have : ¬ ((j : Nat) : Int) = (a : Nat) := by omega
        simp [wipeD, z, this]
    refine ⟨rowP (mkR k fun j => if j = a then 1 else 0), S2, ?_, ⟨_, fun i => by split <;> omega, rfl⟩, (g1.trans g2).le (by omega)⟩
    rw [sh__law_row]
    simp [arrD, e1', e2, sz2, mk2, lc]
    simp [rowP_mk]
  · have w0' : ¬ ((w : Nat) : Int) = 0 := by omega
    obtain ⟨vs, S3, e3, len, qs, g3⟩ := lcS_r1 (S := S2) (l := l) (c := c) (k := k) (ρ := [some (.loc l), some (.i p), some (.i (k : Nat)), some (.i (w : Nat)), some (.i (a : Nat)), none]) (own := [5]) (v := 5) (F := fVar 2) (Fe := (fIf (fTru (fCmp .Gt (fVar 3) (fC (.int 1)))) (fCall (evF dfs fl sp (n - 1) (Str.ofString "_law_draw")) 2 0 [.inl 0, .inl 1] (fCons (fVar 0) (fCons (fVar 1) fNil)) fNil) (fC (.int 0)))) (Qi p) 1 N (by simp) hk g2.1 (fun j hj M S hd => by
      by_cases z : (1 : Int) < (w : Nat)
      · obtain ⟨r, S', e3, r0, r1, g3⟩ := l_draw (fl := fl) (sp := sp) (n := n - 1) (N := M) (many := p) H (by omega) hd (by omega) (by omega)
        exact ⟨.int r, S', by simp [wipeD, z, arrD, e3], ⟨r, rfl, r0, r1⟩, g3⟩
      · exact ⟨.int 0, S, by simp [wipeD, z], ⟨0, rfl, by omega, by omega⟩, .refl (hd.le (by omega))⟩)
    refine ⟨.tuple vs, S3, ?_, row_of hp.p0 len qs, (g1.trans g2).trans g3⟩
    rw [sh__law_row]
    simp [arrD, e1', e2, sz2, mk2, w0, e3]
end
end Lb

set_option linter.all false
set_option maxRecDepth 100000
set_option maxHeartbeats 1000000
namespace Lb
/-! LibQ: sums and tables modulo p: plain maths. -/
section
variable {n k : Nat} {p : Int}
theorem sm_congr {f g : Nat → Int} : ∀ {n : Nat}, (∀ i, i < n → f i = g i) → sm n f = sm n g
  | 0, _ => rfl
  | n + 1, h => by rw [smS, smS, sm_congr fun i hi => h i (by omega), h n (by omega)]
theorem sm_add (f g : Nat → Int) : ∀ n, sm n (fun i => f i + g i) = sm n f + sm n g
  | 0 => rfl
  | n + 1 => by rw [smS, smS, smS, sm_add f g n]; omega
theorem sm_mulL (c : Int) (f : Nat → Int) : ∀ n, sm n (fun i => c * f i) = c * sm n f
  | 0 => by simp [sm0]
  | n + 1 => by rw [smS, smS, sm_mulL c f n, Int.mul_add]
theorem sm_mulR (c : Int) (f : Nat → Int) : ∀ n, sm n (fun i => f i * c) = sm n f * c
  | 0 => by simp [sm0]
  | n + 1 => by rw [smS, smS, sm_mulR c f n, Int.add_mul]
theorem sm_zero : ∀ n, sm n (fun _ => 0) = 0
  | 0 => rfl
  | n + 1 => by rw [smS, sm_zero n]; rfl
theorem sm_swap (f : Nat → Nat → Int) (m : Nat) : ∀ n, sm n (fun i => sm m fun j => f i j) = sm m fun j => sm n fun i => f i j
  | 0 => by simp only [sm0, sm_zero]
  | n + 1 => by
    rw [smS, sm_swap f m n]
    simp only [smS]
    rw [sm_add]
theorem sm_mod {f g : Nat → Int} (h : ∀ i, f i % p = g i % p) : ∀ n, sm n f % p = sm n g % p
  | 0 => rfl
  | n + 1 => by
    rw [smS, smS, Int.add_emod, sm_mod h n, h n, ← Int.add_emod]
theorem mulmL (a b : Int) : (a % p * b) % p = (a * b) % p := by simp [Int.mul_emod]
theorem mulmR (a b : Int) : (a * (b % p)) % p = (a * b) % p := by simp [Int.mul_emod]
theorem mul_assocF (f g h : Nat → Nat → Int) : mulF p k (mulF p k f g) h = mulF p k f (mulF p k g h) := by
  funext i j
  unfold mulF
  rw [sm_mod (g := fun l => sm k fun m => f i m * g m l * h l j) (fun l => by rw [mulmL, sm_mulR]) k, sm_mod (f := fun l => f i l * _) (g := fun m => sm k fun l => f i m * g m l * h l j) (fun m => by
    rw [mulmR, ← sm_mulL]
    congr 1
    exact sm_congr fun l _ => (Int.mul_assoc _ _ _).symm) k, sm_swap]
theorem mul_addF (f g h : Nat → Nat → Int) : mulF p k f (addF p 1 g h) = addF p 1 (mulF p k f g) (mulF p k f h) := by
  funext i j
  unfold mulF addF
  rw [sm_mod (g := fun l => f i l * g l j + f i l * h l j) (fun l => by rw [mulmR, Int.one_mul, Int.mul_add]) k, sm_add, Int.one_mul, ← Int.add_emod]
theorem add_mulF (f g h : Nat → Nat → Int) : mulF p k (addF p 1 g h) f = addF p 1 (mulF p k g f) (mulF p k h f) := by
  funext i j
  unfold mulF addF
  rw [sm_mod (g := fun l => g i l * f l j + h i l * f l j) (fun l => by rw [mulmL, Int.one_mul, Int.add_mul]) k, sm_add, Int.one_mul, ← Int.add_emod]
theorem tim_mulF (c : Int) (f g : Nat → Nat → Int) : mulF p k (timF p c f) g = timF p c (mulF p k f g) := by
  funext i j
  unfold mulF timF
  rw [sm_mod (g := fun l => c * (f i l * g l j)) (fun l => by rw [mulmL, Int.mul_assoc]) k, sm_mulL, mulmR]
theorem sw_mulF (f g : Nat → Nat → Int) : swF (mulF p k f g) = mulF p k (swF g) (swF f) := by
  funext i j
  unfold swF mulF
  rw [sm_congr fun l _ => Int.mul_comm _ _]
theorem sm_pick (f : Nat → Int) (i : Nat) : ∀ n, sm n (fun l => if i = l then f l else 0) = if i < n then f i else 0
  | 0 => rfl
  | n + 1 => by
    rw [smS, sm_pick f i n]
    by_cases h : i = n
    · subst h; simp
    · by_cases h2 : i < n
      · have : i < n + 1 := by omega
        simp [h, h2, this]
      · have : ¬ i < n + 1 := by omega
        simp [h, h2, this]
theorem mod_of {x : Int} (h : 0 ≤ x ∧ x < p) : x % p = x := Int.emod_eq_of_lt h.1 h.2
theorem mul_unitF {f : Nat → Nat → Int} (hf : In2 p f) {i j : Nat} (hj : j < k) : mulF p k f unitF i j = f i j := by
  unfold mulF
  rw [sm_congr (g := fun l => if j = l then f i l else 0) fun l _ => by
    unfold unitF
    by_cases z : l = j
    · subst z; simp
    · have z' : ¬ j = l := fun y => z y.symm
      simp [z, z'], sm_pick, if_pos hj, mod_of (hf i j)]
theorem unit_mulF {f : Nat → Nat → Int} (hf : In2 p f) {i j : Nat} (hi : i < k) : mulF p k unitF f i j = f i j := by
  unfold mulF
  rw [sm_congr (g := fun l => if i = l then f l j else 0) fun l _ => by
    unfold unitF
    by_cases z : i = l <;> simp [z], sm_pick (fun l => f l j), if_pos hi, mod_of (hf i j)]
theorem mul_zerF (f : Nat → Nat → Int) : mulF p k f zerF = zerF := by
  funext i j
  unfold mulF zerF
  simp only [Int.mul_zero, sm_zero, Int.zero_emod]
theorem led_mulF (f g : Nat → Nat → Int) (r : Nat → Int) : ledF p k (mulF p k f g) r = ledF p k g (ledF p k f r) := by
  funext j
  unfold ledF mulF
  rw [sm_mod (g := fun i => sm k fun l => r i * f i l * g l j) (fun i => by
    rw [mulmR, ← sm_mulL]
    congr 1
    exact sm_congr fun l _ => (Int.mul_assoc _ _ _).symm) k, sm_mod (f := fun i => _ % p * g i j) (g := fun l => sm k fun i => r i * f i l * g l j) (fun l => by rw [mulmL, sm_mulR]) k, sm_swap]
theorem led_unitF {f : Nat → Nat → Int} (hf : In2 p f) {i : Nat} (hi : i < k) (j : Nat) : ledF p k f (unitF i) j = f i j := unit_mulF hf hi
theorem tra_mulF (f g : Nat → Nat → Int) : traF p k (mulF p k f g) = traF p k (mulF p k g f) := by
  unfold traF mulF
  rw [sm_mod (g := fun i => sm k fun l => f i l * g l i) (fun i => Int.emod_emod_of_dvd _ (Int.dvd_refl _)) k, sm_swap,
    sm_mod (f := fun i => (sm k fun l => g i l * f l i) % p) (g := fun i => sm k fun l => g i l * f l i) (fun i => Int.emod_emod_of_dvd _ (Int.dvd_refl _)) k]
  congr 1
  exact sm_congr fun i _ => sm_congr fun l _ => Int.mul_comm _ _
theorem each0 (c : Int) (f : Nat → Nat → Int) : addF p c (fun i j => if i = j then 0 else 0) f = timF p c f := by
  funext i j
  simp [addF, timF]
theorem add_tim (f g : Nat → Nat → Int) : addF p 1 f (timF p (p - 1) g) = addF p (-1) f g := by
  funext i j
  unfold addF timF
  rw [Int.one_mul, Int.add_emod_emod, show f i j + (p - 1) * g i j = f i j + -1 * g i j + p * g i j by rw [Int.sub_mul]; omega, Int.add_mul_emod_self_left]
theorem add_self (f : Nat → Nat → Int) : addF p (-1) f f = zerF := by
  funext i j
  unfold addF zerF
  rw [show f i j + -1 * f i j = 0 by omega, Int.zero_emod]
end
end Lb

set_option linter.all false
set_option maxRecDepth 100000
set_option maxHeartbeats 1000000
namespace Lb
open PySem PySem.Spec L2 Dl
/-! LibU: loops that count; lists that live in cells. -/
theorem for_cnt {G : FT} {B : Slots → Sto → Out} {w : List (Nat × List D)} (g : Nat → D) (P : Nat → Slots → Sto → Prop) (k : Nat) (hw : ∀ m ρ S, P m ρ S → Wat w S)
    (hs : ∀ m ρ S, m < k → P m ρ S → ∃ ρ1 S1 ρ2 S2, G (g m) ρ S = .ok ρ1 S1 ∧ (B ρ1 S1 = .nx ρ2 S2 ∨ B ρ1 S1 = .ct ρ2 S2) ∧ P (m + 1) ρ2 S2) {ρ : Slots} {S : Sto} (h0 : P 0 ρ S) :
    ∃ ρ' S', forL w G B ((List.range k).map g) ρ S = .nx ρ' S' ∧ P k ρ' S' := by
  have loop : ∀ (r m : Nat) (ρ : Slots) (S : Sto), m + r = k → P m ρ S → ∃ ρ' S', forL w G B ((List.range' m r).map g) ρ S = .nx ρ' S' ∧ P k ρ' S' := by
    intro r
    induction r with
    | zero =>
      intro m ρ S hm p
      have : m = k := by omega
      subst this
      refine ⟨ρ, S, ?_, p⟩
      unfold forL
      simp only [List.range'_zero, List.map_nil]
      rw [if_pos (hw _ _ _ p)]
    | succ r ih =>
      intro m ρ S hm p
      obtain ⟨ρ1, S1, ρ2, S2, e1, e2, p2⟩ := hs m ρ S (by omega) p
      obtain ⟨ρ', S', e3, p3⟩ := ih (m + 1) ρ2 S2 (by omega) p2
      refine ⟨ρ', S', ?_, p3⟩
      rw [List.range'_succ, List.map_cons]
      unfold forL
      rw [if_pos (hw _ _ _ p), e1, out_ok]
      rcases e2 with e2 | e2
      · simp only [e2]; exact e3
      · simp only [e2]; exact e3
  have := loop k 0 ρ S (by omega) h0
  rwa [← List.range_eq_range'] at this
section
variable {S : Sto} {ρ : Slots} {F Fe : Slots → Sto → Res D} {k : Nat} {own : List Nat} {v : Nat}
/-- over rows, each item may put a new cell at the end -/
theorem lc_new {x : PyData} {g : Nat → PyData} (f : Nat → Sto → D) (a : Nat → Cell) (h : F ρ S = .ok (.p x) S) (hx : fz x = some ((List.range k).map g)) (hk : k ≤ 8)
    (hb : ∀ j, j < k → ∀ S, Fe ((wipeD ρ own).set v (some (.p (g j)))) S = .ok (.loc S.length) (S ++ [a j])) :
    fLc true (fSeq F) (.nm v) own fYes Fe ρ S = .ok (.loc (S.length + k)) (S ++ (List.range k).map a ++ [.lst ((List.range k).map fun j => .loc (S.length + j))]) := by
  have loop : ∀ (r m : Nat), m + r = k → lcLoop [] (.nm v) (wipeD ρ own) fYes Fe ((List.range' m r).map fun j => D.p (g j)) ((List.range m).map fun j => .loc (S.length + j)) (S ++ (List.range m).map a) = .ok ((List.range k).map fun j => .loc (S.length + j)) (S ++ (List.range k).map a) := by
    intro r
    induction r with
    | zero =>
      intro m hm
      have : m = k := by omega
      subst this
      unfold lcLoop
      simp only [List.range'_zero, List.map_nil]
      rw [if_pos (by simp)]
    | succ r ih =>
      intro m hm
      have ih := ih (m + 1) (by omega)
      have sz := szk hk
      have lt : m < sizeLine := by omega
      rw [List.range'_succ, List.map_cons]
      unfold lcLoop
      rw [if_pos (by simp)]
      rw [show setT (.nm v) (D.p (g m)) (wipeD ρ own) = some ((wipeD ρ own).set v (some (.p (g m)))) from rfl]
      simp only [fYes, Dl.Res.nx, bind_ok, hb m (by omega), List.length_map, List.length_range, lt, if_true]
      rw [List.range_succ, List.map_append, List.map_append, ← List.append_assoc] at ih
      simpa using ih
  have l0 := loop k 0 (by omega)
  rw [← List.range_eq_range'] at l0
  unfold fLc
  rw [sq_of h hx, List.map_map]
  simp only [bind_ok]
  simp only [List.range_zero, List.map_nil, List.append_nil] at l0
  rw [show (D.p ∘ g) = fun j => D.p (g j) from rfl, l0, bind_ok, mkL_true]
  simp
theorem lc_cell {x : PyData} {g : Nat → PyData} (f : Nat → PyData) (h : F ρ S = .ok (.p x) S) (hx : fz x = some ((List.range k).map g)) (hk : k ≤ 8) (hb : ∀ j, j < k → Fe ((wipeD ρ own).set v (some (.p (g j)))) S = .ok (.p (f j)) S) :
    fLc true (fSeq F) (.nm v) own fYes Fe ρ S = .ok (.loc S.length) (S ++ [.lst ((List.range k).map fun j => .p (f j))]) := by
  have l0 := lc_rows f h hx hk hb
  unfold fLc at l0 ⊢
  rw [sq_of h hx, List.map_map] at l0 ⊢
  simp only [bind_ok] at l0 ⊢
  cases e : lcLoop [] (.nm v) (wipeD ρ own) fYes Fe ((List.range k).map (D.p ∘ g)) [] S with
  | ok xs S' =>
    rw [e] at l0
    simp only [bind_ok] at l0 ⊢
    rw [mkL_true]
    unfold mkL at l0
    split at l0
    · rename_i ds ea
      have := allP_eq ea
      cases l0
      subst this
      simp [Function.comp_def]
    · cases l0
  | ex a b c => rw [e] at l0; cases l0
  | st => rw [e] at l0; cases l0
end
end Lb

set_option linter.all false
set_option maxRecDepth 100000
set_option maxHeartbeats 1000000
namespace Lb
open PySem PySem.Spec L2 Dl
/-! LibV: comprehensions with a test; cells of rows. -/
theorem lcF {β : Type} {t : Tg} {own : List Nat} {ρ : Slots} {Fi : Slots → Sto → Res Src} {Ft : Slots → Sto → Res Bool} {Fe : Slots → Sto → Res D} {S : Sto} {ys : List β} (g : β → D) (b : β → Bool) (f : β → PyData)
    (hi : Fi ρ S = .ok ⟨ys.map g, []⟩ S) (hz : ys.length ≤ sizeLine) (h : ∀ y ∈ ys, ∃ ρ', setT t (g y) (wipeD ρ own) = some ρ' ∧ Ft ρ' S = .ok (b y) S ∧ Fe ρ' S = .ok (.p (f y)) S) :
    fLc false Fi t own Ft Fe ρ S = .ok (.p (.list ((ys.filter b).map f))) S := by
  have loop : ∀ (ys : List β) (acc : List PyData), acc.length + ys.length ≤ sizeLine → (∀ y ∈ ys, ∃ ρ', setT t (g y) (wipeD ρ own) = some ρ' ∧ Ft ρ' S = .ok (b y) S ∧ Fe ρ' S = .ok (.p (f y)) S) →
      lcLoop [] t (wipeD ρ own) Ft Fe (ys.map g) (acc.map D.p) S = .ok ((acc ++ (ys.filter b).map f).map D.p) S := by
    intro ys
    induction ys with
    | nil => intro acc _ _; unfold lcLoop; simp only [List.map_nil]; rw [if_pos (by simp)]; simp
    | cons y ys ih =>
      intro acc hz h
      obtain ⟨ρ', e1, e2, e3⟩ := h y (by simp)
      simp only [List.length_cons] at hz
      have lt : acc.length < sizeLine := by omega
      rw [List.map_cons]
      unfold lcLoop
      rw [if_pos (by simp)]
      simp only [e1, e2, bind_ok]
      cases q : b y with
      | true =>
        have := ih (acc ++ [f y]) (by simp; omega) fun z hz => h z (by simp [hz])
        simp only [e3, Dl.Res.nx, bind_ok, List.length_map, lt, if_true]
        simpa [q] using this
      | false =>
        have := ih acc (by omega) fun z hz => h z (by simp [hz])
        simpa [q] using this
  have := loop ys [] (by simpa using hz) h
  unfold fLc
  rw [hi]
  simp only [bind_ok]
  rw [show ([] : List D) = ([] : List PyData).map D.p from rfl, this]
  rw [bind_ok, mkL_map]
  rfl
theorem set_map {α : Type} {n i : Nat} (F : Nat → α) (v : α) : ((List.range n).map F).set i v = (List.range n).map fun x => if x = i then v else F x := by
  apply List.ext_getElem?
  intro x
  by_cases h : x < n
  · by_cases z : i = x
    · subst z; simp [h]
    · have z' : ¬ x = i := fun y => z y.symm
      simp [h, z, z']
  · by_cases z : i = x
    · subst z; simp [h]
    · simp [h, z]
theorem Dk.set {l c N i : Nat} {S : Sto} {x : Cell} (h : Dk l c N S) (a : i ≠ l) (b : i ≠ c) : Dk l c N (S.set i x) := by
  obtain ⟨cs, mx, dr, h1, h2, h3⟩ := h
  exact ⟨cs, mx, dr, by rw [set_ne a, h1], by rw [set_ne b, h2], h3⟩
theorem Fr.set {l c i : Nat} {S S' : Sto} {x : Cell} (h : Fr l c S S') (a : S.length ≤ i) : Fr l c S (S'.set i x) :=
  ⟨by simpa using h.1, fun j hj p q => by rw [set_ne (by omega), h.2 j hj p q]⟩
theorem Dk.app {l c N : Nat} {S L : Sto} (h : Dk l c N S) : Dk l c N (S ++ L) := by
  have lt := h.lt
  obtain ⟨cs, mx, dr, h1, h2, h3⟩ := h
  exact ⟨cs, mx, dr, by rw [List.getElem?_append_left lt.1, h1], by rw [List.getElem?_append_left lt.2, h2], h3⟩
theorem Fr.app {l c : Nat} {S L : Sto} : Fr l c S (S ++ L) := ⟨by simp, fun j hj p q => by rw [List.getElem?_append_left hj]⟩
def rowL (n : Nat) (h : Nat → Int) : PyData := .list ((List.range n).map fun j => PyData.int (h j))
def celL (n : Nat) (h : Nat → Int) : Cell := .lst ((List.range n).map fun j => D.i (h j))
/-- rows as one cell of lists; back as a cell of cells -/
structure Un (R L n : Nat) (f g : Nat → Nat → Int) (S : Sto) : Prop where
  rows : S[R]? = some (.lst ((List.range n).map fun i => D.p (rowL n (f i))))
  back : S[L + n]? = some (.lst ((List.range n).map fun i => D.loc (L + i)))
  each : ∀ i, i < n → S[L + i]? = some (celL n (g i))
section
variable {S : Sto} {a n : Nat}
theorem ix_lst {i : Nat} {F : Nat → D} (h : S[a]? = some (.lst ((List.range n).map F))) (hi : i < n) : opIdx (.loc a) (.p (.int (i : Nat))) S = .ok (F i) S :=
  o_idx (xs := (List.range n).map F) (by simp [seqOf, lstOf, h]) (by simp [dctOf, h]) (by simp [hi])
theorem set_lst {i : Nat} {F : Nat → D} {v : D} (h : S[a]? = some (.lst ((List.range n).map F))) (hi : i < n) : opSet (.loc a) (.p (.int (i : Nat))) v S = .ok () (S.set a (.lst ((List.range n).map fun x => if x = i then v else F x))) := by
  simp only [opSet, h]
  rw [show ixN ((List.range n).map F).length ((i : Nat) : Int) = some i from ix_nat (by simpa using hi)]
  simp only [set_map]
end
end Lb

set_option linter.all false
set_option maxRecDepth 100000
set_option maxHeartbeats 1000000
namespace Lb
open PySem PySem.Spec L2 Dl
/-! LibW: a loop over cells that changes each cell. -/
section
variable {R L n l c N : Nat} {f g h : Nat → Nat → Int} {S S0 : Sto}
theorem Un.set_cell (u : Un R L n f g S) (hR : R < L) {m : Nat} (hm : m < n) (x : Nat → Int) : Un R L n f (fun i => if i = m then x else g i) (S.set (L + m) (celL n x)) where
  rows := by rw [set_ne (by omega), u.rows]
  back := by rw [set_ne (by omega), u.back]
  each := fun i hi => by
    by_cases z : i = m
    · subst z
      have := u.each i hi
      have lt := (List.getElem?_eq_some_iff.mp this).1
      rw [set_at lt]
      simp
    · rw [set_ne (by omega), u.each i hi]
      simp [z]
theorem Un.congr (u : Un R L n f g S) (e : ∀ i, i < n → g i = h i) : Un R L n f h S := ⟨u.rows, u.back, fun i hi => by rw [u.each i hi, e i hi]⟩
theorem Un.set_rows (u : Un R L n f g S) (hR : R < L) {f' : Nat → Nat → Int} : Un R L n f' g (S.set R (.lst ((List.range n).map fun i => D.p (rowL n (f' i))))) where
  rows := by rw [set_at (List.getElem?_eq_some_iff.mp u.rows).1]
  back := by rw [set_ne (by omega), u.back]
  each := fun i hi => by rw [set_ne (by omega), u.each i hi]
theorem Un.go (u : Un R L n f g S) {S' : Sto} (go : Go l c N S S') (h1 : l < R) (h2 : c < R) (hR : R < L) : Un R L n f g S' := by
  have fr := go.2.1.2
  have k1 := (List.getElem?_eq_some_iff.mp u.rows).1
  have k2 := (List.getElem?_eq_some_iff.mp u.back).1
  refine ⟨?_, ?_, fun i hi => ?_⟩
  · rw [fr R k1 (by omega) (by omega), u.rows]
  · rw [fr (L + n) k2 (by omega) (by omega), u.back]
  · have k3 := (List.getElem?_eq_some_iff.mp (u.each i hi)).1
    rw [fr (L + i) k3 (by omega) (by omega), u.each i hi]
theorem back_loop {ρ : Slots} {r0 : Option D} {B : Slots → Sto → Out} (hR : R < L) (hl : l < S0.length) (hc : c < S0.length) (h0 : S0.length ≤ R)
    (hB : ∀ m, m < n → ∀ S, Un R L n f (fun i => if i < m then h i else g i) S → B (ρ.set 9 (some (.loc (L + m)))) S = .nx (ρ.set 9 (some (.loc (L + m)))) (S.set (L + m) (celL n (h m))))
    (u : Un R L n f g S) (hd : Dk l c N S) (fr : Fr l c S0 S) :
    ∃ r S', forL [(L + n, (List.range n).map fun i => D.loc (L + i))] (tgNm 9) B ((List.range n).map fun i => D.loc (L + i)) (ρ.set 9 r0) S = .nx (ρ.set 9 r) S' ∧ Un R L n f h S' ∧ Dk l c N S' ∧ Fr l c S0 S' ∧ S'.length = S.length := by
  have := for_cnt (G := tgNm 9) (B := B) (w := [(L + n, (List.range n).map fun i => D.loc (L + i))]) (fun i => D.loc (L + i))
    (fun m ρ' S' => ∃ r, ρ' = ρ.set 9 r ∧ Un R L n f (fun i => if i < m then h i else g i) S' ∧ Dk l c N S' ∧ Fr l c S0 S' ∧ S'.length = S.length) n
    (by
      rintro m ρ' S' ⟨r, rfl, u, _⟩
      intro q hq
      simp only [List.mem_singleton] at hq
      subst hq
      exact u.back)
    (by
      rintro m ρ' S' hm ⟨r, rfl, u, d, fr, len⟩
      refine ⟨ρ.set 9 (some (.loc (L + m))), S', _, _, by simp, .inl (hB m hm S' u), some (.loc (L + m)), rfl, ?_, d.set (by omega) (by omega), fr.set (by omega), by simpa using len⟩
      refine (u.set_cell hR hm (h m)).congr fun i hi => ?_
      by_cases z : i = m
      · subst z; simp
      · by_cases y : i < m
        · have : i < m + 1 := by omega
          simp [z, y, this]
        · have : ¬ i < m + 1 := by omega
          simp [z, y, this])
    (ρ := ρ.set 9 r0) (S := S) ⟨r0, rfl, u.congr fun i hi => by simp, hd, fr, rfl⟩
  obtain ⟨ρ', S', e1, r, rfl, u', d', fr', len⟩ := this
  exact ⟨r, S', e1, u'.congr fun i hi => by simp [hi], d', fr', len⟩
end
end Lb

set_option linter.all false
set_option maxRecDepth 100000
set_option maxHeartbeats 1000000
namespace Lb
open PySem PySem.Spec L2 Dl
/-! LibX: one turn of _law_undoable. -/
/-- one turn changes rows and back so -/
inductive Turn (p : Int) (n : Nat) (f g : Nat → Nat → Int) : (Nat → Nat → Int) → (Nat → Nat → Int) → Prop
  | add (i j : Nat) (c : Int) (hi : i < n) (hj : j < n) (ne : i ≠ j) (hc : 1 ≤ c ∧ c < p) : Turn p n f g (fun a b => if a = i then (f i b + c * f j b) % p else f a b) (fun a b => if b = j then (g a j - c * g a i) % p else g a b)
  | mul (i : Nat) (c u : Int) (hi : i < n) (hc : 1 ≤ c ∧ c < p) (hu : 0 ≤ u ∧ u < p) (e : u * c % p = 1) : Turn p n f g (fun a b => if a = i then c * f i b % p else f a b) (fun a b => if b = i then u * g a i % p else g a b)
theorem Turn.in2 {p : Int} {n : Nat} {f g f' g' : Nat → Nat → Int} (hp : 0 < p) (hf : In2 p f) (hg : In2 p g) (t : Turn p n f g f' g') : In2 p f' ∧ In2 p g' := by
  cases t with
  | add i j c hi hj ne hc =>
    refine ⟨fun a b => ?_, fun a b => ?_⟩
    · dsimp only; split
      · exact mod_in hp
      · exact hf a b
    · dsimp only; split
      · exact mod_in hp
      · exact hg a b
  | mul i c u hi hc hu e =>
    refine ⟨fun a b => ?_, fun a b => ?_⟩
    · dsimp only; split
      · exact mod_in hp
      · exact hf a b
    · dsimp only; split
      · exact mod_in hp
      · exact hg a b
/-- some number undoes c modulo p -/
theorem undo_ex {p c : Int} (hp : Pr p) (hc : 1 ≤ c ∧ c < p) : ∃ (u : Int) (r : List Nat), (List.range (p - 1).toNat).filter (fun k : Nat => decide ((1 + (k : Nat) : Int) * c % p = 1)) = (u - 1).toNat :: r ∧ 1 ≤ u ∧ u < p ∧ u * c % p = 1 := by
  simp [Pr] at hp
  rcases hp with rfl | rfl | rfl | rfl
  · have : c = 1 := by omega
    subst this
    exact ⟨1, [], by decide, by decide⟩
  · have : c = 1 ∨ c = 2 := by omega
    rcases this with rfl | rfl
    · exact ⟨1, [], by decide, by decide⟩
    · exact ⟨2, [], by decide, by decide⟩
  · have : c = 1 ∨ c = 2 ∨ c = 3 ∨ c = 4 := by omega
    rcases this with rfl | rfl | rfl | rfl
    · exact ⟨1, [], by decide, by decide⟩
    · exact ⟨3, [], by decide, by decide⟩
    · exact ⟨2, [], by decide, by decide⟩
    · exact ⟨4, [], by decide, by decide⟩
  · have : c = 1 ∨ c = 2 ∨ c = 3 ∨ c = 4 ∨ c = 5 ∨ c = 6 := by omega
    rcases this with rfl | rfl | rfl | rfl | rfl | rfl
    · exact ⟨1, [], by decide, by decide⟩
    · exact ⟨4, [], by decide, by decide⟩
    · exact ⟨5, [], by decide, by decide⟩
    · exact ⟨2, [], by decide, by decide⟩
    · exact ⟨3, [], by decide, by decide⟩
    · exact ⟨6, [], by decide, by decide⟩
section
variable {dfs : List Df} {fl : List (Str × Str)} {sp : Fns → Fns} {S S0 : Sto} {n : Nat} {q : DrK} {l c N k R L : Nat} {p : Int} {f g : Nat → Nat → Int}
theorem fz_rowL {k : Nat} {h : Nat → Int} : fz (rowL k h) = some ((List.range k).map fun j => PyData.int (h j)) := rfl
/-- rows[i] is changed by row j, back's column j by column i -/
theorem turn_add (hp : Pr p) (hk : k ≤ 8) (hR : R < L) (h0 : S0.length ≤ R) (hl : l < S0.length) (hc : c < S0.length) {i j : Nat} (hi : i < k) (hj : j < k) (ne : i ≠ j) {z : Int} (hz : 1 ≤ z ∧ z < p) {a0 a3 x9 x10 x11 x12 : Option D} (hf : In2 p f) (hg : In2 p g)
    (u : Un R L k f g S) (hd : Dk l c N S) (fr : Fr l c S0 S) :
    ∃ r S', (sSeq (sAsg (fLc false (fZip (fCons (fIdx (fVar 4) (fVar 6)) (fCons (fIdx (fVar 4) (fVar 7)) fNil))) (.tp (.cons (.nm 11) (.cons (.nm 12) .nil))) [11, 12] fYes (fBin .Mod false (fBn false .int (fCons (fBin .Add false (fVar 11) (fBin .Mult false (fVar 8) (fVar 12))) fNil)) (fVar 1))) (tgSub (fVar 4) (fVar 6))) (sSeq (sFor (fSeq (fVar 5)) (tgNm 9) (sSeq (sAsg (fBin .Mod false (fBn false .int (fCons (fBin .Sub false (fIdx (fVar 9) (fVar 7)) (fBin .Mult false (fVar 8) (fIdx (fVar 9) (fVar 6)))) fNil)) (fVar 1)) (tgSub (fVar 9) (fVar 7))) sNil)) sNil))
      [a0, some (.i p), some (.i (k : Nat)), a3, some (.loc R), some (.loc (L + k)), some (.i (i : Nat)), some (.i (j : Nat)), some (.i z), x9, x10, x11, x12] S = .nx [a0, some (.i p), some (.i (k : Nat)), a3, some (.loc R), some (.loc (L + k)), some (.i (i : Nat)), some (.i (j : Nat)), some (.i z), r, x10, x11, x12] S' ∧
      Un R L k (fun a b => if a = i then (f i b + z * f j b) % p else f a b) (fun a b => if b = j then (g a j - z * g a i) % p else g a b) S' ∧ Dk l c N S' ∧ Fr l c S0 S' ∧ S'.length = S.length := by
  have lc := lc_zip (S := S) (ρ := [a0, some (.i p), some (.i (k : Nat)), a3, some (.loc R), some (.loc (L + k)), some (.i (i : Nat)), some (.i (j : Nat)), some (.i z), x9, x10, x11, x12]) (own := [11, 12]) (u := 11) (v := 12) (Fa := fIdx (fVar 4) (fVar 6)) (Fb := fIdx (fVar 4) (fVar 7)) (x := rowL k (f i)) (y := rowL k (f j)) (Fe := fBin .Mod false (fBn false .int (fCons (fBin .Add false (fVar 11) (fBin .Mult false (fVar 8) (fVar 12))) fNil)) (fVar 1)) (fun b => PyData.int ((f i b + z * f j b) % p))
    (by simp [ix_lst u.rows hi]) (by simp [ix_lst u.rows hj]) fz_rowL fz_rowL hk fun b hb => by
      simp [wipeD, mulP hp (a := z) (by omega) (hf j b), o_mod hp.p0]
  let f' : Nat → Nat → Int := fun a b => if a = i then (f i b + z * f j b) % p else f a b
  have fe : (fun x => if x = i then D.p (rowL k fun b => (f i b + z * f j b) % p) else D.p (rowL k (f x))) = fun x => D.p (rowL k (f' x)) := by
    funext x
    by_cases y : x = i <;> simp [f', y]
  have st := set_lst (v := .p (rowL k fun b => (f i b + z * f j b) % p)) u.rows hi
  rw [fe] at st
  let S1 : Sto := S.set R (.lst ((List.range k).map fun x => D.p (rowL k (f' x))))
  have u1 : Un R L k f' g S1 := u.set_rows hR
  have d1 : Dk l c N S1 := hd.set (by omega) (by omega)
  have fr1 : Fr l c S0 S1 := fr.set (by omega)
  have q1 : (sAsg (fLc false (fZip (fCons (fIdx (fVar 4) (fVar 6)) (fCons (fIdx (fVar 4) (fVar 7)) fNil))) (.tp (.cons (.nm 11) (.cons (.nm 12) .nil))) [11, 12] fYes (fBin .Mod false (fBn false .int (fCons (fBin .Add false (fVar 11) (fBin .Mult false (fVar 8) (fVar 12))) fNil)) (fVar 1))) (tgSub (fVar 4) (fVar 6)))
      [a0, some (.i p), some (.i (k : Nat)), a3, some (.loc R), some (.loc (L + k)), some (.i (i : Nat)), some (.i (j : Nat)), some (.i z), x9, x10, x11, x12] S = .nx [a0, some (.i p), some (.i (k : Nat)), a3, some (.loc R), some (.loc (L + k)), some (.i (i : Nat)), some (.i (j : Nat)), some (.i z), x9, x10, x11, x12] S1 := by
    rw [s_asg, lc]
    simp only [out_ok]
    simp only [rowL] at st
    simp [st, S1, rowL]
  rw [s_seq, q1]
  dsimp only
  have bl := back_loop (R := R) (L := L) (n := k) (l := l) (c := c) (N := N) (S := S1) (S0 := S0) (f := f') (g := g) (h := fun a b => if b = j then (g a j - z * g a i) % p else g a b) (r0 := x9)
    (ρ := [a0, some (.i p), some (.i (k : Nat)), a3, some (.loc R), some (.loc (L + k)), some (.i (i : Nat)), some (.i (j : Nat)), some (.i z), none, x10, x11, x12])
    (B := (sSeq (sAsg (fBin .Mod false (fBn false .int (fCons (fBin .Sub false (fIdx (fVar 9) (fVar 7)) (fBin .Mult false (fVar 8) (fIdx (fVar 9) (fVar 6)))) fNil)) (fVar 1)) (tgSub (fVar 9) (fVar 7))) sNil))
    hR hl hc h0 (by
      intro m hm S u
      have cell := u.each m hm
      simp only [Nat.lt_irrefl, if_false] at cell
      have s2 := set_lst (v := .i ((g m j - z * g m i) % p)) cell hj
      have ce : (fun x => if x = j then D.i ((g m j - z * g m i) % p) else D.i (g m x)) = fun x => D.i (if x = j then (g m j - z * g m i) % p else g m x) := by
        funext x
        by_cases y : x = j <;> simp [y]
      rw [ce] at s2
      simp [ix_lst cell hj, ix_lst cell hi, mulP hp (a := z) (by omega) (hg m i), o_mod hp.p0, s2, celL]) u1 d1 fr1
  obtain ⟨r, S2, e2, u2, d2, fr2, len⟩ := bl
  refine ⟨r, S2, ?_, u2, d2, fr2, by rw [len]; simp [S1]⟩
  have src : fSeq (fVar 5) [a0, some (.i p), some (.i (k : Nat)), a3, some (.loc R), some (.loc (L + k)), some (.i (i : Nat)), some (.i (j : Nat)), some (.i z), x9, x10, x11, x12] S1 = .ok ⟨(List.range k).map fun i => D.loc (L + i), [(L + k, (List.range k).map fun i => D.loc (L + i))]⟩ S1 := by
    simp [fSeq, srcOf, u1.back]
  rw [s_seq, s_for, src]
  simp only [out_ok]
  simp only [List.set_cons_succ, List.set_cons_zero] at e2
  rw [e2]
/-- rows[i] is scaled, back's column i by what undoes it -/
theorem turn_mul (hp : Pr p) (hk : k ≤ 8) (hR : R < L) (h0 : S0.length ≤ R) (hl : l < S0.length) (hc : c < S0.length) {i j : Nat} (hi : i < k) {z : Int} (hz : 1 ≤ z ∧ z < p) {a0 a3 x9 x10 x11 x12 : Option D} (hf : In2 p f) (hg : In2 p g)
    (u : Un R L k f g S) (hd : Dk l c N S) (fr : Fr l c S0 S) :
    ∃ v r x S', 0 ≤ v ∧ v < p ∧ v * z % p = 1 ∧ (sSeq (sAsg (fIdx (fLc false (fRng2 (fCons (fC (.int 1)) (fCons (fVar 1) fNil))) (.nm 11) [11] (fTru (fCmp .Eq (fBin .Mod false (fBn false .int (fCons (fBin .Mult false (fVar 11) (fVar 8)) fNil)) (fVar 1)) (fC (.int 1)))) (fVar 11)) (fC (.int 0))) (tgNm 10)) (sSeq (sAsg (fLc false (fSeq (fIdx (fVar 4) (fVar 6))) (.nm 11) [11] fYes (fBin .Mod false (fBn false .int (fCons (fBin .Mult false (fVar 8) (fVar 11)) fNil)) (fVar 1))) (tgSub (fVar 4) (fVar 6))) (sSeq (sFor (fSeq (fVar 5)) (tgNm 9) (sSeq (sAsg (fBin .Mod false (fBn false .int (fCons (fBin .Mult false (fVar 10) (fIdx (fVar 9) (fVar 6))) fNil)) (fVar 1)) (tgSub (fVar 9) (fVar 6))) sNil)) sNil)))
      [a0, some (.i p), some (.i (k : Nat)), a3, some (.loc R), some (.loc (L + k)), some (.i (i : Nat)), some (.i (j : Nat)), some (.i z), x9, x10, x11, x12] S = .nx [a0, some (.i p), some (.i (k : Nat)), a3, some (.loc R), some (.loc (L + k)), some (.i (i : Nat)), some (.i (j : Nat)), some (.i z), r, x, x11, x12] S' ∧
      Un R L k (fun a b => if a = i then z * f i b % p else f a b) (fun a b => if b = i then v * g a i % p else g a b) S' ∧ Dk l c N S' ∧ Fr l c S0 S' ∧ S'.length = S.length := by
  have pp := hp.pos
  obtain ⟨v, rest, hv, v1, v2, v3⟩ := undo_ex hp hz
  have src0 : fRng2 (fCons (fC (.int 1)) (fCons (fVar 1) fNil)) [a0, some (.i p), some (.i (k : Nat)), a3, some (.loc R), some (.loc (L + k)), some (.i (i : Nat)), some (.i (j : Nat)), some (.i z), x9, x10, x11, x12] S = .ok ⟨(List.range (p - 1).toNat).map fun k => .i (1 + (k : Nat)), []⟩ S :=
    i_r2 (by simp) (by simp) (big62 (by omega) (by omega)) (big62 (by omega) (by omega))
  have lf := lcF (t := .nm 11) (own := [11]) (Ft := fTru (fCmp .Eq (fBin .Mod false (fBn false .int (fCons (fBin .Mult false (fVar 11) (fVar 8)) fNil)) (fVar 1)) (fC (.int 1)))) (Fe := fVar 11) (ys := List.range (p - 1).toNat) (fun k => D.i (1 + (k : Nat))) (fun k : Nat => decide ((1 + (k : Nat) : Int) * z % p = 1)) (fun k => PyData.int (1 + (k : Nat))) src0 (by have := szl; simp; omega) fun y hy => ⟨_, rfl, by
      have := List.mem_range.mp hy
      simp [wipeD, o_mul6 (a := 1 + (y : Nat)) (b := z) (by omega) (by omega), o_mod hp.p0], by simp [wipeD]⟩
  rw [hv, List.map_cons, Int.toNat_of_nonneg (by omega), show 1 + (v - 1) = v by omega] at lf
  have lc := lc_rows (S := S) (ρ := [a0, some (.i p), some (.i (k : Nat)), a3, some (.loc R), some (.loc (L + k)), some (.i (i : Nat)), some (.i (j : Nat)), some (.i z), x9, some (.i v), x11, x12]) (own := [11]) (v := 11) (F := fIdx (fVar 4) (fVar 6)) (x := rowL k (f i)) (Fe := fBin .Mod false (fBn false .int (fCons (fBin .Mult false (fVar 8) (fVar 11)) fNil)) (fVar 1)) (fun b => PyData.int (z * f i b % p))
    (by simp [ix_lst u.rows hi]) fz_rowL hk fun b hb => by
      simp [wipeD, mulP hp (a := z) (by omega) (hf i b), o_mod hp.p0]
  let f' : Nat → Nat → Int := fun a b => if a = i then z * f i b % p else f a b
  have fe : (fun x => if x = i then D.p (rowL k fun b => z * f i b % p) else D.p (rowL k (f x))) = fun x => D.p (rowL k (f' x)) := by
    funext x
    by_cases y : x = i <;> simp [f', y]
  have st := set_lst (v := .p (rowL k fun b => z * f i b % p)) u.rows hi
  rw [fe] at st
  let S1 : Sto := S.set R (.lst ((List.range k).map fun x => D.p (rowL k (f' x))))
  have u1 : Un R L k f' g S1 := u.set_rows hR
  have d1 : Dk l c N S1 := hd.set (by omega) (by omega)
  have fr1 : Fr l c S0 S1 := fr.set (by omega)
  have q0 : (sAsg (fIdx (fLc false (fRng2 (fCons (fC (.int 1)) (fCons (fVar 1) fNil))) (.nm 11) [11] (fTru (fCmp .Eq (fBin .Mod false (fBn false .int (fCons (fBin .Mult false (fVar 11) (fVar 8)) fNil)) (fVar 1)) (fC (.int 1)))) (fVar 11)) (fC (.int 0))) (tgNm 10))
      [a0, some (.i p), some (.i (k : Nat)), a3, some (.loc R), some (.loc (L + k)), some (.i (i : Nat)), some (.i (j : Nat)), some (.i z), x9, x10, x11, x12] S = .nx [a0, some (.i p), some (.i (k : Nat)), a3, some (.loc R), some (.loc (L + k)), some (.i (i : Nat)), some (.i (j : Nat)), some (.i z), x9, some (.i v), x11, x12] S := by
    rw [s_asg, e_idx, lf]
    simp
  have q1 : (sAsg (fLc false (fSeq (fIdx (fVar 4) (fVar 6))) (.nm 11) [11] fYes (fBin .Mod false (fBn false .int (fCons (fBin .Mult false (fVar 8) (fVar 11)) fNil)) (fVar 1))) (tgSub (fVar 4) (fVar 6)))
      [a0, some (.i p), some (.i (k : Nat)), a3, some (.loc R), some (.loc (L + k)), some (.i (i : Nat)), some (.i (j : Nat)), some (.i z), x9, some (.i v), x11, x12] S = .nx [a0, some (.i p), some (.i (k : Nat)), a3, some (.loc R), some (.loc (L + k)), some (.i (i : Nat)), some (.i (j : Nat)), some (.i z), x9, some (.i v), x11, x12] S1 := by
    rw [s_asg, lc]
    simp only [out_ok]
    simp only [rowL] at st
    simp [st, S1, rowL]
  rw [s_seq, q0]
  dsimp only
  rw [s_seq, q1]
  dsimp only
  have bl := back_loop (R := R) (L := L) (n := k) (l := l) (c := c) (N := N) (S := S1) (S0 := S0) (f := f') (g := g) (h := fun a b => if b = i then v * g a i % p else g a b) (r0 := x9)
    (ρ := [a0, some (.i p), some (.i (k : Nat)), a3, some (.loc R), some (.loc (L + k)), some (.i (i : Nat)), some (.i (j : Nat)), some (.i z), none, some (.i v), x11, x12])
    (B := (sSeq (sAsg (fBin .Mod false (fBn false .int (fCons (fBin .Mult false (fVar 10) (fIdx (fVar 9) (fVar 6))) fNil)) (fVar 1)) (tgSub (fVar 9) (fVar 6))) sNil))
    hR hl hc h0 (by
      intro m hm S u
      have cell := u.each m hm
      simp only [Nat.lt_irrefl, if_false] at cell
      have s2 := set_lst (v := .i (v * g m i % p)) cell hi
      have ce : (fun x => if x = i then D.i (v * g m i % p) else D.i (g m x)) = fun x => D.i (if x = i then v * g m i % p else g m x) := by
        funext x
        by_cases y : x = i <;> simp [y]
      rw [ce] at s2
      simp [ix_lst cell hi, mulP hp (a := v) (by omega) (hg m i), o_mod hp.p0, s2, celL]) u1 d1 fr1
  obtain ⟨r, S2, e2, u2, d2, fr2, len⟩ := bl
  refine ⟨v, r, some (.i v), S2, by omega, v2, v3, ?_, u2, d2, fr2, by rw [len]; simp [S1]⟩
  have src : fSeq (fVar 5) [a0, some (.i p), some (.i (k : Nat)), a3, some (.loc R), some (.loc (L + k)), some (.i (i : Nat)), some (.i (j : Nat)), some (.i z), x9, some (.i v), x11, x12] S1 = .ok ⟨(List.range k).map fun i => D.loc (L + i), [(L + k, (List.range k).map fun i => D.loc (L + i))]⟩ S1 := by
    simp [fSeq, srcOf, u1.back]
  rw [s_seq, s_for, src]
  simp only [out_ok]
  simp only [List.set_cons_succ, List.set_cons_zero] at e2
  rw [e2]
end
end Lb

set_option linter.all false
set_option maxRecDepth 100000
set_option maxHeartbeats 1000000
namespace Lb
open PySem PySem.Spec L2 Dl
/-! LibY: _law_undoable. -/
section
variable {dfs : List Df} {fl : List (Str × Str)} {sp : Fns → Fns} {S S0 : Sto} {n : Nat} {q : DrK} {l c N k R L : Nat} {p : Int} {f g : Nat → Nat → Int}
theorem turn_one (H : HDrw dfs q) (hn : 2 ≤ n) (hp : Pr p) (h1 : 1 ≤ k) (hk : k ≤ 8) (hR : R < L) (h0 : S0.length ≤ R) (hl : l < S0.length) (hc : c < S0.length) {a3 x6 x7 x8 x9 x10 x11 x12 : Option D} (hf : In2 p f) (hg : In2 p g)
    (u : Un R L k f g S) (hd : Dk l c (N + 3) S) (fr : Fr l c S0 S) :
    ∃ (ρ' : Slots) (S' : Sto) (f' g' : Nat → Nat → Int), (sSeq (sAsg (fTup (fCons (fCall (evF dfs fl sp (n - 1) (Str.ofString "_law_draw")) 2 0 [.inl 0, .inl 1] (fCons (fVar 0) (fCons (fVar 2) fNil)) fNil) (fCons (fCall (evF dfs fl sp (n - 1) (Str.ofString "_law_draw")) 2 0 [.inl 0, .inl 1] (fCons (fVar 0) (fCons (fVar 2) fNil)) fNil) (fCons (fBin .Add false (fC (.int 1)) (fCall (evF dfs fl sp (n - 1) (Str.ofString "_law_draw")) 2 0 [.inl 0, .inl 1] (fCons (fVar 0) (fCons (fBin .Sub false (fVar 1) (fC (.int 1))) fNil)) fNil)) fNil)))) (tgT 3 (tgCons (tgNm 6) (tgCons (tgNm 7) (tgCons (tgNm 8) tgNil))))) (sSeq (sIf (fTru (fCmp .NotEq (fVar 6) (fVar 7))) (sSeq (sAsg (fLc false (fZip (fCons (fIdx (fVar 4) (fVar 6)) (fCons (fIdx (fVar 4) (fVar 7)) fNil))) (.tp (.cons (.nm 11) (.cons (.nm 12) .nil))) [11, 12] fYes (fBin .Mod false (fBn false .int (fCons (fBin .Add false (fVar 11) (fBin .Mult false (fVar 8) (fVar 12))) fNil)) (fVar 1))) (tgSub (fVar 4) (fVar 6))) (sSeq (sFor (fSeq (fVar 5)) (tgNm 9) (sSeq (sAsg (fBin .Mod false (fBn false .int (fCons (fBin .Sub false (fIdx (fVar 9) (fVar 7)) (fBin .Mult false (fVar 8) (fIdx (fVar 9) (fVar 6)))) fNil)) (fVar 1)) (tgSub (fVar 9) (fVar 7))) sNil)) sNil)) (sSeq (sAsg (fIdx (fLc false (fRng2 (fCons (fC (.int 1)) (fCons (fVar 1) fNil))) (.nm 11) [11] (fTru (fCmp .Eq (fBin .Mod false (fBn false .int (fCons (fBin .Mult false (fVar 11) (fVar 8)) fNil)) (fVar 1)) (fC (.int 1)))) (fVar 11)) (fC (.int 0))) (tgNm 10)) (sSeq (sAsg (fLc false (fSeq (fIdx (fVar 4) (fVar 6))) (.nm 11) [11] fYes (fBin .Mod false (fBn false .int (fCons (fBin .Mult false (fVar 8) (fVar 11)) fNil)) (fVar 1))) (tgSub (fVar 4) (fVar 6))) (sSeq (sFor (fSeq (fVar 5)) (tgNm 9) (sSeq (sAsg (fBin .Mod false (fBn false .int (fCons (fBin .Mult false (fVar 10) (fIdx (fVar 9) (fVar 6))) fNil)) (fVar 1)) (tgSub (fVar 9) (fVar 6))) sNil)) sNil)))) sNil))
      [some (.loc l), some (.i p), some (.i (k : Nat)), a3, some (.loc R), some (.loc (L + k)), x6, x7, x8, x9, x10, x11, x12] S = .nx ρ' S' ∧ (∃ y6 y7 y8 y9 y10 y11 y12, ρ' = [some (.loc l), some (.i p), some (.i (k : Nat)), a3, some (.loc R), some (.loc (L + k)), y6, y7, y8, y9, y10, y11, y12]) ∧
      Turn p k f g f' g' ∧ Un R L k f' g' S' ∧ Dk l c N S' ∧ Fr l c S0 S' ∧ S'.length = S.length := by
  have pp := hp.pos
  obtain ⟨i, S1, e1, hi, g1⟩ := l_drawN (fl := fl) (sp := sp) (n := n - 1) (N := N + 2) (many := k) H (by omega) hd (by omega) (by omega)
  obtain ⟨j, S2, e2, hj, g2⟩ := l_drawN (fl := fl) (sp := sp) (n := n - 1) (N := N + 1) (many := k) H (by omega) g1.1 (by omega) (by omega)
  obtain ⟨z, S3, e3, z0, z1, g3⟩ := l_draw (fl := fl) (sp := sp) (n := n - 1) (N := N) (many := p - 1) H (by omega) g2.1 (by omega) (by omega)
  have go := (g1.trans g2).trans g3
  have u3 := u.go go (by omega) (by omega) hR
  have fr3 := fr.trans go.2.1
  have q0 : (sAsg (fTup (fCons (fCall (evF dfs fl sp (n - 1) (Str.ofString "_law_draw")) 2 0 [.inl 0, .inl 1] (fCons (fVar 0) (fCons (fVar 2) fNil)) fNil) (fCons (fCall (evF dfs fl sp (n - 1) (Str.ofString "_law_draw")) 2 0 [.inl 0, .inl 1] (fCons (fVar 0) (fCons (fVar 2) fNil)) fNil) (fCons (fBin .Add false (fC (.int 1)) (fCall (evF dfs fl sp (n - 1) (Str.ofString "_law_draw")) 2 0 [.inl 0, .inl 1] (fCons (fVar 0) (fCons (fBin .Sub false (fVar 1) (fC (.int 1))) fNil)) fNil)) fNil)))) (tgT 3 (tgCons (tgNm 6) (tgCons (tgNm 7) (tgCons (tgNm 8) tgNil)))))
      [some (.loc l), some (.i p), some (.i (k : Nat)), a3, some (.loc R), some (.loc (L + k)), x6, x7, x8, x9, x10, x11, x12] S = .nx [some (.loc l), some (.i p), some (.i (k : Nat)), a3, some (.loc R), some (.loc (L + k)), some (.i (i : Nat)), some (.i (j : Nat)), some (.i (1 + z)), x9, x10, x11, x12] S3 := by
    simp [arrD, e1, e2, e3, sz3, mk3]
  rw [s_seq, q0]
  dsimp only
  rw [s_seq, s_if]
  by_cases h : i = j
  · subst h
    obtain ⟨v, r, x, S', v0, v1, v2, e4, u4, d4, fr4, len⟩ := turn_mul (j := i) (a0 := some (.loc l)) (a3 := a3) (x9 := x9) (x10 := x10) (x11 := x11) (x12 := x12) hp hk hR h0 hl hc hi (z := 1 + z) (by omega) hf hg u3 g3.1 fr3
    refine ⟨[some (.loc l), some (.i p), some (.i (k : Nat)), a3, some (.loc R), some (.loc (L + k)), some (.i (i : Nat)), some (.i (i : Nat)), some (.i (1 + z)), r, x, x11, x12], S', _, _, ?_, ⟨_, _, _, _, _, _, _, rfl⟩, .mul i (1 + z) v hi (by omega) ⟨v0, v1⟩ v2, u4, d4, fr4, by rw [len, go.2.2]⟩
    simp only [e_tru, e_cmp, e_var, List.getElem?_cons_succ, List.getElem?_cons_zero, bind_ok, o_neI, decide_true, Bool.not_true, tru_b, out_ok, e4, s_nil]
  · obtain ⟨r, S', e4, u4, d4, fr4, len⟩ := turn_add (a0 := some (.loc l)) (a3 := a3) (x9 := x9) (x10 := x10) (x11 := x11) (x12 := x12) hp hk hR h0 hl hc hi hj h (z := 1 + z) (by omega) hf hg u3 g3.1 fr3
    refine ⟨[some (.loc l), some (.i p), some (.i (k : Nat)), a3, some (.loc R), some (.loc (L + k)), some (.i (i : Nat)), some (.i (j : Nat)), some (.i (1 + z)), r, x10, x11, x12], S', _, _, ?_, ⟨_, _, _, _, _, _, _, rfl⟩, .add i j (1 + z) hi hj h (by omega), u4, d4, fr4, by rw [len, go.2.2]⟩
    have h' : ¬ ((i : Nat) : Int) = (j : Nat) := by omega
    simp only [e_tru, e_cmp, e_var, List.getElem?_cons_succ, List.getElem?_cons_zero, bind_ok, o_neI, decide_eq_false h', Bool.not_false, tru_b, out_ok, e4, s_nil]
end
end Lb

set_option linter.all false
set_option maxRecDepth 100000
set_option maxHeartbeats 1000000
namespace Lb
open PySem PySem.Spec L2 Dl
/-! LibZ: _law_undoable, whole. -/
section
variable {dfs : List Df} {fl : List (Str × Str)} {sp : Fns → Fns} {S S0 : Sto} {n : Nat} {q : DrK} {l c N k R L : Nat} {p : Int} {f g : Nat → Nat → Int}
theorem tup_cell {a : Nat} {h : Nat → Int} (e : S[a]? = some (celL k h)) : opBn false .tup [.loc a] S = .ok (.p (rowP (mkR k h))) S := by
  have : (List.range k).map (fun j => D.i (h j)) = ((List.range k).map fun j => PyData.int (h j)).map D.p := by simp [Function.comp_def]
  have e' : lstOf (.loc a) S = some (((List.range k).map fun j => PyData.int (h j)).map D.p) := by
    simp only [lstOf, e, celL, this]
  have e2 : mkT (((List.range k).map fun j => PyData.int (h j)).map D.p) = .p (rowP (mkR k h)) := by rw [mkT_map, rowP_mk]
  simp only [opBn, tupOf_loc, e']
  rw [e2]
theorem tup_rowL {h : Nat → Int} : opBn false .tup [.p (rowL k h)] S = .ok (.p (rowP (mkR k h))) S := by
  simp [rowL, rowP_mk]
theorem lst_new {h : Nat → Int} : opBn true .lst [.p (rowP (mkR k h))] S = .ok (.loc S.length) (S ++ [celL k h]) := by
  rw [rowP_mk]
  simp [opBn, celL, Function.comp_def]
theorem lst_rowP {h : Nat → Int} : opBn false .lst [.p (rowP (mkR k h))] S = .ok (.p (rowL k h)) S := by
  rw [rowP_mk]
  simp [rowL]
theorem l_undoable (H : HDrw dfs q) (HL : HLaw dfs) (H2 : HasB dfs (Str.ofString "_law_undoable") 3 13 B__law_undoable) (hn : 3 ≤ n) (hp : Pr p) (h1 : 1 ≤ k) (hk : k ≤ 8) (P : (Nat → Nat → Int) → (Nat → Nat → Int) → Prop) (P0 : P unitF unitF)
    (PT : ∀ f g f' g', In2 p f → In2 p g → P f g → Turn p k f g f' g' → P f' g') (hd : Dk l c (N + 80) S) :
    ∃ r S', evF dfs fl sp n (Str.ofString "_law_undoable") [.loc l, .p (.int p), .p (.int (k : Nat))] S = .ok (.p r) S' ∧ (∃ f g, In2 p f ∧ In2 p g ∧ P f g ∧ r = .tuple [matP (mkM k f), matP (mkM k g)]) ∧ Go l c N S S' := by
  obtain ⟨hl, hc⟩ := hd.lt
  have un : ∀ S, evF dfs fl sp (n - 1) (Str.ofString "_law_unit") [.p (.int (k : Nat)), .p (.int 1)] S = .ok (.p (matP (mkM k unitF))) S := fun S => l_unit (k := k) (c := 1) HL (by omega) hk
  let ρ0 : Slots := [some (.loc l), some (.i p), some (.i (k : Nat)), none, none, none, none, none, none, none, none, none, none]
  let S1 : Sto := S ++ [.lst ((List.range k).map fun j => D.p (rowL k (unitF j)))]
  let S2 : Sto := S1 ++ (List.range k).map (fun j => celL k (unitF j)) ++ [.lst ((List.range k).map fun j => D.loc (S1.length + j))]
  have c1 := lc_cell (S := S) (ρ := ρ0) (own := [9]) (v := 9) (F := fCall (evF dfs fl sp (n - 1) (Str.ofString "_law_unit")) 2 0 [.inl 0, .inl 1] (fCons (fVar 2) (fCons (fC (.int 1)) fNil)) fNil) (Fe := fBn false .lst (fCons (fVar 9) fNil)) (x := matP (mkM k unitF)) (fun j => rowL k (unitF j)) (by simp [ρ0, arrD, un]) fz_mat hk fun j hj => by simp [ρ0, wipeD, lst_rowP]
  have c2 := lc_new (S := S1) (ρ := ρ0) (own := [9]) (v := 9) (F := fCall (evF dfs fl sp (n - 1) (Str.ofString "_law_unit")) 2 0 [.inl 0, .inl 1] (fCons (fVar 2) (fCons (fC (.int 1)) fNil)) fNil) (Fe := fBn true .lst (fCons (fVar 9) fNil)) (x := matP (mkM k unitF)) (fun _ _ => D.n) (fun j => celL k (unitF j)) (by simp [ρ0, arrD, un]) fz_mat hk fun j hj S => by simp [ρ0, wipeD, lst_new]
  have L1 : S1.length = S.length + 1 := by simp [S1]
  have c3 : fLc true (fSeq (fCall (evF dfs fl sp (n - 1) (Str.ofString "_law_unit")) 2 0 [.inl 0, .inl 1] (fCons (fVar 2) (fCons (fC (.int 1)) fNil)) fNil)) (.nm 9) [9] fYes (fBn true .lst (fCons (fVar 9) fNil)) ρ0 S1 = .ok (.loc (S.length + 1 + k)) S2 := by
    rw [← L1]
    exact c2
  have u2 : Un S.length (S.length + 1) k unitF unitF S2 := by
    refine ⟨by simp [S2, S1], ?_, fun i hi => ?_⟩
    · have : (S1 ++ (List.range k).map (fun j => celL k (unitF j))).length = S.length + 1 + k := by simp [L1]
      rw [show S2 = (S1 ++ (List.range k).map (fun j => celL k (unitF j))) ++ [.lst ((List.range k).map fun j => D.loc (S1.length + j))] from rfl, ← this, List.getElem?_concat_length, L1]
    · rw [show S2 = S1 ++ ((List.range k).map (fun j => celL k (unitF j)) ++ [.lst ((List.range k).map fun j => D.loc (S1.length + j))]) by simp [S2], ← L1, List.getElem?_append_right (by omega), Nat.add_sub_cancel_left, List.getElem?_append_left (by simpa using hi)]
      simp [hi]
  have d2 : Dk l c (N + 80) S2 := by
    rw [show S2 = S ++ ([.lst ((List.range k).map fun j => D.p (rowL k (unitF j)))] ++ (List.range k).map (fun j => celL k (unitF j)) ++ [.lst ((List.range k).map fun j => D.loc (S1.length + j))]) by simp [S2, S1]]
    exact hd.app
  have fr2 : Fr l c S S2 := by
    rw [show S2 = S ++ ([.lst ((List.range k).map fun j => D.p (rowL k (unitF j)))] ++ (List.range k).map (fun j => celL k (unitF j)) ++ [.lst ((List.range k).map fun j => D.loc (S1.length + j))]) by simp [S2, S1]]
    exact .app
  obtain ⟨M, S3, e3, hM, g3⟩ := l_drawN (fl := fl) (sp := sp) (n := n - 1) (N := N + 79) (many := 3 * k) H (by omega) d2 (by omega) (by omega)
  have u3 := u2.go g3 hl hc (by omega)
  have loop := for_cnt (G := tgNm 3) (B := (sSeq (sAsg (fTup (fCons (fCall (evF dfs fl sp (n - 1) (Str.ofString "_law_draw")) 2 0 [.inl 0, .inl 1] (fCons (fVar 0) (fCons (fVar 2) fNil)) fNil) (fCons (fCall (evF dfs fl sp (n - 1) (Str.ofString "_law_draw")) 2 0 [.inl 0, .inl 1] (fCons (fVar 0) (fCons (fVar 2) fNil)) fNil) (fCons (fBin .Add false (fC (.int 1)) (fCall (evF dfs fl sp (n - 1) (Str.ofString "_law_draw")) 2 0 [.inl 0, .inl 1] (fCons (fVar 0) (fCons (fBin .Sub false (fVar 1) (fC (.int 1))) fNil)) fNil)) fNil)))) (tgT 3 (tgCons (tgNm 6) (tgCons (tgNm 7) (tgCons (tgNm 8) tgNil))))) (sSeq (sIf (fTru (fCmp .NotEq (fVar 6) (fVar 7))) (sSeq (sAsg (fLc false (fZip (fCons (fIdx (fVar 4) (fVar 6)) (fCons (fIdx (fVar 4) (fVar 7)) fNil))) (.tp (.cons (.nm 11) (.cons (.nm 12) .nil))) [11, 12] fYes (fBin .Mod false (fBn false .int (fCons (fBin .Add false (fVar 11) (fBin .Mult false (fVar 8) (fVar 12))) fNil)) (fVar 1))) (tgSub (fVar 4) (fVar 6))) (sSeq (sFor (fSeq (fVar 5)) (tgNm 9) (sSeq (sAsg (fBin .Mod false (fBn false .int (fCons (fBin .Sub false (fIdx (fVar 9) (fVar 7)) (fBin .Mult false (fVar 8) (fIdx (fVar 9) (fVar 6)))) fNil)) (fVar 1)) (tgSub (fVar 9) (fVar 7))) sNil)) sNil)) (sSeq (sAsg (fIdx (fLc false (fRng2 (fCons (fC (.int 1)) (fCons (fVar 1) fNil))) (.nm 11) [11] (fTru (fCmp .Eq (fBin .Mod false (fBn false .int (fCons (fBin .Mult false (fVar 11) (fVar 8)) fNil)) (fVar 1)) (fC (.int 1)))) (fVar 11)) (fC (.int 0))) (tgNm 10)) (sSeq (sAsg (fLc false (fSeq (fIdx (fVar 4) (fVar 6))) (.nm 11) [11] fYes (fBin .Mod false (fBn false .int (fCons (fBin .Mult false (fVar 8) (fVar 11)) fNil)) (fVar 1))) (tgSub (fVar 4) (fVar 6))) (sSeq (sFor (fSeq (fVar 5)) (tgNm 9) (sSeq (sAsg (fBin .Mod false (fBn false .int (fCons (fBin .Mult false (fVar 10) (fIdx (fVar 9) (fVar 6))) fNil)) (fVar 1)) (tgSub (fVar 9) (fVar 6))) sNil)) sNil)))) sNil))) (w := []) (fun m => D.i (m : Nat))
    (fun m ρ S' => ∃ f g x3 y6 y7 y8 y9 y10 y11 y12, ρ = [some (.loc l), some (.i p), some (.i (k : Nat)), x3, some (.loc S.length), some (.loc (S.length + 1 + k)), y6, y7, y8, y9, y10, y11, y12] ∧ In2 p f ∧ In2 p g ∧ P f g ∧ Un S.length (S.length + 1) k f g S' ∧ Dk l c (N + 3 * (M - m)) S' ∧ Fr l c S S') M (fun _ _ _ _ => by simp)
    (by
      rintro m ρ S' hm ⟨f, g, x3, y6, y7, y8, y9, y10, y11, y12, rfl, hf, hg, pf, u, d, fr⟩
      obtain ⟨ρ', S'', f', g', e, ⟨z6, z7, z8, z9, z10, z11, z12, rfl⟩, t, u', d', fr', len⟩ := turn_one (fl := fl) (sp := sp) (n := n) (N := N + 3 * (M - (m + 1))) (a3 := some (.i (m : Nat))) (x6 := y6) (x7 := y7) (x8 := y8) (x9 := y9) (x10 := y10) (x11 := y11) (x12 := y12) H (by omega) hp h1 hk (by omega) (Nat.le_refl _) hl hc hf hg u (d.le (by omega)) fr
      have ii := t.in2 hp.p0 hf hg
      exact ⟨_, S', _, S'', rfl, .inl e, f', g', _, _, _, _, _, _, _, _, rfl, ii.1, ii.2, PT f g f' g' hf hg pf t, u', d', fr'⟩)
    (ρ := [some (.loc l), some (.i p), some (.i (k : Nat)), none, some (.loc S.length), some (.loc (S.length + 1 + k)), none, none, none, none, none, none, none]) (S := S3)
    ⟨unitF, unitF, none, none, none, none, none, none, none, none, rfl, in_unit hp.pos.1, in_unit hp.pos.1, P0, u3, g3.1.le (by omega), fr2.trans g3.2.1⟩
  obtain ⟨ρ', S4, e4, f, g, x3, y6, y7, y8, y9, y10, y11, y12, rfl, hf, hg, pf, u4, d4, fr4⟩ := loop
  have src : (fRng1 (fCall (evF dfs fl sp (n - 1) (Str.ofString "_law_draw")) 2 0 [.inl 0, .inl 1] (fCons (fVar 0) (fCons (fBin .Mult false (fC (.int 3)) (fVar 2)) fNil)) fNil)) [some (.loc l), some (.i p), some (.i (k : Nat)), none, some (.loc S.length), some (.loc (S.length + 1 + k)), none, none, none, none, none, none, none] S2 = .ok ⟨(List.range M).map fun m => D.i (m : Nat), []⟩ S3 := by
    have e3' : evF dfs fl sp (n - 1) (Str.ofString "_law_draw") [.loc l, .p (.int (3 * (k : Nat)))] S2 = .ok (.i (M : Nat)) S3 := e3
    have ml : opBin .Mult false (.p (.int 3)) (.p (.int (k : Nat))) S2 = .ok (.i (3 * (k : Nat))) S2 := o_mul6 (by omega) (by omega)
    simp only [fRng1]
    simp [arrD, ml, e3']
    exact big62 (i := (M : Nat)) (by omega) (by omega)
  have r1 := lc_map (t := .nm 9) (own := [9]) (S := S4) (ρ := [some (.loc l), some (.i p), some (.i (k : Nat)), x3, some (.loc S.length), some (.loc (S.length + 1 + k)), y6, y7, y8, y9, y10, y11, y12]) (Fi := fSeq (fVar 4)) (Fe := fBn false .tup (fCons (fVar 9) fNil)) (w := [(S.length, (List.range k).map fun i => D.p (rowL k (f i)))]) (ys := List.range k) (fun i => D.p (rowL k (f i))) (fun i => rowP (mkR k (f i)))
    (by simp [fSeq, srcOf, u4.rows]) (by simpa [Wat] using u4.rows) (by simpa using szk hk) fun i hi => ⟨_, rfl, by simp [wipeD, tup_rowL]⟩
  have r2 := lc_map (t := .nm 9) (own := [9]) (S := S4) (ρ := [some (.loc l), some (.i p), some (.i (k : Nat)), x3, some (.loc S.length), some (.loc (S.length + 1 + k)), y6, y7, y8, y9, y10, y11, y12]) (Fi := fSeq (fVar 5)) (Fe := fBn false .tup (fCons (fVar 9) fNil)) (w := [(S.length + 1 + k, (List.range k).map fun i => D.loc (S.length + 1 + i))]) (ys := List.range k) (fun i => D.loc (S.length + 1 + i)) (fun i => rowP (mkR k (g i)))
    (by simp [fSeq, srcOf, u4.back]) (by simpa [Wat] using u4.back) (by simpa using szk hk) fun i hi => ⟨_, rfl, by simp [wipeD, tup_cell (u4.each i (List.mem_range.mp hi))]⟩
  obtain ⟨t1, t2, t3, t4⟩ := fin_dk (d := .tuple [matP (mkM k f), matP (mkM k g)]) fr4 (d4.le (M := N) (by omega)) hl hc
  refine ⟨.tuple [matP (mkM k f), matP (mkM k g)], S4.take S.length, ?_, ⟨f, g, hf, hg, pf, rfl⟩, t2, t3, t4⟩
  rw [at' H2 (by omega) rfl, ← t1]
  congr 1
  rw [sh__law_undoable, s_seq]
  simp only [List.map_cons, List.map_nil, List.cons_append, List.nil_append, List.replicate, s_par, e_cons]
  simp only [ρ0] at c1 c3
  rw [c1]
  simp only [bind_ok]
  rw [c3]
  simp only [bind_ok, e_nil, out_ok, List.set_cons_zero, List.set_cons_succ]
  rw [s_seq, s_for, src]
  simp only [out_ok]
  rw [e4]
  simp [r1, r2, sz2, mk2, matP_mk]
end
end Lb

set_option linter.all false
set_option maxRecDepth 100000
set_option maxHeartbeats 1000000
namespace Lb
open PySem PySem.Spec L2 Dl
/-! LibR: _law_drawn. -/
section
variable {dfs : List Df} {fl : List (Str × Str)} {sp : Fns → Fns} {S : Sto} {n : Nat} {q : DrK} {l c N k : Nat} {p : Int}
/-- a table each entry of which may be drawn -/
theorem drawn_mat (hp : Pr p) (hk : k ≤ 8) {a0 a1 a3 a4 a5 a6 a7 a8 a9 x10 x11 : Option D} {Fe : Slots → Sto → Res D} (hd : Dk l c (N + 128) S)
    (hb : ∀ i j, i < k → j < k → ∀ M S, Dk l c (M + 2) S → ∃ x S', Fe [a0, a1, some (.i (k : Nat)), a3, a4, a5, a6, a7, a8, a9, some (.i (i : Nat)), some (.i (j : Nat))] S = .ok (.p x) S' ∧ Qi p x ∧ Go l c M S S') :
    ∃ m S', fBn false .tup (fCons (fLc false (fRng1 (fVar 2)) (.nm 10) [10] fYes (fBn false .tup (fCons (fLc false (fRng1 (fVar 2)) (.nm 11) [11] fYes Fe) fNil))) fNil) [a0, a1, some (.i (k : Nat)), a3, a4, a5, a6, a7, a8, a9, x10, x11] S = .ok (.p m) S' ∧ Qm p k m ∧ Go l c N S S' := by
  obtain ⟨vs, S', e, len, qs, go⟩ := lcS_r1 (S := S) (l := l) (c := c) (k := k) (ρ := [a0, a1, some (.i (k : Nat)), a3, a4, a5, a6, a7, a8, a9, x10, x11]) (own := [10]) (v := 10) (F := fVar 2) (Fe := fBn false .tup (fCons (fLc false (fRng1 (fVar 2)) (.nm 11) [11] fYes Fe) fNil)) (Qr p k) 16 N (by simp) hk (hd.le (by omega)) (fun i hi M S d => by
    obtain ⟨ws, S'', e, len, qs, go⟩ := lcS_r1 (S := S) (l := l) (c := c) (k := k) (ρ := [a0, a1, some (.i (k : Nat)), a3, a4, a5, a6, a7, a8, a9, some (.i (i : Nat)), x11]) (own := [11]) (v := 11) (F := fVar 2) (Fe := Fe) (Qi p) 2 M (by simp) hk (d.le (by omega)) (fun j hj M S d => by
      obtain ⟨x, S', e, h⟩ := hb i j hi hj M S d
      exact ⟨x, S', by simpa [wipeD] using e, h⟩)
    exact ⟨.tuple ws, S'', by simp [wipeD, e], row_of hp.p0 len qs, go⟩)
  exact ⟨.tuple vs, S', by simp [e], mat_of hp.p0 len qs, go⟩
/-- ways 4, 5, 6 and the halves of way 2: the entry -/
theorem entry_draw (H : HDrw dfs q) (hn : 2 ≤ n) (hp : Pr p) {ρ : Slots} (h0 : ρ[0]? = some (some (.loc l))) (h1 : ρ[1]? = some (some (.i p))) {M : Nat} (d : Dk l c (M + 1) S) :
    ∃ x S', fCall (evF dfs fl sp (n - 1) (Str.ofString "_law_draw")) 2 0 [.inl 0, .inl 1] (fCons (fVar 0) (fCons (fVar 1) fNil)) fNil ρ S = .ok (.p x) S' ∧ Qi p x ∧ Go l c M S S' := by
  have pp := hp.pos
  obtain ⟨r, S', e, r0, r1, g⟩ := l_draw (fl := fl) (sp := sp) (n := n - 1) (N := M) (many := p) H (by omega) d (by omega) (by omega)
  exact ⟨.int r, S', by simp [h0, h1, arrD, e], ⟨r, rfl, r0, r1⟩, g⟩
theorem qi0 (hp : Pr p) : Qi p (.int 0) := ⟨0, rfl, by omega, hp.p0⟩
/-- the def's body goes on with the deck, has cells of its own, and gives back a frozen value -/
theorem givesF {f : Str} {a b : Nat} {B : Sms} (h : HasB dfs f a b B) (hn : 1 ≤ n) {ds : List D} (hl : ds.length = a) {S : Sto} {Q : PyData → Prop} {M : Nat} (hd : Dk l c M S)
    (e : ∃ r S', evSs (evF dfs fl sp (n - 1)) fl B (ds.map some ++ List.replicate (b - a) none) S = .rt (.p r) S' ∧ Q r ∧ Dk l c N S' ∧ Fr l c S S') : ∃ r S', evF dfs fl sp n f ds S = .ok (.p r) S' ∧ Q r ∧ Go l c N S S' := by
  obtain ⟨r, S', e1, e2, e3, e4⟩ := e
  obtain ⟨t1, t2, t3, t4⟩ := fin_dk (d := r) e4 e3 hd.lt.1 hd.lt.2
  exact ⟨r, _, by rw [at' h hn hl, e1, t1], e2, t2, t3, t4⟩
end
end Lb

set_option linter.all false
set_option maxRecDepth 100000
set_option maxHeartbeats 1000000
namespace Lb
open PySem PySem.Spec L2 Dl
/-! LibT: _law_drawn, whole. -/
section
variable {dfs : List Df} {fl : List (Str × Str)} {sp : Fns → Fns} {S : Sto} {n : Nat} {q : DrK} {l c N k : Nat} {p : Int}
/-- a comprehension that draws: each item knows what stayed since the start -/
theorem lcG {β : Type} {t : Tg} {own : List Nat} {ρ : Slots} {Fi : Slots → Sto → Res Src} {Fe : Slots → Sto → Res D} {S : Sto} {ys : List β} (g : β → D) (Q : PyData → Prop) (e N : Nat)
    (hi : Fi ρ S = .ok ⟨ys.map g, []⟩ S) (hz : ys.length ≤ sizeLine) (hd : Dk l c (N + ys.length * e) S)
    (h : ∀ y ∈ ys, ∃ ρ', setT t (g y) (wipeD ρ own) = some ρ' ∧ ∀ M S1, Go l c (M + e) S S1 → ∃ v S', Fe ρ' S1 = .ok (.p v) S' ∧ Q v ∧ Go l c M S1 S') :
    ∃ vs S', fLc false Fi t own fYes Fe ρ S = .ok (.p (.list vs)) S' ∧ vs.length = ys.length ∧ (∀ v ∈ vs, Q v) ∧ Go l c N S S' := by
  have loop : ∀ (zs : List β) (acc : List PyData) (S1 : Sto), acc.length + zs.length ≤ sizeLine → Go l c (N + zs.length * e) S S1 → (∀ z ∈ zs, z ∈ ys) →
      ∃ vs S', lcLoop [] t (wipeD ρ own) fYes Fe (zs.map g) (acc.map D.p) S1 = .ok ((acc ++ vs).map D.p) S' ∧ vs.length = zs.length ∧ (∀ v ∈ vs, Q v) ∧ Go l c N S S' := by
    intro zs
    induction zs with
    | nil =>
      intro acc S1 _ hd _
      refine ⟨[], S1, ?_, rfl, by simp, hd.le (by simp)⟩
      unfold lcLoop
      simp only [List.map_nil]
      rw [if_pos (by simp)]
      simp
    | cons y zs ih =>
      intro acc S1 hz hd hm
      obtain ⟨ρ', e1, e2⟩ := h y (hm y (by simp))
      simp only [List.length_cons] at hz hd
      obtain ⟨v, S2, e3, q, go⟩ := e2 (N + zs.length * e) S1 (hd.le (by rw [Nat.add_mul]; omega))
      obtain ⟨vs, S3, e4, len, qs, go2⟩ := ih (acc ++ [v]) S2 (by simp; omega) (hd.trans go) fun z hz => hm z (by simp [hz])
      refine ⟨v :: vs, S3, ?_, by simp [len], by simpa using ⟨q, qs⟩, go2⟩
      have lt : acc.length < sizeLine := by omega
      rw [List.map_cons]
      unfold lcLoop
      rw [if_pos (by simp)]
      simp only [e1, fYes, Dl.Res.nx, bind_ok, e3, List.length_map, lt, if_true]
      simpa using e4
  obtain ⟨vs, S', e1, len, qs, go⟩ := loop ys [] S (by simpa using hz) (.refl hd) fun _ h => h
  refine ⟨vs, S', ?_, len, qs, go⟩
  unfold fLc
  rw [hi]
  simp only [bind_ok]
  rw [show ([] : List D) = ([] : List PyData).map D.p from rfl, e1]
  rw [bind_ok, mkL_map]
  simp
theorem lcG_r1 {ρ : Slots} {F Fe : Slots → Sto → Res D} {own : List Nat} {v : Nat} (Q : PyData → Prop) (e N : Nat) (h : F ρ S = .ok (.i (k : Nat)) S) (hk : k ≤ 8) (hd : Dk l c (N + 8 * e) S)
    (hb : ∀ j, j < k → ∀ M S1, Go l c (M + e) S S1 → ∃ x S', Fe ((wipeD ρ own).set v (some (.i (j : Nat)))) S1 = .ok (.p x) S' ∧ Q x ∧ Go l c M S1 S') :
    ∃ vs S', fLc false (fRng1 F) (.nm v) own fYes Fe ρ S = .ok (.p (.list vs)) S' ∧ vs.length = k ∧ (∀ v ∈ vs, Q v) ∧ Go l c N S S' := by
  have := lcG (t := .nm v) (own := own) (Fe := Fe) (ys := List.range k) (fun x => D.i (x : Nat)) Q e N (i_r1 h (by omega)) (by simpa using szk hk) (hd.le (by
    have := Nat.mul_le_mul_right e hk
    simp only [List.length_range]
    omega)) fun j hj => ⟨_, rfl, hb j (List.mem_range.mp hj)⟩
  simpa using this
/-- a table each entry of which may be drawn, and may look at what stays -/
theorem drawn_matG (hp : Pr p) (hk : k ≤ 8) {a0 a1 a3 a4 a5 a6 a7 a8 a9 x10 x11 : Option D} {Fe : Slots → Sto → Res D} (hd : Dk l c (N + 128) S)
    (hb : ∀ i j, i < k → j < k → ∀ M S1, Go l c (M + 2) S S1 → ∃ x S', Fe [a0, a1, some (.i (k : Nat)), a3, a4, a5, a6, a7, a8, a9, some (.i (i : Nat)), some (.i (j : Nat))] S1 = .ok (.p x) S' ∧ Qi p x ∧ Go l c M S1 S') :
    ∃ m S', fBn false .tup (fCons (fLc false (fRng1 (fVar 2)) (.nm 10) [10] fYes (fBn false .tup (fCons (fLc false (fRng1 (fVar 2)) (.nm 11) [11] fYes Fe) fNil))) fNil) [a0, a1, some (.i (k : Nat)), a3, a4, a5, a6, a7, a8, a9, x10, x11] S = .ok (.p m) S' ∧ Qm p k m ∧ Go l c N S S' := by
  obtain ⟨vs, S', e, len, qs, go⟩ := lcG_r1 (S := S) (l := l) (c := c) (k := k) (ρ := [a0, a1, some (.i (k : Nat)), a3, a4, a5, a6, a7, a8, a9, x10, x11]) (own := [10]) (v := 10) (F := fVar 2) (Fe := fBn false .tup (fCons (fLc false (fRng1 (fVar 2)) (.nm 11) [11] fYes Fe) fNil)) (Qr p k) 16 N (by simp) hk (hd.le (by omega)) (fun i hi M S1 d => by
    obtain ⟨ws, S'', e, len, qs, go⟩ := lcG_r1 (S := S1) (l := l) (c := c) (k := k) (ρ := [a0, a1, some (.i (k : Nat)), a3, a4, a5, a6, a7, a8, a9, some (.i (i : Nat)), x11]) (own := [11]) (v := 11) (F := fVar 2) (Fe := Fe) (Qi p) 2 M (by simp) hk (d.1.le (by omega)) (fun j hj M S2 d2 => by
      obtain ⟨x, S', e, h⟩ := hb i j hi hj M S2 (d.trans d2)
      exact ⟨x, S', by simpa [wipeD] using e, h⟩)
    exact ⟨.tuple ws, S'', by simp [wipeD, e], row_of hp.p0 len qs, go⟩)
  exact ⟨.tuple vs, S', by simp [e], mat_of hp.p0 len qs, go⟩
/-- rows as a cell of cells -/
structure Cl (L n : Nat) (g : Nat → Nat → Int) (S : Sto) : Prop where
  back : S[L + n]? = some (.lst ((List.range n).map fun i => D.loc (L + i)))
  each : ∀ i, i < n → S[L + i]? = some (celL n (g i))
theorem Cl.go {L : Nat} {g : Nat → Nat → Int} (u : Cl L k g S) {S' : Sto} (go : Go l c N S S') (h1 : l < L) (h2 : c < L) : Cl L k g S' := by
  have fr := go.2.1.2
  have k2 := (List.getElem?_eq_some_iff.mp u.back).1
  refine ⟨?_, fun i hi => ?_⟩
  · rw [fr (L + k) k2 (by omega) (by omega), u.back]
  · have k3 := (List.getElem?_eq_some_iff.mp (u.each i hi)).1
    rw [fr (L + i) k3 (by omega) (by omega), u.each i hi]
theorem Cl.new {g : Nat → Nat → Int} : Cl S.length k g (S ++ (List.range k).map (fun j => celL k (g j)) ++ [.lst ((List.range k).map fun j => D.loc (S.length + j))]) := by
  refine ⟨?_, fun i hi => ?_⟩
  · have : (S ++ (List.range k).map (fun j => celL k (g j))).length = S.length + k := by simp
    rw [← this, List.getElem?_concat_length]
  · rw [List.append_assoc, List.getElem?_append_right (by omega), Nat.add_sub_cancel_left, List.getElem?_append_left (by simpa using hi)]
    simp [hi]
theorem Cl.set1 {L : Nat} {g : Nat → Nat → Int} (u : Cl L k g S) {i j : Nat} (hi : i < k) (hj : j < k) (v : Int) :
    ∃ S', opSet (.loc (L + i)) (.p (.int (j : Nat))) (.i v) S = .ok () S' ∧ S' = S.set (L + i) (celL k fun b => if b = j then v else g i b) ∧ Cl L k (fun a b => if a = i then (if b = j then v else g i b) else g a b) S' := by
  have e : ((List.range k).map fun b => if b = j then D.i v else D.i (g i b)) = (List.range k).map fun b => D.i (if b = j then v else g i b) := List.map_congr_left fun b _ => by split <;> rfl
  refine ⟨_, by rw [set_lst (F := fun b => D.i (g i b)) (u.each i hi) hj, e]; rfl, rfl, ?_, fun a ha => ?_⟩
  · rw [set_ne (by omega), u.back]
  · by_cases z : a = i
    · subst z
      rw [set_at (List.getElem?_eq_some_iff.mp (u.each a ha)).1]
      simp
    · rw [set_ne (by omega), u.each a ha]
      simp [z]
theorem in_dia {x : Int} (hx : 0 ≤ x ∧ x < p) : In2 p fun i j => if i = j then x else 0 := fun i j => by
  dsimp only
  split <;> omega
theorem l_drawn (H : HDrw dfs q) (HL : HLaw dfs) (H2 : HasB dfs (Str.ofString "_law_drawn") 3 12 B__law_drawn) (H3 : HasB dfs (Str.ofString "_law_undoable") 3 13 B__law_undoable) (hn : 4 ≤ n) (hp : Pr p) (h1 : 1 ≤ k) (hk : k ≤ 8) (hd : Dk l c (N + 270) S) :
    ∃ r S', evF dfs fl sp n (Str.ofString "_law_drawn") [.loc l, .p (.int p), .p (.int (k : Nat))] S = .ok (.p r) S' ∧ Qm p k r ∧ Go l c N S S' := by
  have pp := hp.pos
  refine givesF H2 (by omega) rfl hd ?_
  obtain ⟨w, S1, e1, w0, w9, g1⟩ := l_draw (fl := fl) (sp := sp) (n := n - 1) (N := N + 269) (many := 9) H (by omega) hd (by omega) (by omega)
  obtain ⟨x, S2, e2, x0, x1, g2⟩ := l_draw (fl := fl) (sp := sp) (n := n - 1) (N := N + 268) (many := p) H (by omega) g1.1 (by omega) (by omega)
  have go := g1.trans g2
  rw [sh__law_drawn]
  simp only [List.map_cons, List.map_nil, List.cons_append, List.nil_append, List.replicate]
  by_cases h0 : w = 0
  · have e3 := l_unit (fl := fl) (sp := sp) (n := n - 1) (S := S2) (k := k) (c := x) HL (by omega) hk
    exact ⟨matP (mkM k fun i j => if i = j then x else 0), S2, by simp [arrD, e1, e2, h0, e3], ⟨_, in_dia ⟨x0, x1⟩, rfl⟩, go.1.le (by omega), go.2.1⟩
  by_cases h1' : w = 1
  · obtain ⟨r, S3, e3, ⟨f, g, hf, hg, _, rfl⟩, g3⟩ := l_undoable (fl := fl) (sp := sp) (n := n - 1) (N := N) H HL H3 (by omega) hp h1 hk (fun _ _ => True) trivial (fun _ _ _ _ _ _ _ _ => trivial) (go.1.le (by omega))
    have go3 := go.trans g3
    exact ⟨matP (mkM k f), S3, by simp [arrD, e1, e2, h1', e3], ⟨_, hf, rfl⟩, go3.1, go3.2.1⟩
  by_cases h2 : w = 2
  · subst h2
    obtain ⟨m, S3, e3, m0, g3⟩ := l_drawN (fl := fl) (sp := sp) (n := n - 1) (N := N + 266) (many := k + 1) H (by omega) (go.1.le (by omega)) (by omega) (by omega)
    have e3' : evF dfs fl sp (n - 1) (Str.ofString "_law_draw") [.loc l, .p (.int ((k : Nat) + 1))] S2 = .ok (.i (m : Nat)) S3 := e3
    obtain ⟨r1, S4, e4, ⟨f, hf, rfl⟩, g4⟩ := drawn_mat (l := l) (c := c) (N := N + 130) (S := S3) (a0 := some (.loc l)) (a1 := some (.i p)) (a3 := none) (a4 := some (.i 2)) (a5 := some (.i x)) (a6 := some (.i (m : Nat))) (a7 := none) (a8 := none) (a9 := none) (x10 := none) (x11 := none) (Fe := (fIf (fTru (fCmp .Lt (fVar 11) (fVar 6))) (fCall (evF dfs fl sp (n - 1) (Str.ofString "_law_draw")) 2 0 [.inl 0, .inl 1] (fCons (fVar 0) (fCons (fVar 1) fNil)) fNil) (fC (.int 0)))) hp hk (g3.1.le (by omega)) (fun i j hi hj M S d => by
      by_cases y : ((j : Nat) : Int) < (m : Nat)
      · obtain ⟨v, S', e, qv, g⟩ := entry_draw (fl := fl) (sp := sp) (n := n) (ρ := [some (.loc l), some (.i p), some (.i (k : Nat)), none, some (.i 2), some (.i x), some (.i (m : Nat)), none, none, none, some (.i (i : Nat)), some (.i (j : Nat))]) H (by omega) hp rfl rfl (d.le (Nat.succ_le_succ (Nat.le_succ M)))
        exact ⟨v, S', by simp only [e_if, e_tru, e_cmp, e_var, List.getElem?_cons_succ, List.getElem?_cons_zero, bind_ok, o_lt, y, decide_true, tru_b]; exact e, qv, g⟩
      · exact ⟨.int 0, S, by simp only [e_if, e_tru, e_cmp, e_var, List.getElem?_cons_succ, List.getElem?_cons_zero, bind_ok, o_lt, y, decide_false, tru_b, e_c], qi0 hp, .refl (d.le (by omega))⟩)
    obtain ⟨r2, S5, e5, ⟨g, hg, rfl⟩, g5⟩ := drawn_mat (l := l) (c := c) (N := N) (S := S4) (a0 := some (.loc l)) (a1 := some (.i p)) (a3 := none) (a4 := some (.i 2)) (a5 := some (.i x)) (a6 := some (.i (m : Nat))) (a7 := some (.p (matP (mkM k f)))) (a8 := none) (a9 := none) (x10 := none) (x11 := none) (Fe := (fCall (evF dfs fl sp (n - 1) (Str.ofString "_law_draw")) 2 0 [.inl 0, .inl 1] (fCons (fVar 0) (fCons (fVar 1) fNil)) fNil)) hp hk (g4.1.le (by omega)) (fun i j hi hj M S d => entry_draw (fl := fl) (sp := sp) (n := n) H (by omega) hp rfl rfl (d.le (Nat.succ_le_succ (Nat.le_succ M))))
    have e6 := l_by (fl := fl) (sp := sp) (n := n - 1) (S := S5) HL (by omega) hp hf hg h1 hk
    have go5 := ((go.trans g3).trans g4).trans g5
    refine ⟨matP (mkM k (mulF p k f g)), S5, ?_, ⟨_, in_mul hp.p0, rfl⟩, go5.1, go5.2.1⟩
    simp [-e_bn, arrD, e1, e2, e3', e4, e5, e6]
  have un := l_unit (fl := fl) (sp := sp) (n := n - 1) (S := S2) (k := k) (c := x) HL (by omega) hk
  obtain ⟨l2, c2⟩ := go.1.lt
  let F0 : Nat → Nat → Int := fun i j => if i = j then x else 0
  let S3 : Sto := S2 ++ (List.range k).map (fun j => celL k (F0 j)) ++ [.lst ((List.range k).map fun j => D.loc (S2.length + j))]
  have cr : fLc true (fSeq (fCall (evF dfs fl sp (n - 1) (Str.ofString "_law_unit")) 2 0 [.inl 0, .inl 1] (fCons (fVar 2) (fCons (fVar 5) fNil)) fNil)) (.nm 9) [9] fYes (fBn true .lst (fCons (fVar 9) fNil)) [some (.loc l), some (.i p), some (.i (k : Nat)), none, some (.i w), some (.i x), none, none, none, none, none, none] S2 = .ok (.loc (S2.length + k)) S3 :=
    lc_new (x := matP (mkM k F0)) (fun _ _ => D.n) (fun j => celL k (F0 j)) (by simp [arrD, un]; rfl) fz_mat hk fun j hj S => by simp [wipeD, lst_new]
  have e3 : S3 = S2 ++ ((List.range k).map (fun j => celL k (F0 j)) ++ [.lst ((List.range k).map fun j => D.loc (S2.length + j))]) := by simp [S3]
  have d3 : Dk l c (N + 268) S3 := by rw [e3]; exact go.1.app
  have f3 : Fr l c S S3 := by rw [e3]; exact go.2.1.trans .app
  have u3 : Cl S2.length k F0 S3 := Cl.new
  by_cases h3 : w = 3
  · subst h3
    obtain ⟨m, S4, e4, m3, g4⟩ := l_drawN (fl := fl) (sp := sp) (n := n - 1) (N := N + 267) (many := 3) H (by omega) d3 (by omega) (by omega)
    have e4' : evF dfs fl sp (n - 1) (Str.ofString "_law_draw") [.loc l, .p (.int 3)] S3 = .ok (.i (m : Nat)) S4 := e4
    have loop := for_cnt (G := tgNm 8) (B := (sSeq (sPar 10 11 (fCons (fCall (evF dfs fl sp (n - 1) (Str.ofString "_law_draw")) 2 0 [.inl 0, .inl 1] (fCons (fVar 0) (fCons (fVar 2) fNil)) fNil) (fCons (fCall (evF dfs fl sp (n - 1) (Str.ofString "_law_draw")) 2 0 [.inl 0, .inl 1] (fCons (fVar 0) (fCons (fVar 2) fNil)) fNil) fNil))) (sSeq (sAsg (fCall (evF dfs fl sp (n - 1) (Str.ofString "_law_draw")) 2 0 [.inl 0, .inl 1] (fCons (fVar 0) (fCons (fVar 1) fNil)) fNil) (tgSub (fIdx (fVar 3) (fVar 10)) (fVar 11))) sNil))) (w := []) (fun m => D.i (m : Nat))
      (fun a ρ S' => ∃ f y8 y10 y11, ρ = [some (.loc l), some (.i p), some (.i (k : Nat)), some (.loc (S2.length + k)), some (.i 3), some (.i x), none, none, y8, none, y10, y11] ∧ In2 p f ∧ Cl S2.length k f S' ∧ Dk l c (N + 3 * (1 + m - a)) S' ∧ Fr l c S S') (1 + m) (fun _ _ _ _ => by simp)
      (by
        rintro a ρ S' ha ⟨f, y8, y10, y11, rfl, hf, u, d, fr⟩
        obtain ⟨i, T1, q1, hi, t1⟩ := l_drawN (fl := fl) (sp := sp) (n := n - 1) (N := N + 3 * (1 + m - (a + 1)) + 2) (many := k) H (by omega) (d.le (by omega)) (by omega) (by omega)
        obtain ⟨j, T2, q2, hj, t2⟩ := l_drawN (fl := fl) (sp := sp) (n := n - 1) (N := N + 3 * (1 + m - (a + 1)) + 1) (many := k) H (by omega) t1.1 (by omega) (by omega)
        obtain ⟨v, T3, q3, v0, v1, t3⟩ := l_draw (fl := fl) (sp := sp) (n := n - 1) (N := N + 3 * (1 + m - (a + 1))) (many := p) H (by omega) t2.1 (by omega) (by omega)
        have tt := (t1.trans t2).trans t3
        have u4 := u.go tt (by omega) (by omega)
        obtain ⟨T4, q4, q5, u5⟩ := u4.set1 hi hj v
        have i1 : opIdx (.loc (S2.length + k)) (.p (.int (i : Nat))) T3 = .ok (.loc (S2.length + i)) T3 := ix_lst u4.back hi
        refine ⟨[some (.loc l), some (.i p), some (.i (k : Nat)), some (.loc (S2.length + k)), some (.i 3), some (.i x), none, none, some (.i (a : Nat)), none, y10, y11], S',
          [some (.loc l), some (.i p), some (.i (k : Nat)), some (.loc (S2.length + k)), some (.i 3), some (.i x), none, none, some (.i (a : Nat)), none, some (.i (i : Nat)), some (.i (j : Nat))], T4, rfl, .inl (by
          simp [arrD, q1, q2, q3, i1, q4]), (fun a b => if a = i then (if b = j then v else f i b) else f a b), _, _, _, rfl, fun a b => ?_, u5, ?_, ?_⟩
        · dsimp only
          split
          · split
            · exact ⟨v0, v1⟩
            · exact hf _ _
          · exact hf _ _
        · rw [q5]; exact tt.1.set (by omega) (by omega)
        · rw [q5]; exact (fr.trans tt.2.1).set (by have := go.2.2; omega))
      (ρ := [some (.loc l), some (.i p), some (.i (k : Nat)), some (.loc (S2.length + k)), some (.i 3), some (.i x), none, none, none, none, none, none]) (S := S4)
      ⟨F0, none, none, none, rfl, in_dia ⟨x0, x1⟩, u3.go g4 l2 c2, g4.1.le (by omega), f3.trans g4.2.1⟩
    obtain ⟨ρ', S5, e5, f, y8, y10, y11, rfl, hf, u5, d5, fr5⟩ := loop
    have src : (fRng1 (fBin .Add false (fC (.int 1)) (fCall (evF dfs fl sp (n - 1) (Str.ofString "_law_draw")) 2 0 [.inl 0, .inl 1] (fCons (fVar 0) (fCons (fC (.int 3)) fNil)) fNil))) [some (.loc l), some (.i p), some (.i (k : Nat)), some (.loc (S2.length + k)), some (.i 3), some (.i x), none, none, none, none, none, none] S3 = .ok ⟨(List.range (1 + m)).map fun m => D.i (m : Nat), []⟩ S4 := by
      have : RgB (1 + (m : Nat)) := big62 (by omega) (by omega)
      simp only [fRng1]
      simp [arrD, e4']
      rw [if_pos this]
      rw [show ((1 : Int) + (m : Nat)).toNat = 1 + m by omega]
    have r2 := lc_map (t := .nm 9) (own := [9]) (S := S5) (ρ := [some (.loc l), some (.i p), some (.i (k : Nat)), some (.loc (S2.length + k)), some (.i 3), some (.i x), none, none, y8, none, y10, y11]) (Fi := fSeq (fVar 3)) (Fe := fBn false .tup (fCons (fVar 9) fNil)) (w := [(S2.length + k, (List.range k).map fun i => D.loc (S2.length + i))]) (ys := List.range k) (fun i => D.loc (S2.length + i)) (fun i => rowP (mkR k (f i)))
      (by simp [fSeq, srcOf, u5.back]) (by simpa [Wat] using u5.back) (by simpa using szk hk) fun i hi => ⟨_, rfl, by simp [wipeD, tup_cell (u5.each i (List.mem_range.mp hi))]⟩
    refine ⟨matP (mkM k f), S5, ?_, ⟨_, hf, rfl⟩, d5.le (by omega), fr5⟩
    rw [s_seq, s_par]
    simp [arrD, e1, e2, cr]
    rw [src]
    simp only [out_ok]
    rw [e5]
    simp [r2, matP_mk]
  by_cases h4 : w = 4
  · subst h4
    have i0 : ∀ S1, Go l c 0 S3 S1 → opIdx (.loc (S2.length + k)) (.p (.int 0)) S1 = .ok (.loc (S2.length + 0)) S1 ∧ opIdx (.loc (S2.length + 0)) (.p (.int 0)) S1 = .ok (.i x) S1 := fun S1 g => by
      have u := u3.go g l2 c2
      exact ⟨ix_lst (i := 0) u.back (by omega), by
        have := ix_lst (i := 0) (F := fun b => D.i (F0 0 b)) (u.each 0 (by omega)) (by omega)
        simpa [F0] using this⟩
    obtain ⟨r1, S4, e4, ⟨f, hf, rfl⟩, g4⟩ := drawn_matG (l := l) (c := c) (N := N) (S := S3) (a0 := some (.loc l)) (a1 := some (.i p)) (a3 := some (.loc (S2.length + k))) (a4 := some (.i 4)) (a5 := some (.i x)) (a6 := none) (a7 := none) (a8 := none) (a9 := none) (x10 := none) (x11 := none) (Fe := (fIf (fTru (fCmp .Gt (fVar 11) (fVar 10))) (fCall (evF dfs fl sp (n - 1) (Str.ofString "_law_draw")) 2 0 [.inl 0, .inl 1] (fCons (fVar 0) (fCons (fVar 1) fNil)) fNil) (fIf (fTru (fCmp .Eq (fVar 10) (fVar 11))) (fIdx (fIdx (fVar 3) (fC (.int 0))) (fC (.int 0))) (fC (.int 0))))) hp hk (d3.le (by omega)) (fun i j hi hj M S1 g => by
      by_cases y : ((i : Nat) : Int) < (j : Nat)
      · obtain ⟨v, S', e, qv, g⟩ := entry_draw (fl := fl) (sp := sp) (n := n) (ρ := [some (.loc l), some (.i p), some (.i (k : Nat)), some (.loc (S2.length + k)), some (.i 4), some (.i x), none, none, none, none, some (.i (i : Nat)), some (.i (j : Nat))]) H (by omega) hp rfl rfl (g.1.le (Nat.succ_le_succ (Nat.le_succ M)))
        exact ⟨v, S', by simp only [e_if, e_tru, e_cmp, e_var, List.getElem?_cons_succ, List.getElem?_cons_zero, bind_ok, o_gt, y, decide_true, tru_b]; exact e, qv, g⟩
      · obtain ⟨i1, i2⟩ := i0 S1 (g.le (by omega))
        by_cases z : ((i : Nat) : Int) = (j : Nat)
        · refine ⟨.int x, S1, ?_, ⟨x, rfl, x0, x1⟩, .refl (g.1.le (by omega))⟩
          simp only [e_if, e_tru, e_cmp, e_var, List.getElem?_cons_succ, List.getElem?_cons_zero, bind_ok, o_gt, o_eqI, decide_eq_false y, decide_eq_true z, tru_b, e_c, e_idx, i1, i2]
        · refine ⟨.int 0, S1, ?_, qi0 hp, .refl (g.1.le (by omega))⟩
          simp only [e_if, e_tru, e_cmp, e_var, List.getElem?_cons_succ, List.getElem?_cons_zero, bind_ok, o_gt, o_eqI, decide_eq_false y, decide_eq_false z, tru_b, e_c])
    refine ⟨matP (mkM k f), S4, ?_, ⟨_, hf, rfl⟩, g4.1, f3.trans g4.2.1⟩
    rw [s_seq, s_par]
    simp [-e_bn, arrD, e1, e2, cr, e4]
  by_cases h5 : w = 5
  · subst h5
    obtain ⟨r1, S4, e4, ⟨f, hf, rfl⟩, g4⟩ := drawn_mat (l := l) (c := c) (N := N) (S := S3) (a0 := some (.loc l)) (a1 := some (.i p)) (a3 := some (.loc (S2.length + k))) (a4 := some (.i 5)) (a5 := some (.i x)) (a6 := none) (a7 := none) (a8 := none) (a9 := none) (x10 := none) (x11 := none) (Fe := (fIf (fTru (fCmp .Eq (fCall (evF dfs fl sp (n - 1) (Str.ofString "_law_draw")) 2 0 [.inl 0, .inl 1] (fCons (fVar 0) (fCons (fC (.int 4)) fNil)) fNil) (fC (.int 0)))) (fCall (evF dfs fl sp (n - 1) (Str.ofString "_law_draw")) 2 0 [.inl 0, .inl 1] (fCons (fVar 0) (fCons (fVar 1) fNil)) fNil) (fC (.int 0)))) hp hk (d3.le (by omega)) (fun i j hi hj M S1 d => by
      obtain ⟨y, T, q1, y0, y1, t1⟩ := l_draw (fl := fl) (sp := sp) (n := n - 1) (N := M + 1) (many := 4) H (by omega) d (by omega) (by omega)
      by_cases z : y = 0
      · obtain ⟨v, S', e, qv, g⟩ := entry_draw (fl := fl) (sp := sp) (n := n) (ρ := [some (.loc l), some (.i p), some (.i (k : Nat)), some (.loc (S2.length + k)), some (.i 5), some (.i x), none, none, none, none, some (.i (i : Nat)), some (.i (j : Nat))]) H (by omega) hp rfl rfl t1.1
        refine ⟨v, S', ?_, qv, t1.trans g⟩
        rw [e_if, e_tru, e_cmp]
        simp [-e_call, arrD] at e ⊢
        simp [arrD, q1, z] 
        simpa [arrD] using e
      · refine ⟨.int 0, T, ?_, qi0 hp, t1.le (by omega)⟩
        simp [arrD, q1, z])
    refine ⟨matP (mkM k f), S4, ?_, ⟨_, hf, rfl⟩, g4.1, f3.trans g4.2.1⟩
    rw [s_seq, s_par]
    simp [-e_bn, arrD, e1, e2, cr, e4]
  · obtain ⟨r1, S4, e4, ⟨f, hf, rfl⟩, g4⟩ := drawn_mat (l := l) (c := c) (N := N) (S := S3) (a0 := some (.loc l)) (a1 := some (.i p)) (a3 := some (.loc (S2.length + k))) (a4 := some (.i w)) (a5 := some (.i x)) (a6 := none) (a7 := none) (a8 := none) (a9 := none) (x10 := none) (x11 := none) (Fe := (fCall (evF dfs fl sp (n - 1) (Str.ofString "_law_draw")) 2 0 [.inl 0, .inl 1] (fCons (fVar 0) (fCons (fVar 1) fNil)) fNil)) hp hk (d3.le (by omega)) (fun i j hi hj M S d => entry_draw (fl := fl) (sp := sp) (n := n) H (by omega) hp rfl rfl (d.le (Nat.succ_le_succ (Nat.le_succ M))))
    refine ⟨matP (mkM k f), S4, ?_, ⟨_, hf, rfl⟩, g4.1, f3.trans g4.2.1⟩
    rw [s_seq, s_par]
    simp [-e_bn, arrD, e1, e2, h0, h1', h2, h3, h4, h5, cr, e4]
end
end Lb

set_option linter.all false
set_option maxRecDepth 100000
set_option maxHeartbeats 1000000
namespace Lb
open PySem PySem.Spec L2 Dl
/-! LibH: how long a value's text may be. -/
/-- it may be told; its text has at most b signs; so deep -/
structure Sh (b e : Nat) (x : PyData) : Prop where
  ok : x.showable = true
  len : x.shown.length ≤ b
  deep : x.depth ≤ e
theorem Sh.le {b e b' e' : Nat} {x : PyData} (h : Sh b e x) (h1 : b ≤ b') (h2 : e ≤ e') : Sh b' e' x := ⟨h.ok, Nat.le_trans h.len h1, Nat.le_trans h.deep h2⟩
theorem Sh.int {i : Int} (h : i.natAbs < 2 ^ 64) : Sh 70 0 (.int i) := by
  have l : i.natAbs.log2 ≤ 64 := lg' h
  refine ⟨by simp only [PyData.showable]; exact decide_eq_true (by omega), ?_, by simp [PyData.depth]⟩
  show (Str.ofString (toString i)).length ≤ 70
  rw [ofString_length]
  have := int_text_length_le (k := 65) (by decide) (show i.natAbs.log2 < 65 by omega)
  omega
theorem Sh.bool {c : Bool} : Sh 70 0 (.bool c) := by
  refine ⟨rfl, ?_, by simp [PyData.depth]⟩
  cases c <;> decide
theorem Sh.none : Sh 70 0 .none := ⟨rfl, by decide, by simp [PyData.depth]⟩
theorem sh_all {b e : Nat} : ∀ {xs : List PyData}, (∀ x ∈ xs, Sh b e x) → PyData.showableAll xs = true ∧ ((PyData.shownAll xs).map fun t => t.length + 2).sum ≤ xs.length * (b + 2) ∧ (PyData.shownAll xs).length = xs.length ∧ PyData.depthAll xs ≤ e
  | [], _ => ⟨rfl, by simp [PyData.shownAll], rfl, by simp [PyData.depthAll]⟩
  | x :: xs, h => by
    obtain ⟨h1, h2, h3, h4⟩ := sh_all (xs := xs) fun y hy => h y (by simp [hy])
    have hx := h x (by simp)
    refine ⟨by simp [PyData.showableAll, hx.ok, h1], ?_, by simp [PyData.shownAll, h3], by simp only [PyData.depthAll]; exact Nat.max_le.mpr ⟨hx.deep, h4⟩⟩
    have := hx.len
    simp only [PyData.shownAll, List.map_cons, List.sum_cons, List.length_cons, Nat.add_mul, Nat.one_mul]
    omega
theorem Sh.tup {b e m : Nat} {xs : List PyData} (h : ∀ x ∈ xs, Sh b e x) (hm : xs.length ≤ m) : Sh (m * (b + 2) + 3) (e + 1) (.tuple xs) := by
  obtain ⟨h1, h2, h3, h4⟩ := sh_all h
  refine ⟨by simpa [PyData.showable] using h1, ?_, by simp only [PyData.depth]; omega⟩
  simp only [PyData.shown, tupleText]
  rw [strLen_append, strLen_append]
  have e1 : (("(" : String) : Str).length = 1 := rfl
  have e3 : ((if (PyData.shownAll xs).length == 1 then ",)" else ")" : String) : Str).length ≤ 2 := by split <;> decide
  have e2 : (Str.join ", " (PyData.shownAll xs)).length ≤ xs.length * (b + 2) := by
    by_cases z : PyData.shownAll xs = []
    · rw [z]
      exact Nat.zero_le _
    · have := join_length_add _ z
      unfold piled at this
      omega
  have := Nat.mul_le_mul_right (b + 2) hm
  omega
theorem textFrom_le : ∀ (ts : List Str) (k : Nat) (acc : Str), (textFrom k acc ts).length ≤ acc.length + (ts.map fun t => t.length + 2).sum
  | [], k, acc => by show acc.length ≤ _; omega
  | t :: r, k, acc => by
    have h1 := textFrom_le r (k + 1) (acc ++ (if k > 0 then ", " else "" : String) ++ t)
    have e : (acc ++ (if k > 0 then ", " else "" : String) ++ t).length ≤ acc.length + 2 + t.length := by
      rw [strLen_append, strLen_append]
      have : ((if k > 0 then ", " else "" : String) : Str).length ≤ 2 := by split <;> decide
      omega
    show (textFrom (k + 1) _ r).length ≤ _
    simp only [List.map_cons, List.sum_cons]
    omega
theorem Sh.lst {b e m : Nat} {xs : List PyData} (h : ∀ x ∈ xs, Sh b e x) (hm : xs.length ≤ m) : Sh (m * (b + 2) + 3) (e + 1) (.list xs) := by
  obtain ⟨h1, h2, h3, h4⟩ := sh_all h
  refine ⟨by simpa [PyData.showable] using h1, ?_, by simp only [PyData.depth]; omega⟩
  simp only [PyData.shown, listText]
  rw [strLen_append]
  have := textFrom_le (PyData.shownAll xs) 0 "["
  have e1 : (("[" : String) : Str).length = 1 := rfl
  have e3 : (("]" : String) : Str).length = 1 := rfl
  have := Nat.mul_le_mul_right (b + 2) hm
  omega
theorem Sh.repr {b e : Nat} {x : PyData} (h : Sh b e x) {m : Bool} {S : Sto} (h1 : b ≤ 16000000) (h2 : e ≤ 150) : opBn m .repr [.p x] S = .ok (.s x.shown) S :=
  b_repr h.ok (Nat.le_trans h.len (by have : (16000000 : Nat) ≤ sizeLine := by decide
                                      omega)) (Nat.le_trans h.deep h2)
section
variable {p : Int} {k : Nat} {f : Nat → Nat → Int} {r : Nat → Int}
theorem sh_p (hp : Pr p) : Sh 70 0 (.int p) := .int (by have := hp.pos; omega)
theorem sh_lt (hp : Pr p) {x : Int} (h : 0 ≤ x ∧ x < p) : Sh 70 0 (.int x) := .int (by have := hp.pos; omega)
theorem sh_row (hp : Pr p) (hk : k ≤ 8) (hr : In1 p r) : Sh 579 1 (rowP (mkR k r)) := by
  rw [rowP_mk]
  refine (Sh.tup (b := 70) (e := 0) (m := 8) (fun x hx => ?_) (by simpa using hk)).le (by omega) (by omega)
  simp only [List.mem_map] at hx
  obtain ⟨i, _, rfl⟩ := hx
  exact sh_lt hp (hr i)
theorem sh_mat (hp : Pr p) (hk : k ≤ 8) (hf : In2 p f) : Sh 4651 2 (matP (mkM k f)) := by
  rw [matP_mk]
  refine (Sh.tup (b := 579) (e := 1) (m := 8) (fun x hx => ?_) (by simpa using hk)).le (by omega) (by omega)
  simp only [List.mem_map] at hx
  obtain ⟨i, _, rfl⟩ := hx
  exact sh_row hp hk (hf i)
theorem sh_tab (hp : Pr p) (hk : k ≤ 8) (hf : In2 p f) : Sh 9500 3 (tabP p (mkM k f)) := by
  refine (Sh.tup (b := 4651) (e := 2) (m := 2) (fun x hx => ?_) (by simp)).le (by omega) (by omega)
  simp only [List.mem_cons, List.not_mem_nil, or_false] at hx
  rcases hx with rfl | rfl
  · exact (sh_p hp).le (by omega) (by omega)
  · exact sh_mat hp hk hf
end
end Lb

set_option linter.all false
set_option maxRecDepth 100000
set_option maxHeartbeats 4000000
namespace Lb
open PySem PySem.Spec L2 Dl
/-! LibI: _law_are_sums_right. -/
theorem mem3 {α : Type} {P : α → Prop} {a b c : α} (h1 : P a) (h2 : P b) (h3 : P c) : ∀ x ∈ [a, b, c], P x := fun x hx => by
  simp only [List.mem_cons, List.not_mem_nil, or_false] at hx
  rcases hx with rfl | rfl | rfl <;> assumption
theorem mem2 {α : Type} {P : α → Prop} {a b : α} (h1 : P a) (h2 : P b) : ∀ x ∈ [a, b], P x := fun x hx => by
  simp only [List.mem_cons, List.not_mem_nil, or_false] at hx
  rcases hx with rfl | rfl <;> assumption
theorem mem4 {α : Type} {P : α → Prop} {a b c d : α} (h1 : P a) (h2 : P b) (h3 : P c) (h4 : P d) : ∀ x ∈ [a, b, c, d], P x := fun x hx => by
  simp only [List.mem_cons, List.not_mem_nil, or_false] at hx
  rcases hx with rfl | rfl | rfl | rfl <;> assumption
theorem mem6 {α : Type} {P : α → Prop} {a b c d e f : α} (h1 : P a) (h2 : P b) (h3 : P c) (h4 : P d) (h5 : P e) (h6 : P f) : ∀ x ∈ [a, b, c, d, e, f], P x := fun x hx => by
  simp only [List.mem_cons, List.not_mem_nil, or_false] at hx
  rcases hx with rfl | rfl | rfl | rfl | rfl | rfl <;> assumption
section
variable {dfs : List Df} {fl : List (Str × Str)} {sp : Fns → Fns} {S : Sto} {n : Nat} {p : Int} {k : Nat} {f g : Nat → Nat → Int}
theorem l_sums (H : HLaw dfs) (HX : HLawX dfs) (O : HOps dfs) (A : HAll dfs) (H2 : HasB dfs (Str.ofString "_law_are_sums_right") 5 9 B__law_are_sums_right) (hn : 9 ≤ n) (hp : Pr p) (h1 : 1 ≤ k) (hk : k ≤ 8) (hf : In2 p f) (hg : In2 p g) {c : Int} (hc : 0 ≤ c ∧ c < p) :
    evF dfs fl sp n (Str.ofString "_law_are_sums_right") [.p (.int p), .p (.int (k : Nat)), .p (tabP p (mkM k f)), .p (tabP p (mkM k g)), .p (.int c)] S = .ok (.b true) S := by
  refine gives H2 (by omega) rfl ?_
  have pp := hp.pos
  have lc1 : lim 1 := c_lim (by omega)
  have lcm : lim (-1) := c_lim (by omega)
  have a1 := l_each (fl := fl) (sp := sp) (n := n - 1) (S := S) (f := f) (g := g) (k := k) HX.each (by omega) hp lc1 hg hk
  have a2 := l_each (fl := fl) (sp := sp) (n := n - 1) (S := S) (f := f) (g := g) (k := k) HX.each (by omega) hp lcm hg hk
  have a0 := l_unit (fl := fl) (sp := sp) (n := n - 1) (S := S) (k := k) (c := 0) H (by omega) hk
  have zz : (fun i j : Nat => if i = j then (0 : Int) else 0) = zerF := by
    funext i j
    simp [zerF]
  rw [zz] at a0
  have a3 := l_each (fl := fl) (sp := sp) (n := n - 1) (S := S) (f := zerF) (g := f) (k := k) HX.each (by omega) hp (limP hp hc) hf hk
  rw [show addF p c zerF f = timF p c f by funext i j; simp [addF, zerF, timF]] at a3
  have b1 := c_added (fl := fl) (sp := sp) (n := n - 1) (S := S) O.added O.table_sum A (by omega) hp hf hg h1 hk
  have b2 := c_taken (fl := fl) (sp := sp) (n := n - 1) (S := S) O.taken O.table_sum A (by omega) hp hf hg h1 hk
  have b3 := c_times (fl := fl) (sp := sp) (n := n - 1) (S := S) O.times A (by omega) hp hf h1 hk hc
  have m1 := c_mirror (fl := fl) (sp := sp) (n := n - 1) (S := S) O.mirror A (by omega) hp hf h1 hk
  have m2 := c_mirror (fl := fl) (sp := sp) (n := n - 1) (S := S) O.mirror A (by omega) hp (in_sw hf) h1 hk
  rw [show swF (swF f) = f from rfl] at m2
  have d1 := c_diagonal_sum (fl := fl) (sp := sp) (n := n - 1) (S := S) O.diagonal_sum O.sum_along A (by omega) hp hf h1 hk
  have d2 := c_diagonal_sum (fl := fl) (sp := sp) (n := n - 1) (S := S) O.diagonal_sum O.sum_along A (by omega) hp hg h1 hk
  have t3 := c_times (fl := fl) (sp := sp) (n := n - 1) (S := S) (c := p - 1) O.times A (by omega) hp hg h1 hk (by omega)
  have b4 := c_added (fl := fl) (sp := sp) (n := n - 1) (S := S) O.added O.table_sum A (by omega) hp hf (in_tim (c := p - 1) (f := g) hp.p0) h1 hk
  rw [add_tim] at b4
  have b5 := c_taken (fl := fl) (sp := sp) (n := n - 1) (S := S) O.taken O.table_sum A (by omega) hp hf hf h1 hk
  rw [add_self] at b5
  have z1 := c_zero (fl := fl) (sp := sp) (n := n - 1) (S := S) O.zero O.one A (by omega) hp h1 hk
  have l1 := l_mirror (fl := fl) (sp := sp) (n := n - 1) (S := S) (f := f) HX.mirror (by omega) hk
  have l2 := l_sum (fl := fl) (sp := sp) (n := n - 1) (S := S) (f := f) HX.sum (by omega) hp hk
  have l3 := l_sum (fl := fl) (sp := sp) (n := n - 1) (S := S) (f := g) HX.sum (by omega) hp hk
  let X : PyData := .tuple [tabP p (mkM k (addF p 1 f g)), tabP p (mkM k (addF p (-1) f g)), tabP p (mkM k (timF p c f))]
  let Y : PyData := .tuple [tabP p (mkM k (swF f)), tabP p (mkM k f), .int (traF p k f), .int (traF p k g), tabP p (mkM k (addF p (-1) f g)), tabP p (mkM k zerF)]
  have r1 : opBn false .repr [.p X] S = .ok (.s X.shown) S := (Sh.tup (m := 3) (mem3 (sh_tab hp hk (in_add hp.p0)) (sh_tab hp hk (in_add hp.p0)) (sh_tab hp hk (in_tim hp.p0))) (by simp)).repr (by omega) (by omega)
  have si : ∀ {f}, Sh 9500 3 (.int (traF p k f)) := (sh_lt hp (mod_in hp.p0)).le (by omega) (by omega)
  have r2 : opBn false .repr [.p Y] S = .ok (.s Y.shown) S := (Sh.tup (m := 6) (mem6 (sh_tab hp hk (in_sw hf)) (sh_tab hp hk hf) si si (sh_tab hp hk (in_add hp.p0)) (sh_tab hp hk (in_zer hp.p0))) (by simp)).repr (by omega) (by omega)
  have e1 : opIdx (.p X) (.p (.int 1)) S = .ok (.p (tabP p (mkM k (addF p (-1) f g)))) S := by simp [X]
  have k3 : mkT [.p (tabP p (mkM k (addF p 1 f g))), .p (tabP p (mkM k (addF p (-1) f g))), .p (tabP p (mkM k (timF p c f)))] = .p X := mk3
  have k6 : mkT [.p (tabP p (mkM k (swF f))), .p (tabP p (mkM k f)), .p (.int (traF p k f)), .p (.int (traF p k g)), .p (tabP p (mkM k (addF p (-1) f g))), .p (tabP p (mkM k zerF))] = .p Y := mk6
  have k2 : mkT [.p (.int p), .p (matP (mkM k (swF f)))] = .p (tabP p (mkM k (swF f))) := mk2
  clear_value X Y
  rw [sh__law_are_sums_right]
  simp only [List.map_cons, List.map_nil, List.cons_append, List.nil_append, List.replicate]
  simp [arrD, t1, a1, a2, a0, a3, sz3, k3]
  simp [arrD, b1, b2, b3, sz3, k3, r1]
  simp [arrD, m1, m2, d1, d2, t3, b4, b5, sz6, k6, r2, l1, sz2, k2, l2, l3, e1, z1]
end
end Lb

set_option linter.all false
set_option maxRecDepth 100000
set_option maxHeartbeats 4000000
namespace Lb
open PySem PySem.Spec L2 Dl
/-! LibJ: _law_are_products_right. -/
section
variable {dfs : List Df} {fl : List (Str × Str)} {sp : Fns → Fns} {S : Sto} {n : Nat} {q : DrK} {l c N k : Nat} {p : Int} {f g h : Nat → Nat → Int}
theorem l_prods (H : HLaw dfs) (HX : HLawX dfs) (O : HOps dfs) (A : HAll dfs) (D1 : HDrw dfs q) (R : HasB dfs (Str.ofString "_law_row") 3 6 B__law_row) (H2 : HasB dfs (Str.ofString "_law_are_products_right") 6 15 B__law_are_products_right) (hn : 10 ≤ n) (hp : Pr p) (h1 : 1 ≤ k) (hk : k ≤ 8) (hf : In2 p f) (hg : In2 p g) (hh : In2 p h) (hd : Dk l c (N + 40) S) :
    ∃ r S', evF dfs fl sp n (Str.ofString "_law_are_products_right") [.loc l, .p (.int p), .p (.int (k : Nat)), .p (tabP p (mkM k f)), .p (tabP p (mkM k g)), .p (tabP p (mkM k h))] S = .ok (.p r) S' ∧ r = .bool true ∧ Go l c N S S' := by
  refine givesS H2 (by omega) rfl ?_
  have pp := hp.pos
  obtain ⟨u, S1, e1, u0, u1, g1⟩ := l_draw (fl := fl) (sp := sp) (n := n - 1) (N := N + 39) (many := p) D1 (by omega) hd (by omega) (by omega)
  have iu := in_unit pp.1
  have ifg := in_mul (k := k) (f := f) (g := g) hp.p0
  have y0 : ∀ S, evF dfs fl sp (n - 1) (Str.ofString "_law_by") [.p (.int p), .p (matP (mkM k f)), .p (matP (mkM k g))] S = .ok (.p (matP (mkM k (mulF p k f g)))) S := fun S => l_by H (by omega) hp hf hg h1 hk
  have pr : ∀ {f g : Nat → Nat → Int} {S}, In2 p f → In2 p g → evF dfs fl sp (n - 1) (Str.ofString "product") [.p (tabP p (mkM k f)), .p (tabP p (mkM k g))] S = .ok (.p (tabP p (mkM k (mulF p k f g)))) S := fun hf hg => c_product O.product A (by omega) hp hf hg h1 hk
  have ad : ∀ {f g : Nat → Nat → Int} {S}, In2 p f → In2 p g → evF dfs fl sp (n - 1) (Str.ofString "added") [.p (tabP p (mkM k f)), .p (tabP p (mkM k g))] S = .ok (.p (tabP p (mkM k (addF p 1 f g)))) S := fun hf hg => c_added O.added O.table_sum A (by omega) hp hf hg h1 hk
  have ti : ∀ {f : Nat → Nat → Int} {S}, In2 p f → evF dfs fl sp (n - 1) (Str.ofString "times") [.p (tabP p (mkM k f)), .p (.int u)] S = .ok (.p (tabP p (mkM k (timF p u f)))) S := fun hf => c_times O.times A (by omega) hp hf h1 hk ⟨u0, u1⟩
  have mi : ∀ {f : Nat → Nat → Int} {S}, In2 p f → evF dfs fl sp (n - 1) (Str.ofString "mirror") [.p (tabP p (mkM k f))] S = .ok (.p (tabP p (mkM k (swF f)))) S := fun hf => c_mirror O.mirror A (by omega) hp hf h1 hk
  have ds : ∀ {f : Nat → Nat → Int} {S}, In2 p f → evF dfs fl sp (n - 1) (Str.ofString "diagonal_sum") [.p (tabP p (mkM k f))] S = .ok (.i (traF p k f)) S := fun hf => c_diagonal_sum O.diagonal_sum O.sum_along A (by omega) hp hf h1 hk
  have le : ∀ {f : Nat → Nat → Int} {r : Nat → Int} {S}, In2 p f → In1 p r → evF dfs fl sp (n - 1) (Str.ofString "led") [.p (tabP p (mkM k f)), .p (rowP (mkR k r))] S = .ok (.p (rowP (mkR k (ledF p k f r)))) S := fun hf hr => c_led O.led A (by omega) hp hf hr h1 hk
  have ll : ∀ {f : Nat → Nat → Int} {r : Nat → Int} {S}, In2 p f → In1 p r → evF dfs fl sp (n - 1) (Str.ofString "_law_led") [.p (.int p), .p (matP (mkM k f)), .p (rowP (mkR k r))] S = .ok (.p (rowP (mkR k (ledF p k f r)))) S := fun hf hr => l_led HX.led (by omega) hp hf hr hk
  have on : ∀ {S}, evF dfs fl sp (n - 1) (Str.ofString "one") [.p (.int p), .p (.int (k : Nat))] S = .ok (.p (tabP p (mkM k unitF))) S := c_one O.one A (by omega) hp h1 hk
  have ze : ∀ {S}, evF dfs fl sp (n - 1) (Str.ofString "zero") [.p (.int p), .p (.int (k : Nat))] S = .ok (.p (tabP p (mkM k zerF))) S := c_zero O.zero O.one A (by omega) hp h1 hk
  have rt : ∀ {f : Nat → Nat → Int} {S}, In2 p f → opBn false .repr [.p (tabP p (mkM k f))] S = .ok (.s (tabP p (mkM k f)).shown) S := fun hf => (sh_tab hp hk hf).repr (by omega) (by omega)
  have ri : ∀ {x : Int} {S}, 0 ≤ x ∧ x < p → opBn false .repr [.p (.int x)] S = .ok (.s (PyData.int x).shown) S := fun hx => (sh_lt hp hx).repr (by omega) (by omega)
  have q1 : mulF p k f (mulF p k g h) = mulF p k (mulF p k f g) h := (mul_assocF f g h).symm
  have q2 : mkM k (mulF p k f unitF) = mkM k f := mkM_ext fun i j _ hj => mul_unitF hf hj
  have q3 : mkM k (mulF p k unitF f) = mkM k f := mkM_ext fun i j hi _ => unit_mulF hf hi
  let X : PyData := .tuple [tabP p (mkM k (mulF p k f g)), tabP p (mkM k (mulF p k f g)), tabP p (mkM k (mulF p k (mulF p k f g) h))]
  let Y : PyData := .tuple [tabP p (mkM k (timF p u (mulF p k f g))), tabP p (mkM k (mulF p k (swF g) (swF f)))]
  let Z : PyData := .tuple [tabP p (mkM k f), tabP p (mkM k f), tabP p (mkM k zerF)]
  have rX : ∀ {S}, opBn false .repr [.p X] S = .ok (.s X.shown) S := (Sh.tup (m := 3) (mem3 (sh_tab hp hk ifg) (sh_tab hp hk ifg) (sh_tab hp hk (in_mul hp.p0))) (by simp)).repr (by omega) (by omega)
  have rY : ∀ {S}, opBn false .repr [.p Y] S = .ok (.s Y.shown) S := (Sh.tup (m := 2) (mem2 (sh_tab hp hk (in_tim hp.p0)) (sh_tab hp hk (in_mul hp.p0))) (by simp)).repr (by omega) (by omega)
  have rZ : ∀ {S}, opBn false .repr [.p Z] S = .ok (.s Z.shown) S := (Sh.tup (m := 3) (mem3 (sh_tab hp hk hf) (sh_tab hp hk hf) (sh_tab hp hk (in_zer hp.p0))) (by simp)).repr (by omega) (by omega)
  have kX : mkT [.p (tabP p (mkM k (mulF p k f g))), .p (tabP p (mkM k (mulF p k f g))), .p (tabP p (mkM k (mulF p k (mulF p k f g) h)))] = .p X := mk3
  have kY : mkT [.p (tabP p (mkM k (timF p u (mulF p k f g)))), .p (tabP p (mkM k (mulF p k (swF g) (swF f))))] = .p Y := mk2
  have kZ : mkT [.p (tabP p (mkM k f)), .p (tabP p (mkM k f)), .p (tabP p (mkM k zerF))] = .p Z := mk3
  have k2 : mkT [.p (.int p), .p (matP (mkM k (mulF p k f g)))] = .p (tabP p (mkM k (mulF p k f g))) := mk2
  have k2' : mkT [.p (tabP p (mkM k (mulF p k f g))), .p (.int u)] = .p (.tuple [tabP p (mkM k (mulF p k f g)), .int u]) := mk2
  clear_value X Y Z
  have body : ∀ (y6 y12 y13 y14 : Option D) (M : Nat) (S : Sto), Dk l c (M + 10) S → ∃ z12 z13 z14 S', (sSeq (sAsg (fCall (evF dfs fl sp (n - 1) (Str.ofString "_law_row")) 3 0 [.inl 0, .inl 1, .inl 2] (fCons (fVar 0) (fCons (fVar 1) (fCons (fVar 2) fNil))) fNil) (tgNm 12)) (sSeq (sAsg (fCall (evF dfs fl sp (n - 1) (Str.ofString "_law_led")) 3 0 [.inl 0, .inl 1, .inl 2] (fCons (fVar 1) (fCons (fIdx (fVar 3) (fC (.int 1))) (fCons (fVar 12) fNil))) fNil) (tgNm 13)) (sSeq (sAsg (fTup (fCons (fCall (evF dfs fl sp (n - 1) (Str.ofString "led")) 2 0 [.inl 0, .inl 1] (fCons (fVar 3) (fCons (fVar 12) fNil)) fNil) (fCons (fCall (evF dfs fl sp (n - 1) (Str.ofString "led")) 0 2 [.inl 1, .inl 0] fNil (fCons (fVar 12) (fCons (fVar 3) fNil))) (fCons (fCall (evF dfs fl sp (n - 1) (Str.ofString "led")) 2 0 [.inl 0, .inl 1] (fCons (fVar 4) (fCons (fVar 13) fNil)) fNil) (fCons (fCall (evF dfs fl sp (n - 1) (Str.ofString "led")) 2 0 [.inl 0, .inl 1] (fCons (fVar 8) (fCons (fVar 12) fNil)) fNil) fNil))))) (tgNm 14)) (sSeq (sIf (fTru (fCmp .NotEq (fBn false .repr (fCons (fVar 14) fNil)) (fBn false .repr (fCons (fTup (fCons (fVar 13) (fCons (fVar 13) (fCons (fCall (evF dfs fl sp (n - 1) (Str.ofString "_law_led")) 3 0 [.inl 0, .inl 1, .inl 2] (fCons (fVar 1) (fCons (fIdx (fVar 4) (fC (.int 1))) (fCons (fVar 13) fNil))) fNil) (fCons (fCall (evF dfs fl sp (n - 1) (Str.ofString "_law_led")) 3 0 [.inl 0, .inl 1, .inl 2] (fCons (fVar 1) (fCons (fIdx (fVar 4) (fC (.int 1))) (fCons (fVar 13) fNil))) fNil) fNil))))) fNil)))) (sSeq (sRet (fC (.bool false))) sNil) sNil) sNil))))
      [some (.loc l), some (.i p), some (.i (k : Nat)), some (.p (tabP p (mkM k f))), some (.p (tabP p (mkM k g))), some (.p (tabP p (mkM k h))), y6, none, some (.p (tabP p (mkM k (mulF p k f g)))), some (.i u), some (.p (tabP p (mkM k unitF))), some (.p (tabP p (mkM k zerF))), y12, y13, y14] S =
      .nx [some (.loc l), some (.i p), some (.i (k : Nat)), some (.p (tabP p (mkM k f))), some (.p (tabP p (mkM k g))), some (.p (tabP p (mkM k h))), y6, none, some (.p (tabP p (mkM k (mulF p k f g)))), some (.i u), some (.p (tabP p (mkM k unitF))), some (.p (tabP p (mkM k zerF))), z12, z13, z14] S' ∧ Go l c M S S' := by
    intro y6 y12 y13 y14 M S hd
    obtain ⟨_, S', e, ⟨r, hr, rfl⟩, go⟩ := l_row (fl := fl) (sp := sp) (n := n - 1) (N := M) D1 R (by omega) hp h1 hk hd
    have i1 := in_led (k := k) (f := f) (r := r) hp.p0
    have i2 := in_led (k := k) (f := g) (r := ledF p k f r) hp.p0
    let W : PyData := .tuple [rowP (mkR k (ledF p k f r)), rowP (mkR k (ledF p k f r)), rowP (mkR k (ledF p k g (ledF p k f r))), rowP (mkR k (ledF p k g (ledF p k f r)))]
    have rW : opBn false .repr [.p W] S' = .ok (.s W.shown) S' := (Sh.tup (m := 4) (mem4 (sh_row hp hk i1) (sh_row hp hk i1) (sh_row hp hk i2) (sh_row hp hk i2)) (by simp)).repr (by omega) (by omega)
    have kW : mkT [.p (rowP (mkR k (ledF p k f r))), .p (rowP (mkR k (ledF p k f r))), .p (rowP (mkR k (ledF p k g (ledF p k f r)))), .p (rowP (mkR k (ledF p k g (ledF p k f r))))] = .p W := mk4
    have x1 := le (S := S') hf hr
    have x2 := le (S := S') hg i1
    have x3 := le (S := S') ifg hr
    rw [led_mulF] at x3
    have x4 := ll (S := S') hf hr
    have x5 := ll (S := S') hg i1
    clear_value W
    refine ⟨some (.p (rowP (mkR k r))), some (.p (rowP (mkR k (ledF p k f r)))), some (.p W), S', ?_, go⟩
    simp [arrD, e, t1, x1, x2, x3, x4, x5, sz4, kW, rW]
  obtain ⟨a12, a13, a14, S2, b1, g2⟩ := body (some (.i 0)) none none none (N + 20) S1 (g1.1.le (by omega))
  obtain ⟨b12, b13, b14, S3, b2, g3⟩ := body (some (.i 1)) a12 a13 a14 N S2 (g2.1.le (by omega))
  have loop : ∀ B, B [some (.loc l), some (.i p), some (.i (k : Nat)), some (.p (tabP p (mkM k f))), some (.p (tabP p (mkM k g))), some (.p (tabP p (mkM k h))), some (.i 0), none, some (.p (tabP p (mkM k (mulF p k f g)))), some (.i u), some (.p (tabP p (mkM k unitF))), some (.p (tabP p (mkM k zerF))), none, none, none] S1 = .nx [some (.loc l), some (.i p), some (.i (k : Nat)), some (.p (tabP p (mkM k f))), some (.p (tabP p (mkM k g))), some (.p (tabP p (mkM k h))), some (.i 0), none, some (.p (tabP p (mkM k (mulF p k f g)))), some (.i u), some (.p (tabP p (mkM k unitF))), some (.p (tabP p (mkM k zerF))), a12, a13, a14] S2 →
      B [some (.loc l), some (.i p), some (.i (k : Nat)), some (.p (tabP p (mkM k f))), some (.p (tabP p (mkM k g))), some (.p (tabP p (mkM k h))), some (.i 1), none, some (.p (tabP p (mkM k (mulF p k f g)))), some (.i u), some (.p (tabP p (mkM k unitF))), some (.p (tabP p (mkM k zerF))), a12, a13, a14] S2 = .nx [some (.loc l), some (.i p), some (.i (k : Nat)), some (.p (tabP p (mkM k f))), some (.p (tabP p (mkM k g))), some (.p (tabP p (mkM k h))), some (.i 1), none, some (.p (tabP p (mkM k (mulF p k f g)))), some (.i u), some (.p (tabP p (mkM k unitF))), some (.p (tabP p (mkM k zerF))), b12, b13, b14] S3 →
      sFor (fRng1 (fC (.int 2))) (tgNm 6) B [some (.loc l), some (.i p), some (.i (k : Nat)), some (.p (tabP p (mkM k f))), some (.p (tabP p (mkM k g))), some (.p (tabP p (mkM k h))), none, none, some (.p (tabP p (mkM k (mulF p k f g)))), some (.i u), some (.p (tabP p (mkM k unitF))), some (.p (tabP p (mkM k zerF))), none, none, none] S1 = .nx [some (.loc l), some (.i p), some (.i (k : Nat)), some (.p (tabP p (mkM k f))), some (.p (tabP p (mkM k g))), some (.p (tabP p (mkM k h))), some (.i 1), none, some (.p (tabP p (mkM k (mulF p k f g)))), some (.i u), some (.p (tabP p (mkM k unitF))), some (.p (tabP p (mkM k zerF))), b12, b13, b14] S3 := by
    intro B h1 h2
    rw [s_for, i_r1 (n := 2) (by simp) (by omega), out_ok]
    rw [show (List.range 2).map (fun k => D.i (k : Nat)) = [.i 0, .i 1] from rfl]
    simp [forL, h1, h2]
  have last := lc_rows (S := S3) (ρ := [some (.loc l), some (.i p), some (.i (k : Nat)), some (.p (tabP p (mkM k f))), some (.p (tabP p (mkM k g))), some (.p (tabP p (mkM k h))), some (.i 1), none, some (.p (tabP p (mkM k (mulF p k f g)))), some (.i u), some (.p (tabP p (mkM k unitF))), some (.p (tabP p (mkM k zerF))), b12, b13, b14]) (own := [12]) (v := 12) (F := fIdx (fVar 10) (fC (.int 1))) (x := matP (mkM k unitF)) (Fe := fCall (evF dfs fl sp (n - 1) (Str.ofString "led")) 2 0 [.inl 0, .inl 1] (fCons (fVar 8) (fCons (fVar 12) fNil)) fNil) (fun i => rowP (mkR k (mulF p k f g i))) (by simp [t1]) fz_mat hk fun i hi => by
    have : mkR k (ledF p k (mulF p k f g) (unitF i)) = mkR k (mulF p k f g i) := mkR_ext fun j _ => led_unitF ifg hi j
    have x := le (S := S3) ifg (iu i)
    rw [this] at x
    simp [wipeD, arrD, x]
  have lp := loop _ b1 b2
  have e2 : opBn false .tup [.p (.list ((List.range k).map fun i => rowP (mkR k (mulF p k f g i))))] S3 = .ok (.p (matP (mkM k (mulF p k f g)))) S3 := by rw [matP_mk]; simp
  have p1 := pr (S := S1) hf hg
  have p2 := pr (S := S1) ifg hh
  have p3 := pr (S := S1) hg hh
  have p4 := pr (S := S1) hf (in_mul (k := k) (f := g) (g := h) hp.p0)
  rw [q1] at p4
  have p5 := ad (S := S1) hg hh
  have p6 := pr (S := S1) hf (in_add (c := 1) (f := g) (g := h) hp.p0)
  rw [mul_addF] at p6
  have p7 := pr (S := S1) hf hh
  have p8 := ad (S := S1) ifg (in_mul (k := k) (f := f) (g := h) hp.p0)
  have p9 := pr (S := S1) (in_add (c := 1) (f := g) (g := h) hp.p0) hf
  rw [add_mulF] at p9
  have p10 := pr (S := S1) hg hf
  have p11 := pr (S := S1) hh hf
  have p12 := ad (S := S1) (in_mul (k := k) (f := g) (g := f) hp.p0) (in_mul (k := k) (f := h) (g := f) hp.p0)
  have p13 := ti (S := S1) hf
  have p14 := pr (S := S1) (in_tim (c := u) (f := f) hp.p0) hg
  rw [tim_mulF] at p14
  have p15 := mi (S := S1) ifg
  rw [sw_mulF] at p15
  have p16 := ti (S := S1) ifg
  have p17 := mi (S := S1) hf
  have p18 := mi (S := S1) hg
  have p19 := pr (S := S1) (in_sw hg) (in_sw hf)
  have p20 := pr (S := S1) hf iu
  rw [q2] at p20
  have p21 := pr (S := S1) iu hf
  rw [q3] at p21
  have p22 := pr (S := S1) hf (in_zer hp.p0)
  rw [mul_zerF] at p22
  have w1 := rt (S := S1) (in_add (c := 1) (f := mulF p k f g) (g := mulF p k f h) hp.p0)
  have w2 := rt (S := S1) (in_add (c := 1) (f := mulF p k g f) (g := mulF p k h f) hp.p0)
  have w3 := rt (S := S3) ifg
  have p23 := ds (S := S3) ifg
  have p24 := pr (S := S3) hg hf
  have p25 := ds (S := S3) (in_mul (k := k) (f := g) (g := f) hp.p0)
  rw [tra_mulF] at p25
  have w4 : opBn false .repr [.p (.int (traF p k (mulF p k f g)))] S3 = .ok (.s (PyData.int (traF p k (mulF p k f g))).shown) S3 := ri (mod_in hp.p0)
  have c1 := y0 S
  have st0 : (sAsg (fTup (fCons (fTup (fCons (fVar 1) (fCons (fCall (evF dfs fl sp (n - 1) (Str.ofString "_law_by")) 3 0 [.inl 0, .inl 1, .inl 2] (fCons (fVar 1) (fCons (fIdx (fVar 3) (fC (.int 1))) (fCons (fIdx (fVar 4) (fC (.int 1))) fNil))) fNil) fNil))) (fCons (fCall (evF dfs fl sp (n - 1) (Str.ofString "_law_draw")) 2 0 [.inl 0, .inl 1] (fCons (fVar 0) (fCons (fVar 1) fNil)) fNil) fNil))) (tgT 2 (tgCons (tgNm 8) (tgCons (tgNm 9) tgNil)))) [some (.loc l), some (.i p), some (.i (k : Nat)), some (.p (tabP p (mkM k f))), some (.p (tabP p (mkM k g))), some (.p (tabP p (mkM k h))), none, none, none, none, none, none, none, none, none] S = .nx [some (.loc l), some (.i p), some (.i (k : Nat)), some (.p (tabP p (mkM k f))), some (.p (tabP p (mkM k g))), some (.p (tabP p (mkM k h))), none, none, some (.p (tabP p (mkM k (mulF p k f g)))), some (.i u), none, none, none, none, none] S1 := by
    simp [arrD, t1, y0, k2, e1, k2', sz2]
  have st1 : (sIf (fTru (fCmp .NotEq (fBn false .repr (fCons (fTup (fCons (fCall (evF dfs fl sp (n - 1) (Str.ofString "product")) 2 0 [.inl 0, .inl 1] (fCons (fVar 3) (fCons (fVar 4) fNil)) fNil) (fCons (fCall (evF dfs fl sp (n - 1) (Str.ofString "product")) 0 2 [.inl 1, .inl 0] fNil (fCons (fVar 4) (fCons (fVar 3) fNil))) (fCons (fCall (evF dfs fl sp (n - 1) (Str.ofString "product")) 2 0 [.inl 0, .inl 1] (fCons (fVar 8) (fCons (fVar 5) fNil)) fNil) fNil)))) fNil)) (fBn false .repr (fCons (fTup (fCons (fVar 8) (fCons (fVar 8) (fCons (fCall (evF dfs fl sp (n - 1) (Str.ofString "product")) 2 0 [.inl 0, .inl 1] (fCons (fVar 3) (fCons (fCall (evF dfs fl sp (n - 1) (Str.ofString "product")) 2 0 [.inl 0, .inl 1] (fCons (fVar 4) (fCons (fVar 5) fNil)) fNil) fNil)) fNil) fNil)))) fNil)))) (sSeq (sRet (fC (.bool false))) sNil) sNil) [some (.loc l), some (.i p), some (.i (k : Nat)), some (.p (tabP p (mkM k f))), some (.p (tabP p (mkM k g))), some (.p (tabP p (mkM k h))), none, none, some (.p (tabP p (mkM k (mulF p k f g)))), some (.i u), none, none, none, none, none] S1 = .nx [some (.loc l), some (.i p), some (.i (k : Nat)), some (.p (tabP p (mkM k f))), some (.p (tabP p (mkM k g))), some (.p (tabP p (mkM k h))), none, none, some (.p (tabP p (mkM k (mulF p k f g)))), some (.i u), none, none, none, none, none] S1 := by
    simp [arrD, p1, p2, p3, p4, kX, sz3, rX]
  have st2 : (sIf (fTru (fCmp .NotEq (fBn false .repr (fCons (fCall (evF dfs fl sp (n - 1) (Str.ofString "product")) 2 0 [.inl 0, .inl 1] (fCons (fVar 3) (fCons (fCall (evF dfs fl sp (n - 1) (Str.ofString "added")) 2 0 [.inl 0, .inl 1] (fCons (fVar 4) (fCons (fVar 5) fNil)) fNil) fNil)) fNil) fNil)) (fBn false .repr (fCons (fCall (evF dfs fl sp (n - 1) (Str.ofString "added")) 2 0 [.inl 0, .inl 1] (fCons (fVar 8) (fCons (fCall (evF dfs fl sp (n - 1) (Str.ofString "product")) 2 0 [.inl 0, .inl 1] (fCons (fVar 3) (fCons (fVar 5) fNil)) fNil) fNil)) fNil) fNil)))) (sSeq (sRet (fC (.bool false))) sNil) sNil) [some (.loc l), some (.i p), some (.i (k : Nat)), some (.p (tabP p (mkM k f))), some (.p (tabP p (mkM k g))), some (.p (tabP p (mkM k h))), none, none, some (.p (tabP p (mkM k (mulF p k f g)))), some (.i u), none, none, none, none, none] S1 = .nx [some (.loc l), some (.i p), some (.i (k : Nat)), some (.p (tabP p (mkM k f))), some (.p (tabP p (mkM k g))), some (.p (tabP p (mkM k h))), none, none, some (.p (tabP p (mkM k (mulF p k f g)))), some (.i u), none, none, none, none, none] S1 := by
    simp [arrD, p5, p6, p7, p8, w1]
  have st3 : (sIf (fTru (fCmp .NotEq (fBn false .repr (fCons (fCall (evF dfs fl sp (n - 1) (Str.ofString "product")) 2 0 [.inl 0, .inl 1] (fCons (fCall (evF dfs fl sp (n - 1) (Str.ofString "added")) 2 0 [.inl 0, .inl 1] (fCons (fVar 4) (fCons (fVar 5) fNil)) fNil) (fCons (fVar 3) fNil)) fNil) fNil)) (fBn false .repr (fCons (fCall (evF dfs fl sp (n - 1) (Str.ofString "added")) 2 0 [.inl 0, .inl 1] (fCons (fCall (evF dfs fl sp (n - 1) (Str.ofString "product")) 2 0 [.inl 0, .inl 1] (fCons (fVar 4) (fCons (fVar 3) fNil)) fNil) (fCons (fCall (evF dfs fl sp (n - 1) (Str.ofString "product")) 2 0 [.inl 0, .inl 1] (fCons (fVar 5) (fCons (fVar 3) fNil)) fNil) fNil)) fNil) fNil)))) (sSeq (sRet (fC (.bool false))) sNil) sNil) [some (.loc l), some (.i p), some (.i (k : Nat)), some (.p (tabP p (mkM k f))), some (.p (tabP p (mkM k g))), some (.p (tabP p (mkM k h))), none, none, some (.p (tabP p (mkM k (mulF p k f g)))), some (.i u), none, none, none, none, none] S1 = .nx [some (.loc l), some (.i p), some (.i (k : Nat)), some (.p (tabP p (mkM k f))), some (.p (tabP p (mkM k g))), some (.p (tabP p (mkM k h))), none, none, some (.p (tabP p (mkM k (mulF p k f g)))), some (.i u), none, none, none, none, none] S1 := by
    simp [arrD, p5, p9, p10, p11, p12, w2]
  have st4 : (sIf (fTru (fCmp .NotEq (fBn false .repr (fCons (fTup (fCons (fCall (evF dfs fl sp (n - 1) (Str.ofString "product")) 2 0 [.inl 0, .inl 1] (fCons (fCall (evF dfs fl sp (n - 1) (Str.ofString "times")) 2 0 [.inl 0, .inl 1] (fCons (fVar 3) (fCons (fVar 9) fNil)) fNil) (fCons (fVar 4) fNil)) fNil) (fCons (fCall (evF dfs fl sp (n - 1) (Str.ofString "mirror")) 1 0 [.inl 0] (fCons (fVar 8) fNil) fNil) fNil))) fNil)) (fBn false .repr (fCons (fTup (fCons (fCall (evF dfs fl sp (n - 1) (Str.ofString "times")) 2 0 [.inl 0, .inl 1] (fCons (fVar 8) (fCons (fVar 9) fNil)) fNil) (fCons (fCall (evF dfs fl sp (n - 1) (Str.ofString "product")) 2 0 [.inl 0, .inl 1] (fCons (fCall (evF dfs fl sp (n - 1) (Str.ofString "mirror")) 1 0 [.inl 0] (fCons (fVar 4) fNil) fNil) (fCons (fCall (evF dfs fl sp (n - 1) (Str.ofString "mirror")) 1 0 [.inl 0] (fCons (fVar 3) fNil) fNil) fNil)) fNil) fNil))) fNil)))) (sSeq (sRet (fC (.bool false))) sNil) sNil) [some (.loc l), some (.i p), some (.i (k : Nat)), some (.p (tabP p (mkM k f))), some (.p (tabP p (mkM k g))), some (.p (tabP p (mkM k h))), none, none, some (.p (tabP p (mkM k (mulF p k f g)))), some (.i u), none, none, none, none, none] S1 = .nx [some (.loc l), some (.i p), some (.i (k : Nat)), some (.p (tabP p (mkM k f))), some (.p (tabP p (mkM k g))), some (.p (tabP p (mkM k h))), none, none, some (.p (tabP p (mkM k (mulF p k f g)))), some (.i u), none, none, none, none, none] S1 := by
    simp [arrD, p13, p14, p15, p16, p17, p18, p19, kY, sz2, rY]
  have st5 : (sPar 10 11 (fCons (fCall (evF dfs fl sp (n - 1) (Str.ofString "one")) 2 0 [.inl 0, .inl 1] (fCons (fVar 1) (fCons (fVar 2) fNil)) fNil) (fCons (fCall (evF dfs fl sp (n - 1) (Str.ofString "zero")) 0 2 [.inl 1, .inl 0] fNil (fCons (fVar 2) (fCons (fVar 1) fNil))) fNil))) [some (.loc l), some (.i p), some (.i (k : Nat)), some (.p (tabP p (mkM k f))), some (.p (tabP p (mkM k g))), some (.p (tabP p (mkM k h))), none, none, some (.p (tabP p (mkM k (mulF p k f g)))), some (.i u), none, none, none, none, none] S1 = .nx [some (.loc l), some (.i p), some (.i (k : Nat)), some (.p (tabP p (mkM k f))), some (.p (tabP p (mkM k g))), some (.p (tabP p (mkM k h))), none, none, some (.p (tabP p (mkM k (mulF p k f g)))), some (.i u), some (.p (tabP p (mkM k unitF))), some (.p (tabP p (mkM k zerF))), none, none, none] S1 := by
    simp [arrD, on, ze]
  have st6 : (sIf (fTru (fCmp .NotEq (fBn false .repr (fCons (fTup (fCons (fCall (evF dfs fl sp (n - 1) (Str.ofString "product")) 2 0 [.inl 0, .inl 1] (fCons (fVar 3) (fCons (fVar 10) fNil)) fNil) (fCons (fCall (evF dfs fl sp (n - 1) (Str.ofString "product")) 2 0 [.inl 0, .inl 1] (fCons (fVar 10) (fCons (fVar 3) fNil)) fNil) (fCons (fCall (evF dfs fl sp (n - 1) (Str.ofString "product")) 2 0 [.inl 0, .inl 1] (fCons (fVar 3) (fCons (fVar 11) fNil)) fNil) fNil)))) fNil)) (fBn false .repr (fCons (fTup (fCons (fVar 3) (fCons (fVar 3) (fCons (fVar 11) fNil)))) fNil)))) (sSeq (sRet (fC (.bool false))) sNil) sNil) [some (.loc l), some (.i p), some (.i (k : Nat)), some (.p (tabP p (mkM k f))), some (.p (tabP p (mkM k g))), some (.p (tabP p (mkM k h))), none, none, some (.p (tabP p (mkM k (mulF p k f g)))), some (.i u), some (.p (tabP p (mkM k unitF))), some (.p (tabP p (mkM k zerF))), none, none, none] S1 = .nx [some (.loc l), some (.i p), some (.i (k : Nat)), some (.p (tabP p (mkM k f))), some (.p (tabP p (mkM k g))), some (.p (tabP p (mkM k h))), none, none, some (.p (tabP p (mkM k (mulF p k f g)))), some (.i u), some (.p (tabP p (mkM k unitF))), some (.p (tabP p (mkM k zerF))), none, none, none] S1 := by
    simp [arrD, p20, p21, p22, kZ, sz3, rZ]
  have st7 : (sFor (fRng1 (fC (.int 2))) (tgNm 6) (sSeq (sAsg (fCall (evF dfs fl sp (n - 1) (Str.ofString "_law_row")) 3 0 [.inl 0, .inl 1, .inl 2] (fCons (fVar 0) (fCons (fVar 1) (fCons (fVar 2) fNil))) fNil) (tgNm 12)) (sSeq (sAsg (fCall (evF dfs fl sp (n - 1) (Str.ofString "_law_led")) 3 0 [.inl 0, .inl 1, .inl 2] (fCons (fVar 1) (fCons (fIdx (fVar 3) (fC (.int 1))) (fCons (fVar 12) fNil))) fNil) (tgNm 13)) (sSeq (sAsg (fTup (fCons (fCall (evF dfs fl sp (n - 1) (Str.ofString "led")) 2 0 [.inl 0, .inl 1] (fCons (fVar 3) (fCons (fVar 12) fNil)) fNil) (fCons (fCall (evF dfs fl sp (n - 1) (Str.ofString "led")) 0 2 [.inl 1, .inl 0] fNil (fCons (fVar 12) (fCons (fVar 3) fNil))) (fCons (fCall (evF dfs fl sp (n - 1) (Str.ofString "led")) 2 0 [.inl 0, .inl 1] (fCons (fVar 4) (fCons (fVar 13) fNil)) fNil) (fCons (fCall (evF dfs fl sp (n - 1) (Str.ofString "led")) 2 0 [.inl 0, .inl 1] (fCons (fVar 8) (fCons (fVar 12) fNil)) fNil) fNil))))) (tgNm 14)) (sSeq (sIf (fTru (fCmp .NotEq (fBn false .repr (fCons (fVar 14) fNil)) (fBn false .repr (fCons (fTup (fCons (fVar 13) (fCons (fVar 13) (fCons (fCall (evF dfs fl sp (n - 1) (Str.ofString "_law_led")) 3 0 [.inl 0, .inl 1, .inl 2] (fCons (fVar 1) (fCons (fIdx (fVar 4) (fC (.int 1))) (fCons (fVar 13) fNil))) fNil) (fCons (fCall (evF dfs fl sp (n - 1) (Str.ofString "_law_led")) 3 0 [.inl 0, .inl 1, .inl 2] (fCons (fVar 1) (fCons (fIdx (fVar 4) (fC (.int 1))) (fCons (fVar 13) fNil))) fNil) fNil))))) fNil)))) (sSeq (sRet (fC (.bool false))) sNil) sNil) sNil))))) [some (.loc l), some (.i p), some (.i (k : Nat)), some (.p (tabP p (mkM k f))), some (.p (tabP p (mkM k g))), some (.p (tabP p (mkM k h))), none, none, some (.p (tabP p (mkM k (mulF p k f g)))), some (.i u), some (.p (tabP p (mkM k unitF))), some (.p (tabP p (mkM k zerF))), none, none, none] S1 = .nx [some (.loc l), some (.i p), some (.i (k : Nat)), some (.p (tabP p (mkM k f))), some (.p (tabP p (mkM k g))), some (.p (tabP p (mkM k h))), some (.i 1), none, some (.p (tabP p (mkM k (mulF p k f g)))), some (.i u), some (.p (tabP p (mkM k unitF))), some (.p (tabP p (mkM k zerF))), b12, b13, b14] S3 := by
    exact lp
  have st8 : (sAsg (fBn false .tup (fCons (fLc false (fSeq (fIdx (fVar 10) (fC (.int 1)))) (.nm 12) [12] fYes (fCall (evF dfs fl sp (n - 1) (Str.ofString "led")) 2 0 [.inl 0, .inl 1] (fCons (fVar 8) (fCons (fVar 12) fNil)) fNil)) fNil)) (tgNm 7)) [some (.loc l), some (.i p), some (.i (k : Nat)), some (.p (tabP p (mkM k f))), some (.p (tabP p (mkM k g))), some (.p (tabP p (mkM k h))), some (.i 1), none, some (.p (tabP p (mkM k (mulF p k f g)))), some (.i u), some (.p (tabP p (mkM k unitF))), some (.p (tabP p (mkM k zerF))), b12, b13, b14] S3 = .nx [some (.loc l), some (.i p), some (.i (k : Nat)), some (.p (tabP p (mkM k f))), some (.p (tabP p (mkM k g))), some (.p (tabP p (mkM k h))), some (.i 1), some (.p (matP (mkM k (mulF p k f g)))), some (.p (tabP p (mkM k (mulF p k f g)))), some (.i u), some (.p (tabP p (mkM k unitF))), some (.p (tabP p (mkM k zerF))), b12, b13, b14] S3 := by
    simp [last, e2]
  refine ⟨.bool true, S3, ?_, rfl, (g1.trans g2).trans g3⟩
  rw [sh__law_are_products_right]
  refine seq_nx st0 ?_
  refine seq_nx st1 ?_
  refine seq_nx st2 ?_
  refine seq_nx st3 ?_
  refine seq_nx st4 ?_
  refine seq_nx st5 ?_
  refine seq_nx st6 ?_
  refine seq_nx st7 ?_
  refine seq_nx st8 ?_
  simp [arrD, k2, sz2, w3, p23, p24, p25, w4]
end
/-- a loop of two turns -/
theorem for2 {F : Slots → Sto → Res D} {B : Slots → Sto → Out} {i : Nat} {ρ ρ1 ρ2 : Slots} {S S1 S2 : Sto} (hF : F ρ S = .ok (.i 2) S) (h1 : B (ρ.set i (some (.i 0))) S = .nx ρ1 S1) (h2 : B (ρ1.set i (some (.i 1))) S1 = .nx ρ2 S2) :
    sFor (fRng1 F) (tgNm i) B ρ S = .nx ρ2 S2 := by
  rw [s_for, i_r1 (n := 2) hF (by omega), out_ok]
  rw [show (List.range 2).map (fun k => D.i (k : Nat)) = [.i 0, .i 1] from rfl]
  simp [forL, h1, h2]
end Lb

set_option Elab.async false
set_option linter.all false
set_option maxRecDepth 100000
set_option maxHeartbeats 16000000
namespace Lw
open PySem PySem.Spec PyProof.Rows L2 Dl

/-! the text by places -/
def top (i : Nat) : Stmt := PySem.Challenge.pw_fewfolds_k02_whole_sums_products_and_row.main.body.getD i (.Pass ⟨0, 0, 0, 0⟩)
def b_law : Sms := (.cons (.asg (.nm 1) (.call (Str.ofString "_law_deck") [.inl 0] (.cons (.var 0) .nil) .nil)) (.cons (.for_ (.nm 2) (.r1 (.c (.int 2))) (.cons (.asg (.tup (.cons (.nm 3) (.cons (.nm 4) .nil))) (.tup (.cons (.call (Str.ofString "_law_pick") [.inl 0, .inl 1] (.cons (.var 1) (.cons (.lst false (.cons (.c (.int 2)) (.cons (.c (.int 3)) (.cons (.c (.int 5)) (.cons (.c (.int 7)) .nil))))) .nil)) .nil) (.cons (.call (Str.ofString "_law_pick") [.inl 0, .inl 1] (.cons (.var 1) (.cons (.lst false (.cons (.c (.int 2)) (.cons (.c (.int 3)) (.cons (.c (.int 4)) (.cons (.c (.int 1)) (.cons (.c (.int 5)) (.cons (.c (.int 3)) (.cons (.c (.int 8)) (.cons (.c (.int 6)) (.cons (.c (.int 7)) .nil)))))))))) .nil)) .nil) .nil)))) (.cons (.asg (.tup (.cons (.nm 5) (.cons (.nm 6) (.cons (.nm 7) .nil)))) (.lc false (.r1 (.c (.int 3))) (.nm 8) [((Str.ofString "k"), 8)] .no (.tup (.cons (.var 3) (.cons (.call (Str.ofString "_law_drawn") [.inl 0, .inl 1, .inl 2] (.cons (.var 1) (.cons (.var 3) (.cons (.var 4) .nil))) .nil) .nil))))) (.cons (.ite (.or (.not (.call (Str.ofString "_law_are_sums_right") [.inl 0, .inl 1, .inl 2, .inl 3, .inl 4] (.cons (.var 3) (.cons (.var 4) (.cons (.var 5) (.cons (.var 6) (.cons (.call (Str.ofString "_law_draw") [.inl 0, .inl 1] (.cons (.var 1) (.cons (.var 3) .nil)) .nil) .nil))))) .nil)) (.cons (.not (.call (Str.ofString "_law_are_products_right") [.inl 0, .inl 1, .inl 2, .inl 3, .inl 4, .inl 5] (.cons (.var 1) (.cons (.var 3) (.cons (.var 4) (.cons (.var 5) (.cons (.var 6) (.cons (.var 7) .nil)))))) .nil)) .nil)) (.cons (.ret (.c (.bool false))) .nil) .nil) .nil)))) (.cons (.ret (.c (.bool true))) .nil)))
def d_law : Df := ⟨(Str.ofString "law"), top 59, [(Str.ofString "script")], [(Str.ofString "script"), (Str.ofString "deck"), (Str.ofString "turn"), (Str.ofString "p"), (Str.ofString "n"), (Str.ofString "a"), (Str.ofString "b"), (Str.ofString "c"), (Str.ofString "k")], b_law⟩
def b__law_are_sums_right : Sms := (.cons (.par 7 8 (.cons (.idx (.var 2) (.c (.int 1))) (.cons (.idx (.var 3) (.c (.int 1))) .nil))) (.cons (.asg (.nm 5) (.tup (.cons (.call (Str.ofString "_law_each") [.inl 0, .inl 1, .inl 2, .inl 3] (.cons (.var 0) (.cons (.var 7) (.cons (.var 8) (.cons (.c (.int 1)) .nil)))) .nil) (.cons (.call (Str.ofString "_law_each") [.inl 0, .inl 1, .inl 2, .inl 3] (.cons (.var 0) (.cons (.var 7) (.cons (.var 8) (.cons (.neg (.c (.int 1))) .nil)))) .nil) (.cons (.call (Str.ofString "_law_each") [.inl 0, .inl 1, .inl 2, .inl 3] (.cons (.var 0) (.cons (.call (Str.ofString "_law_unit") [.inl 0, .inl 1] (.cons (.var 1) (.cons (.c (.int 0)) .nil)) .nil) (.cons (.var 7) (.cons (.var 4) .nil)))) .nil) .nil))))) (.cons (.ite (.cmp .NotEq (.bn false .repr (.cons (.tup (.cons (.call (Str.ofString "added") [.inl 0, .inl 1] (.cons (.var 2) (.cons (.var 3) .nil)) .nil) (.cons (.call (Str.ofString "taken") [.inl 0, .inl 1] (.cons (.var 2) (.cons (.var 3) .nil)) .nil) (.cons (.call (Str.ofString "times") [.inl 0, .inl 1] (.cons (.var 2) (.cons (.var 4) .nil)) .nil) .nil)))) .nil)) (.bn false .repr (.cons (.var 5) .nil))) (.cons (.ret (.c (.bool false))) .nil) .nil) (.cons (.ite (.cmp .NotEq (.bn false .repr (.cons (.tup (.cons (.call (Str.ofString "added") [.inl 1, .inl 0] .nil (.cons (.var 3) (.cons (.var 2) .nil))) (.cons (.call (Str.ofString "taken") [.inl 1, .inl 0] .nil (.cons (.var 3) (.cons (.var 2) .nil))) (.cons (.call (Str.ofString "times") [.inl 1, .inl 0] .nil (.cons (.var 4) (.cons (.var 2) .nil))) .nil)))) .nil)) (.bn false .repr (.cons (.var 5) .nil))) (.cons (.ret (.c (.bool false))) .nil) .nil) (.cons (.asg (.nm 6) (.tup (.cons (.call (Str.ofString "mirror") [.inl 0] (.cons (.var 2) .nil) .nil) (.cons (.call (Str.ofString "mirror") [.inl 0] .nil (.cons (.call (Str.ofString "mirror") [.inl 0] (.cons (.var 2) .nil) .nil) .nil)) (.cons (.call (Str.ofString "diagonal_sum") [.inl 0] (.cons (.var 2) .nil) .nil) (.cons (.call (Str.ofString "diagonal_sum") [.inl 0] .nil (.cons (.var 3) .nil)) (.cons (.call (Str.ofString "added") [.inl 0, .inl 1] (.cons (.var 2) (.cons (.call (Str.ofString "times") [.inl 0, .inl 1] (.cons (.var 3) (.cons (.bin .Sub false (.var 0) (.c (.int 1))) .nil)) .nil) .nil)) .nil) (.cons (.call (Str.ofString "taken") [.inl 0, .inl 1] (.cons (.var 2) (.cons (.var 2) .nil)) .nil) .nil)))))))) (.cons (.ret (.cmp .Eq (.bn false .repr (.cons (.var 6) .nil)) (.bn false .repr (.cons (.tup (.cons (.tup (.cons (.var 0) (.cons (.call (Str.ofString "_law_mirror") [.inl 0] (.cons (.var 7) .nil) .nil) .nil))) (.cons (.var 2) (.cons (.call (Str.ofString "_law_sum") [.inl 0, .inl 1] (.cons (.var 0) (.cons (.var 7) .nil)) .nil) (.cons (.call (Str.ofString "_law_sum") [.inl 0, .inl 1] (.cons (.var 0) (.cons (.var 8) .nil)) .nil) (.cons (.idx (.var 5) (.c (.int 1))) (.cons (.call (Str.ofString "zero") [.inl 0, .inl 1] (.cons (.var 0) (.cons (.var 1) .nil)) .nil) .nil))))))) .nil)))) .nil))))))
def d__law_are_sums_right : Df := ⟨(Str.ofString "_law_are_sums_right"), top 57, [(Str.ofString "p"), (Str.ofString "n"), (Str.ofString "a"), (Str.ofString "b"), (Str.ofString "c")], [(Str.ofString "p"), (Str.ofString "n"), (Str.ofString "a"), (Str.ofString "b"), (Str.ofString "c"), (Str.ofString "due"), (Str.ofString "told"), (Str.ofString "rows"), (Str.ofString "near")], b__law_are_sums_right⟩
def b__law_draw : Sms := (.cons (.asg (.sub (.var 0) (.c (.str (Str.ofString "draws")))) (.bin .Add true (.idx (.var 0) (.c (.str (Str.ofString "draws")))) (.c (.int 1)))) (.cons (.asg (.nm 2) (.bin .Add false (.idx (.var 0) (.c (.str (Str.ofString "mixed")))) (.bin .Mult false (.c (.int 69621)) (.idx (.var 0) (.c (.str (Str.ofString "draws"))))))) (.cons (.ite (.cmp .NotEq (.idx (.var 0) (.c (.str (Str.ofString "cells")))) (.lst false .nil)) (.cons (.asg (.nm 3) (.mt false .pop (.idx (.var 0) (.c (.str (Str.ofString "cells")))) .nil)) (.cons (.ite (.cmp .GtE (.var 3) (.bin .Pow false (.c (.int 10)) (.c (.int 18)))) (.cons (.exp (.mt false .append (.idx (.var 0) (.c (.str (Str.ofString "cells")))) (.cons (.bin .FloorDiv false (.var 3) (.bn false .mx (.cons (.c (.int 2)) (.cons (.var 1) .nil)))) .nil))) (.cons (.ret (.bin .Mod false (.bn false .int (.cons (.var 3) .nil)) (.var 1))) .nil)) .nil) (.cons (.asg (.nm 2) (.bin .Add false (.var 2) (.bin .Mod false (.bn false .int (.cons (.var 3) .nil)) (.c (.int 2147483629))))) .nil))) .nil) (.cons (.asg (.nm 2) (.bin .Mod false (.bn false .int (.cons (.bin .Add false (.bin .Mult false (.var 2) (.c (.int 39373))) (.c (.int 83))) .nil)) (.c (.int 2147483647)))) (.cons (.asg (.nm 2) (.bin .Mod false (.bn false .int (.cons (.bin .Add false (.bin .Add false (.bin .Mult false (.var 2) (.var 2)) (.bin .Mult false (.c (.int 52713)) (.idx (.var 0) (.c (.str (Str.ofString "draws")))))) (.c (.int 29))) .nil)) (.c (.int 2147483587)))) (.cons (.asg (.nm 2) (.bin .Mod false (.bn false .int (.cons (.bin .Mult false (.var 2) (.c (.int 40692))) .nil)) (.c (.int 2147483563)))) (.cons (.ret (.bin .Mod false (.bn false .int (.cons (.bin .FloorDiv false (.var 2) (.c (.int 64))) .nil)) (.var 1))) .nil)))))))
def d__law_draw : Df := ⟨(Str.ofString "_law_draw"), top 46, [(Str.ofString "deck"), (Str.ofString "many")], [(Str.ofString "deck"), (Str.ofString "many"), (Str.ofString "number"), (Str.ofString "cell")], b__law_draw⟩
def b__law_are_products_right : Sms := (.cons (.asg (.tup (.cons (.nm 8) (.cons (.nm 9) .nil))) (.tup (.cons (.tup (.cons (.var 1) (.cons (.call (Str.ofString "_law_by") [.inl 0, .inl 1, .inl 2] (.cons (.var 1) (.cons (.idx (.var 3) (.c (.int 1))) (.cons (.idx (.var 4) (.c (.int 1))) .nil))) .nil) .nil))) (.cons (.call (Str.ofString "_law_draw") [.inl 0, .inl 1] (.cons (.var 0) (.cons (.var 1) .nil)) .nil) .nil)))) (.cons (.ite (.cmp .NotEq (.bn false .repr (.cons (.tup (.cons (.call (Str.ofString "product") [.inl 0, .inl 1] (.cons (.var 3) (.cons (.var 4) .nil)) .nil) (.cons (.call (Str.ofString "product") [.inl 1, .inl 0] .nil (.cons (.var 4) (.cons (.var 3) .nil))) (.cons (.call (Str.ofString "product") [.inl 0, .inl 1] (.cons (.var 8) (.cons (.var 5) .nil)) .nil) .nil)))) .nil)) (.bn false .repr (.cons (.tup (.cons (.var 8) (.cons (.var 8) (.cons (.call (Str.ofString "product") [.inl 0, .inl 1] (.cons (.var 3) (.cons (.call (Str.ofString "product") [.inl 0, .inl 1] (.cons (.var 4) (.cons (.var 5) .nil)) .nil) .nil)) .nil) .nil)))) .nil))) (.cons (.ret (.c (.bool false))) .nil) .nil) (.cons (.ite (.cmp .NotEq (.bn false .repr (.cons (.call (Str.ofString "product") [.inl 0, .inl 1] (.cons (.var 3) (.cons (.call (Str.ofString "added") [.inl 0, .inl 1] (.cons (.var 4) (.cons (.var 5) .nil)) .nil) .nil)) .nil) .nil)) (.bn false .repr (.cons (.call (Str.ofString "added") [.inl 0, .inl 1] (.cons (.var 8) (.cons (.call (Str.ofString "product") [.inl 0, .inl 1] (.cons (.var 3) (.cons (.var 5) .nil)) .nil) .nil)) .nil) .nil))) (.cons (.ret (.c (.bool false))) .nil) .nil) (.cons (.ite (.cmp .NotEq (.bn false .repr (.cons (.call (Str.ofString "product") [.inl 0, .inl 1] (.cons (.call (Str.ofString "added") [.inl 0, .inl 1] (.cons (.var 4) (.cons (.var 5) .nil)) .nil) (.cons (.var 3) .nil)) .nil) .nil)) (.bn false .repr (.cons (.call (Str.ofString "added") [.inl 0, .inl 1] (.cons (.call (Str.ofString "product") [.inl 0, .inl 1] (.cons (.var 4) (.cons (.var 3) .nil)) .nil) (.cons (.call (Str.ofString "product") [.inl 0, .inl 1] (.cons (.var 5) (.cons (.var 3) .nil)) .nil) .nil)) .nil) .nil))) (.cons (.ret (.c (.bool false))) .nil) .nil) (.cons (.ite (.cmp .NotEq (.bn false .repr (.cons (.tup (.cons (.call (Str.ofString "product") [.inl 0, .inl 1] (.cons (.call (Str.ofString "times") [.inl 0, .inl 1] (.cons (.var 3) (.cons (.var 9) .nil)) .nil) (.cons (.var 4) .nil)) .nil) (.cons (.call (Str.ofString "mirror") [.inl 0] (.cons (.var 8) .nil) .nil) .nil))) .nil)) (.bn false .repr (.cons (.tup (.cons (.call (Str.ofString "times") [.inl 0, .inl 1] (.cons (.var 8) (.cons (.var 9) .nil)) .nil) (.cons (.call (Str.ofString "product") [.inl 0, .inl 1] (.cons (.call (Str.ofString "mirror") [.inl 0] (.cons (.var 4) .nil) .nil) (.cons (.call (Str.ofString "mirror") [.inl 0] (.cons (.var 3) .nil) .nil) .nil)) .nil) .nil))) .nil))) (.cons (.ret (.c (.bool false))) .nil) .nil) (.cons (.par 10 11 (.cons (.call (Str.ofString "one") [.inl 0, .inl 1] (.cons (.var 1) (.cons (.var 2) .nil)) .nil) (.cons (.call (Str.ofString "zero") [.inl 1, .inl 0] .nil (.cons (.var 2) (.cons (.var 1) .nil))) .nil))) (.cons (.ite (.cmp .NotEq (.bn false .repr (.cons (.tup (.cons (.call (Str.ofString "product") [.inl 0, .inl 1] (.cons (.var 3) (.cons (.var 10) .nil)) .nil) (.cons (.call (Str.ofString "product") [.inl 0, .inl 1] (.cons (.var 10) (.cons (.var 3) .nil)) .nil) (.cons (.call (Str.ofString "product") [.inl 0, .inl 1] (.cons (.var 3) (.cons (.var 11) .nil)) .nil) .nil)))) .nil)) (.bn false .repr (.cons (.tup (.cons (.var 3) (.cons (.var 3) (.cons (.var 11) .nil)))) .nil))) (.cons (.ret (.c (.bool false))) .nil) .nil) (.cons (.for_ (.nm 6) (.r1 (.c (.int 2))) (.cons (.asg (.nm 12) (.call (Str.ofString "_law_row") [.inl 0, .inl 1, .inl 2] (.cons (.var 0) (.cons (.var 1) (.cons (.var 2) .nil))) .nil)) (.cons (.asg (.nm 13) (.call (Str.ofString "_law_led") [.inl 0, .inl 1, .inl 2] (.cons (.var 1) (.cons (.idx (.var 3) (.c (.int 1))) (.cons (.var 12) .nil))) .nil)) (.cons (.asg (.nm 14) (.tup (.cons (.call (Str.ofString "led") [.inl 0, .inl 1] (.cons (.var 3) (.cons (.var 12) .nil)) .nil) (.cons (.call (Str.ofString "led") [.inl 1, .inl 0] .nil (.cons (.var 12) (.cons (.var 3) .nil))) (.cons (.call (Str.ofString "led") [.inl 0, .inl 1] (.cons (.var 4) (.cons (.var 13) .nil)) .nil) (.cons (.call (Str.ofString "led") [.inl 0, .inl 1] (.cons (.var 8) (.cons (.var 12) .nil)) .nil) .nil)))))) (.cons (.ite (.cmp .NotEq (.bn false .repr (.cons (.var 14) .nil)) (.bn false .repr (.cons (.tup (.cons (.var 13) (.cons (.var 13) (.cons (.call (Str.ofString "_law_led") [.inl 0, .inl 1, .inl 2] (.cons (.var 1) (.cons (.idx (.var 4) (.c (.int 1))) (.cons (.var 13) .nil))) .nil) (.cons (.call (Str.ofString "_law_led") [.inl 0, .inl 1, .inl 2] (.cons (.var 1) (.cons (.idx (.var 4) (.c (.int 1))) (.cons (.var 13) .nil))) .nil) .nil))))) .nil))) (.cons (.ret (.c (.bool false))) .nil) .nil) .nil))))) (.cons (.asg (.nm 7) (.bn false .tup (.cons (.lc false (.seq (.idx (.var 10) (.c (.int 1)))) (.nm 12) [((Str.ofString "row"), 12)] .no (.call (Str.ofString "led") [.inl 0, .inl 1] (.cons (.var 8) (.cons (.var 12) .nil)) .nil)) .nil))) (.cons (.ret (.and (.cmp .Eq (.bn false .repr (.cons (.tup (.cons (.var 1) (.cons (.var 7) .nil))) .nil)) (.bn false .repr (.cons (.var 8) .nil))) (.cons (.cmp .Eq (.bn false .repr (.cons (.call (Str.ofString "diagonal_sum") [.inl 0] (.cons (.var 8) .nil) .nil) .nil)) (.bn false .repr (.cons (.call (Str.ofString "diagonal_sum") [.inl 0] (.cons (.call (Str.ofString "product") [.inl 0, .inl 1] (.cons (.var 4) (.cons (.var 3) .nil)) .nil) .nil) .nil) .nil))) .nil))) .nil))))))))))
def d__law_are_products_right : Df := ⟨(Str.ofString "_law_are_products_right"), top 58, [(Str.ofString "deck"), (Str.ofString "p"), (Str.ofString "n"), (Str.ofString "a"), (Str.ofString "b"), (Str.ofString "c")], [(Str.ofString "deck"), (Str.ofString "p"), (Str.ofString "n"), (Str.ofString "a"), (Str.ofString "b"), (Str.ofString "c"), (Str.ofString "look"), (Str.ofString "rows"), (Str.ofString "due"), (Str.ofString "number"), (Str.ofString "unit"), (Str.ofString "zeros"), (Str.ofString "row"), (Str.ofString "near"), (Str.ofString "told")], b__law_are_products_right⟩
def b__law_drawn : Sms := (.cons (.par 4 5 (.cons (.call (Str.ofString "_law_draw") [.inl 0, .inl 1] (.cons (.var 0) (.cons (.c (.int 9)) .nil)) .nil) (.cons (.call (Str.ofString "_law_draw") [.inl 0, .inl 1] (.cons (.var 0) (.cons (.var 1) .nil)) .nil) .nil))) (.cons (.ite (.cmp .Eq (.var 4) (.c (.int 0))) (.cons (.ret (.call (Str.ofString "_law_unit") [.inl 0, .inl 1] (.cons (.var 2) (.cons (.var 5) .nil)) .nil)) .nil) .nil) (.cons (.ite (.cmp .Eq (.var 4) (.c (.int 1))) (.cons (.ret (.idx (.call (Str.ofString "_law_undoable") [.inl 0, .inl 1, .inl 2] (.cons (.var 0) (.cons (.var 1) (.cons (.var 2) .nil))) .nil) (.c (.int 0)))) .nil) .nil) (.cons (.ite (.cmp .Eq (.var 4) (.c (.int 2))) (.cons (.asg (.nm 6) (.call (Str.ofString "_law_draw") [.inl 0, .inl 1] (.cons (.var 0) (.cons (.bin .Add false (.var 2) (.c (.int 1))) .nil)) .nil)) (.cons (.asg (.nm 7) (.bn false .tup (.cons (.lc false (.r1 (.var 2)) (.nm 10) [((Str.ofString "i"), 10)] .no (.bn false .tup (.cons (.lc false (.r1 (.var 2)) (.nm 11) [((Str.ofString "j"), 11)] .no (.ite (.cmp .Lt (.var 11) (.var 6)) (.call (Str.ofString "_law_draw") [.inl 0, .inl 1] (.cons (.var 0) (.cons (.var 1) .nil)) .nil) (.c (.int 0)))) .nil))) .nil))) (.cons (.ret (.call (Str.ofString "_law_by") [.inl 0, .inl 1, .inl 2] (.cons (.var 1) (.cons (.var 7) (.cons (.bn false .tup (.cons (.lc false (.r1 (.var 2)) (.nm 10) [((Str.ofString "i"), 10)] .no (.bn false .tup (.cons (.lc false (.r1 (.var 2)) (.nm 11) [((Str.ofString "j"), 11)] .no (.call (Str.ofString "_law_draw") [.inl 0, .inl 1] (.cons (.var 0) (.cons (.var 1) .nil)) .nil)) .nil))) .nil)) .nil))) .nil)) .nil))) .nil) (.cons (.asg (.nm 3) (.lc true (.seq (.call (Str.ofString "_law_unit") [.inl 0, .inl 1] (.cons (.var 2) (.cons (.var 5) .nil)) .nil)) (.nm 9) [((Str.ofString "row"), 9)] .no (.bn true .lst (.cons (.var 9) .nil)))) (.cons (.ite (.cmp .Eq (.var 4) (.c (.int 3))) (.cons (.for_ (.nm 8) (.r1 (.bin .Add false (.c (.int 1)) (.call (Str.ofString "_law_draw") [.inl 0, .inl 1] (.cons (.var 0) (.cons (.c (.int 3)) .nil)) .nil))) (.cons (.par 10 11 (.cons (.call (Str.ofString "_law_draw") [.inl 0, .inl 1] (.cons (.var 0) (.cons (.var 2) .nil)) .nil) (.cons (.call (Str.ofString "_law_draw") [.inl 0, .inl 1] (.cons (.var 0) (.cons (.var 2) .nil)) .nil) .nil))) (.cons (.asg (.sub (.idx (.var 3) (.var 10)) (.var 11)) (.call (Str.ofString "_law_draw") [.inl 0, .inl 1] (.cons (.var 0) (.cons (.var 1) .nil)) .nil)) .nil))) (.cons (.ret (.bn false .tup (.cons (.lc false (.seq (.var 3)) (.nm 9) [((Str.ofString "row"), 9)] .no (.bn false .tup (.cons (.var 9) .nil))) .nil))) .nil)) .nil) (.cons (.ite (.cmp .Eq (.var 4) (.c (.int 4))) (.cons (.ret (.bn false .tup (.cons (.lc false (.r1 (.var 2)) (.nm 10) [((Str.ofString "i"), 10)] .no (.bn false .tup (.cons (.lc false (.r1 (.var 2)) (.nm 11) [((Str.ofString "j"), 11)] .no (.ite (.cmp .Gt (.var 11) (.var 10)) (.call (Str.ofString "_law_draw") [.inl 0, .inl 1] (.cons (.var 0) (.cons (.var 1) .nil)) .nil) (.ite (.cmp .Eq (.var 10) (.var 11)) (.idx (.idx (.var 3) (.c (.int 0))) (.c (.int 0))) (.c (.int 0))))) .nil))) .nil))) .nil) .nil) (.cons (.ite (.cmp .Eq (.var 4) (.c (.int 5))) (.cons (.ret (.bn false .tup (.cons (.lc false (.r1 (.var 2)) (.nm 10) [((Str.ofString "i"), 10)] .no (.bn false .tup (.cons (.lc false (.r1 (.var 2)) (.nm 11) [((Str.ofString "j"), 11)] .no (.ite (.cmp .Eq (.call (Str.ofString "_law_draw") [.inl 0, .inl 1] (.cons (.var 0) (.cons (.c (.int 4)) .nil)) .nil) (.c (.int 0))) (.call (Str.ofString "_law_draw") [.inl 0, .inl 1] (.cons (.var 0) (.cons (.var 1) .nil)) .nil) (.c (.int 0)))) .nil))) .nil))) .nil) .nil) (.cons (.ret (.bn false .tup (.cons (.lc false (.r1 (.var 2)) (.nm 10) [((Str.ofString "i"), 10)] .no (.bn false .tup (.cons (.lc false (.r1 (.var 2)) (.nm 11) [((Str.ofString "j"), 11)] .no (.call (Str.ofString "_law_draw") [.inl 0, .inl 1] (.cons (.var 0) (.cons (.var 1) .nil)) .nil)) .nil))) .nil))) .nil)))))))))
def d__law_drawn : Df := ⟨(Str.ofString "_law_drawn"), top 51, [(Str.ofString "deck"), (Str.ofString "p"), (Str.ofString "n")], [(Str.ofString "deck"), (Str.ofString "p"), (Str.ofString "n"), (Str.ofString "rows"), (Str.ofString "way"), (Str.ofString "c"), (Str.ofString "middle"), (Str.ofString "low"), (Str.ofString "turn"), (Str.ofString "row"), (Str.ofString "i"), (Str.ofString "j")], b__law_drawn⟩
def b__law_pick : Sms := (.cons (.ret (.idx (.var 1) (.call (Str.ofString "_law_draw") [.inl 0, .inl 1] (.cons (.var 0) (.cons (.bn false .len (.cons (.var 1) .nil)) .nil)) .nil))) .nil)
def d__law_pick : Df := ⟨(Str.ofString "_law_pick"), top 47, [(Str.ofString "deck"), (Str.ofString "some")], [(Str.ofString "deck"), (Str.ofString "some")], b__law_pick⟩
def b__law_deck : Sms := (.cons (.asg (.nm 1) (.c (.int 10899002))) (.cons (.for_ (.nm 2) (.seq (.sli false (.var 0) .no (.so (.c (.int 63))))) (.cons (.asg (.nm 1) (.bin .Mod false (.bn false .int (.cons (.bin .Add false (.bin .Add false (.bin .Mult false (.var 1) (.c (.int 48271))) (.bin .Mod false (.bn false .int (.cons (.var 2) .nil)) (.c (.int 2147483629)))) (.c (.int 71))) .nil)) (.c (.int 2147483587)))) .nil)) (.cons (.ret (.dct (.cons (.c (.str (Str.ofString "cells"))) (.rev true (.bn false .lst (.cons (.sli false (.var 0) .no (.so (.c (.int 63)))) .nil))) (.cons (.c (.str (Str.ofString "mixed"))) (.var 1) (.cons (.c (.str (Str.ofString "draws"))) (.c (.int 0)) .nil))))) .nil)))
def d__law_deck : Df := ⟨(Str.ofString "_law_deck"), top 45, [(Str.ofString "script")], [(Str.ofString "script"), (Str.ofString "mixed"), (Str.ofString "cell")], b__law_deck⟩
def b__law_mirror : Sms := (.cons (.ret (.bn false .tup (.cons (.lc false (.r1 (.bn false .len (.cons (.var 0) .nil))) (.nm 1) [((Str.ofString "j"), 1)] .no (.bn false .tup (.cons (.lc false (.seq (.var 0)) (.nm 2) [((Str.ofString "row"), 2)] .no (.idx (.var 2) (.var 1))) .nil))) .nil))) .nil)
def d__law_mirror : Df := ⟨(Str.ofString "_law_mirror"), top 53, [(Str.ofString "rows")], [(Str.ofString "rows"), (Str.ofString "j"), (Str.ofString "row")], b__law_mirror⟩
def b__law_sum : Sms := (.cons (.ret (.bin .Mod false (.bn false .int (.cons (.bn false .sum (.cons (.lc false (.enum (.var 1)) (.tp (.cons (.nm 2) (.cons (.nm 3) .nil))) [((Str.ofString "i"), 2), ((Str.ofString "row"), 3)] .no (.idx (.var 3) (.var 2))) .nil)) .nil)) (.var 0))) .nil)
def d__law_sum : Df := ⟨(Str.ofString "_law_sum"), top 54, [(Str.ofString "p"), (Str.ofString "rows")], [(Str.ofString "p"), (Str.ofString "rows"), (Str.ofString "i"), (Str.ofString "row")], b__law_sum⟩
def b_zero : Sms := (.cons (.ret (.call (Str.ofString "table_times") [.inl 0, .inl 1] (.cons (.call (Str.ofString "one") [.inl 0, .inl 1] (.cons (.var 0) (.cons (.var 1) .nil)) .nil) (.cons (.c (.int 0)) .nil)) .nil)) .nil)
def d_zero : Df := ⟨(Str.ofString "zero"), top 36, [(Str.ofString "p"), (Str.ofString "n")], [(Str.ofString "p"), (Str.ofString "n")], b_zero⟩
def b_mirror : Sms := (.cons (.exp (.call (Str.ofString "need_table") [.inl 0] (.cons (.var 0) .nil) .nil)) (.cons (.ret (.call (Str.ofString "mirrored") [.inl 0] (.cons (.var 0) .nil) .nil)) .nil))
def d_mirror : Df := ⟨(Str.ofString "mirror"), top 42, [(Str.ofString "table")], [(Str.ofString "table")], b_mirror⟩
def b_diagonal_sum : Sms := (.cons (.exp (.call (Str.ofString "need_table") [.inl 0] (.cons (.var 0) .nil) .nil)) (.cons (.ret (.call (Str.ofString "sum_along") [.inl 0] (.cons (.var 0) .nil) .nil)) .nil))
def d_diagonal_sum : Df := ⟨(Str.ofString "diagonal_sum"), top 41, [(Str.ofString "table")], [(Str.ofString "table")], b_diagonal_sum⟩
def b_added : Sms := (.cons (.exp (.call (Str.ofString "need_fellows") [.inl 0, .inl 1] (.cons (.var 0) (.cons (.var 1) .nil)) .nil)) (.cons (.ret (.call (Str.ofString "table_sum") [.inl 0, .inl 1, .inr (.int 1)] (.cons (.var 0) (.cons (.var 1) .nil)) .nil)) .nil))
def d_added : Df := ⟨(Str.ofString "added"), top 38, [(Str.ofString "one"), (Str.ofString "other")], [(Str.ofString "one"), (Str.ofString "other")], b_added⟩
def b_times : Sms := (.cons (.exp (.call (Str.ofString "need_table") [.inl 0] (.cons (.var 0) .nil) .nil)) (.cons (.exp (.call (Str.ofString "need_integer") [.inl 0, .inl 1, .inl 2] (.cons (.var 1) (.cons (.c (.int 0)) (.cons (.bin .Sub false (.idx (.var 0) (.c (.int 0))) (.c (.int 1))) .nil))) .nil)) (.cons (.ret (.call (Str.ofString "table_times") [.inl 0, .inl 1] (.cons (.var 0) (.cons (.var 1) .nil)) .nil)) .nil)))
def d_times : Df := ⟨(Str.ofString "times"), top 40, [(Str.ofString "table"), (Str.ofString "number")], [(Str.ofString "table"), (Str.ofString "number")], b_times⟩
def b_taken : Sms := (.cons (.exp (.call (Str.ofString "need_fellows") [.inl 0, .inl 1] (.cons (.var 0) (.cons (.var 1) .nil)) .nil)) (.cons (.ret (.call (Str.ofString "table_sum") [.inl 0, .inl 1, .inl 2] (.cons (.var 0) (.cons (.var 1) (.cons (.neg (.c (.int 1))) .nil))) .nil)) .nil))
def d_taken : Df := ⟨(Str.ofString "taken"), top 39, [(Str.ofString "one"), (Str.ofString "other")], [(Str.ofString "one"), (Str.ofString "other")], b_taken⟩
def b__law_each : Sms := (.cons (.ret (.tup (.cons (.var 0) (.cons (.bn false .tup (.cons (.lc false (.zip (.var 1) (.var 2)) (.tp (.cons (.nm 4) (.cons (.nm 5) .nil))) [((Str.ofString "row"), 4), ((Str.ofString "near"), 5)] .no (.bn false .tup (.cons (.lc false (.zip (.var 4) (.var 5)) (.tp (.cons (.nm 6) (.cons (.nm 7) .nil))) [((Str.ofString "x"), 6), ((Str.ofString "y"), 7)] .no (.bin .Mod false (.bn false .int (.cons (.bin .Add false (.var 6) (.bin .Mult false (.var 3) (.var 7))) .nil)) (.var 0))) .nil))) .nil)) .nil)))) .nil)
def d__law_each : Df := ⟨(Str.ofString "_law_each"), top 52, [(Str.ofString "p"), (Str.ofString "first"), (Str.ofString "second"), (Str.ofString "k")], [(Str.ofString "p"), (Str.ofString "first"), (Str.ofString "second"), (Str.ofString "k"), (Str.ofString "row"), (Str.ofString "near"), (Str.ofString "x"), (Str.ofString "y")], b__law_each⟩
def b__law_unit : Sms := (.cons (.ret (.bn false .tup (.cons (.lc false (.r1 (.var 0)) (.nm 2) [((Str.ofString "i"), 2)] .no (.bn false .tup (.cons (.lc false (.r1 (.var 0)) (.nm 3) [((Str.ofString "j"), 3)] .no (.ite (.cmp .Eq (.var 2) (.var 3)) (.var 1) (.c (.int 0)))) .nil))) .nil))) .nil)
def d__law_unit : Df := ⟨(Str.ofString "_law_unit"), top 49, [(Str.ofString "n"), (Str.ofString "number")], [(Str.ofString "n"), (Str.ofString "number"), (Str.ofString "i"), (Str.ofString "j")], b__law_unit⟩
def b_product : Sms := (.cons (.exp (.call (Str.ofString "need_fellows") [.inl 0, .inl 1] (.cons (.var 0) (.cons (.var 1) .nil)) .nil)) (.cons (.ret (.call (Str.ofString "table_product") [.inl 0, .inl 1] (.cons (.var 0) (.cons (.var 1) .nil)) .nil)) .nil))
def d_product : Df := ⟨(Str.ofString "product"), top 37, [(Str.ofString "one"), (Str.ofString "other")], [(Str.ofString "one"), (Str.ofString "other")], b_product⟩
def b_led : Sms := (.cons (.exp (.call (Str.ofString "need_table") [.inl 0] (.cons (.var 0) .nil) .nil)) (.cons (.ite (.not (.call (Str.ofString "is_row_value") [.inl 0, .inl 1, .inl 2] (.cons (.idx (.var 0) (.c (.int 0))) (.cons (.call (Str.ofString "size") [.inl 0] (.cons (.var 0) .nil) .nil) (.cons (.var 1) .nil))) .nil)) (.cons .none .nil) .nil) (.cons (.ret (.call (Str.ofString "row_led") [.inl 0, .inl 1] (.cons (.var 0) (.cons (.var 1) .nil)) .nil)) .nil)))
def d_led : Df := ⟨(Str.ofString "led"), top 43, [(Str.ofString "table"), (Str.ofString "row")], [(Str.ofString "table"), (Str.ofString "row")], b_led⟩
def b__law_led : Sms := (.cons (.ret (.bn false .tup (.cons (.lc false (.r1 (.bn false .len (.cons (.var 2) .nil))) (.nm 3) [((Str.ofString "j"), 3)] .no (.bin .Mod false (.bn false .int (.cons (.bn false .sum (.cons (.lc false (.zip (.var 2) (.var 1)) (.tp (.cons (.nm 4) (.cons (.nm 5) .nil))) [((Str.ofString "x"), 4), ((Str.ofString "some"), 5)] .no (.bin .Mult false (.var 4) (.idx (.var 5) (.var 3)))) .nil)) .nil)) (.var 0))) .nil))) .nil)
def d__law_led : Df := ⟨(Str.ofString "_law_led"), top 55, [(Str.ofString "p"), (Str.ofString "rows"), (Str.ofString "row")], [(Str.ofString "p"), (Str.ofString "rows"), (Str.ofString "row"), (Str.ofString "j"), (Str.ofString "x"), (Str.ofString "some")], b__law_led⟩
def b__law_row : Sms := (.cons (.asg (.tup (.cons (.nm 3) (.cons (.nm 4) .nil))) (.tup (.cons (.call (Str.ofString "_law_draw") [.inl 0, .inl 1] (.cons (.var 0) (.cons (.c (.int 5)) .nil)) .nil) (.cons (.call (Str.ofString "_law_draw") [.inl 0, .inl 1] (.cons (.var 0) (.cons (.var 2) .nil)) .nil) .nil)))) (.cons (.ite (.cmp .Eq (.var 3) (.c (.int 0))) (.cons (.ret (.bn false .tup (.cons (.lc false (.r1 (.var 2)) (.nm 5) [((Str.ofString "j"), 5)] .no (.bn false .int (.cons (.cmp .Eq (.var 5) (.var 4)) .nil))) .nil))) .nil) .nil) (.cons (.ret (.bn false .tup (.cons (.lc false (.r1 (.var 2)) (.nm 5) [((Str.ofString "j"), 5)] .no (.ite (.cmp .Gt (.var 3) (.c (.int 1))) (.call (Str.ofString "_law_draw") [.inl 0, .inl 1] (.cons (.var 0) (.cons (.var 1) .nil)) .nil) (.c (.int 0)))) .nil))) .nil)))
def d__law_row : Df := ⟨(Str.ofString "_law_row"), top 56, [(Str.ofString "deck"), (Str.ofString "p"), (Str.ofString "n")], [(Str.ofString "deck"), (Str.ofString "p"), (Str.ofString "n"), (Str.ofString "way"), (Str.ofString "at"), (Str.ofString "j")], b__law_row⟩
def b_one : Sms := (.cons (.exp (.call (Str.ofString "need_prime") [.inl 0] (.cons (.var 0) .nil) .nil)) (.cons (.exp (.call (Str.ofString "need_integer") [.inl 0, .inl 1, .inl 2] (.cons (.var 1) (.cons (.c (.int 1)) (.cons (.glob (.int 8)) .nil))) .nil)) (.cons (.ret (.call (Str.ofString "one_table") [.inl 0, .inl 1] (.cons (.var 0) (.cons (.var 1) .nil)) .nil)) .nil)))
def d_one : Df := ⟨(Str.ofString "one"), top 35, [(Str.ofString "p"), (Str.ofString "n")], [(Str.ofString "p"), (Str.ofString "n")], b_one⟩
def b__law_by : Sms := (.cons (.asg (.nm 3) (.lc false (.r1 (.bn false .len (.cons (.idx (.var 2) (.c (.int 0))) .nil))) (.nm 4) [((Str.ofString "j"), 4)] .no (.lc false (.seq (.var 2)) (.nm 5) [((Str.ofString "row"), 5)] .no (.idx (.var 5) (.var 4))))) (.cons (.ret (.bn false .tup (.cons (.lc false (.seq (.var 1)) (.nm 5) [((Str.ofString "row"), 5)] .no (.bn false .tup (.cons (.lc false (.seq (.var 3)) (.nm 6) [((Str.ofString "column"), 6)] .no (.bin .Mod false (.bn false .int (.cons (.bn false .sum (.cons (.lc false (.zip (.var 5) (.var 6)) (.tp (.cons (.nm 7) (.cons (.nm 8) .nil))) [((Str.ofString "x"), 7), ((Str.ofString "y"), 8)] .no (.bin .Mult false (.var 7) (.var 8))) .nil)) .nil)) (.var 0))) .nil))) .nil))) .nil))
def d__law_by : Df := ⟨(Str.ofString "_law_by"), top 48, [(Str.ofString "p"), (Str.ofString "first"), (Str.ofString "second")], [(Str.ofString "p"), (Str.ofString "first"), (Str.ofString "second"), (Str.ofString "columns"), (Str.ofString "j"), (Str.ofString "row"), (Str.ofString "column"), (Str.ofString "x"), (Str.ofString "y")], b__law_by⟩
def b__law_undoable : Sms := (.cons (.par 4 5 (.cons (.lc true (.seq (.call (Str.ofString "_law_unit") [.inl 0, .inl 1] (.cons (.var 2) (.cons (.c (.int 1)) .nil)) .nil)) (.nm 9) [((Str.ofString "row"), 9)] .no (.bn false .lst (.cons (.var 9) .nil))) (.cons (.lc true (.seq (.call (Str.ofString "_law_unit") [.inl 0, .inl 1] (.cons (.var 2) (.cons (.c (.int 1)) .nil)) .nil)) (.nm 9) [((Str.ofString "row"), 9)] .no (.bn true .lst (.cons (.var 9) .nil))) .nil))) (.cons (.for_ (.nm 3) (.r1 (.call (Str.ofString "_law_draw") [.inl 0, .inl 1] (.cons (.var 0) (.cons (.bin .Mult false (.c (.int 3)) (.var 2)) .nil)) .nil)) (.cons (.asg (.tup (.cons (.nm 6) (.cons (.nm 7) (.cons (.nm 8) .nil)))) (.tup (.cons (.call (Str.ofString "_law_draw") [.inl 0, .inl 1] (.cons (.var 0) (.cons (.var 2) .nil)) .nil) (.cons (.call (Str.ofString "_law_draw") [.inl 0, .inl 1] (.cons (.var 0) (.cons (.var 2) .nil)) .nil) (.cons (.bin .Add false (.c (.int 1)) (.call (Str.ofString "_law_draw") [.inl 0, .inl 1] (.cons (.var 0) (.cons (.bin .Sub false (.var 1) (.c (.int 1))) .nil)) .nil)) .nil))))) (.cons (.ite (.cmp .NotEq (.var 6) (.var 7)) (.cons (.asg (.sub (.var 4) (.var 6)) (.lc false (.zip (.idx (.var 4) (.var 6)) (.idx (.var 4) (.var 7))) (.tp (.cons (.nm 11) (.cons (.nm 12) .nil))) [((Str.ofString "x"), 11), ((Str.ofString "y"), 12)] .no (.bin .Mod false (.bn false .int (.cons (.bin .Add false (.var 11) (.bin .Mult false (.var 8) (.var 12))) .nil)) (.var 1)))) (.cons (.for_ (.nm 9) (.seq (.var 5)) (.cons (.asg (.sub (.var 9) (.var 7)) (.bin .Mod false (.bn false .int (.cons (.bin .Sub false (.idx (.var 9) (.var 7)) (.bin .Mult false (.var 8) (.idx (.var 9) (.var 6)))) .nil)) (.var 1))) .nil)) .nil)) (.cons (.asg (.nm 10) (.idx (.lc false (.r2 (.c (.int 1)) (.var 1)) (.nm 11) [((Str.ofString "x"), 11)] (.so (.cmp .Eq (.bin .Mod false (.bn false .int (.cons (.bin .Mult false (.var 11) (.var 8)) .nil)) (.var 1)) (.c (.int 1)))) (.var 11)) (.c (.int 0)))) (.cons (.asg (.sub (.var 4) (.var 6)) (.lc false (.seq (.idx (.var 4) (.var 6))) (.nm 11) [((Str.ofString "x"), 11)] .no (.bin .Mod false (.bn false .int (.cons (.bin .Mult false (.var 8) (.var 11)) .nil)) (.var 1)))) (.cons (.for_ (.nm 9) (.seq (.var 5)) (.cons (.asg (.sub (.var 9) (.var 6)) (.bin .Mod false (.bn false .int (.cons (.bin .Mult false (.var 10) (.idx (.var 9) (.var 6))) .nil)) (.var 1))) .nil)) .nil)))) .nil))) (.cons (.ret (.tup (.cons (.bn false .tup (.cons (.lc false (.seq (.var 4)) (.nm 9) [((Str.ofString "row"), 9)] .no (.bn false .tup (.cons (.var 9) .nil))) .nil)) (.cons (.bn false .tup (.cons (.lc false (.seq (.var 5)) (.nm 9) [((Str.ofString "row"), 9)] .no (.bn false .tup (.cons (.var 9) .nil))) .nil)) .nil)))) .nil)))
def d__law_undoable : Df := ⟨(Str.ofString "_law_undoable"), top 50, [(Str.ofString "deck"), (Str.ofString "p"), (Str.ofString "n")], [(Str.ofString "deck"), (Str.ofString "p"), (Str.ofString "n"), (Str.ofString "turn"), (Str.ofString "rows"), (Str.ofString "back"), (Str.ofString "i"), (Str.ofString "j"), (Str.ofString "c"), (Str.ofString "row"), (Str.ofString "undo"), (Str.ofString "x"), (Str.ofString "y")], b__law_undoable⟩
def b_table_times : Sms := (.cons (.ret (.tup (.cons (.idx (.var 0) (.c (.int 0))) (.cons (.bn false .tup (.cons (.lc false (.seq (.idx (.var 0) (.c (.int 1)))) (.nm 2) [((Str.ofString "row"), 2)] .no (.call (Str.ofString "row_times") [.inl 0, .inl 1, .inl 2] (.cons (.idx (.var 0) (.c (.int 0))) (.cons (.var 2) (.cons (.var 1) .nil))) .nil)) .nil)) .nil)))) .nil)
def d_table_times : Df := ⟨(Str.ofString "table_times"), top 30, [(Str.ofString "table"), (Str.ofString "many")], [(Str.ofString "table"), (Str.ofString "many"), (Str.ofString "row")], b_table_times⟩
def b_mirrored : Sms := (.cons (.asg (.nm 1) (.call (Str.ofString "size") [.inl 0] (.cons (.var 0) .nil) .nil)) (.cons (.ret (.tup (.cons (.idx (.var 0) (.c (.int 0))) (.cons (.bn false .tup (.cons (.lc false (.r1 (.var 1)) (.nm 2) [((Str.ofString "j"), 2)] .no (.bn false .tup (.cons (.lc false (.r1 (.var 1)) (.nm 3) [((Str.ofString "i"), 3)] .no (.idx (.idx (.idx (.var 0) (.c (.int 1))) (.var 3)) (.var 2))) .nil))) .nil)) .nil)))) .nil))
def d_mirrored : Df := ⟨(Str.ofString "mirrored"), top 32, [(Str.ofString "table")], [(Str.ofString "table"), (Str.ofString "n"), (Str.ofString "j"), (Str.ofString "i")], b_mirrored⟩
def b_need_table : Sms := (.cons (.ite (.not (.call (Str.ofString "is_table_value") [.inl 0] (.cons (.var 0) .nil) .nil)) (.cons .none .nil) .nil) .nil)
def d_need_table : Df := ⟨(Str.ofString "need_table"), top 16, [(Str.ofString "table")], [(Str.ofString "table")], b_need_table⟩
def b_sum_along : Sms := (.cons (.ret (.bin .Mod false (.bn false .sum (.cons (.lc false (.r1 (.call (Str.ofString "size") [.inl 0] (.cons (.var 0) .nil) .nil)) (.nm 1) [((Str.ofString "i"), 1)] .no (.idx (.idx (.idx (.var 0) (.c (.int 1))) (.var 1)) (.var 1))) .nil)) (.idx (.var 0) (.c (.int 0))))) .nil)
def d_sum_along : Df := ⟨(Str.ofString "sum_along"), top 33, [(Str.ofString "table")], [(Str.ofString "table"), (Str.ofString "i")], b_sum_along⟩
def b_table_sum : Sms := (.cons (.ret (.tup (.cons (.idx (.var 0) (.c (.int 0))) (.cons (.bn false .tup (.cons (.lc false (.zip (.idx (.var 0) (.c (.int 1))) (.idx (.var 1) (.c (.int 1)))) (.tp (.cons (.nm 3) (.cons (.nm 4) .nil))) [((Str.ofString "near"), 3), ((Str.ofString "far"), 4)] .no (.call (Str.ofString "row_sum") [.inl 0, .inl 1, .inl 2, .inl 3] (.cons (.idx (.var 0) (.c (.int 0))) (.cons (.var 3) (.cons (.var 4) (.cons (.var 2) .nil)))) .nil)) .nil)) .nil)))) .nil)
def d_table_sum : Df := ⟨(Str.ofString "table_sum"), top 29, [(Str.ofString "one"), (Str.ofString "other"), (Str.ofString "many")], [(Str.ofString "one"), (Str.ofString "other"), (Str.ofString "many"), (Str.ofString "near"), (Str.ofString "far")], b_table_sum⟩
def b_need_fellows : Sms := (.cons (.exp (.call (Str.ofString "need_table") [.inl 0] (.cons (.var 0) .nil) .nil)) (.cons (.exp (.call (Str.ofString "need_table") [.inl 0] (.cons (.var 1) .nil) .nil)) (.cons (.ite (.not (.call (Str.ofString "is_fellow") [.inl 0, .inl 1] (.cons (.var 0) (.cons (.var 1) .nil)) .nil)) (.cons .none .nil) .nil) .nil)))
def d_need_fellows : Df := ⟨(Str.ofString "need_fellows"), top 17, [(Str.ofString "one"), (Str.ofString "other")], [(Str.ofString "one"), (Str.ofString "other")], b_need_fellows⟩
def b_need_integer : Sms := (.cons (.ite (.or (.not (.call (Str.ofString "is_integer") [.inl 0] (.cons (.var 0) .nil) .nil)) (.cons (.cmp .Lt (.var 0) (.var 1)) (.cons (.and (.cmp .IsNot (.var 2) (.c .none)) (.cons (.cmp .Gt (.var 0) (.var 2)) .nil)) .nil))) (.cons .none .nil) .nil) .nil)
def d_need_integer : Df := ⟨(Str.ofString "need_integer"), top 19, [(Str.ofString "thing"), (Str.ofString "least"), (Str.ofString "most")], [(Str.ofString "thing"), (Str.ofString "least"), (Str.ofString "most")], b_need_integer⟩
def b_table_product : Sms := (.cons (.ret (.tup (.cons (.idx (.var 0) (.c (.int 0))) (.cons (.bn false .tup (.cons (.lc false (.seq (.idx (.var 0) (.c (.int 1)))) (.nm 2) [((Str.ofString "row"), 2)] .no (.call (Str.ofString "row_led") [.inl 0, .inl 1] (.cons (.var 1) (.cons (.var 2) .nil)) .nil)) .nil)) .nil)))) .nil)
def d_table_product : Df := ⟨(Str.ofString "table_product"), top 28, [(Str.ofString "one"), (Str.ofString "other")], [(Str.ofString "one"), (Str.ofString "other"), (Str.ofString "row")], b_table_product⟩
def b_row_led : Sms := (.cons (.ret (.call (Str.ofString "mix") [.inl 0, .inl 1, .inl 2, .inl 3] (.cons (.idx (.var 0) (.c (.int 0))) (.cons (.var 1) (.cons (.idx (.var 0) (.c (.int 1))) (.cons (.call (Str.ofString "size") [.inl 0] (.cons (.var 0) .nil) .nil) .nil)))) .nil)) .nil)
def d_row_led : Df := ⟨(Str.ofString "row_led"), top 27, [(Str.ofString "table"), (Str.ofString "row")], [(Str.ofString "table"), (Str.ofString "row")], b_row_led⟩
def b_is_row_value : Sms := (.cons (.ret (.and (.isi .tup (.var 2)) (.cons (.cmp .Eq (.bn false .len (.cons (.var 2) .nil)) (.var 1)) (.cons (.bn false .all (.cons (.lc false (.seq (.var 2)) (.nm 3) [((Str.ofString "item"), 3)] .no (.call (Str.ofString "is_between") [.inl 0, .inl 1, .inl 2] (.cons (.var 3) (.cons (.c (.int 0)) (.cons (.bin .Sub false (.var 0) (.c (.int 1))) .nil))) .nil)) .nil)) .nil)))) .nil)
def d_is_row_value : Df := ⟨(Str.ofString "is_row_value"), top 13, [(Str.ofString "p"), (Str.ofString "many"), (Str.ofString "thing")], [(Str.ofString "p"), (Str.ofString "many"), (Str.ofString "thing"), (Str.ofString "item")], b_is_row_value⟩
def b_size : Sms := (.cons (.ret (.bn false .len (.cons (.idx (.var 0) (.c (.int 1))) .nil))) .nil)
def d_size : Df := ⟨(Str.ofString "size"), top 26, [(Str.ofString "table")], [(Str.ofString "table")], b_size⟩
def b_one_table : Sms := (.cons (.ret (.tup (.cons (.var 0) (.cons (.bn false .tup (.cons (.call (Str.ofString "unit_rows") [.inl 0] (.cons (.var 1) .nil) .nil) .nil)) .nil)))) .nil)
def d_one_table : Df := ⟨(Str.ofString "one_table"), top 31, [(Str.ofString "p"), (Str.ofString "n")], [(Str.ofString "p"), (Str.ofString "n")], b_one_table⟩
def b_need_prime : Sms := (.cons (.ite (.not (.call (Str.ofString "is_prime_value") [.inl 0] (.cons (.var 0) .nil) .nil)) (.cons .none .nil) .nil) .nil)
def d_need_prime : Df := ⟨(Str.ofString "need_prime"), top 18, [(Str.ofString "p")], [(Str.ofString "p")], b_need_prime⟩
def b_row_times : Sms := (.cons (.ret (.bn false .tup (.cons (.lc false (.seq (.var 1)) (.nm 3) [((Str.ofString "item"), 3)] .no (.bin .Mod false (.bin .Mult false (.var 2) (.var 3)) (.var 0))) .nil))) .nil)
def d_row_times : Df := ⟨(Str.ofString "row_times"), top 21, [(Str.ofString "p"), (Str.ofString "row"), (Str.ofString "many")], [(Str.ofString "p"), (Str.ofString "row"), (Str.ofString "many"), (Str.ofString "item")], b_row_times⟩
def b_is_table_value : Sms := (.cons (.ite (.or (.not (.isi .tup (.var 0))) (.cons (.cmp .NotEq (.bn false .len (.cons (.var 0) .nil)) (.c (.int 2))) (.cons (.not (.call (Str.ofString "is_prime_value") [.inl 0] (.cons (.idx (.var 0) (.c (.int 0))) .nil) .nil)) .nil))) (.cons (.ret (.c (.bool false))) .nil) .nil) (.cons (.ite (.not (.isi .tup (.idx (.var 0) (.c (.int 1))))) (.cons (.ret (.c (.bool false))) .nil) .nil) (.cons (.ret (.and (.chain .LtE .LtE (.c (.int 1)) (.bn false .len (.cons (.idx (.var 0) (.c (.int 1))) .nil)) (.glob (.int 8))) (.cons (.bn false .all (.cons (.lc false (.seq (.idx (.var 0) (.c (.int 1)))) (.nm 1) [((Str.ofString "row"), 1)] .no (.call (Str.ofString "is_row_value") [.inl 0, .inl 1, .inl 2] (.cons (.idx (.var 0) (.c (.int 0))) (.cons (.bn false .len (.cons (.idx (.var 0) (.c (.int 1))) .nil)) (.cons (.var 1) .nil))) .nil)) .nil)) .nil))) .nil)))
def d_is_table_value : Df := ⟨(Str.ofString "is_table_value"), top 14, [(Str.ofString "thing")], [(Str.ofString "thing"), (Str.ofString "row")], b_is_table_value⟩
def b_row_sum : Sms := (.cons (.ret (.bn false .tup (.cons (.lc false (.zip (.var 1) (.var 2)) (.tp (.cons (.nm 4) (.cons (.nm 5) .nil))) [((Str.ofString "a"), 4), ((Str.ofString "b"), 5)] .no (.bin .Mod false (.bin .Add false (.var 4) (.bin .Mult false (.var 3) (.var 5))) (.var 0))) .nil))) .nil)
def d_row_sum : Df := ⟨(Str.ofString "row_sum"), top 20, [(Str.ofString "p"), (Str.ofString "one"), (Str.ofString "other"), (Str.ofString "many")], [(Str.ofString "p"), (Str.ofString "one"), (Str.ofString "other"), (Str.ofString "many"), (Str.ofString "a"), (Str.ofString "b")], b_row_sum⟩
def b_is_fellow : Sms := (.cons (.ret (.and (.call (Str.ofString "is_table_value") [.inl 0] (.cons (.var 1) .nil) .nil) (.cons (.cmp .Eq (.idx (.var 1) (.c (.int 0))) (.idx (.var 0) (.c (.int 0)))) (.cons (.cmp .Eq (.bn false .len (.cons (.idx (.var 1) (.c (.int 1))) .nil)) (.bn false .len (.cons (.idx (.var 0) (.c (.int 1))) .nil))) .nil)))) .nil)
def d_is_fellow : Df := ⟨(Str.ofString "is_fellow"), top 15, [(Str.ofString "table"), (Str.ofString "thing")], [(Str.ofString "table"), (Str.ofString "thing")], b_is_fellow⟩
def b_is_integer : Sms := (.cons (.ret (.and (.isi .int (.var 0)) (.cons (.not (.isi .bl (.var 0))) .nil))) .nil)
def d_is_integer : Df := ⟨(Str.ofString "is_integer"), top 10, [(Str.ofString "thing")], [(Str.ofString "thing")], b_is_integer⟩
def b_mix : Sms := (.cons (.asg (.nm 4) (.call (Str.ofString "zero_row") [.inl 0] (.cons (.var 3) .nil) .nil)) (.cons (.for_ (.tup (.cons (.nm 5) (.cons (.nm 6) .nil))) (.zip (.var 1) (.var 2)) (.cons (.asg (.nm 4) (.call (Str.ofString "row_sum") [.inl 0, .inl 1, .inl 2, .inl 3] (.cons (.var 0) (.cons (.var 4) (.cons (.var 6) (.cons (.var 5) .nil)))) .nil)) .nil)) (.cons (.ret (.var 4)) .nil)))
def d_mix : Df := ⟨(Str.ofString "mix"), top 25, [(Str.ofString "p"), (Str.ofString "numbers"), (Str.ofString "rows"), (Str.ofString "n")], [(Str.ofString "p"), (Str.ofString "numbers"), (Str.ofString "rows"), (Str.ofString "n"), (Str.ofString "found"), (Str.ofString "many"), (Str.ofString "row")], b_mix⟩
def b_is_between : Sms := (.cons (.ret (.and (.call (Str.ofString "is_integer") [.inl 0] (.cons (.var 0) .nil) .nil) (.cons (.chain .LtE .LtE (.var 1) (.var 0) (.var 2)) .nil))) .nil)
def d_is_between : Df := ⟨(Str.ofString "is_between"), top 11, [(Str.ofString "thing"), (Str.ofString "least"), (Str.ofString "most")], [(Str.ofString "thing"), (Str.ofString "least"), (Str.ofString "most")], b_is_between⟩
def b_unit_rows : Sms := (.cons (.ret (.lc false (.r1 (.var 0)) (.nm 1) [((Str.ofString "at"), 1)] .no (.call (Str.ofString "unit_row") [.inl 0, .inl 1] (.cons (.var 0) (.cons (.var 1) .nil)) .nil))) .nil)
def d_unit_rows : Df := ⟨(Str.ofString "unit_rows"), top 23, [(Str.ofString "n")], [(Str.ofString "n"), (Str.ofString "at")], b_unit_rows⟩
def b_is_prime_value : Sms := (.cons (.ret (.and (.call (Str.ofString "is_integer") [.inl 0] (.cons (.var 0) .nil) .nil) (.cons (.cmp .In (.var 0) (.glob (.tuple [(.int 2), (.int 3), (.int 5), (.int 7)]))) .nil))) .nil)
def d_is_prime_value : Df := ⟨(Str.ofString "is_prime_value"), top 12, [(Str.ofString "thing")], [(Str.ofString "thing")], b_is_prime_value⟩
def b_zero_row : Sms := (.cons (.ret (.bin .Mult false (.tup (.cons (.c (.int 0)) .nil)) (.var 0))) .nil)
def d_zero_row : Df := ⟨(Str.ofString "zero_row"), top 24, [(Str.ofString "n")], [(Str.ofString "n")], b_zero_row⟩
def b_unit_row : Sms := (.cons (.ret (.bn false .tup (.cons (.lc false (.r1 (.var 0)) (.nm 2) [((Str.ofString "place"), 2)] .no (.ite (.cmp .Eq (.var 2) (.var 1)) (.c (.int 1)) (.c (.int 0)))) .nil))) .nil)
def d_unit_row : Df := ⟨(Str.ofString "unit_row"), top 22, [(Str.ofString "n"), (Str.ofString "at")], [(Str.ofString "n"), (Str.ofString "at"), (Str.ofString "place")], b_unit_row⟩
def defs : List Df := [d_law, d__law_are_sums_right, d__law_draw, d__law_are_products_right, d__law_drawn, d__law_pick, d__law_deck, d__law_mirror, d__law_sum, d_zero, d_mirror, d_diagonal_sum, d_added, d_times, d_taken, d__law_each, d__law_unit, d_product, d_led, d__law_led, d__law_row, d_one, d__law_by, d__law_undoable, d_table_times, d_mirrored, d_need_table, d_sum_along, d_table_sum, d_need_fellows, d_need_integer, d_table_product, d_row_led, d_is_row_value, d_size, d_one_table, d_need_prime, d_row_times, d_is_table_value, d_row_sum, d_is_fellow, d_is_integer, d_mix, d_is_between, d_unit_rows, d_is_prime_value, d_zero_row, d_unit_row]
def tab : Tab := ⟨[(Str.ofString "range"), (Str.ofString "repr"), (Str.ofString "int"), (Str.ofString "max"), (Str.ofString "tuple"), (Str.ofString "list"), (Str.ofString "len"), (Str.ofString "sum"), (Str.ofString "enumerate"), (Str.ofString "zip"), (Str.ofString "isinstance"), (Str.ofString "all"), (Str.ofString "bool")], [((Str.ofString "MOST_SIZE"), (.int 8)), ((Str.ofString "PRIMES"), (.tuple [(.int 2), (.int 3), (.int 5), (.int 7)]))], [((Str.ofString "_law_are_sums_right"), 5, [], [.inl 0, .inl 1, .inl 2, .inl 3, .inl 4]),
  ((Str.ofString "_law_draw"), 2, [], [.inl 0, .inl 1]),
  ((Str.ofString "_law_are_products_right"), 6, [], [.inl 0, .inl 1, .inl 2, .inl 3, .inl 4, .inl 5]),
  ((Str.ofString "_law_drawn"), 3, [], [.inl 0, .inl 1, .inl 2]),
  ((Str.ofString "_law_pick"), 2, [], [.inl 0, .inl 1]),
  ((Str.ofString "_law_deck"), 1, [], [.inl 0]),
  ((Str.ofString "_law_mirror"), 1, [], [.inl 0]),
  ((Str.ofString "_law_sum"), 2, [], [.inl 0, .inl 1]),
  ((Str.ofString "zero"), 2, [], [.inl 0, .inl 1]),
  ((Str.ofString "mirror"), 1, [], [.inl 0]),
  ((Str.ofString "mirror"), 0, [(Str.ofString "table")], [.inl 0]),
  ((Str.ofString "diagonal_sum"), 1, [], [.inl 0]),
  ((Str.ofString "diagonal_sum"), 0, [(Str.ofString "table")], [.inl 0]),
  ((Str.ofString "added"), 2, [], [.inl 0, .inl 1]),
  ((Str.ofString "times"), 2, [], [.inl 0, .inl 1]),
  ((Str.ofString "taken"), 2, [], [.inl 0, .inl 1]),
  ((Str.ofString "added"), 0, [(Str.ofString "other"), (Str.ofString "one")], [.inl 1, .inl 0]),
  ((Str.ofString "taken"), 0, [(Str.ofString "other"), (Str.ofString "one")], [.inl 1, .inl 0]),
  ((Str.ofString "times"), 0, [(Str.ofString "number"), (Str.ofString "table")], [.inl 1, .inl 0]),
  ((Str.ofString "_law_each"), 4, [], [.inl 0, .inl 1, .inl 2, .inl 3]),
  ((Str.ofString "_law_unit"), 2, [], [.inl 0, .inl 1]),
  ((Str.ofString "product"), 2, [], [.inl 0, .inl 1]),
  ((Str.ofString "led"), 2, [], [.inl 0, .inl 1]),
  ((Str.ofString "_law_led"), 3, [], [.inl 0, .inl 1, .inl 2]),
  ((Str.ofString "led"), 0, [(Str.ofString "row"), (Str.ofString "table")], [.inl 1, .inl 0]),
  ((Str.ofString "_law_row"), 3, [], [.inl 0, .inl 1, .inl 2]),
  ((Str.ofString "one"), 2, [], [.inl 0, .inl 1]),
  ((Str.ofString "zero"), 0, [(Str.ofString "n"), (Str.ofString "p")], [.inl 1, .inl 0]),
  ((Str.ofString "product"), 0, [(Str.ofString "other"), (Str.ofString "one")], [.inl 1, .inl 0]),
  ((Str.ofString "_law_by"), 3, [], [.inl 0, .inl 1, .inl 2]),
  ((Str.ofString "_law_undoable"), 3, [], [.inl 0, .inl 1, .inl 2]),
  ((Str.ofString "table_times"), 2, [], [.inl 0, .inl 1]),
  ((Str.ofString "mirrored"), 1, [], [.inl 0]),
  ((Str.ofString "need_table"), 1, [], [.inl 0]),
  ((Str.ofString "sum_along"), 1, [], [.inl 0]),
  ((Str.ofString "table_sum"), 2, [], [.inl 0, .inl 1, .inr (.int 1)]),
  ((Str.ofString "need_fellows"), 2, [], [.inl 0, .inl 1]),
  ((Str.ofString "need_integer"), 3, [], [.inl 0, .inl 1, .inl 2]),
  ((Str.ofString "table_sum"), 3, [], [.inl 0, .inl 1, .inl 2]),
  ((Str.ofString "table_product"), 2, [], [.inl 0, .inl 1]),
  ((Str.ofString "row_led"), 2, [], [.inl 0, .inl 1]),
  ((Str.ofString "is_row_value"), 3, [], [.inl 0, .inl 1, .inl 2]),
  ((Str.ofString "size"), 1, [], [.inl 0]),
  ((Str.ofString "one_table"), 2, [], [.inl 0, .inl 1]),
  ((Str.ofString "need_prime"), 1, [], [.inl 0]),
  ((Str.ofString "row_times"), 3, [], [.inl 0, .inl 1, .inl 2]),
  ((Str.ofString "is_table_value"), 1, [], [.inl 0]),
  ((Str.ofString "row_sum"), 4, [], [.inl 0, .inl 1, .inl 2, .inl 3]),
  ((Str.ofString "is_fellow"), 2, [], [.inl 0, .inl 1]),
  ((Str.ofString "is_integer"), 1, [], [.inl 0]),
  ((Str.ofString "mix"), 4, [], [.inl 0, .inl 1, .inl 2, .inl 3]),
  ((Str.ofString "is_between"), 3, [], [.inl 0, .inl 1, .inl 2]),
  ((Str.ofString "unit_rows"), 1, [], [.inl 0]),
  ((Str.ofString "is_prime_value"), 1, [], [.inl 0]),
  ((Str.ofString "zero_row"), 1, [], [.inl 0]),
  ((Str.ofString "unit_row"), 2, [], [.inl 0, .inl 1])], []⟩
theorem ck_law : dfC tab d_law = true := by decide +kernel
theorem ck__law_are_sums_right : dfC tab d__law_are_sums_right = true := by decide +kernel
theorem ck__law_draw : dfC tab d__law_draw = true := by decide +kernel
theorem ck__law_are_products_right : dfC tab d__law_are_products_right = true := by decide +kernel
theorem ck__law_drawn : dfC tab d__law_drawn = true := by decide +kernel
theorem ck__law_pick : dfC tab d__law_pick = true := by decide +kernel
theorem ck__law_deck : dfC tab d__law_deck = true := by decide +kernel
theorem ck__law_mirror : dfC tab d__law_mirror = true := by decide +kernel
theorem ck__law_sum : dfC tab d__law_sum = true := by decide +kernel
theorem ck_zero : dfC tab d_zero = true := by decide +kernel
theorem ck_mirror : dfC tab d_mirror = true := by decide +kernel
theorem ck_diagonal_sum : dfC tab d_diagonal_sum = true := by decide +kernel
theorem ck_added : dfC tab d_added = true := by decide +kernel
theorem ck_times : dfC tab d_times = true := by decide +kernel
theorem ck_taken : dfC tab d_taken = true := by decide +kernel
theorem ck__law_each : dfC tab d__law_each = true := by decide +kernel
theorem ck__law_unit : dfC tab d__law_unit = true := by decide +kernel
theorem ck_product : dfC tab d_product = true := by decide +kernel
theorem ck_led : dfC tab d_led = true := by decide +kernel
theorem ck__law_led : dfC tab d__law_led = true := by decide +kernel
theorem ck__law_row : dfC tab d__law_row = true := by decide +kernel
theorem ck_one : dfC tab d_one = true := by decide +kernel
theorem ck__law_by : dfC tab d__law_by = true := by decide +kernel
theorem ck__law_undoable : dfC tab d__law_undoable = true := by decide +kernel
theorem ck_table_times : dfC tab d_table_times = true := by decide +kernel
theorem ck_mirrored : dfC tab d_mirrored = true := by decide +kernel
theorem ck_need_table : dfC tab d_need_table = true := by decide +kernel
theorem ck_sum_along : dfC tab d_sum_along = true := by decide +kernel
theorem ck_table_sum : dfC tab d_table_sum = true := by decide +kernel
theorem ck_need_fellows : dfC tab d_need_fellows = true := by decide +kernel
theorem ck_need_integer : dfC tab d_need_integer = true := by decide +kernel
theorem ck_table_product : dfC tab d_table_product = true := by decide +kernel
theorem ck_row_led : dfC tab d_row_led = true := by decide +kernel
theorem ck_is_row_value : dfC tab d_is_row_value = true := by decide +kernel
theorem ck_size : dfC tab d_size = true := by decide +kernel
theorem ck_one_table : dfC tab d_one_table = true := by decide +kernel
theorem ck_need_prime : dfC tab d_need_prime = true := by decide +kernel
theorem ck_row_times : dfC tab d_row_times = true := by decide +kernel
theorem ck_is_table_value : dfC tab d_is_table_value = true := by decide +kernel
theorem ck_row_sum : dfC tab d_row_sum = true := by decide +kernel
theorem ck_is_fellow : dfC tab d_is_fellow = true := by decide +kernel
theorem ck_is_integer : dfC tab d_is_integer = true := by decide +kernel
theorem ck_mix : dfC tab d_mix = true := by decide +kernel
theorem ck_is_between : dfC tab d_is_between = true := by decide +kernel
theorem ck_unit_rows : dfC tab d_unit_rows = true := by decide +kernel
theorem ck_is_prime_value : dfC tab d_is_prime_value = true := by decide +kernel
theorem ck_zero_row : dfC tab d_zero_row = true := by decide +kernel
theorem ck_unit_row : dfC tab d_unit_row = true := by decide +kernel
section
variable {K : PySem.W.Frag} {mg : Str → Option Value} {fd : Str → Str} {f : Addr} {fdt : FuncData}
theorem bd_0 (F : FnAt K mg fd d__law_are_sums_right [] f fdt) : BndOk K mg fd fdt d__law_are_sums_right.ps 5 [] [.inl 0, .inl 1, .inl 2, .inl 3, .inl 4] := F.bnd0 fun kV doc pm an cdv ct us ws h1 h2 => match us, ws, h1, h2 with
  | [u0, u1, u2, u3, u4], [], _, _ => ⟨[u0, u1, u2, u3, u4], rfl, rfl, (.cons rfl (.cons rfl (.cons rfl (.cons rfl (.cons rfl .nil)))))⟩
theorem bd_1 (F : FnAt K mg fd d__law_draw [] f fdt) : BndOk K mg fd fdt d__law_draw.ps 2 [] [.inl 0, .inl 1] := F.bnd0 fun kV doc pm an cdv ct us ws h1 h2 => match us, ws, h1, h2 with
  | [u0, u1], [], _, _ => ⟨[u0, u1], rfl, rfl, (.cons rfl (.cons rfl .nil))⟩
theorem bd_2 (F : FnAt K mg fd d__law_are_products_right [] f fdt) : BndOk K mg fd fdt d__law_are_products_right.ps 6 [] [.inl 0, .inl 1, .inl 2, .inl 3, .inl 4, .inl 5] := F.bnd0 fun kV doc pm an cdv ct us ws h1 h2 => match us, ws, h1, h2 with
  | [u0, u1, u2, u3, u4, u5], [], _, _ => ⟨[u0, u1, u2, u3, u4, u5], rfl, rfl, (.cons rfl (.cons rfl (.cons rfl (.cons rfl (.cons rfl (.cons rfl .nil))))))⟩
theorem bd_3 (F : FnAt K mg fd d__law_drawn [] f fdt) : BndOk K mg fd fdt d__law_drawn.ps 3 [] [.inl 0, .inl 1, .inl 2] := F.bnd0 fun kV doc pm an cdv ct us ws h1 h2 => match us, ws, h1, h2 with
  | [u0, u1, u2], [], _, _ => ⟨[u0, u1, u2], rfl, rfl, (.cons rfl (.cons rfl (.cons rfl .nil)))⟩
theorem bd_4 (F : FnAt K mg fd d__law_pick [] f fdt) : BndOk K mg fd fdt d__law_pick.ps 2 [] [.inl 0, .inl 1] := F.bnd0 fun kV doc pm an cdv ct us ws h1 h2 => match us, ws, h1, h2 with
  | [u0, u1], [], _, _ => ⟨[u0, u1], rfl, rfl, (.cons rfl (.cons rfl .nil))⟩
theorem bd_5 (F : FnAt K mg fd d__law_deck [] f fdt) : BndOk K mg fd fdt d__law_deck.ps 1 [] [.inl 0] := F.bnd0 fun kV doc pm an cdv ct us ws h1 h2 => match us, ws, h1, h2 with
  | [u0], [], _, _ => ⟨[u0], rfl, rfl, (.cons rfl .nil)⟩
theorem bd_6 (F : FnAt K mg fd d__law_mirror [] f fdt) : BndOk K mg fd fdt d__law_mirror.ps 1 [] [.inl 0] := F.bnd0 fun kV doc pm an cdv ct us ws h1 h2 => match us, ws, h1, h2 with
  | [u0], [], _, _ => ⟨[u0], rfl, rfl, (.cons rfl .nil)⟩
theorem bd_7 (F : FnAt K mg fd d__law_sum [] f fdt) : BndOk K mg fd fdt d__law_sum.ps 2 [] [.inl 0, .inl 1] := F.bnd0 fun kV doc pm an cdv ct us ws h1 h2 => match us, ws, h1, h2 with
  | [u0, u1], [], _, _ => ⟨[u0, u1], rfl, rfl, (.cons rfl (.cons rfl .nil))⟩
theorem bd_8 (F : FnAt K mg fd d_zero [] f fdt) : BndOk K mg fd fdt d_zero.ps 2 [] [.inl 0, .inl 1] := F.bnd0 fun kV doc pm an cdv ct us ws h1 h2 => match us, ws, h1, h2 with
  | [u0, u1], [], _, _ => ⟨[u0, u1], rfl, rfl, (.cons rfl (.cons rfl .nil))⟩
theorem bd_27 (F : FnAt K mg fd d_zero [] f fdt) : BndOk K mg fd fdt d_zero.ps 0 [(Str.ofString "n"), (Str.ofString "p")] [.inl 1, .inl 0] := F.bnd0 fun kV doc pm an cdv ct us ws h1 h2 => match us, ws, h1, h2 with
  | [], [w0, w1], _, _ => ⟨[w1, w0], rfl, rfl, (.cons rfl (.cons rfl .nil))⟩
theorem bd_9 (F : FnAt K mg fd d_mirror [] f fdt) : BndOk K mg fd fdt d_mirror.ps 1 [] [.inl 0] := F.bnd0 fun kV doc pm an cdv ct us ws h1 h2 => match us, ws, h1, h2 with
  | [u0], [], _, _ => ⟨[u0], rfl, rfl, (.cons rfl .nil)⟩
theorem bd_10 (F : FnAt K mg fd d_mirror [] f fdt) : BndOk K mg fd fdt d_mirror.ps 0 [(Str.ofString "table")] [.inl 0] := F.bnd0 fun kV doc pm an cdv ct us ws h1 h2 => match us, ws, h1, h2 with
  | [], [w0], _, _ => ⟨[w0], rfl, rfl, (.cons rfl .nil)⟩
theorem bd_11 (F : FnAt K mg fd d_diagonal_sum [] f fdt) : BndOk K mg fd fdt d_diagonal_sum.ps 1 [] [.inl 0] := F.bnd0 fun kV doc pm an cdv ct us ws h1 h2 => match us, ws, h1, h2 with
  | [u0], [], _, _ => ⟨[u0], rfl, rfl, (.cons rfl .nil)⟩
theorem bd_12 (F : FnAt K mg fd d_diagonal_sum [] f fdt) : BndOk K mg fd fdt d_diagonal_sum.ps 0 [(Str.ofString "table")] [.inl 0] := F.bnd0 fun kV doc pm an cdv ct us ws h1 h2 => match us, ws, h1, h2 with
  | [], [w0], _, _ => ⟨[w0], rfl, rfl, (.cons rfl .nil)⟩
theorem bd_13 (F : FnAt K mg fd d_added [] f fdt) : BndOk K mg fd fdt d_added.ps 2 [] [.inl 0, .inl 1] := F.bnd0 fun kV doc pm an cdv ct us ws h1 h2 => match us, ws, h1, h2 with
  | [u0, u1], [], _, _ => ⟨[u0, u1], rfl, rfl, (.cons rfl (.cons rfl .nil))⟩
theorem bd_16 (F : FnAt K mg fd d_added [] f fdt) : BndOk K mg fd fdt d_added.ps 0 [(Str.ofString "other"), (Str.ofString "one")] [.inl 1, .inl 0] := F.bnd0 fun kV doc pm an cdv ct us ws h1 h2 => match us, ws, h1, h2 with
  | [], [w0, w1], _, _ => ⟨[w1, w0], rfl, rfl, (.cons rfl (.cons rfl .nil))⟩
theorem bd_14 (F : FnAt K mg fd d_times [] f fdt) : BndOk K mg fd fdt d_times.ps 2 [] [.inl 0, .inl 1] := F.bnd0 fun kV doc pm an cdv ct us ws h1 h2 => match us, ws, h1, h2 with
  | [u0, u1], [], _, _ => ⟨[u0, u1], rfl, rfl, (.cons rfl (.cons rfl .nil))⟩
theorem bd_18 (F : FnAt K mg fd d_times [] f fdt) : BndOk K mg fd fdt d_times.ps 0 [(Str.ofString "number"), (Str.ofString "table")] [.inl 1, .inl 0] := F.bnd0 fun kV doc pm an cdv ct us ws h1 h2 => match us, ws, h1, h2 with
  | [], [w0, w1], _, _ => ⟨[w1, w0], rfl, rfl, (.cons rfl (.cons rfl .nil))⟩
theorem bd_15 (F : FnAt K mg fd d_taken [] f fdt) : BndOk K mg fd fdt d_taken.ps 2 [] [.inl 0, .inl 1] := F.bnd0 fun kV doc pm an cdv ct us ws h1 h2 => match us, ws, h1, h2 with
  | [u0, u1], [], _, _ => ⟨[u0, u1], rfl, rfl, (.cons rfl (.cons rfl .nil))⟩
theorem bd_17 (F : FnAt K mg fd d_taken [] f fdt) : BndOk K mg fd fdt d_taken.ps 0 [(Str.ofString "other"), (Str.ofString "one")] [.inl 1, .inl 0] := F.bnd0 fun kV doc pm an cdv ct us ws h1 h2 => match us, ws, h1, h2 with
  | [], [w0, w1], _, _ => ⟨[w1, w0], rfl, rfl, (.cons rfl (.cons rfl .nil))⟩
theorem bd_19 (F : FnAt K mg fd d__law_each [] f fdt) : BndOk K mg fd fdt d__law_each.ps 4 [] [.inl 0, .inl 1, .inl 2, .inl 3] := F.bnd0 fun kV doc pm an cdv ct us ws h1 h2 => match us, ws, h1, h2 with
  | [u0, u1, u2, u3], [], _, _ => ⟨[u0, u1, u2, u3], rfl, rfl, (.cons rfl (.cons rfl (.cons rfl (.cons rfl .nil))))⟩
theorem bd_20 (F : FnAt K mg fd d__law_unit [] f fdt) : BndOk K mg fd fdt d__law_unit.ps 2 [] [.inl 0, .inl 1] := F.bnd0 fun kV doc pm an cdv ct us ws h1 h2 => match us, ws, h1, h2 with
  | [u0, u1], [], _, _ => ⟨[u0, u1], rfl, rfl, (.cons rfl (.cons rfl .nil))⟩
theorem bd_21 (F : FnAt K mg fd d_product [] f fdt) : BndOk K mg fd fdt d_product.ps 2 [] [.inl 0, .inl 1] := F.bnd0 fun kV doc pm an cdv ct us ws h1 h2 => match us, ws, h1, h2 with
  | [u0, u1], [], _, _ => ⟨[u0, u1], rfl, rfl, (.cons rfl (.cons rfl .nil))⟩
theorem bd_28 (F : FnAt K mg fd d_product [] f fdt) : BndOk K mg fd fdt d_product.ps 0 [(Str.ofString "other"), (Str.ofString "one")] [.inl 1, .inl 0] := F.bnd0 fun kV doc pm an cdv ct us ws h1 h2 => match us, ws, h1, h2 with
  | [], [w0, w1], _, _ => ⟨[w1, w0], rfl, rfl, (.cons rfl (.cons rfl .nil))⟩
theorem bd_22 (F : FnAt K mg fd d_led [] f fdt) : BndOk K mg fd fdt d_led.ps 2 [] [.inl 0, .inl 1] := F.bnd0 fun kV doc pm an cdv ct us ws h1 h2 => match us, ws, h1, h2 with
  | [u0, u1], [], _, _ => ⟨[u0, u1], rfl, rfl, (.cons rfl (.cons rfl .nil))⟩
theorem bd_24 (F : FnAt K mg fd d_led [] f fdt) : BndOk K mg fd fdt d_led.ps 0 [(Str.ofString "row"), (Str.ofString "table")] [.inl 1, .inl 0] := F.bnd0 fun kV doc pm an cdv ct us ws h1 h2 => match us, ws, h1, h2 with
  | [], [w0, w1], _, _ => ⟨[w1, w0], rfl, rfl, (.cons rfl (.cons rfl .nil))⟩
theorem bd_23 (F : FnAt K mg fd d__law_led [] f fdt) : BndOk K mg fd fdt d__law_led.ps 3 [] [.inl 0, .inl 1, .inl 2] := F.bnd0 fun kV doc pm an cdv ct us ws h1 h2 => match us, ws, h1, h2 with
  | [u0, u1, u2], [], _, _ => ⟨[u0, u1, u2], rfl, rfl, (.cons rfl (.cons rfl (.cons rfl .nil)))⟩
theorem bd_25 (F : FnAt K mg fd d__law_row [] f fdt) : BndOk K mg fd fdt d__law_row.ps 3 [] [.inl 0, .inl 1, .inl 2] := F.bnd0 fun kV doc pm an cdv ct us ws h1 h2 => match us, ws, h1, h2 with
  | [u0, u1, u2], [], _, _ => ⟨[u0, u1, u2], rfl, rfl, (.cons rfl (.cons rfl (.cons rfl .nil)))⟩
theorem bd_26 (F : FnAt K mg fd d_one [] f fdt) : BndOk K mg fd fdt d_one.ps 2 [] [.inl 0, .inl 1] := F.bnd0 fun kV doc pm an cdv ct us ws h1 h2 => match us, ws, h1, h2 with
  | [u0, u1], [], _, _ => ⟨[u0, u1], rfl, rfl, (.cons rfl (.cons rfl .nil))⟩
theorem bd_29 (F : FnAt K mg fd d__law_by [] f fdt) : BndOk K mg fd fdt d__law_by.ps 3 [] [.inl 0, .inl 1, .inl 2] := F.bnd0 fun kV doc pm an cdv ct us ws h1 h2 => match us, ws, h1, h2 with
  | [u0, u1, u2], [], _, _ => ⟨[u0, u1, u2], rfl, rfl, (.cons rfl (.cons rfl (.cons rfl .nil)))⟩
theorem bd_30 (F : FnAt K mg fd d__law_undoable [] f fdt) : BndOk K mg fd fdt d__law_undoable.ps 3 [] [.inl 0, .inl 1, .inl 2] := F.bnd0 fun kV doc pm an cdv ct us ws h1 h2 => match us, ws, h1, h2 with
  | [u0, u1, u2], [], _, _ => ⟨[u0, u1, u2], rfl, rfl, (.cons rfl (.cons rfl (.cons rfl .nil)))⟩
theorem bd_31 (F : FnAt K mg fd d_table_times [] f fdt) : BndOk K mg fd fdt d_table_times.ps 2 [] [.inl 0, .inl 1] := F.bnd0 fun kV doc pm an cdv ct us ws h1 h2 => match us, ws, h1, h2 with
  | [u0, u1], [], _, _ => ⟨[u0, u1], rfl, rfl, (.cons rfl (.cons rfl .nil))⟩
theorem bd_32 (F : FnAt K mg fd d_mirrored [] f fdt) : BndOk K mg fd fdt d_mirrored.ps 1 [] [.inl 0] := F.bnd0 fun kV doc pm an cdv ct us ws h1 h2 => match us, ws, h1, h2 with
  | [u0], [], _, _ => ⟨[u0], rfl, rfl, (.cons rfl .nil)⟩
theorem bd_33 (F : FnAt K mg fd d_need_table [] f fdt) : BndOk K mg fd fdt d_need_table.ps 1 [] [.inl 0] := F.bnd0 fun kV doc pm an cdv ct us ws h1 h2 => match us, ws, h1, h2 with
  | [u0], [], _, _ => ⟨[u0], rfl, rfl, (.cons rfl .nil)⟩
theorem bd_34 (F : FnAt K mg fd d_sum_along [] f fdt) : BndOk K mg fd fdt d_sum_along.ps 1 [] [.inl 0] := F.bnd0 fun kV doc pm an cdv ct us ws h1 h2 => match us, ws, h1, h2 with
  | [u0], [], _, _ => ⟨[u0], rfl, rfl, (.cons rfl .nil)⟩
theorem bd_35 (F : FnAt K mg fd d_table_sum [(.int 1)] f fdt) : BndOk K mg fd fdt d_table_sum.ps 2 [] [.inl 0, .inl 1, .inr (.int 1)] := F.bndD (by simp) fun Tt kV doc pm an cdv ct us ws its h1 h2 h3 => match us, ws, its, h1, h2, h3 with
  | [u0, u1], [], [t0], _, _, _ => ⟨[u0, u1, t0], _, rfl, rfl, rfl, (.cons rfl (.cons rfl (.cons ⟨0, rfl, rfl⟩ .nil)))⟩
theorem bd_38 (F : FnAt K mg fd d_table_sum [(.int 1)] f fdt) : BndOk K mg fd fdt d_table_sum.ps 3 [] [.inl 0, .inl 1, .inl 2] := F.bndD (by simp) fun Tt kV doc pm an cdv ct us ws its h1 h2 h3 => match us, ws, its, h1, h2, h3 with
  | [u0, u1, u2], [], [t0], _, _, _ => ⟨[u0, u1, u2], _, rfl, rfl, rfl, (.cons rfl (.cons rfl (.cons rfl .nil)))⟩
theorem bd_36 (F : FnAt K mg fd d_need_fellows [] f fdt) : BndOk K mg fd fdt d_need_fellows.ps 2 [] [.inl 0, .inl 1] := F.bnd0 fun kV doc pm an cdv ct us ws h1 h2 => match us, ws, h1, h2 with
  | [u0, u1], [], _, _ => ⟨[u0, u1], rfl, rfl, (.cons rfl (.cons rfl .nil))⟩
theorem bd_37 (F : FnAt K mg fd d_need_integer [.none] f fdt) : BndOk K mg fd fdt d_need_integer.ps 3 [] [.inl 0, .inl 1, .inl 2] := F.bndD (by simp) fun Tt kV doc pm an cdv ct us ws its h1 h2 h3 => match us, ws, its, h1, h2, h3 with
  | [u0, u1, u2], [], [t0], _, _, _ => ⟨[u0, u1, u2], _, rfl, rfl, rfl, (.cons rfl (.cons rfl (.cons rfl .nil)))⟩
theorem bd_39 (F : FnAt K mg fd d_table_product [] f fdt) : BndOk K mg fd fdt d_table_product.ps 2 [] [.inl 0, .inl 1] := F.bnd0 fun kV doc pm an cdv ct us ws h1 h2 => match us, ws, h1, h2 with
  | [u0, u1], [], _, _ => ⟨[u0, u1], rfl, rfl, (.cons rfl (.cons rfl .nil))⟩
theorem bd_40 (F : FnAt K mg fd d_row_led [] f fdt) : BndOk K mg fd fdt d_row_led.ps 2 [] [.inl 0, .inl 1] := F.bnd0 fun kV doc pm an cdv ct us ws h1 h2 => match us, ws, h1, h2 with
  | [u0, u1], [], _, _ => ⟨[u0, u1], rfl, rfl, (.cons rfl (.cons rfl .nil))⟩
theorem bd_41 (F : FnAt K mg fd d_is_row_value [] f fdt) : BndOk K mg fd fdt d_is_row_value.ps 3 [] [.inl 0, .inl 1, .inl 2] := F.bnd0 fun kV doc pm an cdv ct us ws h1 h2 => match us, ws, h1, h2 with
  | [u0, u1, u2], [], _, _ => ⟨[u0, u1, u2], rfl, rfl, (.cons rfl (.cons rfl (.cons rfl .nil)))⟩
theorem bd_42 (F : FnAt K mg fd d_size [] f fdt) : BndOk K mg fd fdt d_size.ps 1 [] [.inl 0] := F.bnd0 fun kV doc pm an cdv ct us ws h1 h2 => match us, ws, h1, h2 with
  | [u0], [], _, _ => ⟨[u0], rfl, rfl, (.cons rfl .nil)⟩
theorem bd_43 (F : FnAt K mg fd d_one_table [] f fdt) : BndOk K mg fd fdt d_one_table.ps 2 [] [.inl 0, .inl 1] := F.bnd0 fun kV doc pm an cdv ct us ws h1 h2 => match us, ws, h1, h2 with
  | [u0, u1], [], _, _ => ⟨[u0, u1], rfl, rfl, (.cons rfl (.cons rfl .nil))⟩
theorem bd_44 (F : FnAt K mg fd d_need_prime [] f fdt) : BndOk K mg fd fdt d_need_prime.ps 1 [] [.inl 0] := F.bnd0 fun kV doc pm an cdv ct us ws h1 h2 => match us, ws, h1, h2 with
  | [u0], [], _, _ => ⟨[u0], rfl, rfl, (.cons rfl .nil)⟩
theorem bd_45 (F : FnAt K mg fd d_row_times [] f fdt) : BndOk K mg fd fdt d_row_times.ps 3 [] [.inl 0, .inl 1, .inl 2] := F.bnd0 fun kV doc pm an cdv ct us ws h1 h2 => match us, ws, h1, h2 with
  | [u0, u1, u2], [], _, _ => ⟨[u0, u1, u2], rfl, rfl, (.cons rfl (.cons rfl (.cons rfl .nil)))⟩
theorem bd_46 (F : FnAt K mg fd d_is_table_value [] f fdt) : BndOk K mg fd fdt d_is_table_value.ps 1 [] [.inl 0] := F.bnd0 fun kV doc pm an cdv ct us ws h1 h2 => match us, ws, h1, h2 with
  | [u0], [], _, _ => ⟨[u0], rfl, rfl, (.cons rfl .nil)⟩
theorem bd_47 (F : FnAt K mg fd d_row_sum [(.int 1)] f fdt) : BndOk K mg fd fdt d_row_sum.ps 4 [] [.inl 0, .inl 1, .inl 2, .inl 3] := F.bndD (by simp) fun Tt kV doc pm an cdv ct us ws its h1 h2 h3 => match us, ws, its, h1, h2, h3 with
  | [u0, u1, u2, u3], [], [t0], _, _, _ => ⟨[u0, u1, u2, u3], _, rfl, rfl, rfl, (.cons rfl (.cons rfl (.cons rfl (.cons rfl .nil))))⟩
theorem bd_48 (F : FnAt K mg fd d_is_fellow [] f fdt) : BndOk K mg fd fdt d_is_fellow.ps 2 [] [.inl 0, .inl 1] := F.bnd0 fun kV doc pm an cdv ct us ws h1 h2 => match us, ws, h1, h2 with
  | [u0, u1], [], _, _ => ⟨[u0, u1], rfl, rfl, (.cons rfl (.cons rfl .nil))⟩
theorem bd_49 (F : FnAt K mg fd d_is_integer [] f fdt) : BndOk K mg fd fdt d_is_integer.ps 1 [] [.inl 0] := F.bnd0 fun kV doc pm an cdv ct us ws h1 h2 => match us, ws, h1, h2 with
  | [u0], [], _, _ => ⟨[u0], rfl, rfl, (.cons rfl .nil)⟩
theorem bd_50 (F : FnAt K mg fd d_mix [] f fdt) : BndOk K mg fd fdt d_mix.ps 4 [] [.inl 0, .inl 1, .inl 2, .inl 3] := F.bnd0 fun kV doc pm an cdv ct us ws h1 h2 => match us, ws, h1, h2 with
  | [u0, u1, u2, u3], [], _, _ => ⟨[u0, u1, u2, u3], rfl, rfl, (.cons rfl (.cons rfl (.cons rfl (.cons rfl .nil))))⟩
theorem bd_51 (F : FnAt K mg fd d_is_between [] f fdt) : BndOk K mg fd fdt d_is_between.ps 3 [] [.inl 0, .inl 1, .inl 2] := F.bnd0 fun kV doc pm an cdv ct us ws h1 h2 => match us, ws, h1, h2 with
  | [u0, u1, u2], [], _, _ => ⟨[u0, u1, u2], rfl, rfl, (.cons rfl (.cons rfl (.cons rfl .nil)))⟩
theorem bd_52 (F : FnAt K mg fd d_unit_rows [] f fdt) : BndOk K mg fd fdt d_unit_rows.ps 1 [] [.inl 0] := F.bnd0 fun kV doc pm an cdv ct us ws h1 h2 => match us, ws, h1, h2 with
  | [u0], [], _, _ => ⟨[u0], rfl, rfl, (.cons rfl .nil)⟩
theorem bd_53 (F : FnAt K mg fd d_is_prime_value [] f fdt) : BndOk K mg fd fdt d_is_prime_value.ps 1 [] [.inl 0] := F.bnd0 fun kV doc pm an cdv ct us ws h1 h2 => match us, ws, h1, h2 with
  | [u0], [], _, _ => ⟨[u0], rfl, rfl, (.cons rfl .nil)⟩
theorem bd_54 (F : FnAt K mg fd d_zero_row [] f fdt) : BndOk K mg fd fdt d_zero_row.ps 1 [] [.inl 0] := F.bnd0 fun kV doc pm an cdv ct us ws h1 h2 => match us, ws, h1, h2 with
  | [u0], [], _, _ => ⟨[u0], rfl, rfl, (.cons rfl .nil)⟩
theorem bd_55 (F : FnAt K mg fd d_unit_row [] f fdt) : BndOk K mg fd fdt d_unit_row.ps 2 [] [.inl 0, .inl 1] := F.bnd0 fun kV doc pm an cdv ct us ws h1 h2 => match us, ws, h1, h2 with
  | [u0, u1], [], _, _ => ⟨[u0, u1], rfl, rfl, (.cons rfl (.cons rfl .nil))⟩
end
section
variable {l : PySem.W.OpenLaw} {w : World} {K : PySem.W.Frag} {h : Heap} {mg : Str → Option Value} {fa : Addr}
theorem mk_pro (X : K.In h) (G : h.Ns mainGlobals mg) (hfa : mg "law" = some (.ref fa))
    (r_law : Raw K d_law [])
    (r__law_are_sums_right : Raw K d__law_are_sums_right [])
    (r__law_draw : Raw K d__law_draw [])
    (r__law_are_products_right : Raw K d__law_are_products_right [])
    (r__law_drawn : Raw K d__law_drawn [])
    (r__law_pick : Raw K d__law_pick [])
    (r__law_deck : Raw K d__law_deck [])
    (r__law_mirror : Raw K d__law_mirror [])
    (r__law_sum : Raw K d__law_sum [])
    (r_zero : Raw K d_zero [])
    (r_mirror : Raw K d_mirror [])
    (r_diagonal_sum : Raw K d_diagonal_sum [])
    (r_added : Raw K d_added [])
    (r_times : Raw K d_times [])
    (r_taken : Raw K d_taken [])
    (r__law_each : Raw K d__law_each [])
    (r__law_unit : Raw K d__law_unit [])
    (r_product : Raw K d_product [])
    (r_led : Raw K d_led [])
    (r__law_led : Raw K d__law_led [])
    (r__law_row : Raw K d__law_row [])
    (r_one : Raw K d_one [])
    (r__law_by : Raw K d__law_by [])
    (r__law_undoable : Raw K d__law_undoable [])
    (r_table_times : Raw K d_table_times [])
    (r_mirrored : Raw K d_mirrored [])
    (r_need_table : Raw K d_need_table [])
    (r_sum_along : Raw K d_sum_along [])
    (r_table_sum : Raw K d_table_sum [(.int 1)])
    (r_need_fellows : Raw K d_need_fellows [])
    (r_need_integer : Raw K d_need_integer [.none])
    (r_table_product : Raw K d_table_product [])
    (r_row_led : Raw K d_row_led [])
    (r_is_row_value : Raw K d_is_row_value [])
    (r_size : Raw K d_size [])
    (r_one_table : Raw K d_one_table [])
    (r_need_prime : Raw K d_need_prime [])
    (r_row_times : Raw K d_row_times [])
    (r_is_table_value : Raw K d_is_table_value [])
    (r_row_sum : Raw K d_row_sum [(.int 1)])
    (r_is_fellow : Raw K d_is_fellow [])
    (r_is_integer : Raw K d_is_integer [])
    (r_mix : Raw K d_mix [])
    (r_is_between : Raw K d_is_between [])
    (r_unit_rows : Raw K d_unit_rows [])
    (r_is_prime_value : Raw K d_is_prime_value [])
    (r_zero_row : Raw K d_zero_row [])
    (r_unit_row : Raw K d_unit_row [])
    (z_range : PySem.W.nsIn K mainGlobals (Str.ofString "range") = some none)
    (z_repr : PySem.W.nsIn K mainGlobals (Str.ofString "repr") = some none)
    (z_int : PySem.W.nsIn K mainGlobals (Str.ofString "int") = some none)
    (z_max : PySem.W.nsIn K mainGlobals (Str.ofString "max") = some none)
    (z_tuple : PySem.W.nsIn K mainGlobals (Str.ofString "tuple") = some none)
    (z_list : PySem.W.nsIn K mainGlobals (Str.ofString "list") = some none)
    (z_len : PySem.W.nsIn K mainGlobals (Str.ofString "len") = some none)
    (z_sum : PySem.W.nsIn K mainGlobals (Str.ofString "sum") = some none)
    (z_enumerate : PySem.W.nsIn K mainGlobals (Str.ofString "enumerate") = some none)
    (z_zip : PySem.W.nsIn K mainGlobals (Str.ofString "zip") = some none)
    (z_isinstance : PySem.W.nsIn K mainGlobals (Str.ofString "isinstance") = some none)
    (z_all : PySem.W.nsIn K mainGlobals (Str.ofString "all") = some none)
    (z_bool : PySem.W.nsIn K mainGlobals (Str.ofString "bool") = some none)
    (c_MOST_SIZE : RawC K (Str.ofString "MOST_SIZE") (.int 8))
    (c_PRIMES : RawC K (Str.ofString "PRIMES") (.tuple [(.int 2), (.int 3), (.int 5), (.int 7)]))
    : ∃ fdt : FuncData, (∀ (s : Shared) (u : Value), BindsTo s fdt ⟨[u], []⟩ [("script", u)]) ∧ ∀ base : Heap, K.In base → base.Ns mainGlobals mg → (∃ o, base.get? sysModules = some o) →
      FnG l.prog w K mg base L2.CX0 41 fa fdt ["script"] (spD ⟨K, mg, fdN⟩ 1 (evF defs tab.fl noSp 41 "law")) := by
  obtain ⟨f_law, t_law, a_law⟩ := r_law.at_ (fd := fdN) X G
  obtain ⟨f__law_are_sums_right, t__law_are_sums_right, a__law_are_sums_right⟩ := r__law_are_sums_right.at_ (fd := fdN) X G
  obtain ⟨f__law_draw, t__law_draw, a__law_draw⟩ := r__law_draw.at_ (fd := fdN) X G
  obtain ⟨f__law_are_products_right, t__law_are_products_right, a__law_are_products_right⟩ := r__law_are_products_right.at_ (fd := fdN) X G
  obtain ⟨f__law_drawn, t__law_drawn, a__law_drawn⟩ := r__law_drawn.at_ (fd := fdN) X G
  obtain ⟨f__law_pick, t__law_pick, a__law_pick⟩ := r__law_pick.at_ (fd := fdN) X G
  obtain ⟨f__law_deck, t__law_deck, a__law_deck⟩ := r__law_deck.at_ (fd := fdN) X G
  obtain ⟨f__law_mirror, t__law_mirror, a__law_mirror⟩ := r__law_mirror.at_ (fd := fdN) X G
  obtain ⟨f__law_sum, t__law_sum, a__law_sum⟩ := r__law_sum.at_ (fd := fdN) X G
  obtain ⟨f_zero, t_zero, a_zero⟩ := r_zero.at_ (fd := fdN) X G
  obtain ⟨f_mirror, t_mirror, a_mirror⟩ := r_mirror.at_ (fd := fdN) X G
  obtain ⟨f_diagonal_sum, t_diagonal_sum, a_diagonal_sum⟩ := r_diagonal_sum.at_ (fd := fdN) X G
  obtain ⟨f_added, t_added, a_added⟩ := r_added.at_ (fd := fdN) X G
  obtain ⟨f_times, t_times, a_times⟩ := r_times.at_ (fd := fdN) X G
  obtain ⟨f_taken, t_taken, a_taken⟩ := r_taken.at_ (fd := fdN) X G
  obtain ⟨f__law_each, t__law_each, a__law_each⟩ := r__law_each.at_ (fd := fdN) X G
  obtain ⟨f__law_unit, t__law_unit, a__law_unit⟩ := r__law_unit.at_ (fd := fdN) X G
  obtain ⟨f_product, t_product, a_product⟩ := r_product.at_ (fd := fdN) X G
  obtain ⟨f_led, t_led, a_led⟩ := r_led.at_ (fd := fdN) X G
  obtain ⟨f__law_led, t__law_led, a__law_led⟩ := r__law_led.at_ (fd := fdN) X G
  obtain ⟨f__law_row, t__law_row, a__law_row⟩ := r__law_row.at_ (fd := fdN) X G
  obtain ⟨f_one, t_one, a_one⟩ := r_one.at_ (fd := fdN) X G
  obtain ⟨f__law_by, t__law_by, a__law_by⟩ := r__law_by.at_ (fd := fdN) X G
  obtain ⟨f__law_undoable, t__law_undoable, a__law_undoable⟩ := r__law_undoable.at_ (fd := fdN) X G
  obtain ⟨f_table_times, t_table_times, a_table_times⟩ := r_table_times.at_ (fd := fdN) X G
  obtain ⟨f_mirrored, t_mirrored, a_mirrored⟩ := r_mirrored.at_ (fd := fdN) X G
  obtain ⟨f_need_table, t_need_table, a_need_table⟩ := r_need_table.at_ (fd := fdN) X G
  obtain ⟨f_sum_along, t_sum_along, a_sum_along⟩ := r_sum_along.at_ (fd := fdN) X G
  obtain ⟨f_table_sum, t_table_sum, a_table_sum⟩ := r_table_sum.at_ (fd := fdN) X G
  obtain ⟨f_need_fellows, t_need_fellows, a_need_fellows⟩ := r_need_fellows.at_ (fd := fdN) X G
  obtain ⟨f_need_integer, t_need_integer, a_need_integer⟩ := r_need_integer.at_ (fd := fdN) X G
  obtain ⟨f_table_product, t_table_product, a_table_product⟩ := r_table_product.at_ (fd := fdN) X G
  obtain ⟨f_row_led, t_row_led, a_row_led⟩ := r_row_led.at_ (fd := fdN) X G
  obtain ⟨f_is_row_value, t_is_row_value, a_is_row_value⟩ := r_is_row_value.at_ (fd := fdN) X G
  obtain ⟨f_size, t_size, a_size⟩ := r_size.at_ (fd := fdN) X G
  obtain ⟨f_one_table, t_one_table, a_one_table⟩ := r_one_table.at_ (fd := fdN) X G
  obtain ⟨f_need_prime, t_need_prime, a_need_prime⟩ := r_need_prime.at_ (fd := fdN) X G
  obtain ⟨f_row_times, t_row_times, a_row_times⟩ := r_row_times.at_ (fd := fdN) X G
  obtain ⟨f_is_table_value, t_is_table_value, a_is_table_value⟩ := r_is_table_value.at_ (fd := fdN) X G
  obtain ⟨f_row_sum, t_row_sum, a_row_sum⟩ := r_row_sum.at_ (fd := fdN) X G
  obtain ⟨f_is_fellow, t_is_fellow, a_is_fellow⟩ := r_is_fellow.at_ (fd := fdN) X G
  obtain ⟨f_is_integer, t_is_integer, a_is_integer⟩ := r_is_integer.at_ (fd := fdN) X G
  obtain ⟨f_mix, t_mix, a_mix⟩ := r_mix.at_ (fd := fdN) X G
  obtain ⟨f_is_between, t_is_between, a_is_between⟩ := r_is_between.at_ (fd := fdN) X G
  obtain ⟨f_unit_rows, t_unit_rows, a_unit_rows⟩ := r_unit_rows.at_ (fd := fdN) X G
  obtain ⟨f_is_prime_value, t_is_prime_value, a_is_prime_value⟩ := r_is_prime_value.at_ (fd := fdN) X G
  obtain ⟨f_zero_row, t_zero_row, a_zero_row⟩ := r_zero_row.at_ (fd := fdN) X G
  obtain ⟨f_unit_row, t_unit_row, a_unit_row⟩ := r_unit_row.at_ (fd := fdN) X G
  have hf : fa = f_law := by
    have q := hfa.symm.trans a_law.mgf
    injection q with q
    injection q
  subst hf
  refine ⟨t_law, bind_one a_law (fun kV doc pm an cdv ct u => rfl), fun base inB nsB sys => ?_⟩
  have pro : Pro defs tab noSp l.prog w K mg base fdN L2.CX0 := by
    refine ⟨by decide +kernel, ?_, ?_, fun q hq => .inl (by revert q; decide +kernel), ?_, ?_, fun C f z => (nomatch z), sys, fun _ _ _ _ _ _ _ _ _ _ => fun _ _ _ _ _ _ _ z => z.elim, fun _ _ _ _ _ z => z⟩
    · intro d hd
      simp only [defs, List.mem_cons, List.not_mem_nil, or_false] at hd
      rcases hd with rfl | rfl | rfl | rfl | rfl | rfl | rfl | rfl | rfl | rfl | rfl | rfl | rfl | rfl | rfl | rfl | rfl | rfl | rfl | rfl | rfl | rfl | rfl | rfl | rfl | rfl | rfl | rfl | rfl | rfl | rfl | rfl | rfl | rfl | rfl | rfl | rfl | rfl | rfl | rfl | rfl | rfl | rfl | rfl | rfl | rfl | rfl | rfl
      · exact ck_law
      · exact ck__law_are_sums_right
      · exact ck__law_draw
      · exact ck__law_are_products_right
      · exact ck__law_drawn
      · exact ck__law_pick
      · exact ck__law_deck
      · exact ck__law_mirror
      · exact ck__law_sum
      · exact ck_zero
      · exact ck_mirror
      · exact ck_diagonal_sum
      · exact ck_added
      · exact ck_times
      · exact ck_taken
      · exact ck__law_each
      · exact ck__law_unit
      · exact ck_product
      · exact ck_led
      · exact ck__law_led
      · exact ck__law_row
      · exact ck_one
      · exact ck__law_by
      · exact ck__law_undoable
      · exact ck_table_times
      · exact ck_mirrored
      · exact ck_need_table
      · exact ck_sum_along
      · exact ck_table_sum
      · exact ck_need_fellows
      · exact ck_need_integer
      · exact ck_table_product
      · exact ck_row_led
      · exact ck_is_row_value
      · exact ck_size
      · exact ck_one_table
      · exact ck_need_prime
      · exact ck_row_times
      · exact ck_is_table_value
      · exact ck_row_sum
      · exact ck_is_fellow
      · exact ck_is_integer
      · exact ck_mix
      · exact ck_is_between
      · exact ck_unit_rows
      · exact ck_is_prime_value
      · exact ck_zero_row
      · exact ck_unit_row
    · intro d hd
      simp only [defs, List.mem_cons, List.not_mem_nil, or_false] at hd
      rcases hd with rfl | rfl | rfl | rfl | rfl | rfl | rfl | rfl | rfl | rfl | rfl | rfl | rfl | rfl | rfl | rfl | rfl | rfl | rfl | rfl | rfl | rfl | rfl | rfl | rfl | rfl | rfl | rfl | rfl | rfl | rfl | rfl | rfl | rfl | rfl | rfl | rfl | rfl | rfl | rfl | rfl | rfl | rfl | rfl | rfl | rfl | rfl | rfl
      · refine ⟨fa, t_law, _, a_law, shp_of tab.shp ?_⟩
        exact .cons_no (by decide +kernel) (.cons_no (by decide +kernel) (.cons_no (by decide +kernel) (.cons_no (by decide +kernel) (.cons_no (by decide +kernel) (.cons_no (by decide +kernel) (.cons_no (by decide +kernel) (.cons_no (by decide +kernel) (.cons_no (by decide +kernel) (.cons_no (by decide +kernel) (.cons_no (by decide +kernel) (.cons_no (by decide +kernel) (.cons_no (by decide +kernel) (.cons_no (by decide +kernel) (.cons_no (by decide +kernel) (.cons_no (by decide +kernel) (.cons_no (by decide +kernel) (.cons_no (by decide +kernel) (.cons_no (by decide +kernel) (.cons_no (by decide +kernel) (.cons_no (by decide +kernel) (.cons_no (by decide +kernel) (.cons_no (by decide +kernel) (.cons_no (by decide +kernel) (.cons_no (by decide +kernel) (.cons_no (by decide +kernel) (.cons_no (by decide +kernel) (.cons_no (by decide +kernel) (.cons_no (by decide +kernel) (.cons_no (by decide +kernel) (.cons_no (by decide +kernel) (.cons_no (by decide +kernel) (.cons_no (by decide +kernel) (.cons_no (by decide +kernel) (.cons_no (by decide +kernel) (.cons_no (by decide +kernel) (.cons_no (by decide +kernel) (.cons_no (by decide +kernel) (.cons_no (by decide +kernel) (.cons_no (by decide +kernel) (.cons_no (by decide +kernel) (.cons_no (by decide +kernel) (.cons_no (by decide +kernel) (.cons_no (by decide +kernel) (.cons_no (by decide +kernel) (.cons_no (by decide +kernel) (.cons_no (by decide +kernel) (.cons_no (by decide +kernel) (.cons_no (by decide +kernel) (.cons_no (by decide +kernel) (.cons_no (by decide +kernel) (.cons_no (by decide +kernel) (.cons_no (by decide +kernel) (.cons_no (by decide +kernel) (.cons_no (by decide +kernel) (.cons_no (by decide +kernel) (.nil))))))))))))))))))))))))))))))))))))))))))))))))))))))))
      · refine ⟨f__law_are_sums_right, t__law_are_sums_right, _, a__law_are_sums_right, shp_of tab.shp ?_⟩
        exact .cons_yes (bd_0 a__law_are_sums_right) (.cons_no (by decide +kernel) (.cons_no (by decide +kernel) (.cons_no (by decide +kernel) (.cons_no (by decide +kernel) (.cons_no (by decide +kernel) (.cons_no (by decide +kernel) (.cons_no (by decide +kernel) (.cons_no (by decide +kernel) (.cons_no (by decide +kernel) (.cons_no (by decide +kernel) (.cons_no (by decide +kernel) (.cons_no (by decide +kernel) (.cons_no (by decide +kernel) (.cons_no (by decide +kernel) (.cons_no (by decide +kernel) (.cons_no (by decide +kernel) (.cons_no (by decide +kernel) (.cons_no (by decide +kernel) (.cons_no (by decide +kernel) (.cons_no (by decide +kernel) (.cons_no (by decide +kernel) (.cons_no (by decide +kernel) (.cons_no (by decide +kernel) (.cons_no (by decide +kernel) (.cons_no (by decide +kernel) (.cons_no (by decide +kernel) (.cons_no (by decide +kernel) (.cons_no (by decide +kernel) (.cons_no (by decide +kernel) (.cons_no (by decide +kernel) (.cons_no (by decide +kernel) (.cons_no (by decide +kernel) (.cons_no (by decide +kernel) (.cons_no (by decide +kernel) (.cons_no (by decide +kernel) (.cons_no (by decide +kernel) (.cons_no (by decide +kernel) (.cons_no (by decide +kernel) (.cons_no (by decide +kernel) (.cons_no (by decide +kernel) (.cons_no (by decide +kernel) (.cons_no (by decide +kernel) (.cons_no (by decide +kernel) (.cons_no (by decide +kernel) (.cons_no (by decide +kernel) (.cons_no (by decide +kernel) (.cons_no (by decide +kernel) (.cons_no (by decide +kernel) (.cons_no (by decide +kernel) (.cons_no (by decide +kernel) (.cons_no (by decide +kernel) (.cons_no (by decide +kernel) (.cons_no (by decide +kernel) (.cons_no (by decide +kernel) (.cons_no (by decide +kernel) (.nil))))))))))))))))))))))))))))))))))))))))))))))))))))))))
      · refine ⟨f__law_draw, t__law_draw, _, a__law_draw, shp_of tab.shp ?_⟩
        exact .cons_no (by decide +kernel) (.cons_yes (bd_1 a__law_draw) (.cons_no (by decide +kernel) (.cons_no (by decide +kernel) (.cons_no (by decide +kernel) (.cons_no (by decide +kernel) (.cons_no (by decide +kernel) (.cons_no (by decide +kernel) (.cons_no (by decide +kernel) (.cons_no (by decide +kernel) (.cons_no (by decide +kernel) (.cons_no (by decide +kernel) (.cons_no (by decide +kernel) (.cons_no (by decide +kernel) (.cons_no (by decide +kernel) (.cons_no (by decide +kernel) (.cons_no (by decide +kernel) (.cons_no (by decide +kernel) (.cons_no (by decide +kernel) (.cons_no (by decide +kernel) (.cons_no (by decide +kernel) (.cons_no (by decide +kernel) (.cons_no (by decide +kernel) (.cons_no (by decide +kernel) (.cons_no (by decide +kernel) (.cons_no (by decide +kernel) (.cons_no (by decide +kernel) (.cons_no (by decide +kernel) (.cons_no (by decide +kernel) (.cons_no (by decide +kernel) (.cons_no (by decide +kernel) (.cons_no (by decide +kernel) (.cons_no (by decide +kernel) (.cons_no (by decide +kernel) (.cons_no (by decide +kernel) (.cons_no (by decide +kernel) (.cons_no (by decide +kernel) (.cons_no (by decide +kernel) (.cons_no (by decide +kernel) (.cons_no (by decide +kernel) (.cons_no (by decide +kernel) (.cons_no (by decide +kernel) (.cons_no (by decide +kernel) (.cons_no (by decide +kernel) (.cons_no (by decide +kernel) (.cons_no (by decide +kernel) (.cons_no (by decide +kernel) (.cons_no (by decide +kernel) (.cons_no (by decide +kernel) (.cons_no (by decide +kernel) (.cons_no (by decide +kernel) (.cons_no (by decide +kernel) (.cons_no (by decide +kernel) (.cons_no (by decide +kernel) (.cons_no (by decide +kernel) (.cons_no (by decide +kernel) (.nil))))))))))))))))))))))))))))))))))))))))))))))))))))))))
      · refine ⟨f__law_are_products_right, t__law_are_products_right, _, a__law_are_products_right, shp_of tab.shp ?_⟩
        exact .cons_no (by decide +kernel) (.cons_no (by decide +kernel) (.cons_yes (bd_2 a__law_are_products_right) (.cons_no (by decide +kernel) (.cons_no (by decide +kernel) (.cons_no (by decide +kernel) (.cons_no (by decide +kernel) (.cons_no (by decide +kernel) (.cons_no (by decide +kernel) (.cons_no (by decide +kernel) (.cons_no (by decide +kernel) (.cons_no (by decide +kernel) (.cons_no (by decide +kernel) (.cons_no (by decide +kernel) (.cons_no (by decide +kernel) (.cons_no (by decide +kernel) (.cons_no (by decide +kernel) (.cons_no (by decide +kernel) (.cons_no (by decide +kernel) (.cons_no (by decide +kernel) (.cons_no (by decide +kernel) (.cons_no (by decide +kernel) (.cons_no (by decide +kernel) (.cons_no (by decide +kernel) (.cons_no (by decide +kernel) (.cons_no (by decide +kernel) (.cons_no (by decide +kernel) (.cons_no (by decide +kernel) (.cons_no (by decide +kernel) (.cons_no (by decide +kernel) (.cons_no (by decide +kernel) (.cons_no (by decide +kernel) (.cons_no (by decide +kernel) (.cons_no (by decide +kernel) (.cons_no (by decide +kernel) (.cons_no (by decide +kernel) (.cons_no (by decide +kernel) (.cons_no (by decide +kernel) (.cons_no (by decide +kernel) (.cons_no (by decide +kernel) (.cons_no (by decide +kernel) (.cons_no (by decide +kernel) (.cons_no (by decide +kernel) (.cons_no (by decide +kernel) (.cons_no (by decide +kernel) (.cons_no (by decide +kernel) (.cons_no (by decide +kernel) (.cons_no (by decide +kernel) (.cons_no (by decide +kernel) (.cons_no (by decide +kernel) (.cons_no (by decide +kernel) (.cons_no (by decide +kernel) (.cons_no (by decide +kernel) (.cons_no (by decide +kernel) (.cons_no (by decide +kernel) (.cons_no (by decide +kernel) (.nil))))))))))))))))))))))))))))))))))))))))))))))))))))))))
      · refine ⟨f__law_drawn, t__law_drawn, _, a__law_drawn, shp_of tab.shp ?_⟩
        exact .cons_no (by decide +kernel) (.cons_no (by decide +kernel) (.cons_no (by decide +kernel) (.cons_yes (bd_3 a__law_drawn) (.cons_no (by decide +kernel) (.cons_no (by decide +kernel) (.cons_no (by decide +kernel) (.cons_no (by decide +kernel) (.cons_no (by decide +kernel) (.cons_no (by decide +kernel) (.cons_no (by decide +kernel) (.cons_no (by decide +kernel) (.cons_no (by decide +kernel) (.cons_no (by decide +kernel) (.cons_no (by decide +kernel) (.cons_no (by decide +kernel) (.cons_no (by decide +kernel) (.cons_no (by decide +kernel) (.cons_no (by decide +kernel) (.cons_no (by decide +kernel) (.cons_no (by decide +kernel) (.cons_no (by decide +kernel) (.cons_no (by decide +kernel) (.cons_no (by decide +kernel) (.cons_no (by decide +kernel) (.cons_no (by decide +kernel) (.cons_no (by decide +kernel) (.cons_no (by decide +kernel) (.cons_no (by decide +kernel) (.cons_no (by decide +kernel) (.cons_no (by decide +kernel) (.cons_no (by decide +kernel) (.cons_no (by decide +kernel) (.cons_no (by decide +kernel) (.cons_no (by decide +kernel) (.cons_no (by decide +kernel) (.cons_no (by decide +kernel) (.cons_no (by decide +kernel) (.cons_no (by decide +kernel) (.cons_no (by decide +kernel) (.cons_no (by decide +kernel) (.cons_no (by decide +kernel) (.cons_no (by decide +kernel) (.cons_no (by decide +kernel) (.cons_no (by decide +kernel) (.cons_no (by decide +kernel) (.cons_no (by decide +kernel) (.cons_no (by decide +kernel) (.cons_no (by decide +kernel) (.cons_no (by decide +kernel) (.cons_no (by decide +kernel) (.cons_no (by decide +kernel) (.cons_no (by decide +kernel) (.cons_no (by decide +kernel) (.cons_no (by decide +kernel) (.cons_no (by decide +kernel) (.nil))))))))))))))))))))))))))))))))))))))))))))))))))))))))
      · refine ⟨f__law_pick, t__law_pick, _, a__law_pick, shp_of tab.shp ?_⟩
        exact .cons_no (by decide +kernel) (.cons_no (by decide +kernel) (.cons_no (by decide +kernel) (.cons_no (by decide +kernel) (.cons_yes (bd_4 a__law_pick) (.cons_no (by decide +kernel) (.cons_no (by decide +kernel) (.cons_no (by decide +kernel) (.cons_no (by decide +kernel) (.cons_no (by decide +kernel) (.cons_no (by decide +kernel) (.cons_no (by decide +kernel) (.cons_no (by decide +kernel) (.cons_no (by decide +kernel) (.cons_no (by decide +kernel) (.cons_no (by decide +kernel) (.cons_no (by decide +kernel) (.cons_no (by decide +kernel) (.cons_no (by decide +kernel) (.cons_no (by decide +kernel) (.cons_no (by decide +kernel) (.cons_no (by decide +kernel) (.cons_no (by decide +kernel) (.cons_no (by decide +kernel) (.cons_no (by decide +kernel) (.cons_no (by decide +kernel) (.cons_no (by decide +kernel) (.cons_no (by decide +kernel) (.cons_no (by decide +kernel) (.cons_no (by decide +kernel) (.cons_no (by decide +kernel) (.cons_no (by decide +kernel) (.cons_no (by decide +kernel) (.cons_no (by decide +kernel) (.cons_no (by decide +kernel) (.cons_no (by decide +kernel) (.cons_no (by decide +kernel) (.cons_no (by decide +kernel) (.cons_no (by decide +kernel) (.cons_no (by decide +kernel) (.cons_no (by decide +kernel) (.cons_no (by decide +kernel) (.cons_no (by decide +kernel) (.cons_no (by decide +kernel) (.cons_no (by decide +kernel) (.cons_no (by decide +kernel) (.cons_no (by decide +kernel) (.cons_no (by decide +kernel) (.cons_no (by decide +kernel) (.cons_no (by decide +kernel) (.cons_no (by decide +kernel) (.cons_no (by decide +kernel) (.cons_no (by decide +kernel) (.cons_no (by decide +kernel) (.cons_no (by decide +kernel) (.cons_no (by decide +kernel) (.nil))))))))))))))))))))))))))))))))))))))))))))))))))))))))
      · refine ⟨f__law_deck, t__law_deck, _, a__law_deck, shp_of tab.shp ?_⟩
        exact .cons_no (by decide +kernel) (.cons_no (by decide +kernel) (.cons_no (by decide +kernel) (.cons_no (by decide +kernel) (.cons_no (by decide +kernel) (.cons_yes (bd_5 a__law_deck) (.cons_no (by decide +kernel) (.cons_no (by decide +kernel) (.cons_no (by decide +kernel) (.cons_no (by decide +kernel) (.cons_no (by decide +kernel) (.cons_no (by decide +kernel) (.cons_no (by decide +kernel) (.cons_no (by decide +kernel) (.cons_no (by decide +kernel) (.cons_no (by decide +kernel) (.cons_no (by decide +kernel) (.cons_no (by decide +kernel) (.cons_no (by decide +kernel) (.cons_no (by decide +kernel) (.cons_no (by decide +kernel) (.cons_no (by decide +kernel) (.cons_no (by decide +kernel) (.cons_no (by decide +kernel) (.cons_no (by decide +kernel) (.cons_no (by decide +kernel) (.cons_no (by decide +kernel) (.cons_no (by decide +kernel) (.cons_no (by decide +kernel) (.cons_no (by decide +kernel) (.cons_no (by decide +kernel) (.cons_no (by decide +kernel) (.cons_no (by decide +kernel) (.cons_no (by decide +kernel) (.cons_no (by decide +kernel) (.cons_no (by decide +kernel) (.cons_no (by decide +kernel) (.cons_no (by decide +kernel) (.cons_no (by decide +kernel) (.cons_no (by decide +kernel) (.cons_no (by decide +kernel) (.cons_no (by decide +kernel) (.cons_no (by decide +kernel) (.cons_no (by decide +kernel) (.cons_no (by decide +kernel) (.cons_no (by decide +kernel) (.cons_no (by decide +kernel) (.cons_no (by decide +kernel) (.cons_no (by decide +kernel) (.cons_no (by decide +kernel) (.cons_no (by decide +kernel) (.cons_no (by decide +kernel) (.cons_no (by decide +kernel) (.cons_no (by decide +kernel) (.cons_no (by decide +kernel) (.cons_no (by decide +kernel) (.nil))))))))))))))))))))))))))))))))))))))))))))))))))))))))
      · refine ⟨f__law_mirror, t__law_mirror, _, a__law_mirror, shp_of tab.shp ?_⟩
        exact .cons_no (by decide +kernel) (.cons_no (by decide +kernel) (.cons_no (by decide +kernel) (.cons_no (by decide +kernel) (.cons_no (by decide +kernel) (.cons_no (by decide +kernel) (.cons_yes (bd_6 a__law_mirror) (.cons_no (by decide +kernel) (.cons_no (by decide +kernel) (.cons_no (by decide +kernel) (.cons_no (by decide +kernel) (.cons_no (by decide +kernel) (.cons_no (by decide +kernel) (.cons_no (by decide +kernel) (.cons_no (by decide +kernel) (.cons_no (by decide +kernel) (.cons_no (by decide +kernel) (.cons_no (by decide +kernel) (.cons_no (by decide +kernel) (.cons_no (by decide +kernel) (.cons_no (by decide +kernel) (.cons_no (by decide +kernel) (.cons_no (by decide +kernel) (.cons_no (by decide +kernel) (.cons_no (by decide +kernel) (.cons_no (by decide +kernel) (.cons_no (by decide +kernel) (.cons_no (by decide +kernel) (.cons_no (by decide +kernel) (.cons_no (by decide +kernel) (.cons_no (by decide +kernel) (.cons_no (by decide +kernel) (.cons_no (by decide +kernel) (.cons_no (by decide +kernel) (.cons_no (by decide +kernel) (.cons_no (by decide +kernel) (.cons_no (by decide +kernel) (.cons_no (by decide +kernel) (.cons_no (by decide +kernel) (.cons_no (by decide +kernel) (.cons_no (by decide +kernel) (.cons_no (by decide +kernel) (.cons_no (by decide +kernel) (.cons_no (by decide +kernel) (.cons_no (by decide +kernel) (.cons_no (by decide +kernel) (.cons_no (by decide +kernel) (.cons_no (by decide +kernel) (.cons_no (by decide +kernel) (.cons_no (by decide +kernel) (.cons_no (by decide +kernel) (.cons_no (by decide +kernel) (.cons_no (by decide +kernel) (.cons_no (by decide +kernel) (.cons_no (by decide +kernel) (.cons_no (by decide +kernel) (.nil))))))))))))))))))))))))))))))))))))))))))))))))))))))))
      · refine ⟨f__law_sum, t__law_sum, _, a__law_sum, shp_of tab.shp ?_⟩
        exact .cons_no (by decide +kernel) (.cons_no (by decide +kernel) (.cons_no (by decide +kernel) (.cons_no (by decide +kernel) (.cons_no (by decide +kernel) (.cons_no (by decide +kernel) (.cons_no (by decide +kernel) (.cons_yes (bd_7 a__law_sum) (.cons_no (by decide +kernel) (.cons_no (by decide +kernel) (.cons_no (by decide +kernel) (.cons_no (by decide +kernel) (.cons_no (by decide +kernel) (.cons_no (by decide +kernel) (.cons_no (by decide +kernel) (.cons_no (by decide +kernel) (.cons_no (by decide +kernel) (.cons_no (by decide +kernel) (.cons_no (by decide +kernel) (.cons_no (by decide +kernel) (.cons_no (by decide +kernel) (.cons_no (by decide +kernel) (.cons_no (by decide +kernel) (.cons_no (by decide +kernel) (.cons_no (by decide +kernel) (.cons_no (by decide +kernel) (.cons_no (by decide +kernel) (.cons_no (by decide +kernel) (.cons_no (by decide +kernel) (.cons_no (by decide +kernel) (.cons_no (by decide +kernel) (.cons_no (by decide +kernel) (.cons_no (by decide +kernel) (.cons_no (by decide +kernel) (.cons_no (by decide +kernel) (.cons_no (by decide +kernel) (.cons_no (by decide +kernel) (.cons_no (by decide +kernel) (.cons_no (by decide +kernel) (.cons_no (by decide +kernel) (.cons_no (by decide +kernel) (.cons_no (by decide +kernel) (.cons_no (by decide +kernel) (.cons_no (by decide +kernel) (.cons_no (by decide +kernel) (.cons_no (by decide +kernel) (.cons_no (by decide +kernel) (.cons_no (by decide +kernel) (.cons_no (by decide +kernel) (.cons_no (by decide +kernel) (.cons_no (by decide +kernel) (.cons_no (by decide +kernel) (.cons_no (by decide +kernel) (.cons_no (by decide +kernel) (.cons_no (by decide +kernel) (.cons_no (by decide +kernel) (.nil))))))))))))))))))))))))))))))))))))))))))))))))))))))))
      · refine ⟨f_zero, t_zero, _, a_zero, shp_of tab.shp ?_⟩
        exact .cons_no (by decide +kernel) (.cons_no (by decide +kernel) (.cons_no (by decide +kernel) (.cons_no (by decide +kernel) (.cons_no (by decide +kernel) (.cons_no (by decide +kernel) (.cons_no (by decide +kernel) (.cons_no (by decide +kernel) (.cons_yes (bd_8 a_zero) (.cons_no (by decide +kernel) (.cons_no (by decide +kernel) (.cons_no (by decide +kernel) (.cons_no (by decide +kernel) (.cons_no (by decide +kernel) (.cons_no (by decide +kernel) (.cons_no (by decide +kernel) (.cons_no (by decide +kernel) (.cons_no (by decide +kernel) (.cons_no (by decide +kernel) (.cons_no (by decide +kernel) (.cons_no (by decide +kernel) (.cons_no (by decide +kernel) (.cons_no (by decide +kernel) (.cons_no (by decide +kernel) (.cons_no (by decide +kernel) (.cons_no (by decide +kernel) (.cons_no (by decide +kernel) (.cons_yes (bd_27 a_zero) (.cons_no (by decide +kernel) (.cons_no (by decide +kernel) (.cons_no (by decide +kernel) (.cons_no (by decide +kernel) (.cons_no (by decide +kernel) (.cons_no (by decide +kernel) (.cons_no (by decide +kernel) (.cons_no (by decide +kernel) (.cons_no (by decide +kernel) (.cons_no (by decide +kernel) (.cons_no (by decide +kernel) (.cons_no (by decide +kernel) (.cons_no (by decide +kernel) (.cons_no (by decide +kernel) (.cons_no (by decide +kernel) (.cons_no (by decide +kernel) (.cons_no (by decide +kernel) (.cons_no (by decide +kernel) (.cons_no (by decide +kernel) (.cons_no (by decide +kernel) (.cons_no (by decide +kernel) (.cons_no (by decide +kernel) (.cons_no (by decide +kernel) (.cons_no (by decide +kernel) (.cons_no (by decide +kernel) (.cons_no (by decide +kernel) (.cons_no (by decide +kernel) (.cons_no (by decide +kernel) (.nil))))))))))))))))))))))))))))))))))))))))))))))))))))))))
      · refine ⟨f_mirror, t_mirror, _, a_mirror, shp_of tab.shp ?_⟩
        exact .cons_no (by decide +kernel) (.cons_no (by decide +kernel) (.cons_no (by decide +kernel) (.cons_no (by decide +kernel) (.cons_no (by decide +kernel) (.cons_no (by decide +kernel) (.cons_no (by decide +kernel) (.cons_no (by decide +kernel) (.cons_no (by decide +kernel) (.cons_yes (bd_9 a_mirror) (.cons_yes (bd_10 a_mirror) (.cons_no (by decide +kernel) (.cons_no (by decide +kernel) (.cons_no (by decide +kernel) (.cons_no (by decide +kernel) (.cons_no (by decide +kernel) (.cons_no (by decide +kernel) (.cons_no (by decide +kernel) (.cons_no (by decide +kernel) (.cons_no (by decide +kernel) (.cons_no (by decide +kernel) (.cons_no (by decide +kernel) (.cons_no (by decide +kernel) (.cons_no (by decide +kernel) (.cons_no (by decide +kernel) (.cons_no (by decide +kernel) (.cons_no (by decide +kernel) (.cons_no (by decide +kernel) (.cons_no (by decide +kernel) (.cons_no (by decide +kernel) (.cons_no (by decide +kernel) (.cons_no (by decide +kernel) (.cons_no (by decide +kernel) (.cons_no (by decide +kernel) (.cons_no (by decide +kernel) (.cons_no (by decide +kernel) (.cons_no (by decide +kernel) (.cons_no (by decide +kernel) (.cons_no (by decide +kernel) (.cons_no (by decide +kernel) (.cons_no (by decide +kernel) (.cons_no (by decide +kernel) (.cons_no (by decide +kernel) (.cons_no (by decide +kernel) (.cons_no (by decide +kernel) (.cons_no (by decide +kernel) (.cons_no (by decide +kernel) (.cons_no (by decide +kernel) (.cons_no (by decide +kernel) (.cons_no (by decide +kernel) (.cons_no (by decide +kernel) (.cons_no (by decide +kernel) (.cons_no (by decide +kernel) (.cons_no (by decide +kernel) (.cons_no (by decide +kernel) (.cons_no (by decide +kernel) (.nil))))))))))))))))))))))))))))))))))))))))))))))))))))))))
      · refine ⟨f_diagonal_sum, t_diagonal_sum, _, a_diagonal_sum, shp_of tab.shp ?_⟩
        exact .cons_no (by decide +kernel) (.cons_no (by decide +kernel) (.cons_no (by decide +kernel) (.cons_no (by decide +kernel) (.cons_no (by decide +kernel) (.cons_no (by decide +kernel) (.cons_no (by decide +kernel) (.cons_no (by decide +kernel) (.cons_no (by decide +kernel) (.cons_no (by decide +kernel) (.cons_no (by decide +kernel) (.cons_yes (bd_11 a_diagonal_sum) (.cons_yes (bd_12 a_diagonal_sum) (.cons_no (by decide +kernel) (.cons_no (by decide +kernel) (.cons_no (by decide +kernel) (.cons_no (by decide +kernel) (.cons_no (by decide +kernel) (.cons_no (by decide +kernel) (.cons_no (by decide +kernel) (.cons_no (by decide +kernel) (.cons_no (by decide +kernel) (.cons_no (by decide +kernel) (.cons_no (by decide +kernel) (.cons_no (by decide +kernel) (.cons_no (by decide +kernel) (.cons_no (by decide +kernel) (.cons_no (by decide +kernel) (.cons_no (by decide +kernel) (.cons_no (by decide +kernel) (.cons_no (by decide +kernel) (.cons_no (by decide +kernel) (.cons_no (by decide +kernel) (.cons_no (by decide +kernel) (.cons_no (by decide +kernel) (.cons_no (by decide +kernel) (.cons_no (by decide +kernel) (.cons_no (by decide +kernel) (.cons_no (by decide +kernel) (.cons_no (by decide +kernel) (.cons_no (by decide +kernel) (.cons_no (by decide +kernel) (.cons_no (by decide +kernel) (.cons_no (by decide +kernel) (.cons_no (by decide +kernel) (.cons_no (by decide +kernel) (.cons_no (by decide +kernel) (.cons_no (by decide +kernel) (.cons_no (by decide +kernel) (.cons_no (by decide +kernel) (.cons_no (by decide +kernel) (.cons_no (by decide +kernel) (.cons_no (by decide +kernel) (.cons_no (by decide +kernel) (.cons_no (by decide +kernel) (.cons_no (by decide +kernel) (.nil))))))))))))))))))))))))))))))))))))))))))))))))))))))))
      · refine ⟨f_added, t_added, _, a_added, shp_of tab.shp ?_⟩
        exact .cons_no (by decide +kernel) (.cons_no (by decide +kernel) (.cons_no (by decide +kernel) (.cons_no (by decide +kernel) (.cons_no (by decide +kernel) (.cons_no (by decide +kernel) (.cons_no (by decide +kernel) (.cons_no (by decide +kernel) (.cons_no (by decide +kernel) (.cons_no (by decide +kernel) (.cons_no (by decide +kernel) (.cons_no (by decide +kernel) (.cons_no (by decide +kernel) (.cons_yes (bd_13 a_added) (.cons_no (by decide +kernel) (.cons_no (by decide +kernel) (.cons_yes (bd_16 a_added) (.cons_no (by decide +kernel) (.cons_no (by decide +kernel) (.cons_no (by decide +kernel) (.cons_no (by decide +kernel) (.cons_no (by decide +kernel) (.cons_no (by decide +kernel) (.cons_no (by decide +kernel) (.cons_no (by decide +kernel) (.cons_no (by decide +kernel) (.cons_no (by decide +kernel) (.cons_no (by decide +kernel) (.cons_no (by decide +kernel) (.cons_no (by decide +kernel) (.cons_no (by decide +kernel) (.cons_no (by decide +kernel) (.cons_no (by decide +kernel) (.cons_no (by decide +kernel) (.cons_no (by decide +kernel) (.cons_no (by decide +kernel) (.cons_no (by decide +kernel) (.cons_no (by decide +kernel) (.cons_no (by decide +kernel) (.cons_no (by decide +kernel) (.cons_no (by decide +kernel) (.cons_no (by decide +kernel) (.cons_no (by decide +kernel) (.cons_no (by decide +kernel) (.cons_no (by decide +kernel) (.cons_no (by decide +kernel) (.cons_no (by decide +kernel) (.cons_no (by decide +kernel) (.cons_no (by decide +kernel) (.cons_no (by decide +kernel) (.cons_no (by decide +kernel) (.cons_no (by decide +kernel) (.cons_no (by decide +kernel) (.cons_no (by decide +kernel) (.cons_no (by decide +kernel) (.cons_no (by decide +kernel) (.nil))))))))))))))))))))))))))))))))))))))))))))))))))))))))
      · refine ⟨f_times, t_times, _, a_times, shp_of tab.shp ?_⟩
        exact .cons_no (by decide +kernel) (.cons_no (by decide +kernel) (.cons_no (by decide +kernel) (.cons_no (by decide +kernel) (.cons_no (by decide +kernel) (.cons_no (by decide +kernel) (.cons_no (by decide +kernel) (.cons_no (by decide +kernel) (.cons_no (by decide +kernel) (.cons_no (by decide +kernel) (.cons_no (by decide +kernel) (.cons_no (by decide +kernel) (.cons_no (by decide +kernel) (.cons_no (by decide +kernel) (.cons_yes (bd_14 a_times) (.cons_no (by decide +kernel) (.cons_no (by decide +kernel) (.cons_no (by decide +kernel) (.cons_yes (bd_18 a_times) (.cons_no (by decide +kernel) (.cons_no (by decide +kernel) (.cons_no (by decide +kernel) (.cons_no (by decide +kernel) (.cons_no (by decide +kernel) (.cons_no (by decide +kernel) (.cons_no (by decide +kernel) (.cons_no (by decide +kernel) (.cons_no (by decide +kernel) (.cons_no (by decide +kernel) (.cons_no (by decide +kernel) (.cons_no (by decide +kernel) (.cons_no (by decide +kernel) (.cons_no (by decide +kernel) (.cons_no (by decide +kernel) (.cons_no (by decide +kernel) (.cons_no (by decide +kernel) (.cons_no (by decide +kernel) (.cons_no (by decide +kernel) (.cons_no (by decide +kernel) (.cons_no (by decide +kernel) (.cons_no (by decide +kernel) (.cons_no (by decide +kernel) (.cons_no (by decide +kernel) (.cons_no (by decide +kernel) (.cons_no (by decide +kernel) (.cons_no (by decide +kernel) (.cons_no (by decide +kernel) (.cons_no (by decide +kernel) (.cons_no (by decide +kernel) (.cons_no (by decide +kernel) (.cons_no (by decide +kernel) (.cons_no (by decide +kernel) (.cons_no (by decide +kernel) (.cons_no (by decide +kernel) (.cons_no (by decide +kernel) (.cons_no (by decide +kernel) (.nil))))))))))))))))))))))))))))))))))))))))))))))))))))))))
      · refine ⟨f_taken, t_taken, _, a_taken, shp_of tab.shp ?_⟩
        exact .cons_no (by decide +kernel) (.cons_no (by decide +kernel) (.cons_no (by decide +kernel) (.cons_no (by decide +kernel) (.cons_no (by decide +kernel) (.cons_no (by decide +kernel) (.cons_no (by decide +kernel) (.cons_no (by decide +kernel) (.cons_no (by decide +kernel) (.cons_no (by decide +kernel) (.cons_no (by decide +kernel) (.cons_no (by decide +kernel) (.cons_no (by decide +kernel) (.cons_no (by decide +kernel) (.cons_no (by decide +kernel) (.cons_yes (bd_15 a_taken) (.cons_no (by decide +kernel) (.cons_yes (bd_17 a_taken) (.cons_no (by decide +kernel) (.cons_no (by decide +kernel) (.cons_no (by decide +kernel) (.cons_no (by decide +kernel) (.cons_no (by decide +kernel) (.cons_no (by decide +kernel) (.cons_no (by decide +kernel) (.cons_no (by decide +kernel) (.cons_no (by decide +kernel) (.cons_no (by decide +kernel) (.cons_no (by decide +kernel) (.cons_no (by decide +kernel) (.cons_no (by decide +kernel) (.cons_no (by decide +kernel) (.cons_no (by decide +kernel) (.cons_no (by decide +kernel) (.cons_no (by decide +kernel) (.cons_no (by decide +kernel) (.cons_no (by decide +kernel) (.cons_no (by decide +kernel) (.cons_no (by decide +kernel) (.cons_no (by decide +kernel) (.cons_no (by decide +kernel) (.cons_no (by decide +kernel) (.cons_no (by decide +kernel) (.cons_no (by decide +kernel) (.cons_no (by decide +kernel) (.cons_no (by decide +kernel) (.cons_no (by decide +kernel) (.cons_no (by decide +kernel) (.cons_no (by decide +kernel) (.cons_no (by decide +kernel) (.cons_no (by decide +kernel) (.cons_no (by decide +kernel) (.cons_no (by decide +kernel) (.cons_no (by decide +kernel) (.cons_no (by decide +kernel) (.cons_no (by decide +kernel) (.nil))))))))))))))))))))))))))))))))))))))))))))))))))))))))
      · refine ⟨f__law_each, t__law_each, _, a__law_each, shp_of tab.shp ?_⟩
        exact .cons_no (by decide +kernel) (.cons_no (by decide +kernel) (.cons_no (by decide +kernel) (.cons_no (by decide +kernel) (.cons_no (by decide +kernel) (.cons_no (by decide +kernel) (.cons_no (by decide +kernel) (.cons_no (by decide +kernel) (.cons_no (by decide +kernel) (.cons_no (by decide +kernel) (.cons_no (by decide +kernel) (.cons_no (by decide +kernel) (.cons_no (by decide +kernel) (.cons_no (by decide +kernel) (.cons_no (by decide +kernel) (.cons_no (by decide +kernel) (.cons_no (by decide +kernel) (.cons_no (by decide +kernel) (.cons_no (by decide +kernel) (.cons_yes (bd_19 a__law_each) (.cons_no (by decide +kernel) (.cons_no (by decide +kernel) (.cons_no (by decide +kernel) (.cons_no (by decide +kernel) (.cons_no (by decide +kernel) (.cons_no (by decide +kernel) (.cons_no (by decide +kernel) (.cons_no (by decide +kernel) (.cons_no (by decide +kernel) (.cons_no (by decide +kernel) (.cons_no (by decide +kernel) (.cons_no (by decide +kernel) (.cons_no (by decide +kernel) (.cons_no (by decide +kernel) (.cons_no (by decide +kernel) (.cons_no (by decide +kernel) (.cons_no (by decide +kernel) (.cons_no (by decide +kernel) (.cons_no (by decide +kernel) (.cons_no (by decide +kernel) (.cons_no (by decide +kernel) (.cons_no (by decide +kernel) (.cons_no (by decide +kernel) (.cons_no (by decide +kernel) (.cons_no (by decide +kernel) (.cons_no (by decide +kernel) (.cons_no (by decide +kernel) (.cons_no (by decide +kernel) (.cons_no (by decide +kernel) (.cons_no (by decide +kernel) (.cons_no (by decide +kernel) (.cons_no (by decide +kernel) (.cons_no (by decide +kernel) (.cons_no (by decide +kernel) (.cons_no (by decide +kernel) (.cons_no (by decide +kernel) (.nil))))))))))))))))))))))))))))))))))))))))))))))))))))))))
      · refine ⟨f__law_unit, t__law_unit, _, a__law_unit, shp_of tab.shp ?_⟩
        exact .cons_no (by decide +kernel) (.cons_no (by decide +kernel) (.cons_no (by decide +kernel) (.cons_no (by decide +kernel) (.cons_no (by decide +kernel) (.cons_no (by decide +kernel) (.cons_no (by decide +kernel) (.cons_no (by decide +kernel) (.cons_no (by decide +kernel) (.cons_no (by decide +kernel) (.cons_no (by decide +kernel) (.cons_no (by decide +kernel) (.cons_no (by decide +kernel) (.cons_no (by decide +kernel) (.cons_no (by decide +kernel) (.cons_no (by decide +kernel) (.cons_no (by decide +kernel) (.cons_no (by decide +kernel) (.cons_no (by decide +kernel) (.cons_no (by decide +kernel) (.cons_yes (bd_20 a__law_unit) (.cons_no (by decide +kernel) (.cons_no (by decide +kernel) (.cons_no (by decide +kernel) (.cons_no (by decide +kernel) (.cons_no (by decide +kernel) (.cons_no (by decide +kernel) (.cons_no (by decide +kernel) (.cons_no (by decide +kernel) (.cons_no (by decide +kernel) (.cons_no (by decide +kernel) (.cons_no (by decide +kernel) (.cons_no (by decide +kernel) (.cons_no (by decide +kernel) (.cons_no (by decide +kernel) (.cons_no (by decide +kernel) (.cons_no (by decide +kernel) (.cons_no (by decide +kernel) (.cons_no (by decide +kernel) (.cons_no (by decide +kernel) (.cons_no (by decide +kernel) (.cons_no (by decide +kernel) (.cons_no (by decide +kernel) (.cons_no (by decide +kernel) (.cons_no (by decide +kernel) (.cons_no (by decide +kernel) (.cons_no (by decide +kernel) (.cons_no (by decide +kernel) (.cons_no (by decide +kernel) (.cons_no (by decide +kernel) (.cons_no (by decide +kernel) (.cons_no (by decide +kernel) (.cons_no (by decide +kernel) (.cons_no (by decide +kernel) (.cons_no (by decide +kernel) (.cons_no (by decide +kernel) (.nil))))))))))))))))))))))))))))))))))))))))))))))))))))))))
      · refine ⟨f_product, t_product, _, a_product, shp_of tab.shp ?_⟩
        exact .cons_no (by decide +kernel) (.cons_no (by decide +kernel) (.cons_no (by decide +kernel) (.cons_no (by decide +kernel) (.cons_no (by decide +kernel) (.cons_no (by decide +kernel) (.cons_no (by decide +kernel) (.cons_no (by decide +kernel) (.cons_no (by decide +kernel) (.cons_no (by decide +kernel) (.cons_no (by decide +kernel) (.cons_no (by decide +kernel) (.cons_no (by decide +kernel) (.cons_no (by decide +kernel) (.cons_no (by decide +kernel) (.cons_no (by decide +kernel) (.cons_no (by decide +kernel) (.cons_no (by decide +kernel) (.cons_no (by decide +kernel) (.cons_no (by decide +kernel) (.cons_no (by decide +kernel) (.cons_yes (bd_21 a_product) (.cons_no (by decide +kernel) (.cons_no (by decide +kernel) (.cons_no (by decide +kernel) (.cons_no (by decide +kernel) (.cons_no (by decide +kernel) (.cons_no (by decide +kernel) (.cons_yes (bd_28 a_product) (.cons_no (by decide +kernel) (.cons_no (by decide +kernel) (.cons_no (by decide +kernel) (.cons_no (by decide +kernel) (.cons_no (by decide +kernel) (.cons_no (by decide +kernel) (.cons_no (by decide +kernel) (.cons_no (by decide +kernel) (.cons_no (by decide +kernel) (.cons_no (by decide +kernel) (.cons_no (by decide +kernel) (.cons_no (by decide +kernel) (.cons_no (by decide +kernel) (.cons_no (by decide +kernel) (.cons_no (by decide +kernel) (.cons_no (by decide +kernel) (.cons_no (by decide +kernel) (.cons_no (by decide +kernel) (.cons_no (by decide +kernel) (.cons_no (by decide +kernel) (.cons_no (by decide +kernel) (.cons_no (by decide +kernel) (.cons_no (by decide +kernel) (.cons_no (by decide +kernel) (.cons_no (by decide +kernel) (.cons_no (by decide +kernel) (.cons_no (by decide +kernel) (.nil))))))))))))))))))))))))))))))))))))))))))))))))))))))))
      · refine ⟨f_led, t_led, _, a_led, shp_of tab.shp ?_⟩
        exact .cons_no (by decide +kernel) (.cons_no (by decide +kernel) (.cons_no (by decide +kernel) (.cons_no (by decide +kernel) (.cons_no (by decide +kernel) (.cons_no (by decide +kernel) (.cons_no (by decide +kernel) (.cons_no (by decide +kernel) (.cons_no (by decide +kernel) (.cons_no (by decide +kernel) (.cons_no (by decide +kernel) (.cons_no (by decide +kernel) (.cons_no (by decide +kernel) (.cons_no (by decide +kernel) (.cons_no (by decide +kernel) (.cons_no (by decide +kernel) (.cons_no (by decide +kernel) (.cons_no (by decide +kernel) (.cons_no (by decide +kernel) (.cons_no (by decide +kernel) (.cons_no (by decide +kernel) (.cons_no (by decide +kernel) (.cons_yes (bd_22 a_led) (.cons_no (by decide +kernel) (.cons_yes (bd_24 a_led) (.cons_no (by decide +kernel) (.cons_no (by decide +kernel) (.cons_no (by decide +kernel) (.cons_no (by decide +kernel) (.cons_no (by decide +kernel) (.cons_no (by decide +kernel) (.cons_no (by decide +kernel) (.cons_no (by decide +kernel) (.cons_no (by decide +kernel) (.cons_no (by decide +kernel) (.cons_no (by decide +kernel) (.cons_no (by decide +kernel) (.cons_no (by decide +kernel) (.cons_no (by decide +kernel) (.cons_no (by decide +kernel) (.cons_no (by decide +kernel) (.cons_no (by decide +kernel) (.cons_no (by decide +kernel) (.cons_no (by decide +kernel) (.cons_no (by decide +kernel) (.cons_no (by decide +kernel) (.cons_no (by decide +kernel) (.cons_no (by decide +kernel) (.cons_no (by decide +kernel) (.cons_no (by decide +kernel) (.cons_no (by decide +kernel) (.cons_no (by decide +kernel) (.cons_no (by decide +kernel) (.cons_no (by decide +kernel) (.cons_no (by decide +kernel) (.cons_no (by decide +kernel) (.nil))))))))))))))))))))))))))))))))))))))))))))))))))))))))
      · refine ⟨f__law_led, t__law_led, _, a__law_led, shp_of tab.shp ?_⟩
        exact .cons_no (by decide +kernel) (.cons_no (by decide +kernel) (.cons_no (by decide +kernel) (.cons_no (by decide +kernel) (.cons_no (by decide +kernel) (.cons_no (by decide +kernel) (.cons_no (by decide +kernel) (.cons_no (by decide +kernel) (.cons_no (by decide +kernel) (.cons_no (by decide +kernel) (.cons_no (by decide +kernel) (.cons_no (by decide +kernel) (.cons_no (by decide +kernel) (.cons_no (by decide +kernel) (.cons_no (by decide +kernel) (.cons_no (by decide +kernel) (.cons_no (by decide +kernel) (.cons_no (by decide +kernel) (.cons_no (by decide +kernel) (.cons_no (by decide +kernel) (.cons_no (by decide +kernel) (.cons_no (by decide +kernel) (.cons_no (by decide +kernel) (.cons_yes (bd_23 a__law_led) (.cons_no (by decide +kernel) (.cons_no (by decide +kernel) (.cons_no (by decide +kernel) (.cons_no (by decide +kernel) (.cons_no (by decide +kernel) (.cons_no (by decide +kernel) (.cons_no (by decide +kernel) (.cons_no (by decide +kernel) (.cons_no (by decide +kernel) (.cons_no (by decide +kernel) (.cons_no (by decide +kernel) (.cons_no (by decide +kernel) (.cons_no (by decide +kernel) (.cons_no (by decide +kernel) (.cons_no (by decide +kernel) (.cons_no (by decide +kernel) (.cons_no (by decide +kernel) (.cons_no (by decide +kernel) (.cons_no (by decide +kernel) (.cons_no (by decide +kernel) (.cons_no (by decide +kernel) (.cons_no (by decide +kernel) (.cons_no (by decide +kernel) (.cons_no (by decide +kernel) (.cons_no (by decide +kernel) (.cons_no (by decide +kernel) (.cons_no (by decide +kernel) (.cons_no (by decide +kernel) (.cons_no (by decide +kernel) (.cons_no (by decide +kernel) (.cons_no (by decide +kernel) (.cons_no (by decide +kernel) (.nil))))))))))))))))))))))))))))))))))))))))))))))))))))))))
      · refine ⟨f__law_row, t__law_row, _, a__law_row, shp_of tab.shp ?_⟩
        exact .cons_no (by decide +kernel) (.cons_no (by decide +kernel) (.cons_no (by decide +kernel) (.cons_no (by decide +kernel) (.cons_no (by decide +kernel) (.cons_no (by decide +kernel) (.cons_no (by decide +kernel) (.cons_no (by decide +kernel) (.cons_no (by decide +kernel) (.cons_no (by decide +kernel) (.cons_no (by decide +kernel) (.cons_no (by decide +kernel) (.cons_no (by decide +kernel) (.cons_no (by decide +kernel) (.cons_no (by decide +kernel) (.cons_no (by decide +kernel) (.cons_no (by decide +kernel) (.cons_no (by decide +kernel) (.cons_no (by decide +kernel) (.cons_no (by decide +kernel) (.cons_no (by decide +kernel) (.cons_no (by decide +kernel) (.cons_no (by decide +kernel) (.cons_no (by decide +kernel) (.cons_no (by decide +kernel) (.cons_yes (bd_25 a__law_row) (.cons_no (by decide +kernel) (.cons_no (by decide +kernel) (.cons_no (by decide +kernel) (.cons_no (by decide +kernel) (.cons_no (by decide +kernel) (.cons_no (by decide +kernel) (.cons_no (by decide +kernel) (.cons_no (by decide +kernel) (.cons_no (by decide +kernel) (.cons_no (by decide +kernel) (.cons_no (by decide +kernel) (.cons_no (by decide +kernel) (.cons_no (by decide +kernel) (.cons_no (by decide +kernel) (.cons_no (by decide +kernel) (.cons_no (by decide +kernel) (.cons_no (by decide +kernel) (.cons_no (by decide +kernel) (.cons_no (by decide +kernel) (.cons_no (by decide +kernel) (.cons_no (by decide +kernel) (.cons_no (by decide +kernel) (.cons_no (by decide +kernel) (.cons_no (by decide +kernel) (.cons_no (by decide +kernel) (.cons_no (by decide +kernel) (.cons_no (by decide +kernel) (.cons_no (by decide +kernel) (.cons_no (by decide +kernel) (.cons_no (by decide +kernel) (.nil))))))))))))))))))))))))))))))))))))))))))))))))))))))))
      · refine ⟨f_one, t_one, _, a_one, shp_of tab.shp ?_⟩
        exact .cons_no (by decide +kernel) (.cons_no (by decide +kernel) (.cons_no (by decide +kernel) (.cons_no (by decide +kernel) (.cons_no (by decide +kernel) (.cons_no (by decide +kernel) (.cons_no (by decide +kernel) (.cons_no (by decide +kernel) (.cons_no (by decide +kernel) (.cons_no (by decide +kernel) (.cons_no (by decide +kernel) (.cons_no (by decide +kernel) (.cons_no (by decide +kernel) (.cons_no (by decide +kernel) (.cons_no (by decide +kernel) (.cons_no (by decide +kernel) (.cons_no (by decide +kernel) (.cons_no (by decide +kernel) (.cons_no (by decide +kernel) (.cons_no (by decide +kernel) (.cons_no (by decide +kernel) (.cons_no (by decide +kernel) (.cons_no (by decide +kernel) (.cons_no (by decide +kernel) (.cons_no (by decide +kernel) (.cons_no (by decide +kernel) (.cons_yes (bd_26 a_one) (.cons_no (by decide +kernel) (.cons_no (by decide +kernel) (.cons_no (by decide +kernel) (.cons_no (by decide +kernel) (.cons_no (by decide +kernel) (.cons_no (by decide +kernel) (.cons_no (by decide +kernel) (.cons_no (by decide +kernel) (.cons_no (by decide +kernel) (.cons_no (by decide +kernel) (.cons_no (by decide +kernel) (.cons_no (by decide +kernel) (.cons_no (by decide +kernel) (.cons_no (by decide +kernel) (.cons_no (by decide +kernel) (.cons_no (by decide +kernel) (.cons_no (by decide +kernel) (.cons_no (by decide +kernel) (.cons_no (by decide +kernel) (.cons_no (by decide +kernel) (.cons_no (by decide +kernel) (.cons_no (by decide +kernel) (.cons_no (by decide +kernel) (.cons_no (by decide +kernel) (.cons_no (by decide +kernel) (.cons_no (by decide +kernel) (.cons_no (by decide +kernel) (.cons_no (by decide +kernel) (.cons_no (by decide +kernel) (.nil))))))))))))))))))))))))))))))))))))))))))))))))))))))))
      · refine ⟨f__law_by, t__law_by, _, a__law_by, shp_of tab.shp ?_⟩
        exact .cons_no (by decide +kernel) (.cons_no (by decide +kernel) (.cons_no (by decide +kernel) (.cons_no (by decide +kernel) (.cons_no (by decide +kernel) (.cons_no (by decide +kernel) (.cons_no (by decide +kernel) (.cons_no (by decide +kernel) (.cons_no (by decide +kernel) (.cons_no (by decide +kernel) (.cons_no (by decide +kernel) (.cons_no (by decide +kernel) (.cons_no (by decide +kernel) (.cons_no (by decide +kernel) (.cons_no (by decide +kernel) (.cons_no (by decide +kernel) (.cons_no (by decide +kernel) (.cons_no (by decide +kernel) (.cons_no (by decide +kernel) (.cons_no (by decide +kernel) (.cons_no (by decide +kernel) (.cons_no (by decide +kernel) (.cons_no (by decide +kernel) (.cons_no (by decide +kernel) (.cons_no (by decide +kernel) (.cons_no (by decide +kernel) (.cons_no (by decide +kernel) (.cons_no (by decide +kernel) (.cons_no (by decide +kernel) (.cons_yes (bd_29 a__law_by) (.cons_no (by decide +kernel) (.cons_no (by decide +kernel) (.cons_no (by decide +kernel) (.cons_no (by decide +kernel) (.cons_no (by decide +kernel) (.cons_no (by decide +kernel) (.cons_no (by decide +kernel) (.cons_no (by decide +kernel) (.cons_no (by decide +kernel) (.cons_no (by decide +kernel) (.cons_no (by decide +kernel) (.cons_no (by decide +kernel) (.cons_no (by decide +kernel) (.cons_no (by decide +kernel) (.cons_no (by decide +kernel) (.cons_no (by decide +kernel) (.cons_no (by decide +kernel) (.cons_no (by decide +kernel) (.cons_no (by decide +kernel) (.cons_no (by decide +kernel) (.cons_no (by decide +kernel) (.cons_no (by decide +kernel) (.cons_no (by decide +kernel) (.cons_no (by decide +kernel) (.cons_no (by decide +kernel) (.cons_no (by decide +kernel) (.nil))))))))))))))))))))))))))))))))))))))))))))))))))))))))
      · refine ⟨f__law_undoable, t__law_undoable, _, a__law_undoable, shp_of tab.shp ?_⟩
        exact .cons_no (by decide +kernel) (.cons_no (by decide +kernel) (.cons_no (by decide +kernel) (.cons_no (by decide +kernel) (.cons_no (by decide +kernel) (.cons_no (by decide +kernel) (.cons_no (by decide +kernel) (.cons_no (by decide +kernel) (.cons_no (by decide +kernel) (.cons_no (by decide +kernel) (.cons_no (by decide +kernel) (.cons_no (by decide +kernel) (.cons_no (by decide +kernel) (.cons_no (by decide +kernel) (.cons_no (by decide +kernel) (.cons_no (by decide +kernel) (.cons_no (by decide +kernel) (.cons_no (by decide +kernel) (.cons_no (by decide +kernel) (.cons_no (by decide +kernel) (.cons_no (by decide +kernel) (.cons_no (by decide +kernel) (.cons_no (by decide +kernel) (.cons_no (by decide +kernel) (.cons_no (by decide +kernel) (.cons_no (by decide +kernel) (.cons_no (by decide +kernel) (.cons_no (by decide +kernel) (.cons_no (by decide +kernel) (.cons_no (by decide +kernel) (.cons_yes (bd_30 a__law_undoable) (.cons_no (by decide +kernel) (.cons_no (by decide +kernel) (.cons_no (by decide +kernel) (.cons_no (by decide +kernel) (.cons_no (by decide +kernel) (.cons_no (by decide +kernel) (.cons_no (by decide +kernel) (.cons_no (by decide +kernel) (.cons_no (by decide +kernel) (.cons_no (by decide +kernel) (.cons_no (by decide +kernel) (.cons_no (by decide +kernel) (.cons_no (by decide +kernel) (.cons_no (by decide +kernel) (.cons_no (by decide +kernel) (.cons_no (by decide +kernel) (.cons_no (by decide +kernel) (.cons_no (by decide +kernel) (.cons_no (by decide +kernel) (.cons_no (by decide +kernel) (.cons_no (by decide +kernel) (.cons_no (by decide +kernel) (.cons_no (by decide +kernel) (.cons_no (by decide +kernel) (.cons_no (by decide +kernel) (.nil))))))))))))))))))))))))))))))))))))))))))))))))))))))))
      · refine ⟨f_table_times, t_table_times, _, a_table_times, shp_of tab.shp ?_⟩
        exact .cons_no (by decide +kernel) (.cons_no (by decide +kernel) (.cons_no (by decide +kernel) (.cons_no (by decide +kernel) (.cons_no (by decide +kernel) (.cons_no (by decide +kernel) (.cons_no (by decide +kernel) (.cons_no (by decide +kernel) (.cons_no (by decide +kernel) (.cons_no (by decide +kernel) (.cons_no (by decide +kernel) (.cons_no (by decide +kernel) (.cons_no (by decide +kernel) (.cons_no (by decide +kernel) (.cons_no (by decide +kernel) (.cons_no (by decide +kernel) (.cons_no (by decide +kernel) (.cons_no (by decide +kernel) (.cons_no (by decide +kernel) (.cons_no (by decide +kernel) (.cons_no (by decide +kernel) (.cons_no (by decide +kernel) (.cons_no (by decide +kernel) (.cons_no (by decide +kernel) (.cons_no (by decide +kernel) (.cons_no (by decide +kernel) (.cons_no (by decide +kernel) (.cons_no (by decide +kernel) (.cons_no (by decide +kernel) (.cons_no (by decide +kernel) (.cons_no (by decide +kernel) (.cons_yes (bd_31 a_table_times) (.cons_no (by decide +kernel) (.cons_no (by decide +kernel) (.cons_no (by decide +kernel) (.cons_no (by decide +kernel) (.cons_no (by decide +kernel) (.cons_no (by decide +kernel) (.cons_no (by decide +kernel) (.cons_no (by decide +kernel) (.cons_no (by decide +kernel) (.cons_no (by decide +kernel) (.cons_no (by decide +kernel) (.cons_no (by decide +kernel) (.cons_no (by decide +kernel) (.cons_no (by decide +kernel) (.cons_no (by decide +kernel) (.cons_no (by decide +kernel) (.cons_no (by decide +kernel) (.cons_no (by decide +kernel) (.cons_no (by decide +kernel) (.cons_no (by decide +kernel) (.cons_no (by decide +kernel) (.cons_no (by decide +kernel) (.cons_no (by decide +kernel) (.cons_no (by decide +kernel) (.nil))))))))))))))))))))))))))))))))))))))))))))))))))))))))
      · refine ⟨f_mirrored, t_mirrored, _, a_mirrored, shp_of tab.shp ?_⟩
        exact .cons_no (by decide +kernel) (.cons_no (by decide +kernel) (.cons_no (by decide +kernel) (.cons_no (by decide +kernel) (.cons_no (by decide +kernel) (.cons_no (by decide +kernel) (.cons_no (by decide +kernel) (.cons_no (by decide +kernel) (.cons_no (by decide +kernel) (.cons_no (by decide +kernel) (.cons_no (by decide +kernel) (.cons_no (by decide +kernel) (.cons_no (by decide +kernel) (.cons_no (by decide +kernel) (.cons_no (by decide +kernel) (.cons_no (by decide +kernel) (.cons_no (by decide +kernel) (.cons_no (by decide +kernel) (.cons_no (by decide +kernel) (.cons_no (by decide +kernel) (.cons_no (by decide +kernel) (.cons_no (by decide +kernel) (.cons_no (by decide +kernel) (.cons_no (by decide +kernel) (.cons_no (by decide +kernel) (.cons_no (by decide +kernel) (.cons_no (by decide +kernel) (.cons_no (by decide +kernel) (.cons_no (by decide +kernel) (.cons_no (by decide +kernel) (.cons_no (by decide +kernel) (.cons_no (by decide +kernel) (.cons_yes (bd_32 a_mirrored) (.cons_no (by decide +kernel) (.cons_no (by decide +kernel) (.cons_no (by decide +kernel) (.cons_no (by decide +kernel) (.cons_no (by decide +kernel) (.cons_no (by decide +kernel) (.cons_no (by decide +kernel) (.cons_no (by decide +kernel) (.cons_no (by decide +kernel) (.cons_no (by decide +kernel) (.cons_no (by decide +kernel) (.cons_no (by decide +kernel) (.cons_no (by decide +kernel) (.cons_no (by decide +kernel) (.cons_no (by decide +kernel) (.cons_no (by decide +kernel) (.cons_no (by decide +kernel) (.cons_no (by decide +kernel) (.cons_no (by decide +kernel) (.cons_no (by decide +kernel) (.cons_no (by decide +kernel) (.cons_no (by decide +kernel) (.cons_no (by decide +kernel) (.nil))))))))))))))))))))))))))))))))))))))))))))))))))))))))
      · refine ⟨f_need_table, t_need_table, _, a_need_table, shp_of tab.shp ?_⟩
        exact .cons_no (by decide +kernel) (.cons_no (by decide +kernel) (.cons_no (by decide +kernel) (.cons_no (by decide +kernel) (.cons_no (by decide +kernel) (.cons_no (by decide +kernel) (.cons_no (by decide +kernel) (.cons_no (by decide +kernel) (.cons_no (by decide +kernel) (.cons_no (by decide +kernel) (.cons_no (by decide +kernel) (.cons_no (by decide +kernel) (.cons_no (by decide +kernel) (.cons_no (by decide +kernel) (.cons_no (by decide +kernel) (.cons_no (by decide +kernel) (.cons_no (by decide +kernel) (.cons_no (by decide +kernel) (.cons_no (by decide +kernel) (.cons_no (by decide +kernel) (.cons_no (by decide +kernel) (.cons_no (by decide +kernel) (.cons_no (by decide +kernel) (.cons_no (by decide +kernel) (.cons_no (by decide +kernel) (.cons_no (by decide +kernel) (.cons_no (by decide +kernel) (.cons_no (by decide +kernel) (.cons_no (by decide +kernel) (.cons_no (by decide +kernel) (.cons_no (by decide +kernel) (.cons_no (by decide +kernel) (.cons_no (by decide +kernel) (.cons_yes (bd_33 a_need_table) (.cons_no (by decide +kernel) (.cons_no (by decide +kernel) (.cons_no (by decide +kernel) (.cons_no (by decide +kernel) (.cons_no (by decide +kernel) (.cons_no (by decide +kernel) (.cons_no (by decide +kernel) (.cons_no (by decide +kernel) (.cons_no (by decide +kernel) (.cons_no (by decide +kernel) (.cons_no (by decide +kernel) (.cons_no (by decide +kernel) (.cons_no (by decide +kernel) (.cons_no (by decide +kernel) (.cons_no (by decide +kernel) (.cons_no (by decide +kernel) (.cons_no (by decide +kernel) (.cons_no (by decide +kernel) (.cons_no (by decide +kernel) (.cons_no (by decide +kernel) (.cons_no (by decide +kernel) (.cons_no (by decide +kernel) (.nil))))))))))))))))))))))))))))))))))))))))))))))))))))))))
      · refine ⟨f_sum_along, t_sum_along, _, a_sum_along, shp_of tab.shp ?_⟩
        exact .cons_no (by decide +kernel) (.cons_no (by decide +kernel) (.cons_no (by decide +kernel) (.cons_no (by decide +kernel) (.cons_no (by decide +kernel) (.cons_no (by decide +kernel) (.cons_no (by decide +kernel) (.cons_no (by decide +kernel) (.cons_no (by decide +kernel) (.cons_no (by decide +kernel) (.cons_no (by decide +kernel) (.cons_no (by decide +kernel) (.cons_no (by decide +kernel) (.cons_no (by decide +kernel) (.cons_no (by decide +kernel) (.cons_no (by decide +kernel) (.cons_no (by decide +kernel) (.cons_no (by decide +kernel) (.cons_no (by decide +kernel) (.cons_no (by decide +kernel) (.cons_no (by decide +kernel) (.cons_no (by decide +kernel) (.cons_no (by decide +kernel) (.cons_no (by decide +kernel) (.cons_no (by decide +kernel) (.cons_no (by decide +kernel) (.cons_no (by decide +kernel) (.cons_no (by decide +kernel) (.cons_no (by decide +kernel) (.cons_no (by decide +kernel) (.cons_no (by decide +kernel) (.cons_no (by decide +kernel) (.cons_no (by decide +kernel) (.cons_no (by decide +kernel) (.cons_yes (bd_34 a_sum_along) (.cons_no (by decide +kernel) (.cons_no (by decide +kernel) (.cons_no (by decide +kernel) (.cons_no (by decide +kernel) (.cons_no (by decide +kernel) (.cons_no (by decide +kernel) (.cons_no (by decide +kernel) (.cons_no (by decide +kernel) (.cons_no (by decide +kernel) (.cons_no (by decide +kernel) (.cons_no (by decide +kernel) (.cons_no (by decide +kernel) (.cons_no (by decide +kernel) (.cons_no (by decide +kernel) (.cons_no (by decide +kernel) (.cons_no (by decide +kernel) (.cons_no (by decide +kernel) (.cons_no (by decide +kernel) (.cons_no (by decide +kernel) (.cons_no (by decide +kernel) (.cons_no (by decide +kernel) (.nil))))))))))))))))))))))))))))))))))))))))))))))))))))))))
      · refine ⟨f_table_sum, t_table_sum, _, a_table_sum, shp_of tab.shp ?_⟩
        exact .cons_no (by decide +kernel) (.cons_no (by decide +kernel) (.cons_no (by decide +kernel) (.cons_no (by decide +kernel) (.cons_no (by decide +kernel) (.cons_no (by decide +kernel) (.cons_no (by decide +kernel) (.cons_no (by decide +kernel) (.cons_no (by decide +kernel) (.cons_no (by decide +kernel) (.cons_no (by decide +kernel) (.cons_no (by decide +kernel) (.cons_no (by decide +kernel) (.cons_no (by decide +kernel) (.cons_no (by decide +kernel) (.cons_no (by decide +kernel) (.cons_no (by decide +kernel) (.cons_no (by decide +kernel) (.cons_no (by decide +kernel) (.cons_no (by decide +kernel) (.cons_no (by decide +kernel) (.cons_no (by decide +kernel) (.cons_no (by decide +kernel) (.cons_no (by decide +kernel) (.cons_no (by decide +kernel) (.cons_no (by decide +kernel) (.cons_no (by decide +kernel) (.cons_no (by decide +kernel) (.cons_no (by decide +kernel) (.cons_no (by decide +kernel) (.cons_no (by decide +kernel) (.cons_no (by decide +kernel) (.cons_no (by decide +kernel) (.cons_no (by decide +kernel) (.cons_no (by decide +kernel) (.cons_yes (bd_35 a_table_sum) (.cons_no (by decide +kernel) (.cons_no (by decide +kernel) (.cons_yes (bd_38 a_table_sum) (.cons_no (by decide +kernel) (.cons_no (by decide +kernel) (.cons_no (by decide +kernel) (.cons_no (by decide +kernel) (.cons_no (by decide +kernel) (.cons_no (by decide +kernel) (.cons_no (by decide +kernel) (.cons_no (by decide +kernel) (.cons_no (by decide +kernel) (.cons_no (by decide +kernel) (.cons_no (by decide +kernel) (.cons_no (by decide +kernel) (.cons_no (by decide +kernel) (.cons_no (by decide +kernel) (.cons_no (by decide +kernel) (.cons_no (by decide +kernel) (.cons_no (by decide +kernel) (.nil))))))))))))))))))))))))))))))))))))))))))))))))))))))))
      · refine ⟨f_need_fellows, t_need_fellows, _, a_need_fellows, shp_of tab.shp ?_⟩
        exact .cons_no (by decide +kernel) (.cons_no (by decide +kernel) (.cons_no (by decide +kernel) (.cons_no (by decide +kernel) (.cons_no (by decide +kernel) (.cons_no (by decide +kernel) (.cons_no (by decide +kernel) (.cons_no (by decide +kernel) (.cons_no (by decide +kernel) (.cons_no (by decide +kernel) (.cons_no (by decide +kernel) (.cons_no (by decide +kernel) (.cons_no (by decide +kernel) (.cons_no (by decide +kernel) (.cons_no (by decide +kernel) (.cons_no (by decide +kernel) (.cons_no (by decide +kernel) (.cons_no (by decide +kernel) (.cons_no (by decide +kernel) (.cons_no (by decide +kernel) (.cons_no (by decide +kernel) (.cons_no (by decide +kernel) (.cons_no (by decide +kernel) (.cons_no (by decide +kernel) (.cons_no (by decide +kernel) (.cons_no (by decide +kernel) (.cons_no (by decide +kernel) (.cons_no (by decide +kernel) (.cons_no (by decide +kernel) (.cons_no (by decide +kernel) (.cons_no (by decide +kernel) (.cons_no (by decide +kernel) (.cons_no (by decide +kernel) (.cons_no (by decide +kernel) (.cons_no (by decide +kernel) (.cons_no (by decide +kernel) (.cons_yes (bd_36 a_need_fellows) (.cons_no (by decide +kernel) (.cons_no (by decide +kernel) (.cons_no (by decide +kernel) (.cons_no (by decide +kernel) (.cons_no (by decide +kernel) (.cons_no (by decide +kernel) (.cons_no (by decide +kernel) (.cons_no (by decide +kernel) (.cons_no (by decide +kernel) (.cons_no (by decide +kernel) (.cons_no (by decide +kernel) (.cons_no (by decide +kernel) (.cons_no (by decide +kernel) (.cons_no (by decide +kernel) (.cons_no (by decide +kernel) (.cons_no (by decide +kernel) (.cons_no (by decide +kernel) (.cons_no (by decide +kernel) (.cons_no (by decide +kernel) (.nil))))))))))))))))))))))))))))))))))))))))))))))))))))))))
      · refine ⟨f_need_integer, t_need_integer, _, a_need_integer, shp_of tab.shp ?_⟩
        exact .cons_no (by decide +kernel) (.cons_no (by decide +kernel) (.cons_no (by decide +kernel) (.cons_no (by decide +kernel) (.cons_no (by decide +kernel) (.cons_no (by decide +kernel) (.cons_no (by decide +kernel) (.cons_no (by decide +kernel) (.cons_no (by decide +kernel) (.cons_no (by decide +kernel) (.cons_no (by decide +kernel) (.cons_no (by decide +kernel) (.cons_no (by decide +kernel) (.cons_no (by decide +kernel) (.cons_no (by decide +kernel) (.cons_no (by decide +kernel) (.cons_no (by decide +kernel) (.cons_no (by decide +kernel) (.cons_no (by decide +kernel) (.cons_no (by decide +kernel) (.cons_no (by decide +kernel) (.cons_no (by decide +kernel) (.cons_no (by decide +kernel) (.cons_no (by decide +kernel) (.cons_no (by decide +kernel) (.cons_no (by decide +kernel) (.cons_no (by decide +kernel) (.cons_no (by decide +kernel) (.cons_no (by decide +kernel) (.cons_no (by decide +kernel) (.cons_no (by decide +kernel) (.cons_no (by decide +kernel) (.cons_no (by decide +kernel) (.cons_no (by decide +kernel) (.cons_no (by decide +kernel) (.cons_no (by decide +kernel) (.cons_no (by decide +kernel) (.cons_yes (bd_37 a_need_integer) (.cons_no (by decide +kernel) (.cons_no (by decide +kernel) (.cons_no (by decide +kernel) (.cons_no (by decide +kernel) (.cons_no (by decide +kernel) (.cons_no (by decide +kernel) (.cons_no (by decide +kernel) (.cons_no (by decide +kernel) (.cons_no (by decide +kernel) (.cons_no (by decide +kernel) (.cons_no (by decide +kernel) (.cons_no (by decide +kernel) (.cons_no (by decide +kernel) (.cons_no (by decide +kernel) (.cons_no (by decide +kernel) (.cons_no (by decide +kernel) (.cons_no (by decide +kernel) (.cons_no (by decide +kernel) (.nil))))))))))))))))))))))))))))))))))))))))))))))))))))))))
      · refine ⟨f_table_product, t_table_product, _, a_table_product, shp_of tab.shp ?_⟩
        exact .cons_no (by decide +kernel) (.cons_no (by decide +kernel) (.cons_no (by decide +kernel) (.cons_no (by decide +kernel) (.cons_no (by decide +kernel) (.cons_no (by decide +kernel) (.cons_no (by decide +kernel) (.cons_no (by decide +kernel) (.cons_no (by decide +kernel) (.cons_no (by decide +kernel) (.cons_no (by decide +kernel) (.cons_no (by decide +kernel) (.cons_no (by decide +kernel) (.cons_no (by decide +kernel) (.cons_no (by decide +kernel) (.cons_no (by decide +kernel) (.cons_no (by decide +kernel) (.cons_no (by decide +kernel) (.cons_no (by decide +kernel) (.cons_no (by decide +kernel) (.cons_no (by decide +kernel) (.cons_no (by decide +kernel) (.cons_no (by decide +kernel) (.cons_no (by decide +kernel) (.cons_no (by decide +kernel) (.cons_no (by decide +kernel) (.cons_no (by decide +kernel) (.cons_no (by decide +kernel) (.cons_no (by decide +kernel) (.cons_no (by decide +kernel) (.cons_no (by decide +kernel) (.cons_no (by decide +kernel) (.cons_no (by decide +kernel) (.cons_no (by decide +kernel) (.cons_no (by decide +kernel) (.cons_no (by decide +kernel) (.cons_no (by decide +kernel) (.cons_no (by decide +kernel) (.cons_no (by decide +kernel) (.cons_yes (bd_39 a_table_product) (.cons_no (by decide +kernel) (.cons_no (by decide +kernel) (.cons_no (by decide +kernel) (.cons_no (by decide +kernel) (.cons_no (by decide +kernel) (.cons_no (by decide +kernel) (.cons_no (by decide +kernel) (.cons_no (by decide +kernel) (.cons_no (by decide +kernel) (.cons_no (by decide +kernel) (.cons_no (by decide +kernel) (.cons_no (by decide +kernel) (.cons_no (by decide +kernel) (.cons_no (by decide +kernel) (.cons_no (by decide +kernel) (.cons_no (by decide +kernel) (.nil))))))))))))))))))))))))))))))))))))))))))))))))))))))))
      · refine ⟨f_row_led, t_row_led, _, a_row_led, shp_of tab.shp ?_⟩
        exact .cons_no (by decide +kernel) (.cons_no (by decide +kernel) (.cons_no (by decide +kernel) (.cons_no (by decide +kernel) (.cons_no (by decide +kernel) (.cons_no (by decide +kernel) (.cons_no (by decide +kernel) (.cons_no (by decide +kernel) (.cons_no (by decide +kernel) (.cons_no (by decide +kernel) (.cons_no (by decide +kernel) (.cons_no (by decide +kernel) (.cons_no (by decide +kernel) (.cons_no (by decide +kernel) (.cons_no (by decide +kernel) (.cons_no (by decide +kernel) (.cons_no (by decide +kernel) (.cons_no (by decide +kernel) (.cons_no (by decide +kernel) (.cons_no (by decide +kernel) (.cons_no (by decide +kernel) (.cons_no (by decide +kernel) (.cons_no (by decide +kernel) (.cons_no (by decide +kernel) (.cons_no (by decide +kernel) (.cons_no (by decide +kernel) (.cons_no (by decide +kernel) (.cons_no (by decide +kernel) (.cons_no (by decide +kernel) (.cons_no (by decide +kernel) (.cons_no (by decide +kernel) (.cons_no (by decide +kernel) (.cons_no (by decide +kernel) (.cons_no (by decide +kernel) (.cons_no (by decide +kernel) (.cons_no (by decide +kernel) (.cons_no (by decide +kernel) (.cons_no (by decide +kernel) (.cons_no (by decide +kernel) (.cons_no (by decide +kernel) (.cons_yes (bd_40 a_row_led) (.cons_no (by decide +kernel) (.cons_no (by decide +kernel) (.cons_no (by decide +kernel) (.cons_no (by decide +kernel) (.cons_no (by decide +kernel) (.cons_no (by decide +kernel) (.cons_no (by decide +kernel) (.cons_no (by decide +kernel) (.cons_no (by decide +kernel) (.cons_no (by decide +kernel) (.cons_no (by decide +kernel) (.cons_no (by decide +kernel) (.cons_no (by decide +kernel) (.cons_no (by decide +kernel) (.cons_no (by decide +kernel) (.nil))))))))))))))))))))))))))))))))))))))))))))))))))))))))
      · refine ⟨f_is_row_value, t_is_row_value, _, a_is_row_value, shp_of tab.shp ?_⟩
        exact .cons_no (by decide +kernel) (.cons_no (by decide +kernel) (.cons_no (by decide +kernel) (.cons_no (by decide +kernel) (.cons_no (by decide +kernel) (.cons_no (by decide +kernel) (.cons_no (by decide +kernel) (.cons_no (by decide +kernel) (.cons_no (by decide +kernel) (.cons_no (by decide +kernel) (.cons_no (by decide +kernel) (.cons_no (by decide +kernel) (.cons_no (by decide +kernel) (.cons_no (by decide +kernel) (.cons_no (by decide +kernel) (.cons_no (by decide +kernel) (.cons_no (by decide +kernel) (.cons_no (by decide +kernel) (.cons_no (by decide +kernel) (.cons_no (by decide +kernel) (.cons_no (by decide +kernel) (.cons_no (by decide +kernel) (.cons_no (by decide +kernel) (.cons_no (by decide +kernel) (.cons_no (by decide +kernel) (.cons_no (by decide +kernel) (.cons_no (by decide +kernel) (.cons_no (by decide +kernel) (.cons_no (by decide +kernel) (.cons_no (by decide +kernel) (.cons_no (by decide +kernel) (.cons_no (by decide +kernel) (.cons_no (by decide +kernel) (.cons_no (by decide +kernel) (.cons_no (by decide +kernel) (.cons_no (by decide +kernel) (.cons_no (by decide +kernel) (.cons_no (by decide +kernel) (.cons_no (by decide +kernel) (.cons_no (by decide +kernel) (.cons_no (by decide +kernel) (.cons_yes (bd_41 a_is_row_value) (.cons_no (by decide +kernel) (.cons_no (by decide +kernel) (.cons_no (by decide +kernel) (.cons_no (by decide +kernel) (.cons_no (by decide +kernel) (.cons_no (by decide +kernel) (.cons_no (by decide +kernel) (.cons_no (by decide +kernel) (.cons_no (by decide +kernel) (.cons_no (by decide +kernel) (.cons_no (by decide +kernel) (.cons_no (by decide +kernel) (.cons_no (by decide +kernel) (.cons_no (by decide +kernel) (.nil))))))))))))))))))))))))))))))))))))))))))))))))))))))))
      · refine ⟨f_size, t_size, _, a_size, shp_of tab.shp ?_⟩
        exact .cons_no (by decide +kernel) (.cons_no (by decide +kernel) (.cons_no (by decide +kernel) (.cons_no (by decide +kernel) (.cons_no (by decide +kernel) (.cons_no (by decide +kernel) (.cons_no (by decide +kernel) (.cons_no (by decide +kernel) (.cons_no (by decide +kernel) (.cons_no (by decide +kernel) (.cons_no (by decide +kernel) (.cons_no (by decide +kernel) (.cons_no (by decide +kernel) (.cons_no (by decide +kernel) (.cons_no (by decide +kernel) (.cons_no (by decide +kernel) (.cons_no (by decide +kernel) (.cons_no (by decide +kernel) (.cons_no (by decide +kernel) (.cons_no (by decide +kernel) (.cons_no (by decide +kernel) (.cons_no (by decide +kernel) (.cons_no (by decide +kernel) (.cons_no (by decide +kernel) (.cons_no (by decide +kernel) (.cons_no (by decide +kernel) (.cons_no (by decide +kernel) (.cons_no (by decide +kernel) (.cons_no (by decide +kernel) (.cons_no (by decide +kernel) (.cons_no (by decide +kernel) (.cons_no (by decide +kernel) (.cons_no (by decide +kernel) (.cons_no (by decide +kernel) (.cons_no (by decide +kernel) (.cons_no (by decide +kernel) (.cons_no (by decide +kernel) (.cons_no (by decide +kernel) (.cons_no (by decide +kernel) (.cons_no (by decide +kernel) (.cons_no (by decide +kernel) (.cons_no (by decide +kernel) (.cons_yes (bd_42 a_size) (.cons_no (by decide +kernel) (.cons_no (by decide +kernel) (.cons_no (by decide +kernel) (.cons_no (by decide +kernel) (.cons_no (by decide +kernel) (.cons_no (by decide +kernel) (.cons_no (by decide +kernel) (.cons_no (by decide +kernel) (.cons_no (by decide +kernel) (.cons_no (by decide +kernel) (.cons_no (by decide +kernel) (.cons_no (by decide +kernel) (.cons_no (by decide +kernel) (.nil))))))))))))))))))))))))))))))))))))))))))))))))))))))))
      · refine ⟨f_one_table, t_one_table, _, a_one_table, shp_of tab.shp ?_⟩
        exact .cons_no (by decide +kernel) (.cons_no (by decide +kernel) (.cons_no (by decide +kernel) (.cons_no (by decide +kernel) (.cons_no (by decide +kernel) (.cons_no (by decide +kernel) (.cons_no (by decide +kernel) (.cons_no (by decide +kernel) (.cons_no (by decide +kernel) (.cons_no (by decide +kernel) (.cons_no (by decide +kernel) (.cons_no (by decide +kernel) (.cons_no (by decide +kernel) (.cons_no (by decide +kernel) (.cons_no (by decide +kernel) (.cons_no (by decide +kernel) (.cons_no (by decide +kernel) (.cons_no (by decide +kernel) (.cons_no (by decide +kernel) (.cons_no (by decide +kernel) (.cons_no (by decide +kernel) (.cons_no (by decide +kernel) (.cons_no (by decide +kernel) (.cons_no (by decide +kernel) (.cons_no (by decide +kernel) (.cons_no (by decide +kernel) (.cons_no (by decide +kernel) (.cons_no (by decide +kernel) (.cons_no (by decide +kernel) (.cons_no (by decide +kernel) (.cons_no (by decide +kernel) (.cons_no (by decide +kernel) (.cons_no (by decide +kernel) (.cons_no (by decide +kernel) (.cons_no (by decide +kernel) (.cons_no (by decide +kernel) (.cons_no (by decide +kernel) (.cons_no (by decide +kernel) (.cons_no (by decide +kernel) (.cons_no (by decide +kernel) (.cons_no (by decide +kernel) (.cons_no (by decide +kernel) (.cons_no (by decide +kernel) (.cons_yes (bd_43 a_one_table) (.cons_no (by decide +kernel) (.cons_no (by decide +kernel) (.cons_no (by decide +kernel) (.cons_no (by decide +kernel) (.cons_no (by decide +kernel) (.cons_no (by decide +kernel) (.cons_no (by decide +kernel) (.cons_no (by decide +kernel) (.cons_no (by decide +kernel) (.cons_no (by decide +kernel) (.cons_no (by decide +kernel) (.cons_no (by decide +kernel) (.nil))))))))))))))))))))))))))))))))))))))))))))))))))))))))
      · refine ⟨f_need_prime, t_need_prime, _, a_need_prime, shp_of tab.shp ?_⟩
        exact .cons_no (by decide +kernel) (.cons_no (by decide +kernel) (.cons_no (by decide +kernel) (.cons_no (by decide +kernel) (.cons_no (by decide +kernel) (.cons_no (by decide +kernel) (.cons_no (by decide +kernel) (.cons_no (by decide +kernel) (.cons_no (by decide +kernel) (.cons_no (by decide +kernel) (.cons_no (by decide +kernel) (.cons_no (by decide +kernel) (.cons_no (by decide +kernel) (.cons_no (by decide +kernel) (.cons_no (by decide +kernel) (.cons_no (by decide +kernel) (.cons_no (by decide +kernel) (.cons_no (by decide +kernel) (.cons_no (by decide +kernel) (.cons_no (by decide +kernel) (.cons_no (by decide +kernel) (.cons_no (by decide +kernel) (.cons_no (by decide +kernel) (.cons_no (by decide +kernel) (.cons_no (by decide +kernel) (.cons_no (by decide +kernel) (.cons_no (by decide +kernel) (.cons_no (by decide +kernel) (.cons_no (by decide +kernel) (.cons_no (by decide +kernel) (.cons_no (by decide +kernel) (.cons_no (by decide +kernel) (.cons_no (by decide +kernel) (.cons_no (by decide +kernel) (.cons_no (by decide +kernel) (.cons_no (by decide +kernel) (.cons_no (by decide +kernel) (.cons_no (by decide +kernel) (.cons_no (by decide +kernel) (.cons_no (by decide +kernel) (.cons_no (by decide +kernel) (.cons_no (by decide +kernel) (.cons_no (by decide +kernel) (.cons_no (by decide +kernel) (.cons_yes (bd_44 a_need_prime) (.cons_no (by decide +kernel) (.cons_no (by decide +kernel) (.cons_no (by decide +kernel) (.cons_no (by decide +kernel) (.cons_no (by decide +kernel) (.cons_no (by decide +kernel) (.cons_no (by decide +kernel) (.cons_no (by decide +kernel) (.cons_no (by decide +kernel) (.cons_no (by decide +kernel) (.cons_no (by decide +kernel) (.nil))))))))))))))))))))))))))))))))))))))))))))))))))))))))
      · refine ⟨f_row_times, t_row_times, _, a_row_times, shp_of tab.shp ?_⟩
        exact .cons_no (by decide +kernel) (.cons_no (by decide +kernel) (.cons_no (by decide +kernel) (.cons_no (by decide +kernel) (.cons_no (by decide +kernel) (.cons_no (by decide +kernel) (.cons_no (by decide +kernel) (.cons_no (by decide +kernel) (.cons_no (by decide +kernel) (.cons_no (by decide +kernel) (.cons_no (by decide +kernel) (.cons_no (by decide +kernel) (.cons_no (by decide +kernel) (.cons_no (by decide +kernel) (.cons_no (by decide +kernel) (.cons_no (by decide +kernel) (.cons_no (by decide +kernel) (.cons_no (by decide +kernel) (.cons_no (by decide +kernel) (.cons_no (by decide +kernel) (.cons_no (by decide +kernel) (.cons_no (by decide +kernel) (.cons_no (by decide +kernel) (.cons_no (by decide +kernel) (.cons_no (by decide +kernel) (.cons_no (by decide +kernel) (.cons_no (by decide +kernel) (.cons_no (by decide +kernel) (.cons_no (by decide +kernel) (.cons_no (by decide +kernel) (.cons_no (by decide +kernel) (.cons_no (by decide +kernel) (.cons_no (by decide +kernel) (.cons_no (by decide +kernel) (.cons_no (by decide +kernel) (.cons_no (by decide +kernel) (.cons_no (by decide +kernel) (.cons_no (by decide +kernel) (.cons_no (by decide +kernel) (.cons_no (by decide +kernel) (.cons_no (by decide +kernel) (.cons_no (by decide +kernel) (.cons_no (by decide +kernel) (.cons_no (by decide +kernel) (.cons_no (by decide +kernel) (.cons_yes (bd_45 a_row_times) (.cons_no (by decide +kernel) (.cons_no (by decide +kernel) (.cons_no (by decide +kernel) (.cons_no (by decide +kernel) (.cons_no (by decide +kernel) (.cons_no (by decide +kernel) (.cons_no (by decide +kernel) (.cons_no (by decide +kernel) (.cons_no (by decide +kernel) (.cons_no (by decide +kernel) (.nil))))))))))))))))))))))))))))))))))))))))))))))))))))))))
      · refine ⟨f_is_table_value, t_is_table_value, _, a_is_table_value, shp_of tab.shp ?_⟩
        exact .cons_no (by decide +kernel) (.cons_no (by decide +kernel) (.cons_no (by decide +kernel) (.cons_no (by decide +kernel) (.cons_no (by decide +kernel) (.cons_no (by decide +kernel) (.cons_no (by decide +kernel) (.cons_no (by decide +kernel) (.cons_no (by decide +kernel) (.cons_no (by decide +kernel) (.cons_no (by decide +kernel) (.cons_no (by decide +kernel) (.cons_no (by decide +kernel) (.cons_no (by decide +kernel) (.cons_no (by decide +kernel) (.cons_no (by decide +kernel) (.cons_no (by decide +kernel) (.cons_no (by decide +kernel) (.cons_no (by decide +kernel) (.cons_no (by decide +kernel) (.cons_no (by decide +kernel) (.cons_no (by decide +kernel) (.cons_no (by decide +kernel) (.cons_no (by decide +kernel) (.cons_no (by decide +kernel) (.cons_no (by decide +kernel) (.cons_no (by decide +kernel) (.cons_no (by decide +kernel) (.cons_no (by decide +kernel) (.cons_no (by decide +kernel) (.cons_no (by decide +kernel) (.cons_no (by decide +kernel) (.cons_no (by decide +kernel) (.cons_no (by decide +kernel) (.cons_no (by decide +kernel) (.cons_no (by decide +kernel) (.cons_no (by decide +kernel) (.cons_no (by decide +kernel) (.cons_no (by decide +kernel) (.cons_no (by decide +kernel) (.cons_no (by decide +kernel) (.cons_no (by decide +kernel) (.cons_no (by decide +kernel) (.cons_no (by decide +kernel) (.cons_no (by decide +kernel) (.cons_no (by decide +kernel) (.cons_yes (bd_46 a_is_table_value) (.cons_no (by decide +kernel) (.cons_no (by decide +kernel) (.cons_no (by decide +kernel) (.cons_no (by decide +kernel) (.cons_no (by decide +kernel) (.cons_no (by decide +kernel) (.cons_no (by decide +kernel) (.cons_no (by decide +kernel) (.cons_no (by decide +kernel) (.nil))))))))))))))))))))))))))))))))))))))))))))))))))))))))
      · refine ⟨f_row_sum, t_row_sum, _, a_row_sum, shp_of tab.shp ?_⟩
        exact .cons_no (by decide +kernel) (.cons_no (by decide +kernel) (.cons_no (by decide +kernel) (.cons_no (by decide +kernel) (.cons_no (by decide +kernel) (.cons_no (by decide +kernel) (.cons_no (by decide +kernel) (.cons_no (by decide +kernel) (.cons_no (by decide +kernel) (.cons_no (by decide +kernel) (.cons_no (by decide +kernel) (.cons_no (by decide +kernel) (.cons_no (by decide +kernel) (.cons_no (by decide +kernel) (.cons_no (by decide +kernel) (.cons_no (by decide +kernel) (.cons_no (by decide +kernel) (.cons_no (by decide +kernel) (.cons_no (by decide +kernel) (.cons_no (by decide +kernel) (.cons_no (by decide +kernel) (.cons_no (by decide +kernel) (.cons_no (by decide +kernel) (.cons_no (by decide +kernel) (.cons_no (by decide +kernel) (.cons_no (by decide +kernel) (.cons_no (by decide +kernel) (.cons_no (by decide +kernel) (.cons_no (by decide +kernel) (.cons_no (by decide +kernel) (.cons_no (by decide +kernel) (.cons_no (by decide +kernel) (.cons_no (by decide +kernel) (.cons_no (by decide +kernel) (.cons_no (by decide +kernel) (.cons_no (by decide +kernel) (.cons_no (by decide +kernel) (.cons_no (by decide +kernel) (.cons_no (by decide +kernel) (.cons_no (by decide +kernel) (.cons_no (by decide +kernel) (.cons_no (by decide +kernel) (.cons_no (by decide +kernel) (.cons_no (by decide +kernel) (.cons_no (by decide +kernel) (.cons_no (by decide +kernel) (.cons_no (by decide +kernel) (.cons_yes (bd_47 a_row_sum) (.cons_no (by decide +kernel) (.cons_no (by decide +kernel) (.cons_no (by decide +kernel) (.cons_no (by decide +kernel) (.cons_no (by decide +kernel) (.cons_no (by decide +kernel) (.cons_no (by decide +kernel) (.cons_no (by decide +kernel) (.nil))))))))))))))))))))))))))))))))))))))))))))))))))))))))
      · refine ⟨f_is_fellow, t_is_fellow, _, a_is_fellow, shp_of tab.shp ?_⟩
        exact .cons_no (by decide +kernel) (.cons_no (by decide +kernel) (.cons_no (by decide +kernel) (.cons_no (by decide +kernel) (.cons_no (by decide +kernel) (.cons_no (by decide +kernel) (.cons_no (by decide +kernel) (.cons_no (by decide +kernel) (.cons_no (by decide +kernel) (.cons_no (by decide +kernel) (.cons_no (by decide +kernel) (.cons_no (by decide +kernel) (.cons_no (by decide +kernel) (.cons_no (by decide +kernel) (.cons_no (by decide +kernel) (.cons_no (by decide +kernel) (.cons_no (by decide +kernel) (.cons_no (by decide +kernel) (.cons_no (by decide +kernel) (.cons_no (by decide +kernel) (.cons_no (by decide +kernel) (.cons_no (by decide +kernel) (.cons_no (by decide +kernel) (.cons_no (by decide +kernel) (.cons_no (by decide +kernel) (.cons_no (by decide +kernel) (.cons_no (by decide +kernel) (.cons_no (by decide +kernel) (.cons_no (by decide +kernel) (.cons_no (by decide +kernel) (.cons_no (by decide +kernel) (.cons_no (by decide +kernel) (.cons_no (by decide +kernel) (.cons_no (by decide +kernel) (.cons_no (by decide +kernel) (.cons_no (by decide +kernel) (.cons_no (by decide +kernel) (.cons_no (by decide +kernel) (.cons_no (by decide +kernel) (.cons_no (by decide +kernel) (.cons_no (by decide +kernel) (.cons_no (by decide +kernel) (.cons_no (by decide +kernel) (.cons_no (by decide +kernel) (.cons_no (by decide +kernel) (.cons_no (by decide +kernel) (.cons_no (by decide +kernel) (.cons_no (by decide +kernel) (.cons_yes (bd_48 a_is_fellow) (.cons_no (by decide +kernel) (.cons_no (by decide +kernel) (.cons_no (by decide +kernel) (.cons_no (by decide +kernel) (.cons_no (by decide +kernel) (.cons_no (by decide +kernel) (.cons_no (by decide +kernel) (.nil))))))))))))))))))))))))))))))))))))))))))))))))))))))))
      · refine ⟨f_is_integer, t_is_integer, _, a_is_integer, shp_of tab.shp ?_⟩
        exact .cons_no (by decide +kernel) (.cons_no (by decide +kernel) (.cons_no (by decide +kernel) (.cons_no (by decide +kernel) (.cons_no (by decide +kernel) (.cons_no (by decide +kernel) (.cons_no (by decide +kernel) (.cons_no (by decide +kernel) (.cons_no (by decide +kernel) (.cons_no (by decide +kernel) (.cons_no (by decide +kernel) (.cons_no (by decide +kernel) (.cons_no (by decide +kernel) (.cons_no (by decide +kernel) (.cons_no (by decide +kernel) (.cons_no (by decide +kernel) (.cons_no (by decide +kernel) (.cons_no (by decide +kernel) (.cons_no (by decide +kernel) (.cons_no (by decide +kernel) (.cons_no (by decide +kernel) (.cons_no (by decide +kernel) (.cons_no (by decide +kernel) (.cons_no (by decide +kernel) (.cons_no (by decide +kernel) (.cons_no (by decide +kernel) (.cons_no (by decide +kernel) (.cons_no (by decide +kernel) (.cons_no (by decide +kernel) (.cons_no (by decide +kernel) (.cons_no (by decide +kernel) (.cons_no (by decide +kernel) (.cons_no (by decide +kernel) (.cons_no (by decide +kernel) (.cons_no (by decide +kernel) (.cons_no (by decide +kernel) (.cons_no (by decide +kernel) (.cons_no (by decide +kernel) (.cons_no (by decide +kernel) (.cons_no (by decide +kernel) (.cons_no (by decide +kernel) (.cons_no (by decide +kernel) (.cons_no (by decide +kernel) (.cons_no (by decide +kernel) (.cons_no (by decide +kernel) (.cons_no (by decide +kernel) (.cons_no (by decide +kernel) (.cons_no (by decide +kernel) (.cons_no (by decide +kernel) (.cons_yes (bd_49 a_is_integer) (.cons_no (by decide +kernel) (.cons_no (by decide +kernel) (.cons_no (by decide +kernel) (.cons_no (by decide +kernel) (.cons_no (by decide +kernel) (.cons_no (by decide +kernel) (.nil))))))))))))))))))))))))))))))))))))))))))))))))))))))))
      · refine ⟨f_mix, t_mix, _, a_mix, shp_of tab.shp ?_⟩
        exact .cons_no (by decide +kernel) (.cons_no (by decide +kernel) (.cons_no (by decide +kernel) (.cons_no (by decide +kernel) (.cons_no (by decide +kernel) (.cons_no (by decide +kernel) (.cons_no (by decide +kernel) (.cons_no (by decide +kernel) (.cons_no (by decide +kernel) (.cons_no (by decide +kernel) (.cons_no (by decide +kernel) (.cons_no (by decide +kernel) (.cons_no (by decide +kernel) (.cons_no (by decide +kernel) (.cons_no (by decide +kernel) (.cons_no (by decide +kernel) (.cons_no (by decide +kernel) (.cons_no (by decide +kernel) (.cons_no (by decide +kernel) (.cons_no (by decide +kernel) (.cons_no (by decide +kernel) (.cons_no (by decide +kernel) (.cons_no (by decide +kernel) (.cons_no (by decide +kernel) (.cons_no (by decide +kernel) (.cons_no (by decide +kernel) (.cons_no (by decide +kernel) (.cons_no (by decide +kernel) (.cons_no (by decide +kernel) (.cons_no (by decide +kernel) (.cons_no (by decide +kernel) (.cons_no (by decide +kernel) (.cons_no (by decide +kernel) (.cons_no (by decide +kernel) (.cons_no (by decide +kernel) (.cons_no (by decide +kernel) (.cons_no (by decide +kernel) (.cons_no (by decide +kernel) (.cons_no (by decide +kernel) (.cons_no (by decide +kernel) (.cons_no (by decide +kernel) (.cons_no (by decide +kernel) (.cons_no (by decide +kernel) (.cons_no (by decide +kernel) (.cons_no (by decide +kernel) (.cons_no (by decide +kernel) (.cons_no (by decide +kernel) (.cons_no (by decide +kernel) (.cons_no (by decide +kernel) (.cons_no (by decide +kernel) (.cons_yes (bd_50 a_mix) (.cons_no (by decide +kernel) (.cons_no (by decide +kernel) (.cons_no (by decide +kernel) (.cons_no (by decide +kernel) (.cons_no (by decide +kernel) (.nil))))))))))))))))))))))))))))))))))))))))))))))))))))))))
      · refine ⟨f_is_between, t_is_between, _, a_is_between, shp_of tab.shp ?_⟩
        exact .cons_no (by decide +kernel) (.cons_no (by decide +kernel) (.cons_no (by decide +kernel) (.cons_no (by decide +kernel) (.cons_no (by decide +kernel) (.cons_no (by decide +kernel) (.cons_no (by decide +kernel) (.cons_no (by decide +kernel) (.cons_no (by decide +kernel) (.cons_no (by decide +kernel) (.cons_no (by decide +kernel) (.cons_no (by decide +kernel) (.cons_no (by decide +kernel) (.cons_no (by decide +kernel) (.cons_no (by decide +kernel) (.cons_no (by decide +kernel) (.cons_no (by decide +kernel) (.cons_no (by decide +kernel) (.cons_no (by decide +kernel) (.cons_no (by decide +kernel) (.cons_no (by decide +kernel) (.cons_no (by decide +kernel) (.cons_no (by decide +kernel) (.cons_no (by decide +kernel) (.cons_no (by decide +kernel) (.cons_no (by decide +kernel) (.cons_no (by decide +kernel) (.cons_no (by decide +kernel) (.cons_no (by decide +kernel) (.cons_no (by decide +kernel) (.cons_no (by decide +kernel) (.cons_no (by decide +kernel) (.cons_no (by decide +kernel) (.cons_no (by decide +kernel) (.cons_no (by decide +kernel) (.cons_no (by decide +kernel) (.cons_no (by decide +kernel) (.cons_no (by decide +kernel) (.cons_no (by decide +kernel) (.cons_no (by decide +kernel) (.cons_no (by decide +kernel) (.cons_no (by decide +kernel) (.cons_no (by decide +kernel) (.cons_no (by decide +kernel) (.cons_no (by decide +kernel) (.cons_no (by decide +kernel) (.cons_no (by decide +kernel) (.cons_no (by decide +kernel) (.cons_no (by decide +kernel) (.cons_no (by decide +kernel) (.cons_no (by decide +kernel) (.cons_yes (bd_51 a_is_between) (.cons_no (by decide +kernel) (.cons_no (by decide +kernel) (.cons_no (by decide +kernel) (.cons_no (by decide +kernel) (.nil))))))))))))))))))))))))))))))))))))))))))))))))))))))))
      · refine ⟨f_unit_rows, t_unit_rows, _, a_unit_rows, shp_of tab.shp ?_⟩
        exact .cons_no (by decide +kernel) (.cons_no (by decide +kernel) (.cons_no (by decide +kernel) (.cons_no (by decide +kernel) (.cons_no (by decide +kernel) (.cons_no (by decide +kernel) (.cons_no (by decide +kernel) (.cons_no (by decide +kernel) (.cons_no (by decide +kernel) (.cons_no (by decide +kernel) (.cons_no (by decide +kernel) (.cons_no (by decide +kernel) (.cons_no (by decide +kernel) (.cons_no (by decide +kernel) (.cons_no (by decide +kernel) (.cons_no (by decide +kernel) (.cons_no (by decide +kernel) (.cons_no (by decide +kernel) (.cons_no (by decide +kernel) (.cons_no (by decide +kernel) (.cons_no (by decide +kernel) (.cons_no (by decide +kernel) (.cons_no (by decide +kernel) (.cons_no (by decide +kernel) (.cons_no (by decide +kernel) (.cons_no (by decide +kernel) (.cons_no (by decide +kernel) (.cons_no (by decide +kernel) (.cons_no (by decide +kernel) (.cons_no (by decide +kernel) (.cons_no (by decide +kernel) (.cons_no (by decide +kernel) (.cons_no (by decide +kernel) (.cons_no (by decide +kernel) (.cons_no (by decide +kernel) (.cons_no (by decide +kernel) (.cons_no (by decide +kernel) (.cons_no (by decide +kernel) (.cons_no (by decide +kernel) (.cons_no (by decide +kernel) (.cons_no (by decide +kernel) (.cons_no (by decide +kernel) (.cons_no (by decide +kernel) (.cons_no (by decide +kernel) (.cons_no (by decide +kernel) (.cons_no (by decide +kernel) (.cons_no (by decide +kernel) (.cons_no (by decide +kernel) (.cons_no (by decide +kernel) (.cons_no (by decide +kernel) (.cons_no (by decide +kernel) (.cons_no (by decide +kernel) (.cons_yes (bd_52 a_unit_rows) (.cons_no (by decide +kernel) (.cons_no (by decide +kernel) (.cons_no (by decide +kernel) (.nil))))))))))))))))))))))))))))))))))))))))))))))))))))))))
      · refine ⟨f_is_prime_value, t_is_prime_value, _, a_is_prime_value, shp_of tab.shp ?_⟩
        exact .cons_no (by decide +kernel) (.cons_no (by decide +kernel) (.cons_no (by decide +kernel) (.cons_no (by decide +kernel) (.cons_no (by decide +kernel) (.cons_no (by decide +kernel) (.cons_no (by decide +kernel) (.cons_no (by decide +kernel) (.cons_no (by decide +kernel) (.cons_no (by decide +kernel) (.cons_no (by decide +kernel) (.cons_no (by decide +kernel) (.cons_no (by decide +kernel) (.cons_no (by decide +kernel) (.cons_no (by decide +kernel) (.cons_no (by decide +kernel) (.cons_no (by decide +kernel) (.cons_no (by decide +kernel) (.cons_no (by decide +kernel) (.cons_no (by decide +kernel) (.cons_no (by decide +kernel) (.cons_no (by decide +kernel) (.cons_no (by decide +kernel) (.cons_no (by decide +kernel) (.cons_no (by decide +kernel) (.cons_no (by decide +kernel) (.cons_no (by decide +kernel) (.cons_no (by decide +kernel) (.cons_no (by decide +kernel) (.cons_no (by decide +kernel) (.cons_no (by decide +kernel) (.cons_no (by decide +kernel) (.cons_no (by decide +kernel) (.cons_no (by decide +kernel) (.cons_no (by decide +kernel) (.cons_no (by decide +kernel) (.cons_no (by decide +kernel) (.cons_no (by decide +kernel) (.cons_no (by decide +kernel) (.cons_no (by decide +kernel) (.cons_no (by decide +kernel) (.cons_no (by decide +kernel) (.cons_no (by decide +kernel) (.cons_no (by decide +kernel) (.cons_no (by decide +kernel) (.cons_no (by decide +kernel) (.cons_no (by decide +kernel) (.cons_no (by decide +kernel) (.cons_no (by decide +kernel) (.cons_no (by decide +kernel) (.cons_no (by decide +kernel) (.cons_no (by decide +kernel) (.cons_no (by decide +kernel) (.cons_yes (bd_53 a_is_prime_value) (.cons_no (by decide +kernel) (.cons_no (by decide +kernel) (.nil))))))))))))))))))))))))))))))))))))))))))))))))))))))))
      · refine ⟨f_zero_row, t_zero_row, _, a_zero_row, shp_of tab.shp ?_⟩
        exact .cons_no (by decide +kernel) (.cons_no (by decide +kernel) (.cons_no (by decide +kernel) (.cons_no (by decide +kernel) (.cons_no (by decide +kernel) (.cons_no (by decide +kernel) (.cons_no (by decide +kernel) (.cons_no (by decide +kernel) (.cons_no (by decide +kernel) (.cons_no (by decide +kernel) (.cons_no (by decide +kernel) (.cons_no (by decide +kernel) (.cons_no (by decide +kernel) (.cons_no (by decide +kernel) (.cons_no (by decide +kernel) (.cons_no (by decide +kernel) (.cons_no (by decide +kernel) (.cons_no (by decide +kernel) (.cons_no (by decide +kernel) (.cons_no (by decide +kernel) (.cons_no (by decide +kernel) (.cons_no (by decide +kernel) (.cons_no (by decide +kernel) (.cons_no (by decide +kernel) (.cons_no (by decide +kernel) (.cons_no (by decide +kernel) (.cons_no (by decide +kernel) (.cons_no (by decide +kernel) (.cons_no (by decide +kernel) (.cons_no (by decide +kernel) (.cons_no (by decide +kernel) (.cons_no (by decide +kernel) (.cons_no (by decide +kernel) (.cons_no (by decide +kernel) (.cons_no (by decide +kernel) (.cons_no (by decide +kernel) (.cons_no (by decide +kernel) (.cons_no (by decide +kernel) (.cons_no (by decide +kernel) (.cons_no (by decide +kernel) (.cons_no (by decide +kernel) (.cons_no (by decide +kernel) (.cons_no (by decide +kernel) (.cons_no (by decide +kernel) (.cons_no (by decide +kernel) (.cons_no (by decide +kernel) (.cons_no (by decide +kernel) (.cons_no (by decide +kernel) (.cons_no (by decide +kernel) (.cons_no (by decide +kernel) (.cons_no (by decide +kernel) (.cons_no (by decide +kernel) (.cons_no (by decide +kernel) (.cons_no (by decide +kernel) (.cons_yes (bd_54 a_zero_row) (.cons_no (by decide +kernel) (.nil))))))))))))))))))))))))))))))))))))))))))))))))))))))))
      · refine ⟨f_unit_row, t_unit_row, _, a_unit_row, shp_of tab.shp ?_⟩
        exact .cons_no (by decide +kernel) (.cons_no (by decide +kernel) (.cons_no (by decide +kernel) (.cons_no (by decide +kernel) (.cons_no (by decide +kernel) (.cons_no (by decide +kernel) (.cons_no (by decide +kernel) (.cons_no (by decide +kernel) (.cons_no (by decide +kernel) (.cons_no (by decide +kernel) (.cons_no (by decide +kernel) (.cons_no (by decide +kernel) (.cons_no (by decide +kernel) (.cons_no (by decide +kernel) (.cons_no (by decide +kernel) (.cons_no (by decide +kernel) (.cons_no (by decide +kernel) (.cons_no (by decide +kernel) (.cons_no (by decide +kernel) (.cons_no (by decide +kernel) (.cons_no (by decide +kernel) (.cons_no (by decide +kernel) (.cons_no (by decide +kernel) (.cons_no (by decide +kernel) (.cons_no (by decide +kernel) (.cons_no (by decide +kernel) (.cons_no (by decide +kernel) (.cons_no (by decide +kernel) (.cons_no (by decide +kernel) (.cons_no (by decide +kernel) (.cons_no (by decide +kernel) (.cons_no (by decide +kernel) (.cons_no (by decide +kernel) (.cons_no (by decide +kernel) (.cons_no (by decide +kernel) (.cons_no (by decide +kernel) (.cons_no (by decide +kernel) (.cons_no (by decide +kernel) (.cons_no (by decide +kernel) (.cons_no (by decide +kernel) (.cons_no (by decide +kernel) (.cons_no (by decide +kernel) (.cons_no (by decide +kernel) (.cons_no (by decide +kernel) (.cons_no (by decide +kernel) (.cons_no (by decide +kernel) (.cons_no (by decide +kernel) (.cons_no (by decide +kernel) (.cons_no (by decide +kernel) (.cons_no (by decide +kernel) (.cons_no (by decide +kernel) (.cons_no (by decide +kernel) (.cons_no (by decide +kernel) (.cons_no (by decide +kernel) (.cons_no (by decide +kernel) (.cons_yes (bd_55 a_unit_row) (.nil))))))))))))))))))))))))))))))))))))))))))))))))))))))))
    · intro x hx
      simp only [tab, List.mem_cons, List.not_mem_nil, or_false] at hx
      rcases hx with rfl | rfl | rfl | rfl | rfl | rfl | rfl | rfl | rfl | rfl | rfl | rfl | rfl
      · exact PySem.W.mg_none_of X G z_range
      · exact PySem.W.mg_none_of X G z_repr
      · exact PySem.W.mg_none_of X G z_int
      · exact PySem.W.mg_none_of X G z_max
      · exact PySem.W.mg_none_of X G z_tuple
      · exact PySem.W.mg_none_of X G z_list
      · exact PySem.W.mg_none_of X G z_len
      · exact PySem.W.mg_none_of X G z_sum
      · exact PySem.W.mg_none_of X G z_enumerate
      · exact PySem.W.mg_none_of X G z_zip
      · exact PySem.W.mg_none_of X G z_isinstance
      · exact PySem.W.mg_none_of X G z_all
      · exact PySem.W.mg_none_of X G z_bool
    · exact cst_of tab.cst (.cons (c_MOST_SIZE.at_ X G) (.cons (c_PRIMES.at_ X G) .nil))
  exact pro_fn pro (fun q hq no => absurd (by revert q; decide +kernel) no) 40 (d := d_law) (by simp [defs]) a_law
end
/-! the plain claim of this law -/
open Lb
theorem nd : (defs.map (·.name)).Nodup := by decide +kernel
theorem hb {d : Df} (h : d ∈ defs) : HasB defs d.name d.ps.length d.N.length d.body := ⟨d, find_name nd h, rfl, rfl, rfl⟩
theorem h_tab : HTab defs where
  is_integer := hb (d := d_is_integer) (by simp [defs])
  is_between := hb (d := d_is_between) (by simp [defs])
  is_prime_value := hb (d := d_is_prime_value) (by simp [defs])
  is_row_value := hb (d := d_is_row_value) (by simp [defs])
  is_table_value := hb (d := d_is_table_value) (by simp [defs])
  need_table := hb (d := d_need_table) (by simp [defs])
theorem h_row : HRow defs where
  row_times := hb (d := d_row_times) (by simp [defs])
  row_sum := hb (d := d_row_sum) (by simp [defs])
  unit_row := hb (d := d_unit_row) (by simp [defs])
  unit_rows := hb (d := d_unit_rows) (by simp [defs])
  zero_row := hb (d := d_zero_row) (by simp [defs])
  mix := hb (d := d_mix) (by simp [defs])
  size := hb (d := d_size) (by simp [defs])
  row_led := hb (d := d_row_led) (by simp [defs])
  table_product := hb (d := d_table_product) (by simp [defs])
  table_times := hb (d := d_table_times) (by simp [defs])
  one_table := hb (d := d_one_table) (by simp [defs])
  mirrored := hb (d := d_mirrored) (by simp [defs])
theorem h_whole : HWhole defs where
  is_fellow := hb (d := d_is_fellow) (by simp [defs])
  need_fellows := hb (d := d_need_fellows) (by simp [defs])
  need_prime := hb (d := d_need_prime) (by simp [defs])
  need_integer := hb (d := d_need_integer) (by simp [defs])
theorem h_all : HAll defs := ⟨h_tab, h_row, h_whole⟩
theorem h_ops : HOps defs where
  one := hb (d := d_one) (by simp [defs])
  zero := hb (d := d_zero) (by simp [defs])
  product := hb (d := d_product) (by simp [defs])
  added := hb (d := d_added) (by simp [defs])
  taken := hb (d := d_taken) (by simp [defs])
  times := hb (d := d_times) (by simp [defs])
  diagonal_sum := hb (d := d_diagonal_sum) (by simp [defs])
  mirror := hb (d := d_mirror) (by simp [defs])
  led := hb (d := d_led) (by simp [defs])
  table_sum := hb (d := d_table_sum) (by simp [defs])
  sum_along := hb (d := d_sum_along) (by simp [defs])
theorem h_law : HLaw defs where
  by_ := hb (d := d__law_by) (by simp [defs])
  unit := hb (d := d__law_unit) (by simp [defs])
theorem h_lawx : HLawX defs where
  each := hb (d := d__law_each) (by simp [defs])
  mirror := hb (d := d__law_mirror) (by simp [defs])
  sum := hb (d := d__law_sum) (by simp [defs])
  led := hb (d := d__law_led) (by simp [defs])
def dK : DrK := ⟨69621, 2147483629, 39373, 83, 2147483647, 52713, 29, 2147483587, 40692, 2147483563, 10899002, 48271, 2147483629, 71, 2147483587⟩
theorem h_drw : HDrw defs dK where
  ok := by constructor <;> decide
  draw := hb (d := d__law_draw) (by simp [defs])
  deck := hb (d := d__law_deck) (by simp [defs])
theorem szl4 : 4 ≤ sizeLine := by decide
theorem szl9 : 9 ≤ sizeLine := by decide
section
variable {fl : List (Str × Str)} {sp : Fns → Fns}
theorem turn_ok {S : Sto} {l c M : Nat} {y2 y3 y4 y5 y6 y7 y8 : Option D} (hd : Dk l c (M + 3000) S) : ∃ z3 z4 z5 z6 z7 z8 S', (sSeq (sAsg (fTup (fCons (fCall (evF defs fl sp 40 (Str.ofString "_law_pick")) 2 0 [.inl 0, .inl 1] (fCons (fVar 1) (fCons (fLst false (fCons (fC (.int 2)) (fCons (fC (.int 3)) (fCons (fC (.int 5)) (fCons (fC (.int 7)) fNil))))) fNil)) fNil) (fCons (fCall (evF defs fl sp 40 (Str.ofString "_law_pick")) 2 0 [.inl 0, .inl 1] (fCons (fVar 1) (fCons (fLst false (fCons (fC (.int 2)) (fCons (fC (.int 3)) (fCons (fC (.int 4)) (fCons (fC (.int 1)) (fCons (fC (.int 5)) (fCons (fC (.int 3)) (fCons (fC (.int 8)) (fCons (fC (.int 6)) (fCons (fC (.int 7)) fNil)))))))))) fNil)) fNil) fNil))) (tgT 2 (tgCons (tgNm 3) (tgCons (tgNm 4) tgNil)))) (sSeq (sAsg (fLc false (fRng1 (fC (.int 3))) (.nm 8) [8] fYes (fTup (fCons (fVar 3) (fCons (fCall (evF defs fl sp 40 (Str.ofString "_law_drawn")) 3 0 [.inl 0, .inl 1, .inl 2] (fCons (fVar 1) (fCons (fVar 3) (fCons (fVar 4) fNil))) fNil) fNil)))) (tgT 3 (tgCons (tgNm 5) (tgCons (tgNm 6) (tgCons (tgNm 7) tgNil))))) (sSeq (sIf (gOr (gNot (fTru (fCall (evF defs fl sp 40 (Str.ofString "_law_are_sums_right")) 5 0 [.inl 0, .inl 1, .inl 2, .inl 3, .inl 4] (fCons (fVar 3) (fCons (fVar 4) (fCons (fVar 5) (fCons (fVar 6) (fCons (fCall (evF defs fl sp 40 (Str.ofString "_law_draw")) 2 0 [.inl 0, .inl 1] (fCons (fVar 1) (fCons (fVar 3) fNil)) fNil) fNil))))) fNil))) (gNot (fTru (fCall (evF defs fl sp 40 (Str.ofString "_law_are_products_right")) 6 0 [.inl 0, .inl 1, .inl 2, .inl 3, .inl 4, .inl 5] (fCons (fVar 1) (fCons (fVar 3) (fCons (fVar 4) (fCons (fVar 5) (fCons (fVar 6) (fCons (fVar 7) fNil)))))) fNil)))) (sSeq (sRet (fC (.bool false))) sNil) sNil) sNil)))
    [some (scr ns), some (.loc l), y2, y3, y4, y5, y6, y7, y8] S = .nx [some (scr ns), some (.loc l), y2, z3, z4, z5, z6, z7, z8] S' ∧ Go l c M S S' := by
  obtain ⟨pv, S1, e1, m1, g1⟩ := l_pick (fl := fl) (sp := sp) (n := 40) (N := M + 2999) (ds := [.int 2, .int 3, .int 5, .int 7]) h_drw (hb (d := d__law_pick) (by simp [defs])) (by omega) (by decide) (by decide) hd
  obtain ⟨nv, S2, e2, m2, g2⟩ := l_pick (fl := fl) (sp := sp) (n := 40) (N := M + 2998) (ds := [.int 2, .int 3, .int 4, .int 1, .int 5, .int 3, .int 8, .int 6, .int 7]) h_drw (hb (d := d__law_pick) (by simp [defs])) (by omega) (by decide) (by decide) g1.1
  obtain ⟨p, rfl, hp⟩ : ∃ p : Int, pv = .int p ∧ Pr p := by
    simp only [List.mem_cons, List.not_mem_nil, or_false] at m1
    rcases m1 with h | h | h | h <;> exact ⟨_, h, by simp [Pr]⟩
  obtain ⟨k, rfl, h1, h8⟩ : ∃ k : Nat, nv = .int (k : Nat) ∧ 1 ≤ k ∧ k ≤ 8 := by
    simp only [List.mem_cons, List.not_mem_nil, or_false] at m2
    rcases m2 with h | h | h | h | h | h | h | h | h
    · exact ⟨2, h, by omega⟩
    · exact ⟨3, h, by omega⟩
    · exact ⟨4, h, by omega⟩
    · exact ⟨1, h, by omega⟩
    · exact ⟨5, h, by omega⟩
    · exact ⟨3, h, by omega⟩
    · exact ⟨8, h, by omega⟩
    · exact ⟨6, h, by omega⟩
    · exact ⟨7, h, by omega⟩
  have pp := hp.pos
  obtain ⟨vs, S3, e3, len, qs, g3⟩ := lcG_r1 (k := 3) (l := l) (c := c) (S := S2) (ρ := [some (scr ns), some (.loc l), y2, some (.p (.int p)), some (.p (.int (k : Nat))), y5, y6, y7, y8]) (own := [8]) (v := 8) (F := fC (.int 3)) (Fe := (fTup (fCons (fVar 3) (fCons (fCall (evF defs fl sp 40 (Str.ofString "_law_drawn")) 3 0 [.inl 0, .inl 1, .inl 2] (fCons (fVar 1) (fCons (fVar 3) (fCons (fVar 4) fNil))) fNil) fNil)))) (fun v => ∃ f, In2 p f ∧ v = tabP p (mkM k f)) 270 (M + 800) rfl (by omega) (g2.1.le (by omega)) (fun j hj M S1 g => by
    obtain ⟨r, S', e, ⟨f, hf, rfl⟩, go⟩ := l_drawn (fl := fl) (sp := sp) (n := 40) (N := M) h_drw h_law (hb (d := d__law_drawn) (by simp [defs])) (hb (d := d__law_undoable) (by simp [defs])) (by omega) hp h1 h8 g.1
    exact ⟨tabP p (mkM k f), S', by simp [wipeD, arrD, e, sz2, mk2]; rfl, ⟨f, hf, rfl⟩, go⟩)
  obtain ⟨v1, v2, v3, rfl⟩ : ∃ v1 v2 v3, vs = [v1, v2, v3] := by
    match vs, len with
    | [a, b, c], _ => exact ⟨a, b, c, rfl⟩
  obtain ⟨f, hf, rfl⟩ := qs v1 (by simp)
  obtain ⟨g, hg, rfl⟩ := qs v2 (by simp)
  obtain ⟨h, hh, rfl⟩ := qs v3 (by simp)
  obtain ⟨u, S4, e4, u0, u1, g4⟩ := l_draw (fl := fl) (sp := sp) (n := 40) (N := M + 799) (many := p) h_drw (by omega) g3.1 (by omega) (by omega)
  have e5 := l_sums (fl := fl) (sp := sp) (n := 40) (S := S4) (k := k) h_law h_lawx h_ops h_all (hb (d := d__law_are_sums_right) (by simp [defs])) (by omega) hp h1 h8 hf hg ⟨u0, u1⟩
  obtain ⟨_, S5, e6, rfl, g5⟩ := l_prods (fl := fl) (sp := sp) (n := 40) (N := M) (k := k) h_law h_lawx h_ops h_all h_drw (hb (d := d__law_row) (by simp [defs])) (hb (d := d__law_are_products_right) (by simp [defs])) (by omega) hp h1 h8 hf hg hh (g4.1.le (by omega))
  refine ⟨some (.p (.int p)), some (.p (.int (k : Nat))), some (.p (tabP p (mkM k f))), some (.p (tabP p (mkM k g))), some (.p (tabP p (mkM k h))), y8, S5, ?_, (((g1.trans g2).trans g3).trans g4).trans g5⟩
  have k4 : mkT [.p (.int p), .p (.int (k : Nat))] = .p (.tuple [.int p, .int (k : Nat)]) := mk2
  simp [arrD, mkL, allP, e1, e2, sz2, k4, szl4, szl9, e3, e4, e5, e6]
end
theorem sh_law (G : Fns) (fl : List (Str × Str)) : evSs G fl b_law = (sSeq (sAsg (fCall (G (Str.ofString "_law_deck")) 1 0 [.inl 0] (fCons (fVar 0) fNil) fNil) (tgNm 1)) (sSeq (sFor (fRng1 (fC (.int 2))) (tgNm 2) (sSeq (sAsg (fTup (fCons (fCall (G (Str.ofString "_law_pick")) 2 0 [.inl 0, .inl 1] (fCons (fVar 1) (fCons (fLst false (fCons (fC (.int 2)) (fCons (fC (.int 3)) (fCons (fC (.int 5)) (fCons (fC (.int 7)) fNil))))) fNil)) fNil) (fCons (fCall (G (Str.ofString "_law_pick")) 2 0 [.inl 0, .inl 1] (fCons (fVar 1) (fCons (fLst false (fCons (fC (.int 2)) (fCons (fC (.int 3)) (fCons (fC (.int 4)) (fCons (fC (.int 1)) (fCons (fC (.int 5)) (fCons (fC (.int 3)) (fCons (fC (.int 8)) (fCons (fC (.int 6)) (fCons (fC (.int 7)) fNil)))))))))) fNil)) fNil) fNil))) (tgT 2 (tgCons (tgNm 3) (tgCons (tgNm 4) tgNil)))) (sSeq (sAsg (fLc false (fRng1 (fC (.int 3))) (.nm 8) [8] fYes (fTup (fCons (fVar 3) (fCons (fCall (G (Str.ofString "_law_drawn")) 3 0 [.inl 0, .inl 1, .inl 2] (fCons (fVar 1) (fCons (fVar 3) (fCons (fVar 4) fNil))) fNil) fNil)))) (tgT 3 (tgCons (tgNm 5) (tgCons (tgNm 6) (tgCons (tgNm 7) tgNil))))) (sSeq (sIf (gOr (gNot (fTru (fCall (G (Str.ofString "_law_are_sums_right")) 5 0 [.inl 0, .inl 1, .inl 2, .inl 3, .inl 4] (fCons (fVar 3) (fCons (fVar 4) (fCons (fVar 5) (fCons (fVar 6) (fCons (fCall (G (Str.ofString "_law_draw")) 2 0 [.inl 0, .inl 1] (fCons (fVar 1) (fCons (fVar 3) fNil)) fNil) fNil))))) fNil))) (gNot (fTru (fCall (G (Str.ofString "_law_are_products_right")) 6 0 [.inl 0, .inl 1, .inl 2, .inl 3, .inl 4, .inl 5] (fCons (fVar 1) (fCons (fVar 3) (fCons (fVar 4) (fCons (fVar 5) (fCons (fVar 6) (fCons (fVar 7) fNil)))))) fNil)))) (sSeq (sRet (fC (.bool false))) sNil) sNil) sNil)))) (sSeq (sRet (fC (.bool true))) sNil))) := by
  simp only [b_law, evSs, evS, ev, evAnd, evOr, evs, evo, evt, evp, evr, evx, evxs, List.map_cons, List.map_nil, Exs.len, Txs.len] <;> rfl
theorem law_true (ns : List Int) (h : ns.length ≤ 63) : ∃ S', evF defs tab.fl noSp 41 "law" [scr ns] [] = .ok (.b true) S' := by
  obtain ⟨S1, e1, d1, len1⟩ := c_deck (fl := tab.fl) (sp := noSp) (n := 40) (S := []) h_drw.deck h_drw.ok (by omega) h
  obtain ⟨z3, z4, z5, z6, z7, z8, S2, e2, g2⟩ := turn_ok (ns := ns) (fl := tab.fl) (sp := noSp) (S := S1) (M := 3000) (y2 := some (.i 0)) (y3 := none) (y4 := none) (y5 := none) (y6 := none) (y7 := none) (y8 := none) (d1.le (by omega))
  obtain ⟨w3, w4, w5, w6, w7, w8, S3, e3, g3⟩ := turn_ok (ns := ns) (fl := tab.fl) (sp := noSp) (S := S2) (M := 0) (y2 := some (.i 1)) (y3 := z3) (y4 := z4) (y5 := z5) (y6 := z6) (y7 := z7) (y8 := z8) (g2.1.le (by omega))
  refine ⟨S3.take 0, ?_⟩
  have q : HasB defs (Str.ofString "law") 1 9 b_law := hb (d := d_law) (by simp [defs])
  rw [at' q (by omega) rfl]
  have run : evSs (evF defs tab.fl noSp 40) tab.fl b_law [some (scr ns), none, none, none, none, none, none, none, none] [] = .rt (.b true) S3 := by
    rw [sh_law]
    have f2 := for2 (i := 2) (ρ := [some (scr ns), some (.loc 0), none, none, none, none, none, none, none]) (F := fC (.int 2)) rfl e2 e3
    simp only [List.length_nil, Nat.zero_add] at f2
    refine seq_nx (ρ' := [some (scr ns), some (.loc 0), none, none, none, none, none, none, none]) (S' := S1) (by simp [arrD, e1]) ?_
    refine seq_nx f2 ?_
    simp
  show fin [] (evSs (evF defs tab.fl noSp 40) tab.fl b_law [some (scr ns), none, none, none, none, none, none, none, none] []) = _
  rw [run]
  simp only [fin]
  rw [if_pos ⟨⟨by simp, fun i c hi => by simp at hi⟩, by simp [D.closed]⟩]
  rfl

end Lw
open PySem PySem.W PyProof.Rows in
set_option maxRecDepth 100000 in
set_option maxHeartbeats 0 in
theorem PySem.Challenge.cw_fewfolds_k02_whole_sums_products_and_row_holds : PySem.Challenge.rw_fewfolds_k02_whole_sums_products_and_row.Holds := by
  w_on; o_law; k_head; (case hw => w_witness2)
  k_fill
  refine Dl.walk_g (x := "script") (k := 41) (l := PySem.Challenge.rw_fewfolds_k02_whole_sums_products_and_row) (CX := fun _ => L2.CX0) (fd := Dl.fdN) (g := Dl.evF Lw.defs Lw.tab.fl Dl.noSp 41 "law") rfl (by decide) rfl ⟨rfl, by decide, by decide⟩ (by decide +kernel) (fun w h Y => PySem.W.kIn_of Y) ?F Lw.law_true (fun _ _ _ _ _ z => z)
  case F =>
    intro w mg fa h KX G hmg
    refine' Lw.mk_pro KX G hmg (Dl.raw_mk ?a_law ?l_law ?c_law ?k_law) (Dl.raw_mk ?a__law_are_sums_right ?l__law_are_sums_right ?c__law_are_sums_right ?k__law_are_sums_right) (Dl.raw_mk ?a__law_draw ?l__law_draw ?c__law_draw ?k__law_draw) (Dl.raw_mk ?a__law_are_products_right ?l__law_are_products_right ?c__law_are_products_right ?k__law_are_products_right) (Dl.raw_mk ?a__law_drawn ?l__law_drawn ?c__law_drawn ?k__law_drawn) (Dl.raw_mk ?a__law_pick ?l__law_pick ?c__law_pick ?k__law_pick) (Dl.raw_mk ?a__law_deck ?l__law_deck ?c__law_deck ?k__law_deck) (Dl.raw_mk ?a__law_mirror ?l__law_mirror ?c__law_mirror ?k__law_mirror) (Dl.raw_mk ?a__law_sum ?l__law_sum ?c__law_sum ?k__law_sum) (Dl.raw_mk ?a_zero ?l_zero ?c_zero ?k_zero) (Dl.raw_mk ?a_mirror ?l_mirror ?c_mirror ?k_mirror) (Dl.raw_mk ?a_diagonal_sum ?l_diagonal_sum ?c_diagonal_sum ?k_diagonal_sum) (Dl.raw_mk ?a_added ?l_added ?c_added ?k_added) (Dl.raw_mk ?a_times ?l_times ?c_times ?k_times) (Dl.raw_mk ?a_taken ?l_taken ?c_taken ?k_taken) (Dl.raw_mk ?a__law_each ?l__law_each ?c__law_each ?k__law_each) (Dl.raw_mk ?a__law_unit ?l__law_unit ?c__law_unit ?k__law_unit) (Dl.raw_mk ?a_product ?l_product ?c_product ?k_product) (Dl.raw_mk ?a_led ?l_led ?c_led ?k_led) (Dl.raw_mk ?a__law_led ?l__law_led ?c__law_led ?k__law_led) (Dl.raw_mk ?a__law_row ?l__law_row ?c__law_row ?k__law_row) (Dl.raw_mk ?a_one ?l_one ?c_one ?k_one) (Dl.raw_mk ?a__law_by ?l__law_by ?c__law_by ?k__law_by) (Dl.raw_mk ?a__law_undoable ?l__law_undoable ?c__law_undoable ?k__law_undoable) (Dl.raw_mk ?a_table_times ?l_table_times ?c_table_times ?k_table_times) (Dl.raw_mk ?a_mirrored ?l_mirrored ?c_mirrored ?k_mirrored) (Dl.raw_mk ?a_need_table ?l_need_table ?c_need_table ?k_need_table) (Dl.raw_mk ?a_sum_along ?l_sum_along ?c_sum_along ?k_sum_along) (Dl.raw_mkD ?a_table_sum ?l_table_sum ?t_table_sum ?d_table_sum ?c_table_sum ?k_table_sum) (Dl.raw_mk ?a_need_fellows ?l_need_fellows ?c_need_fellows ?k_need_fellows) (Dl.raw_mkD ?a_need_integer ?l_need_integer ?t_need_integer ?d_need_integer ?c_need_integer ?k_need_integer) (Dl.raw_mk ?a_table_product ?l_table_product ?c_table_product ?k_table_product) (Dl.raw_mk ?a_row_led ?l_row_led ?c_row_led ?k_row_led) (Dl.raw_mk ?a_is_row_value ?l_is_row_value ?c_is_row_value ?k_is_row_value) (Dl.raw_mk ?a_size ?l_size ?c_size ?k_size) (Dl.raw_mk ?a_one_table ?l_one_table ?c_one_table ?k_one_table) (Dl.raw_mk ?a_need_prime ?l_need_prime ?c_need_prime ?k_need_prime) (Dl.raw_mk ?a_row_times ?l_row_times ?c_row_times ?k_row_times) (Dl.raw_mk ?a_is_table_value ?l_is_table_value ?c_is_table_value ?k_is_table_value) (Dl.raw_mkD ?a_row_sum ?l_row_sum ?t_row_sum ?d_row_sum ?c_row_sum ?k_row_sum) (Dl.raw_mk ?a_is_fellow ?l_is_fellow ?c_is_fellow ?k_is_fellow) (Dl.raw_mk ?a_is_integer ?l_is_integer ?c_is_integer ?k_is_integer) (Dl.raw_mk ?a_mix ?l_mix ?c_mix ?k_mix) (Dl.raw_mk ?a_is_between ?l_is_between ?c_is_between ?k_is_between) (Dl.raw_mk ?a_unit_rows ?l_unit_rows ?c_unit_rows ?k_unit_rows) (Dl.raw_mk ?a_is_prime_value ?l_is_prime_value ?c_is_prime_value ?k_is_prime_value) (Dl.raw_mk ?a_zero_row ?l_zero_row ?c_zero_row ?k_zero_row) (Dl.raw_mk ?a_unit_row ?l_unit_row ?c_unit_row ?k_unit_row) ?z_range ?z_repr ?z_int ?z_max ?z_tuple ?z_list ?z_len ?z_sum ?z_enumerate ?z_zip ?z_isinstance ?z_all ?z_bool (Dl.rawc_int ?q_MOST_SIZE) (Dl.rawc_tup ?q_PRIMES ?p_PRIMES ?i_PRIMES ?y_PRIMES)
    (case a_law => k_is)
    (case l_law => k_is)
    (case c_law => k_is)
    (case k_law => k_is)
    (case a__law_are_sums_right => k_is)
    (case l__law_are_sums_right => k_is)
    (case c__law_are_sums_right => k_is)
    (case k__law_are_sums_right => k_is)
    (case a__law_draw => k_is)
    (case l__law_draw => k_is)
    (case c__law_draw => k_is)
    (case k__law_draw => k_is)
    (case a__law_are_products_right => k_is)
    (case l__law_are_products_right => k_is)
    (case c__law_are_products_right => k_is)
    (case k__law_are_products_right => k_is)
    (case a__law_drawn => k_is)
    (case l__law_drawn => k_is)
    (case c__law_drawn => k_is)
    (case k__law_drawn => k_is)
    (case a__law_pick => k_is)
    (case l__law_pick => k_is)
    (case c__law_pick => k_is)
    (case k__law_pick => k_is)
    (case a__law_deck => k_is)
    (case l__law_deck => k_is)
    (case c__law_deck => k_is)
    (case k__law_deck => k_is)
    (case a__law_mirror => k_is)
    (case l__law_mirror => k_is)
    (case c__law_mirror => k_is)
    (case k__law_mirror => k_is)
    (case a__law_sum => k_is)
    (case l__law_sum => k_is)
    (case c__law_sum => k_is)
    (case k__law_sum => k_is)
    (case a_zero => k_is)
    (case l_zero => k_is)
    (case c_zero => k_is)
    (case k_zero => k_is)
    (case a_mirror => k_is)
    (case l_mirror => k_is)
    (case c_mirror => k_is)
    (case k_mirror => k_is)
    (case a_diagonal_sum => k_is)
    (case l_diagonal_sum => k_is)
    (case c_diagonal_sum => k_is)
    (case k_diagonal_sum => k_is)
    (case a_added => k_is)
    (case l_added => k_is)
    (case c_added => k_is)
    (case k_added => k_is)
    (case a_times => k_is)
    (case l_times => k_is)
    (case c_times => k_is)
    (case k_times => k_is)
    (case a_taken => k_is)
    (case l_taken => k_is)
    (case c_taken => k_is)
    (case k_taken => k_is)
    (case a__law_each => k_is)
    (case l__law_each => k_is)
    (case c__law_each => k_is)
    (case k__law_each => k_is)
    (case a__law_unit => k_is)
    (case l__law_unit => k_is)
    (case c__law_unit => k_is)
    (case k__law_unit => k_is)
    (case a_product => k_is)
    (case l_product => k_is)
    (case c_product => k_is)
    (case k_product => k_is)
    (case a_led => k_is)
    (case l_led => k_is)
    (case c_led => k_is)
    (case k_led => k_is)
    (case a__law_led => k_is)
    (case l__law_led => k_is)
    (case c__law_led => k_is)
    (case k__law_led => k_is)
    (case a__law_row => k_is)
    (case l__law_row => k_is)
    (case c__law_row => k_is)
    (case k__law_row => k_is)
    (case a_one => k_is)
    (case l_one => k_is)
    (case c_one => k_is)
    (case k_one => k_is)
    (case a__law_by => k_is)
    (case l__law_by => k_is)
    (case c__law_by => k_is)
    (case k__law_by => k_is)
    (case a__law_undoable => k_is)
    (case l__law_undoable => k_is)
    (case c__law_undoable => k_is)
    (case k__law_undoable => k_is)
    (case a_table_times => k_is)
    (case l_table_times => k_is)
    (case c_table_times => k_is)
    (case k_table_times => k_is)
    (case a_mirrored => k_is)
    (case l_mirrored => k_is)
    (case c_mirrored => k_is)
    (case k_mirrored => k_is)
    (case a_need_table => k_is)
    (case l_need_table => k_is)
    (case c_need_table => k_is)
    (case k_need_table => k_is)
    (case a_sum_along => k_is)
    (case l_sum_along => k_is)
    (case c_sum_along => k_is)
    (case k_sum_along => k_is)
    (case a_table_sum => k_is)
    (case l_table_sum => k_is)
    (case t_table_sum => k_is)
    (case c_table_sum => k_is)
    (case k_table_sum => k_is)
    (case a_need_fellows => k_is)
    (case l_need_fellows => k_is)
    (case c_need_fellows => k_is)
    (case k_need_fellows => k_is)
    (case a_need_integer => k_is)
    (case l_need_integer => k_is)
    (case t_need_integer => k_is)
    (case c_need_integer => k_is)
    (case k_need_integer => k_is)
    (case a_table_product => k_is)
    (case l_table_product => k_is)
    (case c_table_product => k_is)
    (case k_table_product => k_is)
    (case a_row_led => k_is)
    (case l_row_led => k_is)
    (case c_row_led => k_is)
    (case k_row_led => k_is)
    (case a_is_row_value => k_is)
    (case l_is_row_value => k_is)
    (case c_is_row_value => k_is)
    (case k_is_row_value => k_is)
    (case a_size => k_is)
    (case l_size => k_is)
    (case c_size => k_is)
    (case k_size => k_is)
    (case a_one_table => k_is)
    (case l_one_table => k_is)
    (case c_one_table => k_is)
    (case k_one_table => k_is)
    (case a_need_prime => k_is)
    (case l_need_prime => k_is)
    (case c_need_prime => k_is)
    (case k_need_prime => k_is)
    (case a_row_times => k_is)
    (case l_row_times => k_is)
    (case c_row_times => k_is)
    (case k_row_times => k_is)
    (case a_is_table_value => k_is)
    (case l_is_table_value => k_is)
    (case c_is_table_value => k_is)
    (case k_is_table_value => k_is)
    (case a_row_sum => k_is)
    (case l_row_sum => k_is)
    (case t_row_sum => k_is)
    (case c_row_sum => k_is)
    (case k_row_sum => k_is)
    (case a_is_fellow => k_is)
    (case l_is_fellow => k_is)
    (case c_is_fellow => k_is)
    (case k_is_fellow => k_is)
    (case a_is_integer => k_is)
    (case l_is_integer => k_is)
    (case c_is_integer => k_is)
    (case k_is_integer => k_is)
    (case a_mix => k_is)
    (case l_mix => k_is)
    (case c_mix => k_is)
    (case k_mix => k_is)
    (case a_is_between => k_is)
    (case l_is_between => k_is)
    (case c_is_between => k_is)
    (case k_is_between => k_is)
    (case a_unit_rows => k_is)
    (case l_unit_rows => k_is)
    (case c_unit_rows => k_is)
    (case k_unit_rows => k_is)
    (case a_is_prime_value => k_is)
    (case l_is_prime_value => k_is)
    (case c_is_prime_value => k_is)
    (case k_is_prime_value => k_is)
    (case a_zero_row => k_is)
    (case l_zero_row => k_is)
    (case c_zero_row => k_is)
    (case k_zero_row => k_is)
    (case a_unit_row => k_is)
    (case l_unit_row => k_is)
    (case c_unit_row => k_is)
    (case k_unit_row => k_is)
    (case z_range => k_is)
    (case z_repr => k_is)
    (case z_int => k_is)
    (case z_max => k_is)
    (case z_tuple => k_is)
    (case z_list => k_is)
    (case z_len => k_is)
    (case z_sum => k_is)
    (case z_enumerate => k_is)
    (case z_zip => k_is)
    (case z_isinstance => k_is)
    (case z_all => k_is)
    (case z_bool => k_is)
    (case q_MOST_SIZE => k_is)
    (case q_PRIMES => k_is)
    (case p_PRIMES => k_is)
    (case d_table_sum => exact (.cons ⟨.int _, ⟨_, rfl⟩, fun _ => .int _⟩ .nil))
    (case d_need_integer => exact (.cons ⟨.non, rfl, fun _ => .non⟩ .nil))
    (case d_row_sum => exact (.cons ⟨.int _, ⟨_, rfl⟩, fun _ => .int _⟩ .nil))
    (case i_PRIMES => exact (.cons ⟨.int _, ⟨_, rfl⟩, fun _ => .int _⟩ (.cons ⟨.int _, ⟨_, rfl⟩, fun _ => .int _⟩ (.cons ⟨.int _, ⟨_, rfl⟩, fun _ => .int _⟩ (.cons ⟨.int _, ⟨_, rfl⟩, fun _ => .int _⟩ .nil)))))
    (case y_PRIMES => decide)
#print axioms PySem.Challenge.cw_fewfolds_k02_whole_sums_products_and_row_holds

