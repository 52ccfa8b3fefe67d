import PyProof.Rows.All
import KE.SortData
import HandS.ForMost
import HandS.StrMore
import HandS.StrSplit
import HandS.TupAny
import HandS.TupMul
import HandS.Text
import HandS.IsInst
import PyProof.FString2
import PyProof.TwoTypes
import PyProof.TwoTypesSub
import PyProof.FString5
import PyProof.CallStr
import Flt.Ops
import HandS.DeepEq
import PyProof.NeKinds
import Wide.All
import OpenK.AllK
import KE.KDictLaws
import PyProof.Rows.SetObj
import HandS.Base
import HandS.Call
import HandS.List
import HandS.Dict
import HandS.Set
import HandS.Strs
import HandS.SetKeys
import KE.KDictPairs
import KE.DataMinMax
import HandS.More
import HandS.RaiseMore
import HandS.Deep
import HandS.SetFor
import KE.DataFind
import KE.GoesNew
import PyProof.Rows.Nodes
import KE.KRevSl
import HandS.Style
import HandS.Ends
import HandS.Defaults
import HandS.Exc
import HandS.ExcOwn
import HandS.ExcIs
import HandS.TryOnly
import PyProof.ExcBaseAll.ValueError
import HandS.Small
import HandS.Head0
import HandS.Head1
import HandS.Head2
import HandS.HeadEnd
import HandS.HeadHook1
import HandS.HeadHook2
import HandS.HeadHook3
import HandS.HeadHook4
import PyProof.FitsInt
import PySem.Challenge.RW_worthsheets_k09_acts_and_happenings
section
set_option Elab.async false
set_option linter.all false
set_option maxRecDepth 100000
/-! MiSo: sorted(xs) where xs holds tuples, each with a text ahead: alike, or with unlike texts ahead. -/
namespace Mi
open PySem PySem.Calls PyProof.Rows PySem.W
/-- alike, or told apart by the texts ahead -/
def Apart (d d' : PyData) : Prop := alike d d' = true ∨ ∃ x r x' r', d = .tuple (.str x :: r) ∧ d' = .tuple (.str x' :: r') ∧ x ≠ x'
def AllApart (ds : List PyData) : Prop := ∀ d, d ∈ ds → ∀ d', d' ∈ ds → Apart d d'
def TextAhead (ds : List PyData) : Prop := ∀ d, d ∈ ds → ∃ x r, d = .tuple (.str x :: r)
theorem apart_unique {h : Heap} {d d' : PyData} {v : Value} {ads ads' : List Addr} (ha : Apart d d') (r : Reads h v d ads) (r' : Reads h v d' ads') : d = d' := by
  rcases ha with ha | ⟨x, t, x', t', rfl, rfl, hun⟩
  · exact alike_unique _ _ _ _ _ ha r r'
  · exfalso
    cases r with
    | @tuple a o xs n _ _ ha1 ha2 ha3 ha4 =>
      cases r' with
      | @tuple _ o' xs' n' _ _ kb1 kb2 kb3 kb4 =>
        rw [ha1] at kb1
        cases kb1
        rw [ha3] at kb3
        cases kb3
        generalize xs.toList = l at ha4 kb4
        cases ha4 with
        | cons a1 a2 =>
          cases kb4 with
          | cons b1 b2 =>
            cases a1
            cases b1
            exact hun rfl
theorem apartKind_some {h : Heap} {ds : List PyData} (hap : AllApart ds) {v : Value} {d : PyData} {ads : List Addr} (hmem : d ∈ ds) (r : Reads h v d ads) : (dataKind h ds).keyOf v = some (keyToks d) := by
  have q : ∃ d, d ∈ ds ∧ ∃ ads, Reads h v d ads := ⟨d, hmem, ads, r⟩
  have e : (dataKind h ds).keyOf v = some (keyToks q.choose) := by
    show (open Classical in if q : ∃ d, d ∈ ds ∧ ∃ ads, Reads h v d ads then some (keyToks q.choose) else none) = _
    rw [dif_pos q]
  obtain ⟨ha1, ads', ha2⟩ := q.choose_spec
  rw [e, apart_unique (hap _ ha1 _ hmem) ha2 r]
section
variable {prog : Program} {w : World} {A : Around} {s : Shared}
theorem kat_first {b fin : Bool} {Q : Bool → Shared → Prop} {x y : Str} {xs ys : List PyData} (hun : x ≠ y) {vs ws : List Value} {ads bs : List Addr} (rdA : ReadsAll s.heap vs (.str x :: xs) ads) (rdB : ReadsAll s.heap ws (.str y :: ys) bs)
    (hu : A.units < cLine) (hq : Q (PyProof.Rows.lexLt itemOrd (keyToksAll (.str x :: xs)) (keyToksAll (.str y :: ys))) s) : KatLex prog w A b fin Q (vs.zip ws) 0 s := by
  have ha1 : alike (.str x) (.str y) = true := by simp [alike]
  have hx : PyData.eqv (.str x) (.str y) = false := by simp [PyData.eqv, hun]
  have hmem : A.units + min (PyData.str x).depth (PyData.str y).depth < cLine := by simpa [PyData.depth] using hu
  cases rdA with
  | cons r rs =>
    cases rdB with
    | cons r' rs' =>
      rw [List.zip_cons_cons]
      refine kat_cons (eqAt_alike _ _ A s _ _ _ _ r r' ha1 hmem prog w _ _ ?_)
      rw [hx]
      rw [dataLt_all_no ha1 hx] at hq
      exact kat_no (oneLt_alike (fun hbi t => by simp) r r' ha1 (by simp) hmem hq)
theorem SortsAt.apart {vs : List Value} {ds : List PyData} (e : EachIs (fun v d => ∃ ads, Reads s.heap v d ads) vs ds) (hap : AllApart ds) (ht : TextAhead ds) (hu : ∀ d, d ∈ ds → A.units + d.depth < cLine) : SortsAt prog w A s (dataKind s.heap ds) vs := by
  refine ⟨fun v hv => ?_, ?_⟩
  · obtain ⟨d, hmem, ads, r⟩ := e.left v hv
    exact ⟨_, apartKind_some hap hmem r⟩
  · cases ds with
    | nil =>
      cases e
      exact ⟨general', fun E x y a b Q ha _ _ => (by
        obtain ⟨d, _, hmem, _⟩ := dataKind_inv ha
        exact absurd hmem (by simp)), fun ha2 => absurd ha2 (by simp)⟩
    | cons c0 cs0 =>
      obtain ⟨y0, z0, ec0⟩ := ht c0 (List.mem_cons_self ..)
      refine ⟨tuples' (dataType (.str y0) != Value.type "tuple"), ?_, fun ha2 E Q hq => ?_⟩
      · intro E x y a b Q ha hb hq
        obtain ⟨d, ads, hmem, rdA, rfl⟩ := dataKind_inv ha
        obtain ⟨d', ads', hmem2, rdB, rfl⟩ := dataKind_inv hb
        have hrm := hu d hmem
        have hpq := hap d hmem d' hmem2
        obtain ⟨x1, r1, rfl⟩ := ht d hmem
        obtain ⟨x2, r2, rfl⟩ := ht d' hmem2
        have hqq : Q (dataLt (.tuple (.str x1 :: r1)) (.tuple (.str x2 :: r2))) s := hq
        rw [dataLt_tuple] at hqq
        cases rdA with
        | @tuple l o xs n _ _ ha1 ha2 ha3 ha4 =>
          cases rdB with
          | @tuple l' o' xs' n' _ _ kb1 kb2 kb3 kb4 =>
            have sz1 : xs.size = (PyData.str x1 :: r1).length := by simpa using SeqAt.ReadsAll.length _ _ _ ha4
            have sz2 : xs'.size = (PyData.str x2 :: r2).length := by simpa using SeqAt.ReadsAll.length _ _ _ kb4
            rcases hpq with hpq | ⟨y1, t1, y2, t2, e1, e2, hun⟩
            · have hroom2 : A.units + min (PyData.tuple (.str x1 :: r1)).depth (PyData.tuple (.str x2 :: r2)).depth < cLine := Nat.lt_of_le_of_lt (Nat.add_le_add_left (Nat.min_le_left _ _) _) hrm
              refine kat_lt ha1 ha3 kb1 kb3 (katLex_alike (.str x1 :: r1) (.str x2 :: r2) 0 _ _ _ _ ha4 kb4 (by simpa [alike] using hpq) (by have q := SeqAt.room_in hroom2; omega) (fun hb _ x r t ex => ?_) (by rw [sz1, sz2]) hqq)
              obtain ⟨rfl, rfl⟩ := List.cons.inj ex
              simp
            · cases e1
              cases e2
              exact kat_lt ha1 ha3 kb1 kb3 (kat_first hun ha4 kb4 (by omega) hqq)
      · obtain ⟨fs, t1, t2, t3⟩ := each_katTups e fun d hmem => let ⟨x, r, e⟩ := ht d hmem; ⟨_, r, e⟩
        refine kat_kind (T := dataType (.str y0)) t1 (by omega) (fun f hf => ?_) (beq_self_eq_true _) hq
        obtain ⟨x, r, ads, m1, m2⟩ := t3 f hf
        obtain ⟨y, r', e1⟩ := ht _ m1
        cases e1
        have q := looks_reads (M := model prog w) m2
        exact q
theorem apart_keys {h : Heap} {ds : List PyData} (hap : AllApart ds) {vs : List Value} (e : EachIs (fun v d => ∃ ads, Reads h v d ads) vs ds) : EachIs (fun v d => (dataKind h ds).keyOf v = some (keyToks d)) vs ds :=
  (each_mem e).mono fun _ _ ⟨⟨_, r⟩, hmem⟩ => apartKind_some hap hmem r
theorem sortVals_apart {β : Type} {bs : List β} {h' : Heap} {R : Value → β → Prop} {enc : β → PyData} {vs : List Value} (e : EachIs R vs bs) (er : EachIs (fun v b => ∃ ads, Reads h' v (enc b) ads) vs bs) (hap : AllApart (bs.map enc)) :
    EachIs R (sortVals (dataKind h' (bs.map enc)) false vs vs) (bs.mergeSort (dataLe false enc)) :=
  sortVals_each (κ := dataKind h' (bs.map enc)) (fun b => keyToks (enc b)) e (each_of_map enc (apart_keys hap (each_map (R := fun v d => ∃ ads, Reads h' v d ads) enc er)))
theorem sorted_apart {β : Type} {vs : List Value} {bs : List β} {enc : β → PyData} {R : Value → β → Prop} {E : Value → Shared → Prop} {l : Addr} {Q : Value → Shared → Prop} (hl : s.heap.IsList l vs.toArray) (e : EachIs R vs bs) (er : EachIs (fun v b => ∃ ads, Reads s.heap v (enc b) ads) vs bs) (hap : AllApart (bs.map enc)) (hk : TextAhead (bs.map enc)) (hL : bs.length ≤ sizeLine)
    (hu : ∀ b, b ∈ bs → A.units + 2 + (enc b).depth < cLine) (h : ∀ out, out.length = bs.length → EachIs R out (bs.mergeSort (dataLe false enc)) → Q (.ref (s.heap.objs.size + 1)) { s with heap := sortedAll s.heap vs (List.toArray out) }) :
    wpAny (model prog w) A (call (.builtin "sorted") [.ref l]) Q E s := by
  have erA : EachIs (fun v b => ∃ ads, Reads (sortingHeap (copyHeap s.heap vs) (s.heap.objs.size + 1) vs) v (enc b) ads) vs bs := er.mono fun _ _ ⟨ads, r⟩ => ⟨ads, PyProof.Rows.Reads.keeps (fun _ _ => sorting_copy_old) r⟩
  exact sorted_vals hl (SortsAt.apart (s := { s with heap := sortingHeap (copyHeap s.heap vs) (s.heap.objs.size + 1) vs }) (each_map (R := fun v d => ∃ ads, Reads (sortingHeap (copyHeap s.heap vs) (s.heap.objs.size + 1) vs) v d ads) enc erA) hap hk (bound_map hu)) (by rw [e.length]; exact hL)
    (h _ (by rw [sortVals_length false rfl]; exact e.length) (sortVals_apart e erA hap))
end
end Mi
end
section
set_option Elab.async false
set_option linter.all false
/-! Mi0: deep values, a small heap, an IR and its evaluator. -/
namespace Mi
open PySem

/-- deep values; ref i: the i-th thing of the small heap (it may change) -/
inductive D where
  | non | bl (b : Bool) | int (i : Int) | str (x : Str)
  | tup (ds : List D) | lst (ds : List D)
  | dict (kvs : List (D × D)) | inst (c : Nat) (fs : List (Nat × D))
  | fn (i : Nat)
  | scr (ns : List Int)
  | ref (i : Nat)

/-- what stands in the small heap -/
inductive MO where
  | lst (ds : List D) | dict (kvs : List (D × D)) | inst (c : Nat) (fs : List (Nat × D)) | fz (kvs : List (D × D))
abbrev Hh := List MO

inductive R (α : Type) where
  | ok (a : α) (M : Hh) | exc (c : Nat) (M : Hh) | bad
def R.bind {α β : Type} (r : R α) (f : α → Hh → R β) : R β := match r with
  | .ok a M => f a M
  | .exc c M => .exc c M
  | .bad => .bad
@[simp] theorem R.bind_ok {α β : Type} (a : α) (M : Hh) (f : α → Hh → R β) : (R.ok a M).bind f = f a M := rfl
@[simp] theorem R.bind_exc {α β : Type} (c : Nat) (M : Hh) (f : α → Hh → R β) : (R.exc c M : R α).bind f = .exc c M := rfl
@[simp] theorem R.bind_bad {α β : Type} (f : α → Hh → R β) : (R.bad : R α).bind f = .bad := rfl

/-! ### the IR -/
inductive Op where | add | sub | mul | fdiv | mod | pow
  deriving DecidableEq
inductive Cm where | eq | ne | lt | le | gt | ge | isin | notin
  deriving DecidableEq
inductive B1 where | len | tuple | list | sorted | any | all | int | str | repr | abs | min1 | max1 | sortset | sum | dict | set
  deriving DecidableEq
inductive B2 where | min2 | max2
  deriving DecidableEq
inductive Ty where | int | str | bool | tuple | list | dict
  deriving DecidableEq
/-- methods of built-in types -/
inductive BM where | lappend | lextend | linsert | lpop | lpopat | dget | dpop | lindex | sjoin | sstarts | lremove | lcount | supper | scount | ssplit (m : Bool) | ssplitm (m : Bool) | sfind | srfind | sends
  deriving DecidableEq
/-- a target: names by slots -/
inductive T where | name (i : Nat) | tup (is : List Nat) | tt (ts : List (Sum Nat (List Nat)))
  deriving DecidableEq
mutual
inductive E where
  | var (i : Nat) | int (n : Int) | str (x : Str) | bl (b : Bool) | non
  | con (g : Nat) | kd (g : Nat) (e : E)
  | tup (es : Es) | lst (m : Bool) (es : Es) | dct (m : Bool) (es : Es)
  | not (a : E) | and (a b : E) | or (a b : E) | ite (c a b : E) | neg (a : E)
  | bin (m : Bool) (o : Op) (a b : E) | cmp (o : Cm) (a b : E) | chain (o1 o2 : Cm) (a b c : E)
  | isnon (a : E) | notnon (a : E) | isbl (neg k : Bool) (a : E)
  | b1 (m : Bool) (f : B1) (a : E) | b2 (f : B2) (a b : E)
  | isi (a : E) (ts : List Ty)
  | ix (a b : E) | slice (m : Bool) (a : E) (lo hi : Es)
  | lc (m : Bool) (own : List Nat) (t : T) (it : It) (c : Es) (elt : E)
  | call (f : Nat) (keep : Bool) (es : Es)
  | mk (c : Nat) (keep : Bool) (es : Es)
  | meth (k : Nat) (keep : Bool) (o : E) (es : Es)
  | attr (a : E) (k : Nat)
  | bm (f : BM) (o : E) (es : Es)
  | rev (m : Bool) (a : E)
  | isx (a : E) (cs : List (Option Nat))
inductive Es where | nil | cons (e : E) (es : Es)
inductive It where | val (e : E) | range1 (a : E) | range2 (a b : E) | range3 (a b c : E) | enum (e : E) | zip2 (a b : E) | zip3 (a b c : E) | values (e : E)
end
/-- what an except suite stores -/
inductive SV where | exn | non | bl (b : Bool)
  deriving DecidableEq
mutual
inductive S where
  | expr (e : E) | set (t : T) (e : E) | setix (a i v : E) | setattr (a : E) (k : Nat) (v : E)
  | ret (e : E) | ite (c : E) (a b : Ss) | for_ (t : T) (it : It) (b : Ss) | while_ (c : E) (b : Ss) | raise (c : Nat) | pass | wipe (is : List Nat)
  | exprX (e : E) | setX (t : T) (e : E) | retX (e : E) | try_ (b : Ss) (c : Nat) (n : Option Nat) (j : Nat) (v : SV)
inductive Ss where | nil | cons (s : S) (r : Ss)
end

/-! ### data -/
mutual
def D.plain : D → Bool
  | .non => true | .bl _ => true | .int _ => true | .str _ => true
  | .tup ds => plains ds
  | .lst ds => plains ds
  | .dict _ => false | .inst _ _ => false | .fn _ => false | .scr _ => false | .ref _ => false
def plains : List D → Bool
  | [] => true
  | d :: ds => d.plain && plains ds
end
mutual
def D.depth : D → Nat
  | .tup ds => depths ds + 1
  | .lst ds => depths ds + 1
  | .non => 0 | .bl _ => 0 | .int _ => 0 | .str _ => 0
  | .dict _ => 0 | .inst _ _ => 0 | .fn _ => 0 | .scr _ => 0 | .ref _ => 0
def depths : List D → Nat
  | [] => 0
  | d :: ds => max d.depth (depths ds)
end
mutual
def D.eqv : D → D → Bool
  | .non, e => match e with | .non => true | _ => false
  | .bl a, e => match e with | .bl b => a == b | .int j => (if a then 1 else 0) == j | _ => false
  | .int i, e => match e with | .int j => i == j | .bl b => i == (if b then 1 else 0) | _ => false
  | .str x, e => match e with | .str y => x == y | _ => false
  | .tup xs, e => match e with | .tup ys => eqvs xs ys | _ => false
  | .lst xs, e => match e with | .lst ys => eqvs xs ys | _ => false
  | .dict _, _ => false | .inst _ _, _ => false | .fn _, _ => false | .scr _, _ => false | .ref _, _ => false
def eqvs : List D → List D → Bool
  | [], e => match e with | [] => true | _ :: _ => false
  | x :: xs, e => match e with | [] => false | y :: ys => x.eqv y && eqvs xs ys
end
/-- the list that stands at a ref -/
def der (M : Hh) : D → D
  | .ref i => match M[i]? with | some (.lst ds) => .lst ds | some (.dict kvs) => .dict kvs | some (.inst c fs) => .inst c fs | some (.fz kvs) => .dict kvs | none => .ref i
  | d => d

/-- refs below n alone -/
inductive RefsLt (n : Nat) : D → Prop
  | non : RefsLt n .non | bl (b) : RefsLt n (.bl b) | int (i) : RefsLt n (.int i) | str (x) : RefsLt n (.str x) | fn (i) : RefsLt n (.fn i) | scr (ns) : RefsLt n (.scr ns)
  | tup {ds} (h : ∀ d ∈ ds, RefsLt n d) : RefsLt n (.tup ds)
  | lst {ds} (h : ∀ d ∈ ds, RefsLt n d) : RefsLt n (.lst ds)
  | dict {kvs} (h : ∀ p ∈ kvs, RefsLt n p.2) : RefsLt n (.dict kvs)
  | inst {c fs} (h : ∀ k d, List.lookup k fs = some d → RefsLt n d) : RefsLt n (.inst c fs)
  | ref {i} (h : i < n) : RefsLt n (.ref i)
inductive RefsLtO (n : Nat) : MO → Prop
  | lst {ds} (h : ∀ d ∈ ds, RefsLt n d) : RefsLtO n (.lst ds)
  | dict {kvs} (h : ∀ p ∈ kvs, RefsLt n p.2) : RefsLtO n (.dict kvs)
  | inst {c fs} (h : ∀ k d, List.lookup k fs = some d → RefsLt n d) : RefsLtO n (.inst c fs)
  | fz {kvs} (h : ∀ p ∈ kvs, RefsLt n p.2) : RefsLtO n (.fz kvs)

/-! ### what a call hands back: new things are read off as values -/
mutual
def frzD (dr : Nat → Option D) (n : Nat) : D → Option D
  | .non => some .non | .bl b => some (.bl b) | .int i => some (.int i) | .str x => some (.str x) | .fn i => some (.fn i) | .scr ns => some (.scr ns)
  | .tup ds => (frzDs dr n ds).map .tup
  | .lst ds => (frzDs dr n ds).map .lst
  | .dict kvs => (frzKs dr n kvs).map .dict
  | .inst c fs => (frzFs dr n fs).map (.inst c)
  | .ref i => if i < n then some (.ref i) else dr i
def frzDs (dr : Nat → Option D) (n : Nat) : List D → Option (List D)
  | [] => some []
  | d :: ds => match frzD dr n d, frzDs dr n ds with
    | some e, some es => some (e :: es)
    | _, _ => none
def frzKs (dr : Nat → Option D) (n : Nat) : List (D × D) → Option (List (D × D))
  | [] => some []
  | (k, d) :: ds => match frzD dr n d, frzKs dr n ds with
    | some e, some es => some ((k, e) :: es)
    | _, _ => none
def frzFs (dr : Nat → Option D) (n : Nat) : List (Nat × D) → Option (List (Nat × D))
  | [] => some []
  | (k, d) :: ds => match frzD dr n d, frzFs dr n ds with
    | some e, some es => some ((k, e) :: es)
    | _, _ => none
end
def drf (M : Hh) (n : Nat) : Nat → Nat → Option D
  | 0, _ => none
  | k + 1, i => match M[i]? with
    | some (.lst ds) => (frzDs (drf M n k) n ds).map .lst
    | some (.dict kvs) => (frzKs (drf M n k) n kvs).map .dict
    | some (.inst c fs) => (frzFs (drf M n k) n fs).map (.inst c)
    | some (.fz kvs) => (frzKs (drf M n k) n kvs).map .dict
    | none => none
/-- what stood at the call is as it was, or speaks of what stood -/
def Stood (M M' : Hh) : Prop := M.length ≤ M'.length ∧ ∀ i, i < M.length → M'[i]? = M[i]? ∨ ∃ o, M'[i]? = some o ∧ RefsLtO M.length o
open Classical in
noncomputable def back (keep : Bool) (M : Hh) : R D → R D
  | .ok d M' => if keep then .ok d M' else match frzD (drf M' M.length 8) M.length d with
    | some e => if Stood M M' then .ok e (M'.take M.length) else .bad
    | none => .bad
  | .exc c M' => if keep then .exc c M' else if Stood M M' then .exc c (M'.take M.length) else .bad
  | .bad => .bad

/-! ### operations -/
def alloc (m : Bool) (ds : List D) (M : Hh) : R D := if m then .ok (.ref M.length) (M ++ [.lst ds]) else .ok (.lst ds) M
def str1 (c : Nat) : D := .str ⟨#[c]⟩
def signs (x : Str) : List D := x.cps.toList.map str1
abbrev ixN := L2.ixN
abbrev sIx := HT.sIx
def cut {α : Type} (xs : List α) (lo hi : Option Int) : List α := (xs.drop (sIx xs.length 0 lo)).take (sIx xs.length xs.length hi - sIx xs.length 0 lo)
def intSmall (i : Int) : Prop := -(2 ^ 64) < i ∧ i < 2 ^ 64
def repL {α : Type} (xs : List α) : Nat → List α
  | 0 => []
  | k + 1 => xs ++ repL xs k
open Classical in
noncomputable def addD (m : Bool) (a b : D) (M : Hh) : R D := match a, b with
  | .int i, .int j => .ok (.int (i + j)) M
  | .bl k, .int j => .ok (.int ((if k = true then (1 : Int) else 0) + j)) M
  | .str x, .str y => if x.length + y.length ≤ 16777216 then .ok (.str (x ++ y)) M else .bad
  | .tup xs, .tup ys => if xs.length + ys.length ≤ 16777216 then .ok (.tup (xs ++ ys)) M else .bad
  | .lst xs, .lst ys => if xs.length + ys.length ≤ 16777216 then alloc m (xs ++ ys) M else .bad
  | _, _ => .bad
open Classical in
noncomputable def mulD (m : Bool) (a b : D) (M : Hh) : R D := match a, b with
  | .int i, .int j => if intSmall i ∨ intSmall j then .ok (.int (i * j)) M else .bad
  | .lst xs, .int k => if 0 ≤ k ∧ k < 2 ^ 63 ∧ xs.length * k.toNat ≤ 16777216 then alloc m (repL xs k.toNat) M else .bad
  | .tup xs, .int k => if xs ≠ [] ∧ 0 ≤ k ∧ k ≤ 1000 ∧ xs.length ≤ 1000 then .ok (.tup (repL xs k.toNat)) M else .bad
  | _, _ => .bad
open Classical in
noncomputable def binD (m : Bool) (o : Op) (a b : D) (M : Hh) : R D := match o with
  | .add => addD m (der M a) (der M b) M
  | .mul => mulD m (der M a) (der M b) M
  | .sub => match a, b with | .int i, .int j => .ok (.int (i - j)) M | .bl k, .int j => .ok (.int ((if k = true then (1 : Int) else 0) - j)) M | _, _ => .bad
  | .fdiv => match a, b with | .int i, .int j => if j ≠ 0 ∧ j.natAbs < 1073741824 then .ok (.int (i.fdiv j)) M else .bad | _, _ => .bad
  | .mod => match a, b with | .int i, .int j => if j ≠ 0 then .ok (.int (i.fmod j)) M else .bad | _, _ => .bad
  | .pow => match a, b with | .int i, .int j => if 0 ≤ j ∧ j ≤ 1000000 ∧ i.natAbs < 2 ^ 64 then .ok (.int (i ^ j.toNat)) M else .bad | _, _ => .bad
def allocD (m : Bool) (kvs : List (D × D)) (M : Hh) : R D := if m then .ok (.ref M.length) (M ++ [.dict kvs]) else .ok (.dict kvs) M
/-- one text within another -/
def inStr (x y : Str) : Bool := !(Builtin.Str.occurrences y x 0 y.length 1).isEmpty
def inSeq (x : D) (ds : List D) : Bool := ds.any fun d => d.eqv x
mutual
def D.py : D → PyData
  | .non => .none | .bl b => .bool b | .int i => .int i | .str x => .str x
  | .tup ds => .tuple (pys ds)
  | .lst ds => .list (pys ds)
  | .dict _ => .none | .inst _ _ => .none | .fn _ => .none | .scr _ => .none | .ref _ => .none
def pys : List D → List PyData
  | [] => []
  | d :: ds => d.py :: pys ds
end
theorem pys_map : ∀ ds : List D, pys ds = ds.map D.py
  | [] => rfl
  | d :: ds => by rw [pys, pys_map ds, List.map_cons]

/-! ### keys of dicts -/
def isKey : D → Bool
  | .int _ => true | .str _ => true
  | _ => false
def lookD (kvs : List (D × D)) (k : D) : Option D := (kvs.find? fun p => p.1.eqv k).map (·.2)
def putD (kvs : List (D × D)) (k v : D) : List (D × D) :=
  if kvs.any (fun p => p.1.eqv k) then kvs.map fun p => if p.1.eqv k then (p.1, v) else p else kvs ++ [(k, v)]
/-- pairs laid one behind another -/
def mergeD : List (D × D) → List (D × D) → List (D × D)
  | acc, [] => acc
  | acc, p :: r => mergeD (putD acc p.1 p.2) r
def pairsGo : List D → List (D × D) → Option (List (D × D))
  | [], acc => some acc
  | k :: v :: r, acc => if isKey k then pairsGo r (putD acc k v) else none
  | _ :: [], _ => none
/-- a display: key, value, key, value .. -/
def pairsOf (ds : List D) : Option (List (D × D)) := pairsGo ds []
/-- a list of pairs -/
def pairsIn : List D → Option (List (D × D))
  | [] => some []
  | .tup [k, v] :: r => if isKey k then (pairsIn r).map ((k, v) :: ·) else none
  | _ :: _ => none
def strsOf : List D → Option (List Str)
  | [] => some []
  | .str x :: r => (strsOf r).map (x :: ·)
  | _ :: _ => none
def intsOf : List D → Bool
  | [] => true
  | .int _ :: r => intsOf r
  | _ :: _ => false
def strsB : List D → Bool
  | [] => true
  | .str _ :: r => strsB r
  | _ :: _ => false
def dropD (kvs : List (D × D)) (k : D) : List (D × D) := kvs.filter fun p => !p.1.eqv k

def flatD : D → Bool
  | .non => true | .bl _ => true | .int _ => true | .str _ => true
  | _ => false
/-- two tuples of dicts that hold the same flat things -/
def DictTups (M : Hh) (a b : D) : Prop := ∃ ds es, a = .tup ds ∧ b = .tup es ∧ ds.length = es.length ∧ ∀ (i : Nat) d e, ds[i]? = some d → es[i]? = some e →
  ∃ p q kvs, d = .ref p ∧ e = .ref q ∧ M[p]? = some (.dict kvs) ∧ M[q]? = some (.dict kvs) ∧ ∀ r ∈ kvs, flatD r.2 = true ∧ lookD kvs r.1 = some r.2
open Classical in
noncomputable def eqD (neg : Bool) (a b : D) (M : Hh) : R D :=
  if a.plain = true ∧ b.plain = true ∧ min a.depth b.depth ≤ 64 then .ok (.bl (if neg then !a.eqv b else a.eqv b)) M
  else if neg = true ∧ DictTups M a b then .ok (.bl false) M else .bad
open Classical in
noncomputable def inD (neg : Bool) (a b : D) (M : Hh) : R D := match b with
  | .str y => match a with | .str x => .ok (.bl (if neg then !inStr x y else inStr x y)) M | _ => .bad
  | .lst ds => if a.plain = true ∧ plains ds = true ∧ min (depths ds) a.depth ≤ 64 then .ok (.bl (if neg then !inSeq a ds else inSeq a ds)) M else .bad
  | .tup ds => if a.plain = true ∧ plains ds = true ∧ min (depths ds) a.depth ≤ 64 then .ok (.bl (if neg then !inSeq a ds else inSeq a ds)) M else .bad
  | .dict kvs => if isKey a then .ok (.bl (if neg then !(lookD kvs a).isSome else (lookD kvs a).isSome)) M else .bad
  | _ => .bad
def intsL : List D → Option (List Int)
  | [] => some []
  | .int i :: r => (intsL r).map (i :: ·)
  | _ :: _ => none
noncomputable def cmpD (o : Cm) (a b : D) (M : Hh) : R D := match o with
  | .eq => eqD false (der M a) (der M b) M
  | .ne => eqD true (der M a) (der M b) M
  | .lt => match a, b with
    | .int i, .int j => .ok (.bl (decide (i < j))) M
    | .str x, .str y => .ok (.bl (decide (x.cps.toList < y.cps.toList))) M
    | .tup ds, .tup es => match intsL ds, intsL es with | some ns, some ms => .ok (.bl (HT.lexLt ns ms)) M | _, _ => .bad
    | _, _ => .bad
  | .le => match a, b with
    | .int i, .int j => .ok (.bl (decide (i ≤ j))) M
    | _, _ => .bad
  | .gt => match a, b with
    | .int i, .int j => .ok (.bl (decide (j < i))) M
    | _, _ => .bad
  | .ge => match a, b with
    | .int i, .int j => .ok (.bl (decide (j ≤ i))) M
    | _, _ => .bad
  | .isin => inD false (der M a) (der M b) M
  | .notin => inD true (der M a) (der M b) M
/-! ### built-ins -/
def boolsOf : List D → Option (List Bool)
  | [] => some []
  | .bl b :: r => (boolsOf r).map (b :: ·)
  | _ :: _ => none
/-- what may be sorted -/
def CanSort (ds : List D) : Prop := plains ds = true ∧ ((PySem.W.AllAlike (ds.map D.py) ∧ PySem.W.Sortable (ds.map D.py)) ∨ (AllApart (ds.map D.py) ∧ TextAhead (ds.map D.py))) ∧ depths ds ≤ 64
noncomputable def sortD (ds : List D) : List D := ds.mergeSort (PySem.W.dataLe false D.py)
def dedupS : List D → List D → List D
  | [], acc => acc.reverse
  | d :: ds, acc => if acc.any (fun e => e.eqv d) then dedupS ds acc else dedupS ds (d :: acc)
def keyOk : D → Bool
  | .str x => PyData.strOk x && decide (x.length ≤ sizeLine)
  | .int _ => true
  | _ => false
def itemsOf (M : Hh) : D → Option (List D × List (Nat × List D))
  | .lst ds => some (ds, [])
  | .tup ds => some (ds, [])
  | .str x => some (signs x, [])
  | .dict kvs => if kvs.all (fun p => keyOk p.1) = true then some (kvs.map (·.1), []) else none
  | .scr ns => some (ns.map D.int, [])
  | .ref i => match M[i]? with
    | some (.lst ds) => some (ds, [(i, ds)])
    | some (.fz kvs) => if kvs.all (fun p => keyOk p.1) = true then some (kvs.map (·.1), []) else none
    | _ => none
  | _ => none
def itemsL (M : Hh) (d : D) : Option (List D × List (Nat × List D)) := match d with
  | .str _ => none
  | .dict _ => none
  | .ref i => match M[i]? with
    | some (.lst ds) => some (ds, [(i, ds)])
    | _ => none
  | d => itemsOf M d
/-- a dict that is walked stays as it is from then on -/
def lockM (d : D) (M : Hh) : Hh := match d with
  | .ref i => match M[i]? with
    | some (.dict kvs) => M.set i (.fz kvs)
    | _ => M
  | _ => M
/-- the least text -/
def minS (x : Str) (xs : List Str) : Str := xs.foldl (fun a y => if PySem.W.dataLt (.str y) (.str a) then y else a) x
/-- a thing whose text can be told -/
def RepOk (d : D) : Prop := d.plain = true ∧ d.depth ≤ 60 ∧ d.py.showable = true ∧ d.py.shown.length ≤ 16777216 ∧ PyData.strOk d.py.shown = true
open Classical in
noncomputable def reprD (d : D) (M : Hh) : R D := if RepOk d then .ok (.str d.py.shown) M else .bad
open Classical in
noncomputable def b1D (m : Bool) (f : B1) (a : D) (M : Hh) : R D := match f, der M a with
  | .len, .lst ds => .ok (.int ds.length) M
  | .len, .scr ns => .ok (.int ns.length) M
  | .len, .tup ds => .ok (.int ds.length) M
  | .len, .str x => .ok (.int x.length) M
  | .len, .dict kvs => .ok (.int kvs.length) M
  | .tuple, .lst ds => .ok (.tup ds) M
  | .tuple, .tup ds => .ok (.tup ds) M
  | .list, .lst ds => alloc m ds M
  | .list, .tup ds => alloc m ds M
  | .list, .dict kvs => if kvs.all (fun p => keyOk p.1) = true then alloc m (kvs.map (·.1)) M else .bad
  | .sortset, .lst ds => if (strsB ds = true ∨ intsOf ds = true) ∧ (dedupS ds []).length ≤ 4000 then alloc m (sortD (dedupS ds [])) M else .bad
  | .dict, .dict kvs => allocD m kvs M
  | .dict, .lst ds => match pairsIn ds with | some kvs => allocD m (mergeD [] kvs) M | none => .bad
  | .dict, .tup ds => match pairsIn ds with | some kvs => allocD m (mergeD [] kvs) M | none => .bad
  | .repr, .int i => if i.natAbs.log2 < 1920 then .ok (.str (toString i : String)) M else .bad
  | .repr, .tup ds => reprD (.tup ds) M
  | .repr, .lst ds => reprD (.lst ds) M
  | .repr, .non => reprD .non M
  | .repr, .bl b => reprD (.bl b) M
  | .repr, .str x => reprD (.str x) M
  | .sorted, .lst ds => if CanSort ds then alloc m (sortD ds) M else .bad
  | .sorted, .dict kvs => if intsOf (kvs.map (·.1)) = true ∧ kvs.length < 64 then alloc m (sortD (kvs.map (·.1))) M else .bad
  | .any, .lst ds => match boolsOf ds with | some bs => .ok (.bl (bs.any id)) M | none => .bad
  | .all, .lst ds => match boolsOf ds with | some bs => .ok (.bl (bs.all id)) M | none => .bad
  | .int, .int i => .ok (.int i) M
  | .int, .bl b => .ok (.int (if b then 1 else 0)) M
  | .str, .bl k => .ok (.str (if k then "True" else "False" : String)) M
  | .str, .str x => .ok (.str x) M
  | .str, .non => .ok (.str "None") M
  | .str, .int i => if i.natAbs.log2 < 1920 then .ok (.str (toString i : String)) M else .bad
  | .abs, .int i => .ok (.int (if i < 0 then -i else i)) M
  | .min1, .lst ds => match strsOf ds with | some (x :: xs) => .ok (.str (minS x xs)) M | _ => .bad
  | _, _ => .bad
def b2D (f : B2) (a b : D) (M : Hh) : R D := match f, a, b with
  | .min2, .int i, .int j => .ok (.int (if j < i then j else i)) M
  | .max2, .int i, .int j => .ok (.int (if j > i then j else i)) M
  | _, _, _ => .bad
def isTy (d : D) : Ty → Bool
  | .int => match d with | .int _ => true | .bl _ => true | _ => false
  | .bool => match d with | .bl _ => true | _ => false
  | .str => match d with | .str _ => true | _ => false
  | .tuple => match d with | .tup _ => true | _ => false
  | .list => match d with | .lst _ => true | _ => false
  | .dict => match d with | .dict _ => true | _ => false
/-- may it be asked for its type here -/
def tyOk : D → Bool
  | .inst _ _ => false | .ref _ => false | .fn _ => false | .scr _ => false
  | _ => true
/-- is True, is False: of truths alone -/
def isblD (neg k : Bool) (d : D) (M : Hh) : R D := match d with
  | .bl b => .ok (.bl (if neg then !decide (b = k) else decide (b = k))) M
  | _ => .bad
def ixD (a b : D) (M : Hh) : R D := match der M a, b with
  | .lst ds, .int i => match (ixN ds.length i).bind fun j => ds[j]? with | some d => .ok d M | none => .bad
  | .tup ds, .int i => match (ixN ds.length i).bind fun j => ds[j]? with | some d => .ok d M | none => .bad
  | .scr ns, .int i => match (ixN ns.length i).bind fun j => ns[j]? with | some n => .ok (.int n) M | none => .bad
  | .str x, .int i => match (ixN x.cps.toList.length i).bind fun j => x.cps.toList[j]? with | some c => .ok (str1 c) M | none => .bad
  | .dict kvs, k => if isKey k then match lookD kvs k with | some d => .ok d M | none => .bad else .bad
  | _, _ => .bad
def sliceD (m : Bool) (a : D) (lo hi : Option Int) (M : Hh) : R D := match der M a with
  | .lst ds => alloc m (cut ds lo hi) M
  | .scr ns => alloc m (cut (ns.map D.int) lo hi) M
  | .tup ds => .ok (.tup (cut ds lo hi)) M
  | .str x => .ok (.str ⟨(cut x.cps.toList lo hi).toArray⟩) M
  | _ => .bad
/-- a method of a built-in type; what it changes stands at a ref -/
def bmTy : BM → D → Bool
  | .lappend, d => match d with | .lst _ => true | _ => false
  | .lextend, d => match d with | .lst _ => true | _ => false
  | .linsert, d => match d with | .lst _ => true | _ => false
  | .lpop, d => match d with | .lst _ => true | _ => false
  | .lpopat, d => match d with | .lst _ => true | _ => false
  | .dget, d => match d with | .dict _ => true | _ => false
  | .dpop, d => match d with | .dict _ => true | _ => false
  | .lindex, d => match d with | .lst _ => true | _ => false
  | .sjoin, d => match d with | .str _ => true | _ => false
  | .sstarts, d => match d with | .str _ => true | _ => false
  | .lremove, d => match d with | .lst _ => true | _ => false
  | .lcount, d => match d with | .lst _ => true | _ => false
  | .supper, d => match d with | .str _ => true | _ => false
  | .scount, d => match d with | .str _ => true | _ => false
  | .ssplit _, d => match d with | .str _ => true | _ => false
  | .ssplitm _, d => match d with | .str _ => true | _ => false
  | .sfind, d => match d with | .str _ => true | _ => false
  | .srfind, d => match d with | .str _ => true | _ => false
  | .sends, d => match d with | .str _ => true | _ => false
/-- a list of the small heap -/
def refL (o : D) (M : Hh) (f : Nat → List D → R D) : R D := match o with
  | .ref i => match M[i]? with
    | some (.lst ds) => f i ds
    | _ => .bad
  | _ => .bad
open Classical in
noncomputable def bmD (f : BM) (o : D) (args : List D) (M : Hh) : R D := match f with
  | .lappend => match args with
    | [d] => refL o M fun i ds => if ds.length < 16777216 then .ok .non (M.set i (.lst (ds ++ [d]))) else .bad
    | _ => .bad
  | .lextend => match args with
    | [e] => refL o M fun i ds => match der M e with
      | .lst es => if ds.length + es.length ≤ 16777216 then .ok .non (M.set i (.lst (ds ++ es))) else .bad
      | .tup es => if ds.length + es.length ≤ 16777216 then .ok .non (M.set i (.lst (ds ++ es))) else .bad
      | _ => .bad
    | _ => .bad
  | .linsert => match args with
    | [.int k, d] => refL o M fun i ds => if ds.length < 16777216 ∧ 0 ≤ k ∧ k < 2 ^ 62 then .ok .non (M.set i (.lst (ds.take k.toNat ++ [d] ++ ds.drop k.toNat))) else .bad
    | _ => .bad
  | .lpop => match args with
    | [] => refL o M fun i ds => match ds[ds.length - 1]? with | some d => .ok d (M.set i (.lst ds.dropLast)) | none => .bad
    | _ => .bad
  | .lpopat => match args with
    | [.int k] => refL o M fun i ds => match ixN ds.length k with
      | some j => match ds[j]? with
        | some d => if k < 2 ^ 62 then .ok d (M.set i (.lst (ds.eraseIdx j))) else .bad
        | none => .bad
      | none => .bad
    | _ => .bad
  | .dget => match args with
    | [k, d] => match der M o with
      | .dict kvs => if isKey k then .ok ((lookD kvs k).getD d) M else .bad
      | _ => .bad
    | [k] => match der M o with
      | .dict kvs => if isKey k then .ok ((lookD kvs k).getD .non) M else .bad
      | _ => .bad
    | _ => .bad
  | .dpop => match args with
    | [k] => match o with
      | .ref r => match M[r]? with
        | some (.dict kvs) => if isKey k then match lookD kvs k with | some v => .ok v (M.set r (.dict (dropD kvs k))) | none => .bad else .bad
        | _ => .bad
      | _ => .bad
    | _ => .bad
  | .lindex => match args with
    | [k] => match der M o with
      | .lst ds => if k.plain = true ∧ plains ds = true ∧ depths ds ≤ 60 ∧ k.depth ≤ 60 then match ds.findIdx? fun d => d.eqv k with | some j => .ok (.int j) M | none => .bad else .bad
      | _ => .bad
    | _ => .bad
  | .sjoin => match args with
    | [e] => match der M o, der M e with
      | .str a, .lst ds => match strsOf ds with
        | some ys => if (ys.map (·.length)).sum + ys.length * a.length ≤ 16777216 then .ok (.str (Str.join a ys)) M else .bad
        | none => .bad
      | _, _ => .bad
    | _ => .bad
  | .sstarts => match args with
    | [e] => match der M o, der M e with
      | .str a, .str b => .ok (.bl (Txt.startswith a b)) M
      | _, _ => .bad
    | _ => .bad
  | .lremove => match args with
    | [k] => refL o M fun i ds => if k.plain = true ∧ plains ds = true ∧ depths ds ≤ 60 ∧ k.depth ≤ 60 then match ds.findIdx? fun d => d.eqv k with | some j => .ok .non (M.set i (.lst (ds.eraseIdx j))) | none => .bad else .bad
    | _ => .bad
  | .lcount => match args with
    | [k] => match der M o with
      | .lst ds => if k.plain = true ∧ plains ds = true ∧ depths ds ≤ 60 ∧ k.depth ≤ 60 then .ok (.int ((ds.countP fun d => d.eqv k : Nat))) M else .bad
      | _ => .bad
    | _ => .bad
  | .supper => match args with
    | [] => match der M o with
      | .str a => if a.length ≤ 5592405 ∧ keyOk (.str (Txt.upper a)) = true then .ok (.str (Txt.upper a)) M else .bad
      | _ => .bad
    | _ => .bad
  | .scount => match args with
    | [e] => match der M o, der M e with
      | .str a, .str b => .ok (.int (Txt.count a b)) M
      | _, _ => .bad
    | _ => .bad
  | .ssplit m => match args with
    | [e] => match der M o, der M e with
      | .str a, .str b => if (b.length == 0) = false ∧ a.length + 2 ≤ 16777216 ∧ ∀ y ∈ Txt.split a b, keyOk (.str y) = true then alloc m ((Txt.split a b).map .str) M else .bad
      | _, _ => .bad
    | _ => .bad
  | .ssplitm m => match args with
    | [e, .int k] => match der M o, der M e with
      | .str a, .str b => if (b.length == 0) = false ∧ a.length + 2 ≤ 16777216 ∧ -(2 ^ 63) ≤ k ∧ k < 2 ^ 63 ∧ ∀ y ∈ Txt.splitMax a b k, keyOk (.str y) = true then alloc m ((Txt.splitMax a b k).map .str) M else .bad
      | _, _ => .bad
    | _ => .bad
  | .sfind => match args with
    | [e] => match der M o, der M e with
      | .str a, .str b => .ok (.int (Txt.find a b)) M
      | _, _ => .bad
    | _ => .bad
  | .srfind => match args with
    | [e, .int i, .int j] => match der M o, der M e with
      | .str a, .str b => .ok (.int (Txt.rfindIn a b i j)) M
      | _, _ => .bad
    | _ => .bad
  | .sends => match args with
    | [e] => match der M o, der M e with
      | .str a, .str b => .ok (.bl (Txt.endswith a b)) M
      | _, _ => .bad
    | _ => .bad

def isN : D → Bool
  | .non => true
  | _ => false

/-! ### the evaluator -/
structure Sg where
  call : Nat → List D → Hh → R D
  new : Nat → List D → Hh → R D
  meth : Nat → Nat → Option Nat
  hc : Nat → Bool
  con : Nat → D
  kd : Nat → List (Str × D)
  wh : Nat
  xs : Nat → List Nat
abbrev Lo := List (Option D)
inductive RS where
  | nx (σ : Lo) (M : Hh) | rt (d : D) (M : Hh) | exc (c : Nat) (σ : Lo) (M : Hh) | bad
def R.st (r : R D) (σ : Lo) (f : D → Hh → RS) : RS := match r with
  | .ok d M => f d M
  | .exc _ _ => .bad
  | .bad => .bad
@[simp] theorem R.st_ok (d : D) (M : Hh) (σ : Lo) (f : D → Hh → RS) : (R.ok d M).st σ f = f d M := rfl
@[simp] theorem R.st_exc (c : Nat) (M : Hh) (σ : Lo) (f : D → Hh → RS) : (R.exc c M).st σ f = .bad := rfl
@[simp] theorem R.st_bad (σ : Lo) (f : D → Hh → RS) : (R.bad).st σ f = .bad := rfl
/-- .. that lets an exception out -/
def R.stX (r : R D) (σ : Lo) (f : D → Hh → RS) : RS := match r with
  | .ok d M => f d M
  | .exc c M => .exc c σ M
  | .bad => .bad
@[simp] theorem R.stX_ok (d : D) (M : Hh) (σ : Lo) (f : D → Hh → RS) : (R.ok d M).stX σ f = f d M := rfl
@[simp] theorem R.stX_exc (c : Nat) (M : Hh) (σ : Lo) (f : D → Hh → RS) : (R.exc c M).stX σ f = .exc c σ M := rfl
@[simp] theorem R.stX_bad (σ : Lo) (f : D → Hh → RS) : (R.bad).stX σ f = .bad := rfl
/-- what may not raise -/
def R.bno {α β : Type} (r : R α) (f : α → Hh → R β) : R β := match r with
  | .ok a M => f a M
  | _ => .bad
@[simp] theorem R.bno_ok {α β : Type} (a : α) (M : Hh) (f : α → Hh → R β) : (R.ok a M).bno f = f a M := rfl
def RS.then (r : RS) (f : Lo → Hh → RS) : RS := match r with
  | .nx σ M => f σ M
  | r => r
@[simp] theorem RS.then_nx (σ : Lo) (M : Hh) (f : Lo → Hh → RS) : (RS.nx σ M).then f = f σ M := rfl
@[simp] theorem RS.then_rt (d : D) (M : Hh) (f : Lo → Hh → RS) : (RS.rt d M).then f = .rt d M := rfl
@[simp] theorem RS.then_exc (c : Nat) (σ : Lo) (M : Hh) (f : Lo → Hh → RS) : (RS.exc c σ M).then f = .exc c σ M := rfl
@[simp] theorem RS.then_bad (f : Lo → Hh → RS) : (RS.bad).then f = .bad := rfl

def setAll : List Nat → List D → Lo → Option Lo
  | [], [], σ => some σ
  | i :: is, d :: ds, σ => setAll is ds (σ.set i (some d))
  | _, _, _ => none
/-- names, rows of names -/
def setSub : List (Sum Nat (List Nat)) → List D → Lo → Option Lo
  | [], [], σ => some σ
  | .inl i :: ts, d :: ds, σ => setSub ts ds (σ.set i (some d))
  | .inr is :: ts, .tup es :: ds, σ => (setAll is es σ).bind (setSub ts ds)
  | _, _, _ => none
def T.bind : T → D → Lo → Option Lo
  | .name i, d, σ => some (σ.set i (some d))
  | .tup is, .tup ds, σ => setAll is ds σ
  | .tup _, _, _ => none
  | .tt ts, .tup ds, σ => setSub ts ds σ
  | .tt _, _, _ => none
def wipe (σ : Lo) : List Nat → Lo
  | [] => σ
  | v :: vs => (wipe σ vs).set v none
def asBool (d : D) (M : Hh) : R Bool := match d with | .bl b => .ok b M | _ => .bad
def Locked (lk : List (Nat × List D)) (M : Hh) : Prop := ∀ p ∈ lk, M[p.1]? = some (.lst p.2)
open Classical in
noncomputable def lcL (lk : List (Nat × List D)) (bnd : D → Option Lo) (cond : Lo → Hh → R Bool) (elt : Lo → Hh → R D) : List D → Hh → R (List D)
  | [], M => if Locked lk M then .ok [] M else .bad
  | x :: xs, M => if Locked lk M then match bnd x with
    | some σ => (cond σ M).bind fun b M1 => if b then (elt σ M1).bind fun y M2 => (lcL lk bnd cond elt xs M2).bind fun ys M3 => .ok (y :: ys) M3 else lcL lk bnd cond elt xs M1
    | none => .bad
    else .bad
open Classical in
noncomputable def forL (lk : List (Nat × List D)) (t : T) (body : Lo → Hh → RS) : List D → Lo → Hh → RS
  | [], σ, M => if Locked lk M then .nx σ M else .bad
  | x :: xs, σ, M => if Locked lk M then match t.bind x σ with
    | some σ1 => (body σ1 M).then (forL lk t body xs)
    | none => .bad
    else .bad
def whL (c : Lo → Hh → R Bool) (body : Lo → Hh → RS) : Nat → Lo → Hh → RS
  | 0, _, _ => .bad
  | k + 1, σ, M => match c σ M with
    | .ok b M1 => if b then (body σ M1).then (whL c body k) else .nx σ M1
    | .exc _ _ => .bad
    | .bad => .bad
def rangeL (lo : Int) : Nat → List D
  | 0 => []
  | n + 1 => .int lo :: rangeL (lo + 1) n
def rangeN (lo : Int) : Nat → List D
  | 0 => []
  | n + 1 => .int lo :: rangeN (lo - 1) n
def enumL (i : Nat) : List D → List D
  | [] => []
  | d :: ds => .tup [.int i, d] :: enumL (i + 1) ds
def rOk (i : Int) : Bool := decide (-(2 ^ 62) ≤ i) && decide (i < 2 ^ 62)
def optInt : List D → Option (Option Int)
  | [] => some none
  | [.int i] => some (some i)
  | _ => none
mutual
noncomputable def evE (G : Sg) : E → Lo → Hh → R D
  | .var i, σ, M => match σ[i]? with | some (some d) => .ok d M | _ => .bad
  | .int n, _, M => .ok (.int n) M
  | .str x, _, M => .ok (.str x) M
  | .bl b, _, M => .ok (.bl b) M
  | .non, _, M => .ok .non M
  | .con g, _, M => .ok (G.con g) M
  | .kd g e, σ, M => (evE G e σ M).bind fun d M1 => match d with | .str x => (match (G.kd g).lookup x with | some v => .ok v M1 | none => .bad) | _ => .bad
  | .tup es, σ, M => (evEs G es σ M).bind fun ds M1 => .ok (.tup ds) M1
  | .lst m es, σ, M => (evEs G es σ M).bind fun ds M1 => alloc m ds M1
  | .dct m es, σ, M => (evEs G es σ M).bind fun ds M1 => match pairsOf ds with | some kvs => allocD m kvs M1 | none => .bad
  | .not a, σ, M => (evE G a σ M).bind fun d M1 => (asBool d M1).bind fun b M2 => .ok (.bl (!b)) M2
  | .and a b, σ, M => (evE G a σ M).bind fun d M1 => (asBool d M1).bind fun c M2 => if c then evE G b σ M2 else .ok (.bl false) M2
  | .or a b, σ, M => (evE G a σ M).bind fun d M1 => (asBool d M1).bind fun c M2 => if c then .ok (.bl true) M2 else evE G b σ M2
  | .ite c a b, σ, M => (evE G c σ M).bind fun d M1 => (asBool d M1).bind fun k M2 => if k then evE G a σ M2 else evE G b σ M2
  | .neg a, σ, M => (evE G a σ M).bind fun d M1 => match d with | .int i => .ok (.int (-i)) M1 | _ => .bad
  | .bin m o a b, σ, M => (evE G a σ M).bind fun x M1 => (evE G b σ M1).bind fun y M2 => binD m o x y M2
  | .cmp o a b, σ, M => (evE G a σ M).bind fun x M1 => (evE G b σ M1).bind fun y M2 => cmpD o x y M2
  | .chain o1 o2 a b c, σ, M => (evE G a σ M).bind fun x M1 => (evE G b σ M1).bind fun y M2 => (cmpD o1 x y M2).bind fun r M3 =>
      (asBool r M3).bind fun k M4 => if k then (evE G c σ M4).bind fun z M5 => cmpD o2 y z M5 else .ok (.bl false) M4
  | .isnon a, σ, M => (evE G a σ M).bind fun d M1 => .ok (.bl (isN d)) M1
  | .notnon a, σ, M => (evE G a σ M).bind fun d M1 => .ok (.bl (!isN d)) M1
  | .isbl neg k a, σ, M => (evE G a σ M).bind fun d M1 => isblD neg k d M1
  | .b1 m f a, σ, M => (evE G a σ M).bind fun d M1 => b1D m f d M1
  | .b2 f a b, σ, M => (evE G a σ M).bind fun x M1 => (evE G b σ M1).bind fun y M2 => b2D f x y M2
  | .isi a ts, σ, M => (evE G a σ M).bind fun d M1 => if tyOk (der M1 d) then .ok (.bl (ts.any (isTy (der M1 d)))) M1 else .bad
  | .ix a b, σ, M => (evE G a σ M).bind fun x M1 => (evE G b σ M1).bind fun y M2 => ixD x y M2
  | .slice m a lo hi, σ, M => (evE G a σ M).bind fun x M1 => (evEs G lo σ M1).bind fun l M2 => (evEs G hi σ M2).bind fun h M3 =>
      match optInt l, optInt h with | some l, some h => sliceD m x l h M3 | _, _ => .bad
  | .lc m own t it c elt, σ, M => (evIt G it σ M).bind fun p M1 =>
      if p.1.length ≤ 16777216 then (lcL p.2 (fun x => t.bind x (wipe σ own)) (fun σ1 M2 => evC G c σ1 M2) (fun σ1 M2 => evE G elt σ1 M2) p.1 M1).bind fun ys M2 => alloc m ys M2 else .bad
  | .call f keep es, σ, M => (evEs G es σ M).bind fun ds M1 => back keep M1 (G.call f ds M1)
  | .mk c keep es, σ, M => (evEs G es σ M).bind fun ds M1 => back keep M1 (G.new c ds M1)
  | .meth k keep o es, σ, M => (evE G o σ M).bind fun d M1 => match der M1 d with
      | .inst c _ => match G.meth c k with
        | some f => (evEs G es σ M1).bind fun ds M2 => back keep M2 (G.call f (d :: ds) M2)
        | none => .bad
      | _ => .bad
  | .attr a k, σ, M => (evE G a σ M).bind fun d M1 => match der M1 d with
      | .inst c fs => if G.hc c then match fs.lookup k with | some v => .ok v M1 | none => .bad else .bad
      | _ => .bad
  | .rev m a, σ, M => (evE G a σ M).bind fun d M1 => match der M1 d with | .lst ds => alloc m ds.reverse M1 | .str x => .ok (.str ⟨x.cps.toList.reverse.toArray⟩) M1 | _ => .bad
  | .isx a cs, σ, M => (evE G a σ M).bind fun d M1 => match d with | .fn c => if (G.xs c).contains c then .ok (.bl (cs.any fun o => match o with | none => true | some k => (G.xs c).contains k)) M1 else .bad | _ => .bad
  | .bm f o es, σ, M => (evE G o σ M).bind fun d M1 => if bmTy f (der M1 d) then (evEs G es σ M1).bind fun ds M2 => bmD f d ds M2 else .bad
noncomputable def evEs (G : Sg) : Es → Lo → Hh → R (List D)
  | .nil, _, M => .ok [] M
  | .cons e es, σ, M => (evE G e σ M).bind fun d M1 => (evEs G es σ M1).bind fun ds M2 => .ok (d :: ds) M2
noncomputable def evC (G : Sg) : Es → Lo → Hh → R Bool
  | .nil, _, M => .ok true M
  | .cons e _, σ, M => (evE G e σ M).bind fun d M1 => asBool d M1
noncomputable def evIt (G : Sg) : It → Lo → Hh → R (List D × List (Nat × List D))
  | .val e, σ, M => (evE G e σ M).bind fun d M1 => match itemsOf (lockM d M1) d with | some p => .ok p (lockM d M1) | none => .bad
  | .range1 a, σ, M => (evE G a σ M).bind fun d M1 => match d with | .int n => if rOk n then .ok (rangeL 0 n.toNat, []) M1 else .bad | _ => .bad
  | .range2 a b, σ, M => (evE G a σ M).bind fun x M1 => (evE G b σ M1).bind fun y M2 => match x, y with
      | .int i, .int j => if rOk i && rOk j then .ok (rangeL i (j - i).toNat, []) M2 else .bad
      | _, _ => .bad
  | .range3 a b c, σ, M => (evE G a σ M).bind fun x M1 => (evE G b σ M1).bind fun y M2 => (evE G c σ M2).bind fun z M3 => match x, y, z with
      | .int i, .int j, .int k => if rOk i && rOk j && decide (k = -1) then .ok (rangeN i (i - j).toNat, []) M3 else .bad
      | _, _, _ => .bad
  | .enum e, σ, M => (evE G e σ M).bind fun d M1 => match itemsL M1 d with | some p => .ok (enumL 0 p.1, p.2) M1 | none => .bad
  | .zip2 a b, σ, M => (evE G a σ M).bind fun x M1 => (evE G b σ M1).bind fun y M2 => match itemsL M2 x, itemsL M2 y with
      | some p, some q => .ok ((p.1.zip q.1).map fun r => .tup [r.1, r.2], p.2 ++ q.2) M2
      | _, _ => .bad
  | .zip3 _ _ _, _, _ => .bad
  | .values e, σ, M => (evE G e σ M).bind fun d M1 => match d with | .dict kvs => .ok (kvs.map (·.2), []) M1 | _ => .bad
end
/-- a call that may raise -/
noncomputable def evX (G : Sg) : E → Lo → Hh → R D
  | .call f keep es, σ, M => (evEs G es σ M).bno fun ds M1 => back keep M1 (G.call f ds M1)
  | .meth k keep o es, σ, M => (evE G o σ M).bno fun d M1 => match der M1 d with
      | .inst c _ => match G.meth c k with
        | some f => (evEs G es σ M1).bno fun ds M2 => back keep M2 (G.call f (d :: ds) M2)
        | none => .bad
      | _ => .bad
  | _, _, _ => .bad
/-- an except suite: one store -/
def suite (c : Nat) (n : Option Nat) (j : Nat) (v : SV) (σ : Lo) : Option Lo := match n, v with
  | some i, .exn => if i = j then none else some (((σ.set i (some (.fn c))).set j (some (.fn c))).set i none)
  | none, .non => some (σ.set j (some .non))
  | none, .bl b => some (σ.set j (some (.bl b)))
  | _, _ => none
def setIx (a i v : D) (M : Hh) (σ : Lo) : RS := match a with
  | .ref r => match M[r]? with
    | some (.lst ds) => match i with
      | .int k => match ixN ds.length k with | some j => .nx σ (M.set r (.lst (ds.set j v))) | none => .bad
      | _ => .bad
    | some (.dict kvs) => if isKey i ∧ kvs.length < 16777216 then .nx σ (M.set r (.dict (putD kvs i v))) else .bad
    | _ => .bad
  | _ => .bad
def putF (k : Nat) (v : D) : List (Nat × D) → List (Nat × D)
  | [] => [(k, v)]
  | (j, x) :: r => if j = k then (j, v) :: r else (j, x) :: putF k v r
def setAttr (hc : Nat → Bool) (a : D) (k : Nat) (v : D) (M : Hh) (σ : Lo) : RS := match a with
  | .ref r => match M[r]? with
    | some (.inst c fs) => if hc c ∧ fs.length < 100 then .nx σ (M.set r (.inst c (putF k v fs))) else .bad
    | _ => .bad
  | _ => .bad
mutual
noncomputable def evS (G : Sg) : S → Lo → Hh → RS
  | .expr e, σ, M => (evE G e σ M).st σ fun _ M1 => .nx σ M1
  | .set t e, σ, M => (evE G e σ M).st σ fun d M1 => match t.bind d σ with | some σ1 => .nx σ1 M1 | none => .bad
  | .setix a i v, σ, M => (evE G v σ M).st σ fun d M1 => (evE G a σ M1).st σ fun x M2 => (evE G i σ M2).st σ fun y M3 => setIx x y d M3 σ
  | .setattr a k v, σ, M => (evE G v σ M).st σ fun d M1 => (evE G a σ M1).st σ fun x M2 => setAttr G.hc x k d M2 σ
  | .ret e, σ, M => (evE G e σ M).st σ fun d M1 => .rt d M1
  | .ite c a b, σ, M => (evE G c σ M).st σ fun d M1 => match d with | .bl k => if k then evSs G a σ M1 else evSs G b σ M1 | _ => .bad
  | .for_ t it b, σ, M => match evIt G it σ M with
      | .ok p M1 => forL p.2 t (evSs G b) p.1 σ M1
      | .exc _ _ => .bad
      | .bad => .bad
  | .while_ c b, σ, M => whL (fun σ1 M1 => (evE G c σ1 M1).bind fun d M2 => asBool d M2) (evSs G b) G.wh σ M
  | .raise c, σ, M => if (G.xs c).contains c then .exc c σ M else .bad
  | .exprX e, σ, M => (evX G e σ M).stX σ fun _ M1 => .nx σ M1
  | .setX t e, σ, M => (evX G e σ M).stX σ fun d M1 => match t.bind d σ with | some σ1 => .nx σ1 M1 | none => .bad
  | .retX e, σ, M => (evX G e σ M).stX σ fun d M1 => .rt d M1
  | .try_ b c n j v, σ, M => match evSs G b σ M with
      | .exc c' σ1 M1 => if (G.xs c').contains c' then (if (G.xs c').contains c then (match suite c' n j v σ1 with | some σ2 => .nx σ2 M1 | none => .bad) else .exc c' σ1 M1) else .bad
      | r => r
  | .pass, σ, M => .nx σ M
  | .wipe is, σ, M => .nx (Mi.wipe σ is) M
noncomputable def evSs (G : Sg) : Ss → Lo → Hh → RS
  | .nil, σ, M => .nx σ M
  | .cons s r, σ, M => (evS G s σ M).then (evSs G r)
end
/-! ### the program -/
structure Fn where
  ar : Nat        -- how many parameters
  nl : Nat        -- how many names
  body : Ss
structure Pg where
  fns : Nat → Fn
  init : Nat → Nat          -- a class's __init__
  meth : Nat → Nat → Option Nat
  hc : Nat → Bool
  con : Nat → D
  kd : Nat → List (Str × D)
  wh : Nat
  xs : Nat → List Nat
def start (f : Fn) (ds : List D) : Lo := ds.map some ++ List.replicate (f.nl - ds.length) none
def endF : RS → R D
  | .nx _ M => .ok .non M
  | .rt d M => .ok d M
  | .exc c _ M => .exc c M
  | .bad => .bad
/-- a new instance, then __init__ -/
def mkF (call : Nat → List D → Hh → R D) (init : Nat) (c : Nat) (ds : List D) (M : Hh) : R D :=
  (call init (.ref M.length :: ds) (M ++ [.inst c []])).bind fun d M1 => match d with | .non => .ok (.ref M.length) M1 | _ => .bad
noncomputable def callF (P : Pg) : Nat → Nat → List D → Hh → R D
  | 0, _, _, _ => .bad
  | n + 1, f, ds, M => if ds.length = (P.fns f).ar then
      endF (evSs { call := callF P n, new := fun c ds M => match n with | 0 => .bad | k + 1 => if P.hc c then mkF (callF P k) (P.init c) c ds M else .bad, meth := P.meth, hc := P.hc, con := P.con, kd := P.kd, wh := P.wh, xs := P.xs } (P.fns f).body (start (P.fns f) ds) M)
    else .bad
noncomputable def sig (P : Pg) (n : Nat) : Sg :=
  { call := callF P n, new := fun c ds M => match n with | 0 => .bad | k + 1 => if P.hc c then mkF (callF P k) (P.init c) c ds M else .bad, meth := P.meth, hc := P.hc, con := P.con, kd := P.kd, wh := P.wh, xs := P.xs }
theorem callF_succ (P : Pg) (n f : Nat) (ds : List D) (M : Hh) : callF P (n + 1) f ds M = if ds.length = (P.fns f).ar then endF (evSs (sig P n) (P.fns f).body (start (P.fns f) ds) M) else .bad := by
  rw [callF]; unfold sig; cases n <;> rfl
end Mi
end
section
set_option Elab.async false
set_option linter.all false
set_option maxRecDepth 100000
/-! MiB: how the deep values stand in the abstract heap. -/
namespace Mi
open PySem PySem.Spec L2

/-- where the classes, functions, attributes of the IR stand -/
structure Tb where
  K : PySem.W.Frag
  ca : Nat → Addr
  an : Nat → Str
  fa : Nat → Addr
/-- where the things of the small heap stand; what no value speaks of -/
structure Al where
  a : List Addr
  z : List Addr
def Al.out (α : Al) (x : Addr) : Prop := x ∉ α.a ∧ x ∉ α.z
def Al.add (α : Al) (p : Addr) : Al := ⟨α.a ++ [p], α.z⟩
def Al.hide (α : Al) (p : Addr) : Al := ⟨α.a, p :: α.z⟩
def StrOk (x : Str) : Prop := PyData.strOk x = true ∧ x.length ≤ sizeLine
def keyD : Key → D
  | .inl i => .int i
  | .inr x => .str x
def TupAt (K : PySem.W.Frag) (α : Al) (H : Hp) (a : Addr) (xs : List V) : Prop :=
  ((∃ o : Obj, o.dict = none ∧ H a = some (.frz o (.tup xs))) ∧ α.out a) ∨ ∃ (o : Obj) (its : Array Value) (n : Nat), K.lookup a = some o ∧ o.cls = .type "tuple" ∧ o.dict = none ∧ o.data = .seq its n ∧ its.size ≤ sizeLine ∧ Vals xs its.toList
def LstAt (K : PySem.W.Frag) (α : Al) (H : Hp) (a : Addr) (xs : List V) : Prop :=
  (Rd H a (.lst xs) ∧ α.out a) ∨ ∃ (o : Obj) (its : Array Value) (n : Nat), K.lookup a = some o ∧ o.cls = .type "list" ∧ o.dict = none ∧ o.data = .seq its n ∧ its.size ≤ sizeLine ∧ Vals xs its.toList
theorem TupAt.sq {K : PySem.W.Frag} {α : Al} {H : Hp} {a : Addr} {xs : List V} (h : TupAt K α H a xs) : SqT K H a xs := h.elim (fun ⟨⟨o, _, h⟩, _⟩ => .inl (.inr ⟨o, h⟩)) fun ⟨o, its, n, h1, h2, _, h3⟩ => .inr ⟨o, its, n, h1, h2, h3⟩
theorem LstAt.sq {K : PySem.W.Frag} {α : Al} {H : Hp} {a : Addr} {xs : List V} (h : LstAt K α H a xs) : SqL K H a xs := h.elim (fun h => .inl h.1) .inr

/-- an exception that was caught -/
def ExA (cls : Value) (a : Addr) : HO := .ext fun h => ∃ (oe : Obj) (vs : Array Value), h.get? a = some oe ∧ oe.cls = cls ∧ oe.dict = none ∧ oe.data = .fields vs
inductive Rep (T : Tb) (α : Al) (H : Hp) : D → V → Prop
  | non : Rep T α H .non .non
  | bl (b : Bool) : Rep T α H (.bl b) (.bl b)
  | int (i : Int) : Rep T α H (.int i) (.int i)
  | str (x : Str) (h : StrOk x) : Rep T α H (.str x) (.str x)
  | fn {c : Nat} {a : Addr} (h : H a = some (ExA (.ref (T.ca c)) a)) (n : α.out a) : Rep T α H (.fn c) (.ref a)
  | tup {ds : List D} {a : Addr} {vs : List V} (h : TupAt T.K α H a vs) (hl : ds.length = vs.length) (r : ∀ (i : Nat) d v, ds[i]? = some d → vs[i]? = some v → Rep T α H d v) : Rep T α H (.tup ds) (.ref a)
  | lst {ds : List D} {a : Addr} {vs : List V} (h : H a = some (.lst vs)) (n : α.out a) (hl : ds.length = vs.length) (r : ∀ (i : Nat) d v, ds[i]? = some d → vs[i]? = some v → Rep T α H d v) : Rep T α H (.lst ds) (.ref a)
  | dict {kvs : List (D × D)} {a : Addr} {ws : List (Key × V)} (h : Rd H a (.dK ws)) (n : α.out a) (hl : kvs.length = ws.length) (hk : ∀ (i : Nat) p q, kvs[i]? = some p → ws[i]? = some q → p.1 = keyD q.1)
      (r : ∀ (i : Nat) p q, kvs[i]? = some p → ws[i]? = some q → Rep T α H p.2 q.2) : Rep T α H (.dict kvs) (.ref a)
  | inst {c : Nat} {fs : List (Nat × D)} {a dx : Addr} {gs : List (Str × V)} (g : Nat → V) (h : H a = some (.ins (T.ca c) dx gs)) (n : α.out a) (hz : gs.length ≤ fs.length) (hg : ∀ k d, fs.lookup k = some d → gs.lookup (T.an k) = some (g k))
      (hn : ∀ f, (∀ k d, fs.lookup k = some d → T.an k ≠ f) → gs.lookup f = none) (r : ∀ k d, fs.lookup k = some d → Rep T α H d (g k)) : Rep T α H (.inst c fs) (.ref a)
  | scr {ns : List Int} {a : Addr} (h : LstAt T.K α H a (ns.map V.int)) : Rep T α H (.scr ns) (.ref a)
  | ref {i : Nat} {a : Addr} (h : α.a[i]? = some a) : Rep T α H (.ref i) (.ref a)

def Reps (T : Tb) (α : Al) (H : Hp) (ds : List D) (vs : List V) : Prop := ds.length = vs.length ∧ ∀ (i : Nat) d v, ds[i]? = some d → vs[i]? = some v → Rep T α H d v
def RepK (T : Tb) (α : Al) (H : Hp) (kvs : List (D × D)) (ws : List (Key × V)) : Prop :=
  kvs.length = ws.length ∧ (∀ (i : Nat) p q, kvs[i]? = some p → ws[i]? = some q → p.1 = keyD q.1) ∧ ∀ (i : Nat) p q, kvs[i]? = some p → ws[i]? = some q → Rep T α H p.2 q.2
def RepF (T : Tb) (α : Al) (H : Hp) (fs : List (Nat × D)) (gs : List (Str × V)) : Prop :=
  gs.length ≤ fs.length ∧ ∃ g : Nat → V, (∀ k d, fs.lookup k = some d → gs.lookup (T.an k) = some (g k)) ∧ (∀ f, (∀ k d, fs.lookup k = some d → T.an k ≠ f) → gs.lookup f = none) ∧ ∀ k d, fs.lookup k = some d → Rep T α H d (g k)
def RObj (T : Tb) (α : Al) (H : Hp) (a : Addr) : MO → Prop
  | .lst ds => ∃ vs, H a = some (.lst vs) ∧ Reps T α H ds vs
  | .dict kvs => ∃ ws, H a = some (.dK ws) ∧ RepK T α H kvs ws
  | .inst c fs => ∃ dx gs, H a = some (.ins (T.ca c) dx gs) ∧ RepF T α H fs gs
  | .fz kvs => ∃ ws, (∃ od, H a = some (.frz od (.dK ws))) ∧ RepK T α H kvs ws
structure RM (T : Tb) (α : Al) (M : Hh) (H : Hp) : Prop where
  len : α.a.length = M.length
  nd : α.a.Nodup
  obj : ∀ (i : Nat) (o : MO) (a : Addr), M[i]? = some o → α.a[i]? = some a → RObj T α H a o
  zs : ∀ z, z ∈ α.z → H z ≠ none ∧ z ∉ α.a
def RL (T : Tb) (α : Al) (H : Hp) (σ : Lo) (τ : St) : Prop := σ.length = τ.length ∧ ∀ (i : Nat) d, σ[i]? = some (some d) → ∃ v, τ[i]? = some (some v) ∧ Rep T α H d v
structure Ext (α α' : Al) (H H' : Hp) : Prop where
  pre : ∃ β, α'.a = α.a ++ β
  zz : α'.z = α.z
  keep : ∀ a u, a ∉ α.a → Rd H a u → Rd H' a u
  same : ∀ a o, a ∉ α.a → H a = some o → (∀ kvs, o ≠ .dK kvs) → H' a = some o
  new : ∀ a, a ∈ α'.a → a ∉ α.a → H a = none
  hid : ∀ z, z ∈ α.z → z ∉ α.a → H z ≠ none → H' z = H z
  fr : ∀ a od u, a ∈ α.a → H a = some (.frz od u) → H' a = some (.frz od u)

def NoFr (H : Hp) (a : Addr) : Prop := ∀ od u, H a ≠ some (.frz od u)
theorem NoFr.of {H : Hp} {a : Addr} {o : HO} (h : H a = some o) (hn : ∀ od u, o ≠ .frz od u) : NoFr H a := fun od u z => by
  rw [h] at z; exact hn od u (Option.some.inj z)

section
variable {T : Tb} {α α' α2 : Al} {H H' H2 : Hp} {M M' : Hh}
theorem Rd.ne {a : Addr} {u : HO} (h : Rd H a u) : H a ≠ none := by
  rcases h with h | ⟨o, h⟩ <;> rw [h] <;> simp
theorem Rd.some {a : Addr} {o : HO} (h : H a = some o) : Rd H a o := .inl h
theorem Ext.refl : Ext α α H H := ⟨⟨[], by simp⟩, rfl, fun _ _ _ h => h, fun _ _ _ h _ => h, fun a h n => absurd h n, fun _ _ _ _ => rfl, fun _ _ _ _ h => h⟩
theorem Ext.trans (e : Ext α α' H H') (f : Ext α' α2 H' H2) : Ext α α2 H H2 := by
  obtain ⟨β, eβ⟩ := e.pre
  obtain ⟨γ, eγ⟩ := f.pre
  have key : ∀ a u, a ∉ α.a → Rd H a u → a ∉ α'.a := fun a u n h hm => Rd.ne h (e.new a hm n)
  refine ⟨⟨β ++ γ, by rw [eγ, eβ, List.append_assoc]⟩, f.zz.trans e.zz, fun a u n h => f.keep a u (key a u n h) (e.keep a u n h), fun a o n h hd => f.same a o (key a _ n (.inl h)) (e.same a o n h hd) hd, fun a hm n => ?_, fun z hz hn h => ?_, fun a od u hm h => f.fr a od u (by rw [eβ]; exact List.mem_append_left _ hm) (e.fr a od u hm h)⟩
  by_cases h : a ∈ α'.a
  · exact e.new a h n
  · have q := f.new a hm h
    cases e1 : H a with
    | none => rfl
    | some u => exact absurd q (Rd.ne (e.keep a u n (.inl e1)))
  · have h1 := e.hid z hz hn h
    have h2 : z ∉ α'.a := fun hm => h (e.new z hm hn)
    rw [f.hid z (by rw [e.zz]; exact hz) h2 (by rw [h1]; exact h), h1]
theorem Ext.get (e : Ext α α' H H') {i : Nat} {a : Addr} (h : α.a[i]? = some a) : α'.a[i]? = some a := by
  obtain ⟨β, eβ⟩ := e.pre
  rw [eβ]
  have hi : i < α.a.length := by
    by_cases q : i < α.a.length
    · exact q
    · rw [List.getElem?_eq_none (by omega)] at h; cases h
  rw [List.getElem?_append_left hi]; exact h
theorem Ext.out (e : Ext α α' H H') {a : Addr} {u : HO} (n : α.out a) (h : Rd H a u) : α'.out a := ⟨fun hm => Rd.ne h (e.new a hm n.1), by rw [e.zz]; exact n.2⟩
theorem TupAt.ext (e : Ext α α' H H') {K : PySem.W.Frag} {a : Addr} {xs : List V} (h : TupAt K α H a xs) : TupAt K α' H' a xs := h.elim (fun ⟨⟨o, d, h⟩, n⟩ => .inl ⟨⟨o, d, e.same _ _ n.1 h (fun _ z => nomatch z)⟩, e.out n (.inl h)⟩) .inr
theorem LstAt.ext (e : Ext α α' H H') {K : PySem.W.Frag} {a : Addr} {xs : List V} (h : LstAt K α H a xs) : LstAt K α' H' a xs := h.elim (fun h => .inl ⟨e.keep _ _ h.2.1 h.1, e.out h.2 h.1⟩) .inr
theorem Rep.ext (e : Ext α α' H H') {d : D} {v : V} (r : Rep T α H d v) : Rep T α' H' d v := by
  induction r with
  | non => exact .non
  | bl b => exact .bl b
  | int i => exact .int i
  | str x h => exact .str x h
  | fn h n => exact .fn (e.same _ _ n.1 h (fun _ z => nomatch z)) (e.out n (.inl h))
  | tup h hl _ ih => exact .tup (h.ext e) hl ih
  | lst h n hl _ ih => exact .lst (e.same _ _ n.1 h (fun _ z => nomatch z)) (e.out n (.inl h)) hl ih
  | scr h => exact .scr (h.ext e)
  | dict h n hl hk _ ih => exact .dict (e.keep _ _ n.1 h) (e.out n h) hl hk ih
  | inst g h n hz hg hn _ ih => exact .inst g (e.same _ _ n.1 h (fun _ z => nomatch z)) (e.out n (.inl h)) hz hg hn ih
  | ref h => exact .ref (e.get h)
theorem Reps.ext (e : Ext α α' H H') {ds : List D} {vs : List V} (r : Reps T α H ds vs) : Reps T α' H' ds vs := ⟨r.1, fun i d v h1 h2 => (r.2 i d v h1 h2).ext e⟩
theorem RL.ext (e : Ext α α' H H') {σ : Lo} {τ : St} (r : RL T α H σ τ) : RL T α' H' σ τ := ⟨r.1, fun i d h => let ⟨v, h1, h2⟩ := r.2 i d h; ⟨v, h1, h2.ext e⟩⟩
theorem RepK.ext (e : Ext α α' H H') {ds : List (D × D)} {vs : List (Key × V)} (r : RepK T α H ds vs) : RepK T α' H' ds vs := ⟨r.1, r.2.1, fun i d v h1 h2 => (r.2.2 i d v h1 h2).ext e⟩
theorem RepF.ext (e : Ext α α' H H') {ds : List (Nat × D)} {vs : List (Str × V)} (r : RepF T α H ds vs) : RepF T α' H' ds vs := let ⟨z, g, h1, h2, h3⟩ := r; ⟨z, g, h1, h2, fun k d h => (h3 k d h).ext e⟩
theorem RObj.there {a : Addr} {o : MO} (r : RObj T α H a o) : H a ≠ none := by
  cases o with
  | lst ds => obtain ⟨vs, h, _⟩ := r; rw [h]; simp
  | dict ds => obtain ⟨vs, h, _⟩ := r; rw [h]; simp
  | inst c fs => obtain ⟨_, _, h, _⟩ := r; rw [h]; simp
  | fz ds => obtain ⟨vs, ⟨od, h⟩, _⟩ := r; rw [h]; simp
theorem RM.mem (m : RM T α M H) {a : Addr} (h : a ∈ α.a) : H a ≠ none := by
  obtain ⟨i, hi, e⟩ := List.getElem_of_mem h
  have hM : i < M.length := by rw [← m.len]; exact hi
  exact (m.obj i M[i] a (List.getElem?_eq_getElem hM) (by rw [List.getElem?_eq_getElem hi, e])).there
theorem RM.fresh (m : RM T α M H) {a : Addr} (h : H a = none) : α.out a := ⟨fun hm => m.mem hm h, fun hz => (m.zs a hz).1 h⟩
/-- a new thing is laid that the small heap doesn't hold -/
theorem Ext.laid {p : Addr} {o : HO} (hp : H p = none) : Ext α α H (upd H p o) := by
  refine ⟨⟨[], by simp⟩, rfl, fun a u n h => ?_, fun a x n h _ => ?_, fun a h n => absurd h n, fun z _ _ h => upd_ne fun e => by subst e; exact h hp, fun a od u _ h => by rw [upd_ne (ne_of_none h hp)]; exact h⟩
  · have ne : a ≠ p := fun z => by subst z; exact Rd.ne h hp
    rcases h with h | ⟨x, h⟩
    · exact .inl (by rw [upd_ne ne]; exact h)
    · exact .inr ⟨x, by rw [upd_ne ne]; exact h⟩
  · rw [upd_ne (ne_of_none h hp)]; exact h
theorem RObj.step {a : Addr} {o : MO} (e : Ext α α' H H') (h : H' a = H a) (r : RObj T α H a o) : RObj T α' H' a o := by
  cases o with
  | lst ds => obtain ⟨vs, h1, r⟩ := r; exact ⟨vs, by rw [h]; exact h1, r.ext e⟩
  | dict ds => obtain ⟨vs, h1, r⟩ := r; exact ⟨vs, by rw [h]; exact h1, r.ext e⟩
  | inst c fs => obtain ⟨d, g, h1, r⟩ := r; exact ⟨d, g, by rw [h]; exact h1, r.ext e⟩
  | fz ds => obtain ⟨vs, ⟨od, h1⟩, r⟩ := r; exact ⟨vs, ⟨od, by rw [h]; exact h1⟩, r.ext e⟩
theorem upd_some {p : Addr} {o : HO} {z : Addr} (h : H z ≠ none) : upd H p o z ≠ none := by
  by_cases e : z = p
  · subst e; rw [upd_same]; simp
  · rw [upd_ne e]; exact h
theorem RM.laid (m : RM T α M H) {p : Addr} {o : HO} (hp : H p = none) : RM T α M (upd H p o) :=
  ⟨m.len, m.nd, fun i x a h1 h2 => (m.obj i x a h1 h2).step (Ext.laid hp) (upd_ne fun z => by subst z; exact (m.obj i x a h1 h2).there hp), fun z hz => ⟨upd_some (m.zs z hz).1, (m.zs z hz).2⟩⟩
/-- .. that it holds -/
theorem Ext.grown {p : Addr} {o : HO} (hp : H p = none) : Ext α (α.add p) H (upd H p o) := by
  refine ⟨⟨[p], rfl⟩, rfl, (Ext.laid (α := α) hp).keep, (Ext.laid (α := α) hp).same, fun a h n => ?_, (Ext.laid (α := α) hp).hid, (Ext.laid (α := α) hp).fr⟩
  rcases List.mem_append.mp h with h | h
  · exact absurd h n
  · rw [List.mem_singleton.mp h]; exact hp
theorem RM.grown (m : RM T α M H) {p : Addr} {o : HO} {x : MO} (hp : H p = none) (r : RObj T (α.add p) (upd H p o) p x) : RM T (α.add p) (M ++ [x]) (upd H p o) := by
  have np := m.fresh hp
  refine ⟨by simp [Al.add, m.len], ?_, fun i y a h1 h2 => ?_, fun z hz => ⟨upd_some (m.zs z hz).1, fun hm => ?_⟩⟩
  · show (α.a ++ [p]).Nodup
    rw [List.nodup_append]
    refine ⟨m.nd, by simp, fun a ha b hb => ?_⟩
    rw [List.mem_singleton.mp hb]
    intro e; subst e; exact np.1 ha
  · have h2 : (α.a ++ [p])[i]? = some a := h2
    by_cases hi : i < α.a.length
    · rw [List.getElem?_append_left hi] at h2
      rw [List.getElem?_append_left (by rw [← m.len]; exact hi)] at h1
      have q := m.obj i y a h1 h2
      exact q.step (Ext.grown hp) (upd_ne fun z => by subst z; exact q.there hp)
    · have e1 : i = α.a.length := by
        have : i < (α.a ++ [p]).length := by
          by_cases q : i < (α.a ++ [p]).length
          · exact q
          · rw [List.getElem?_eq_none (by omega)] at h2; cases h2
        rw [List.length_append, List.length_singleton] at this
        omega
      subst e1
      rw [List.getElem?_append_right (Nat.le_refl _)] at h2
      rw [List.getElem?_append_right (by rw [m.len]; exact Nat.le_refl _)] at h1
      rw [m.len] at h1
      simp at h1 h2
      rw [← h1, ← h2]; exact r
  · have hm : z ∈ α.a ++ [p] := hm
    rcases List.mem_append.mp hm with q | q
    · exact (m.zs z hz).2 q
    · rw [List.mem_singleton.mp q] at hz
      exact np.2 hz
theorem nodup_same {β : Type} : ∀ {l : List β} {i j : Nat} {x : β}, l.Nodup → l[i]? = some x → l[j]? = some x → i = j
  | [], i, _, _, _, h, _ => by simp at h
  | y :: l, 0, 0, _, _, _, _ => rfl
  | y :: l, 0, j + 1, x, nd, h1, h2 => by
    simp at h1 h2; subst h1
    exact absurd (List.mem_of_getElem? h2) (List.nodup_cons.mp nd).1
  | y :: l, i + 1, 0, x, nd, h1, h2 => by
    simp at h1 h2; subst h2
    exact absurd (List.mem_of_getElem? h1) (List.nodup_cons.mp nd).1
  | y :: l, i + 1, j + 1, x, nd, h1, h2 => congrArg (· + 1) (nodup_same (List.nodup_cons.mp nd).2 (by simpa using h1) (by simpa using h2))
/-- a thing of the small heap is changed -/
theorem Ext.set {i : Nat} {a : Addr} {o : HO} (ha : α.a[i]? = some a) (hn : NoFr H a) : Ext α α H (upd H a o) := by
  have ne : ∀ b, b ∉ α.a → b ≠ a := fun b n z => by subst z; exact n (List.mem_of_getElem? ha)
  refine ⟨⟨[], by simp⟩, rfl, fun b u n h => ?_, fun b x n h _ => by rw [upd_ne (ne b n)]; exact h, fun a h n => absurd h n, fun z _ hn _ => upd_ne (ne z hn), fun b od u _ h => by rw [upd_ne fun z => by subst z; exact hn od u h]; exact h⟩
  rcases h with h | ⟨x, h⟩
  · exact .inl (by rw [upd_ne (ne b n)]; exact h)
  · exact .inr ⟨x, by rw [upd_ne (ne b n)]; exact h⟩
theorem RM.set (m : RM T α M H) {i : Nat} {a : Addr} {o : HO} {x : MO} (ha : α.a[i]? = some a) (hn : NoFr H a) (r : RObj T α (upd H a o) a x) : RM T α (M.set i x) (upd H a o) := by
  refine ⟨by simp [m.len], m.nd, fun j y b h1 h2 => ?_, fun z hz => ⟨upd_some (m.zs z hz).1, (m.zs z hz).2⟩⟩
  by_cases e : j = i
  · subst e
    rw [ha] at h2; cases h2
    have hj : j < M.length := by
      rw [← m.len]
      by_cases q : j < α.a.length
      · exact q
      · rw [List.getElem?_eq_none (by omega)] at ha; cases ha
    rw [List.getElem?_set_self hj] at h1
    cases h1; exact r
  · rw [List.getElem?_set_ne (Ne.symm e)] at h1
    have nb : b ≠ a := fun z => by
      subst z
      exact e (nodup_same m.nd h2 ha)
    exact (m.obj j y b h1 h2).step (Ext.set ha hn) (upd_ne nb)

/-! ### an address of which nothing speaks -/
theorem Ext.hide_upd {p : Addr} {o : HO} (e : Ext α α' H H') (hp : H p = none) (hn : p ∉ α'.a) : Ext α α' H (upd H' p o) := by
  refine ⟨e.pre, e.zz, fun a u n h => ?_, fun a x n h hd => ?_, e.new, fun z hz hn h => by rw [upd_ne fun e => by subst e; exact h hp]; exact e.hid z hz hn h, fun a od u hm h => by rw [upd_ne (ne_of_none h hp)]; exact e.fr a od u hm h⟩
  · have ne : a ≠ p := fun z => by subst z; exact Rd.ne h hp
    rcases e.keep a u n h with h | ⟨x, h⟩
    · exact .inl (by rw [upd_ne ne]; exact h)
    · exact .inr ⟨x, by rw [upd_ne ne]; exact h⟩
  · rw [upd_ne (ne_of_none h hp)]; exact e.same a x n h hd
/-- an address that holds nothing is hidden; what it holds then may change -/
theorem Rep.hide {p : Addr} {o : HO} (hp : H p = none) {d : D} {v : V} (r : Rep T α H d v) : Rep T (α.hide p) (upd H p o) d v := by
  have ou : ∀ {a u}, α.out a → Rd H a u → (α.hide p).out a ∧ Rd (upd H p o) a u := fun {a u} n h => by
    have ne : a ≠ p := fun z => by subst z; exact Rd.ne h hp
    refine ⟨⟨n.1, fun z => ?_⟩, ?_⟩
    · rcases List.mem_cons.mp z with z | z
      · exact ne z
      · exact n.2 z
    · rcases h with h | ⟨x, h⟩
      · exact .inl (by rw [upd_ne ne]; exact h)
      · exact .inr ⟨x, by rw [upd_ne ne]; exact h⟩
  have sm : ∀ {a u}, H a = some u → upd H p o a = some u := fun {a u} h => by rw [upd_ne (ne_of_none h hp)]; exact h
  induction r with
  | non => exact .non
  | bl b => exact .bl b
  | int i => exact .int i
  | str x h => exact .str x h
  | fn h n => exact .fn (sm h) (ou n (.inl h)).1
  | tup h hl _ ih => exact .tup (h.elim (fun ⟨⟨o, d, h⟩, n⟩ => .inl ⟨⟨o, d, sm h⟩, (ou n (.inl h)).1⟩) .inr) hl ih
  | lst h n hl _ ih => exact .lst (sm h) (ou n (.inl h)).1 hl ih
  | scr h => exact .scr (h.elim (fun h => .inl ⟨(ou h.2 h.1).2, (ou h.2 h.1).1⟩) .inr)
  | dict h n hl hk _ ih => exact .dict (ou n h).2 (ou n h).1 hl hk ih
  | inst g h n hz hg hn _ ih => exact .inst g (sm h) (ou n (.inl h)).1 hz hg hn ih
  | ref h => exact .ref h
theorem Rep.over {p : Addr} {o : HO} (hz : p ∈ α.z) {d : D} {v : V} (r : Rep T α H d v) : Rep T α (upd H p o) d v := by
  have ne : ∀ {a}, α.out a → a ≠ p := fun {a} n z => by subst z; exact n.2 hz
  have rd : ∀ {a u}, α.out a → Rd H a u → Rd (upd H p o) a u := fun {a u} n h => by
    rcases h with h | ⟨x, h⟩
    · exact .inl (by rw [upd_ne (ne n)]; exact h)
    · exact .inr ⟨x, by rw [upd_ne (ne n)]; exact h⟩
  have sm : ∀ {a u}, α.out a → H a = some u → upd H p o a = some u := fun {a u} n h => by rw [upd_ne (ne n)]; exact h
  induction r with
  | non => exact .non
  | bl b => exact .bl b
  | int i => exact .int i
  | str x h => exact .str x h
  | fn h n => exact .fn (sm n h) n
  | tup h hl _ ih => exact .tup (h.elim (fun ⟨⟨o, d, h⟩, n⟩ => .inl ⟨⟨o, d, sm n h⟩, n⟩) .inr) hl ih
  | lst h n hl _ ih => exact .lst (sm n h) n hl ih
  | scr h => exact .scr (h.elim (fun h => .inl ⟨rd h.2 h.1, h.2⟩) .inr)
  | dict h n hl hk _ ih => exact .dict (rd n h) n hl hk ih
  | inst g h n hz hg hn _ ih => exact .inst g (sm n h) n hz hg hn ih
  | ref h => exact .ref h
theorem Rep.show {p : Addr} {d : D} {v : V} (r : Rep T (α.hide p) H d v) : Rep T α H d v := by
  have ou : ∀ {a}, (α.hide p).out a → α.out a := fun {a} n => ⟨n.1, fun z => n.2 (List.mem_cons_of_mem _ z)⟩
  induction r with
  | non => exact .non
  | bl b => exact .bl b
  | int i => exact .int i
  | str x h => exact .str x h
  | fn h n => exact .fn h (ou n)
  | tup h hl _ ih => exact .tup (h.elim (fun h => .inl ⟨h.1, ou h.2⟩) .inr) hl ih
  | lst h n hl _ ih => exact .lst h (ou n) hl ih
  | scr h => exact .scr (h.elim (fun h => .inl ⟨h.1, ou h.2⟩) .inr)
  | dict h n hl hk _ ih => exact .dict h (ou n) hl hk ih
  | inst g h n hz hg hn _ ih => exact .inst g h (ou n) hz hg hn ih
  | ref h => exact .ref h
theorem RObj.map {α β : Al} {H H' : Hp} {a : Addr} (hd : ∀ d v, Rep T α H d v → Rep T β H' d v) (h : H' a = H a) {o : MO} (r : RObj T α H a o) : RObj T β H' a o := by
  cases o with
  | lst ds => obtain ⟨vs, h1, r⟩ := r; exact ⟨vs, by rw [h]; exact h1, r.1, fun i d v e1 e2 => hd _ _ (r.2 i d v e1 e2)⟩
  | dict ds => obtain ⟨vs, h1, r⟩ := r; exact ⟨vs, by rw [h]; exact h1, r.1, r.2.1, fun i d v e1 e2 => hd _ _ (r.2.2 i d v e1 e2)⟩
  | inst c fs => obtain ⟨d, g, h1, z, f, r1, r2, r3⟩ := r; exact ⟨d, g, by rw [h]; exact h1, z, f, r1, r2, fun k d e => hd _ _ (r3 k d e)⟩
  | fz ds => obtain ⟨vs, ⟨od, h1⟩, r⟩ := r; exact ⟨vs, ⟨od, by rw [h]; exact h1⟩, r.1, r.2.1, fun i d v e1 e2 => hd _ _ (r.2.2 i d v e1 e2)⟩
theorem RM.hide (m : RM T α M H) {p : Addr} {o : HO} (hp : H p = none) : RM T (α.hide p) M (upd H p o) := by
  refine ⟨m.len, m.nd, fun i x a h1 h2 => ?_, fun z hz => ?_⟩
  · have q := m.obj i x a h1 h2
    exact q.map (fun d v r => r.hide hp) (upd_ne fun z => by subst z; exact q.there hp)
  · rcases List.mem_cons.mp hz with rfl | hz
    · exact ⟨by rw [upd_same]; simp, (m.fresh hp).1⟩
    · exact ⟨upd_some (m.zs z hz).1, (m.zs z hz).2⟩
theorem RM.over (m : RM T α M H) {p : Addr} {o : HO} (hz : p ∈ α.z) : RM T α M (upd H p o) := by
  refine ⟨m.len, m.nd, fun i x a h1 h2 => ?_, fun z hz => ⟨upd_some (m.zs z hz).1, (m.zs z hz).2⟩⟩
  exact (m.obj i x a h1 h2).map (fun d v r => r.over hz) (upd_ne fun e => by subst e; exact (m.zs _ hz).2 (List.mem_of_getElem? h2))
theorem RM.show (m : RM T (α.hide p) M H) : RM T α M H :=
  ⟨m.len, m.nd, fun i x a h1 h2 => (m.obj i x a h1 h2).map (fun d v r => r.show) rfl, fun z hz => m.zs z (List.mem_cons_of_mem _ hz)⟩
theorem Reps.hide {p : Addr} {o : HO} (hp : H p = none) {ds : List D} {vs : List V} (r : Reps T α H ds vs) : Reps T (α.hide p) (upd H p o) ds vs := ⟨r.1, fun i d v h1 h2 => (r.2 i d v h1 h2).hide hp⟩
theorem Reps.over {p : Addr} {o : HO} (hz : p ∈ α.z) {ds : List D} {vs : List V} (r : Reps T α H ds vs) : Reps T α (upd H p o) ds vs := ⟨r.1, fun i d v h1 h2 => (r.2 i d v h1 h2).over hz⟩
theorem Reps.show {p : Addr} {ds : List D} {vs : List V} (r : Reps T (α.hide p) H ds vs) : Reps T α H ds vs := ⟨r.1, fun i d v h1 h2 => (r.2 i d v h1 h2).show⟩
theorem Reps.nil : Reps T α H [] [] := ⟨rfl, fun i d v h => by simp at h⟩
theorem Reps.cons {d : D} {v : V} {ds : List D} {vs : List V} (r : Rep T α H d v) (rs : Reps T α H ds vs) : Reps T α H (d :: ds) (v :: vs) :=
  ⟨by simp [rs.1], fun i e u h1 h2 => by
    cases i with
    | zero => simp at h1 h2; rw [← h1, ← h2]; exact r
    | succ i => exact rs.2 i e u (by simpa using h1) (by simpa using h2)⟩
theorem Reps.head {d : D} {v : V} {ds : List D} {vs : List V} (r : Reps T α H (d :: ds) (v :: vs)) : Rep T α H d v := r.2 0 d v rfl rfl
theorem Reps.tail {d : D} {v : V} {ds : List D} {vs : List V} (r : Reps T α H (d :: ds) (v :: vs)) : Reps T α H ds vs := ⟨by have := r.1; simpa using this, fun i e u h1 h2 => r.2 (i + 1) e u (by simpa using h1) (by simpa using h2)⟩
theorem Reps.inv_nil {vs : List V} (r : Reps T α H [] vs) : vs = [] := by
  have := r.1; simp at this; exact List.eq_nil_of_length_eq_zero this.symm
theorem Reps.inv_cons {d : D} {ds : List D} {vs : List V} (r : Reps T α H (d :: ds) vs) : ∃ v us, vs = v :: us ∧ Rep T α H d v ∧ Reps T α H ds us := by
  cases vs with
  | nil => have := r.1; simp at this
  | cons v us => exact ⟨v, us, rfl, r.head, r.tail⟩
theorem Reps.append {ds es : List D} {vs us : List V} (r : Reps T α H ds vs) (q : Reps T α H es us) : Reps T α H (ds ++ es) (vs ++ us) := by
  refine ⟨by simp [r.1, q.1], fun i d v h1 h2 => ?_⟩
  by_cases hi : i < ds.length
  · rw [List.getElem?_append_left hi] at h1
    rw [List.getElem?_append_left (by rw [← r.1]; exact hi)] at h2
    exact r.2 i d v h1 h2
  · rw [List.getElem?_append_right (by omega)] at h1
    rw [List.getElem?_append_right (by rw [← r.1]; omega), ← r.1] at h2
    exact q.2 _ d v h1 h2
theorem Reps.take {ds : List D} {vs : List V} (r : Reps T α H ds vs) (n : Nat) : Reps T α H (ds.take n) (vs.take n) :=
  ⟨by simp [r.1], fun i d v h1 h2 => by
    rw [List.getElem?_take] at h1 h2
    split at h1
    · rename_i hi; rw [if_pos hi] at h2; exact r.2 i d v h1 h2
    · cases h1⟩
theorem Reps.drop {ds : List D} {vs : List V} (r : Reps T α H ds vs) (n : Nat) : Reps T α H (ds.drop n) (vs.drop n) :=
  ⟨by simp [r.1], fun i d v h1 h2 => by
    rw [List.getElem?_drop] at h1 h2
    exact r.2 _ d v h1 h2⟩
theorem Reps.set {ds : List D} {vs : List V} (r : Reps T α H ds vs) (n : Nat) {e : D} {u : V} (q : Rep T α H e u) : Reps T α H (ds.set n e) (vs.set n u) := by
  refine ⟨by simp [r.1], fun i d v h1 h2 => ?_⟩
  by_cases hi : n = i
  · subst hi
    by_cases hn : n < ds.length
    · rw [List.getElem?_set_self hn] at h1
      rw [List.getElem?_set_self (by rw [← r.1]; exact hn)] at h2
      cases h1; cases h2; exact q
    · rw [List.getElem?_eq_none (by simpa using hn)] at h1; cases h1
  · rw [List.getElem?_set_ne hi] at h1 h2
    exact r.2 i d v h1 h2
theorem Reps.eraseIdx : ∀ {ds : List D} {vs : List V}, Reps T α H ds vs → ∀ n : Nat, Reps T α H (ds.eraseIdx n) (vs.eraseIdx n)
  | [], vs, r, n => by rw [r.inv_nil]; simpa using Reps.nil
  | d :: ds, vs, r, n => by
    obtain ⟨v, us, rfl, h1, h2⟩ := r.inv_cons
    cases n with
    | zero => exact h2
    | succ n => exact .cons h1 (h2.eraseIdx n)
theorem Reps.get {ds : List D} {vs : List V} (r : Reps T α H ds vs) {i : Nat} {d : D} (h : ds[i]? = some d) : ∃ v, vs[i]? = some v ∧ Rep T α H d v := by
  have hi : i < ds.length := by
    by_cases q : i < ds.length
    · exact q
    · rw [List.getElem?_eq_none (by omega)] at h; cases h
  have hv : i < vs.length := by rw [← r.1]; exact hi
  exact ⟨vs[i], List.getElem?_eq_getElem hv, r.2 i d _ h (List.getElem?_eq_getElem hv)⟩
theorem Reps.rep : ∀ {ds : List D} {vs : List V}, Reps T α H ds vs → ∀ k, Reps T α H (repL ds k) (repL vs k)
  | _, _, _, 0 => Reps.nil
  | _, _, r, k + 1 => r.append (r.rep k)

/-! ### what is wanted behind an expression -/
def PostE (T : Tb) (α : Al) (H : Hp) (Q : VK) : R D → Prop
  | .ok d M' => ∀ α' H' v, Ext α α' H H' → RM T α' M' H' → Rep T α' H' d v → Q v H'
  | .exc _ _ => False
  | .bad => False
/-- .. that may raise -/
def PostX (T : Tb) (α : Al) (H : Hp) (Q : VK) (E : XK) : R D → Prop
  | .ok d M' => ∀ α' H' v, Ext α α' H H' → RM T α' M' H' → Rep T α' H' d v → Q v H'
  | .exc c M' => ∀ α' H', Ext α α' H H' → RM T α' M' H' → E (.ref (T.ca c)) none H'
  | .bad => False
theorem PostE.toX {Q : VK} {E : XK} : ∀ {r : R D}, PostE T α H Q r → PostX T α H Q E r
  | .ok d M', h => h
  | .exc _ _, h => h.elim
  | .bad, h => h
theorem PostX.ext (e : Ext α α' H H') {Q : VK} {E : XK} : ∀ {r : R D}, PostX T α H Q E r → PostX T α' H' Q E r
  | .ok d M', h => fun a2 h2 v e2 m r => h a2 h2 v (e.trans e2) m r
  | .exc _ _, h => fun a2 h2 e2 m => h a2 h2 (e.trans e2) m
  | .bad, h => h
def PostEs (T : Tb) (α : Al) (H : Hp) (Q : List V → Hp → Prop) : R (List D) → Prop
  | .ok ds M' => ∀ α' H' vs, Ext α α' H H' → RM T α' M' H' → Reps T α' H' ds vs → Q vs H'
  | .exc _ _ => False
  | .bad => False
def PostB (T : Tb) (α : Al) (H : Hp) (Q : Bool → Hp → Prop) : R Bool → Prop
  | .ok b M' => ∀ α' H', Ext α α' H H' → RM T α' M' H' → Q b H'
  | .exc _ _ => False
  | .bad => False
theorem PostE.ext (e : Ext α α' H H') {Q : VK} : ∀ {r : R D}, PostE T α H Q r → PostE T α' H' Q r
  | .ok d M', h => fun a2 h2 v e2 m r => h a2 h2 v (e.trans e2) m r
  | .exc _ _, h => h
  | .bad, h => h
theorem PostEs.ext (e : Ext α α' H H') {Q : List V → Hp → Prop} : ∀ {r : R (List D)}, PostEs T α H Q r → PostEs T α' H' Q r
  | .ok d M', h => fun a2 h2 v e2 m r => h a2 h2 v (e.trans e2) m r
  | .exc _ _, h => h
  | .bad, h => h
theorem PostB.ext (e : Ext α α' H H') {Q : Bool → Hp → Prop} : ∀ {r : R Bool}, PostB T α H Q r → PostB T α' H' Q r
  | .ok d M', h => fun a2 h2 e2 m => h a2 h2 (e.trans e2) m
  | .exc _ _, h => h
  | .bad, h => h
/-- first one, then the other -/
theorem PostE.bind {Q : VK} {f : D → Hh → R D} : ∀ {r : R D}, PostE T α H Q (r.bind f) → PostE T α H (fun v H1 => ∃ α1 M1 d, Ext α α1 H H1 ∧ RM T α1 M1 H1 ∧ Rep T α1 H1 d v ∧ PostE T α1 H1 Q (f d M1)) r
  | .ok d M', h => fun a1 h1 v e m r => ⟨a1, M', d, e, m, r, PostE.ext e h⟩
  | .exc _ _, h => h
  | .bad, h => h
theorem PostE.bindB {Q : Bool → Hp → Prop} {f : D → Hh → R Bool} : ∀ {r : R D}, PostB T α H Q (r.bind f) → PostE T α H (fun v H1 => ∃ α1 M1 d, Ext α α1 H H1 ∧ RM T α1 M1 H1 ∧ Rep T α1 H1 d v ∧ PostB T α1 H1 Q (f d M1)) r
  | .ok d M', h => fun a1 h1 v e m r => ⟨a1, M', d, e, m, r, PostB.ext e h⟩
  | .exc _ _, h => h
  | .bad, h => h
theorem PostE.bindEs {Q : List V → Hp → Prop} {f : D → Hh → R (List D)} : ∀ {r : R D}, PostEs T α H Q (r.bind f) → PostE T α H (fun v H1 => ∃ α1 M1 d, Ext α α1 H H1 ∧ RM T α1 M1 H1 ∧ Rep T α1 H1 d v ∧ PostEs T α1 H1 Q (f d M1)) r
  | .ok d M', h => fun a1 h1 v e m r => ⟨a1, M', d, e, m, r, PostEs.ext e h⟩
  | .exc _ _, h => h
  | .bad, h => h
theorem PostEs.bind {Q : VK} {f : List D → Hh → R D} : ∀ {r : R (List D)}, PostE T α H Q (r.bind f) → PostEs T α H (fun v H1 => ∃ α1 M1 d, Ext α α1 H H1 ∧ RM T α1 M1 H1 ∧ Reps T α1 H1 d v ∧ PostE T α1 H1 Q (f d M1)) r
  | .ok d M', h => fun a1 h1 v e m r => ⟨a1, M', d, e, m, r, PostE.ext e h⟩
  | .exc _ _, h => h
  | .bad, h => h
/-- a value at once -/
theorem PostE.pure {Q : VK} {d : D} {v : V} (m : RM T α M H) (r : Rep T α H d v) (h : PostE T α H Q (.ok d M)) : Q v H := h α H v Ext.refl m r
/-- a list laid anew -/
theorem PostE.alloc {Q : VK} {mm : Bool} {ds : List D} {vs : List V} (m : RM T α M H) (r : Reps T α H ds vs) (h : PostE T α H Q (alloc mm ds M)) : ∀ p, H p = none → Q (.ref p) (upd H p (.lst vs)) := by
  intro p hp
  unfold Mi.alloc at h
  cases mm with
  | false =>
    simp only [Bool.false_eq_true, if_false] at h
    refine h α _ _ (Ext.laid hp) (m.laid hp) (.lst upd_same (m.fresh hp) r.1 fun i d v h1 h2 => (r.2 i d v h1 h2).ext (Ext.laid hp))
  | true =>
    simp only [if_true] at h
    refine h (α.add p) _ _ (Ext.grown hp) (m.grown hp ⟨vs, upd_same, r.ext (Ext.grown hp)⟩) (.ref ?_)
    rw [← m.len]; simp [Al.add]
theorem PostE.tupN {Q : VK} {ds : List D} {vs : List V} (m : RM T α M H) (r : Reps T α H ds vs) (h : PostE T α H Q (.ok (.tup ds) M)) : ∀ p (o : Obj), o.dict = none → H p = none → Q (.ref p) (upd H p (.frz o (.tup vs))) := fun p o ho hp =>
  h α _ _ (Ext.laid hp) (m.laid hp) (.tup (.inl ⟨⟨o, ho, upd_same⟩, m.fresh hp⟩) r.1 fun i d v h1 h2 => (r.2 i d v h1 h2).ext (Ext.laid hp))
end
end Mi
end
section
set_option Elab.async false
set_option linter.all false
set_option maxRecDepth 100000
/-! MiC: the operations on deep values are the machine's. -/
namespace Mi
open PySem PySem.Spec L2
section
variable {T : Tb} {α α' : Al} {H H' : Hp} {M M' : Hh}

/-! ### what a thing is, seen through a ref -/
theorem der_ref (M : Hh) (i : Nat) : der M (.ref i) = match M[i]? with | some (.lst ds) => .lst ds | some (.dict kvs) => .dict kvs | some (.inst c fs) => .inst c fs | some (.fz kvs) => .dict kvs | none => .ref i := rfl
theorem der_lst (m : RM T α M H) {d : D} {x : V} (r : Rep T α H d x) {ds : List D} (e : der M d = .lst ds) : ∃ a vs, x = .ref a ∧ H a = some (.lst vs) ∧ Reps T α H ds vs := by
  cases r with
  | lst h n hl r => cases e; exact ⟨_, _, rfl, h, hl, r⟩
  | @ref i a h =>
    rw [der_ref] at e
    cases q : M[i]? with
    | none => rw [q] at e; cases e
    | some o =>
      rw [q] at e
      cases o with
      | lst es =>
        cases e
        obtain ⟨vs, h1, h2⟩ := m.obj i _ a q h
        exact ⟨_, _, rfl, h1, h2⟩
      | dict kvs => cases e
      | fz kvs => cases e
      | inst c fs => cases e
  | _ => cases e
theorem der_tup (m : RM T α M H) {d : D} {x : V} (r : Rep T α H d x) {ds : List D} (e : der M d = .tup ds) : ∃ a vs, x = .ref a ∧ TupAt T.K α H a vs ∧ Reps T α H ds vs := by
  cases r with
  | tup h hl r => cases e; exact ⟨_, _, rfl, h, hl, r⟩
  | @ref i a h =>
    rw [der_ref] at e
    cases q : M[i]? with
    | none => rw [q] at e; cases e
    | some o => rw [q] at e; cases o <;> cases e
  | _ => cases e
theorem der_dict (m : RM T α M H) {d : D} {x : V} (r : Rep T α H d x) {ds : List (D × D)} (e : der M d = .dict ds) : ∃ a vs, x = .ref a ∧ Rd H a (.dK vs) ∧ RepK T α H ds vs := by
  cases r with
  | dict h n hl hk r => cases e; exact ⟨_, _, rfl, h, hl, hk, r⟩
  | @ref i a h =>
    rw [der_ref] at e
    cases q : M[i]? with
    | none => rw [q] at e; cases e
    | some o =>
      rw [q] at e
      cases o with
      | lst es => cases e
      | dict kvs =>
        cases e
        obtain ⟨vs, h1, h2⟩ := m.obj i _ a q h
        exact ⟨_, _, rfl, .inl h1, h2⟩
      | fz kvs =>
        cases e
        obtain ⟨vs, h1, h2⟩ := m.obj i _ a q h
        exact ⟨_, _, rfl, .inr h1, h2⟩
      | inst c fs => cases e
  | _ => cases e
theorem der_inst (m : RM T α M H) {d : D} {x : V} (r : Rep T α H d x) {c : Nat} {fs : List (Nat × D)} (e : der M d = .inst c fs) : ∃ a dx gs, x = .ref a ∧ H a = some (.ins (T.ca c) dx gs) ∧ RepF T α H fs gs := by
  cases r with
  | inst g h n hz hg hn r => cases e; exact ⟨_, _, _, rfl, h, hz, g, hg, hn, r⟩
  | @ref i a h =>
    rw [der_ref] at e
    cases q : M[i]? with
    | none => rw [q] at e; cases e
    | some o =>
      rw [q] at e
      cases o with
      | lst es => cases e
      | dict kvs => cases e
      | fz kvs => cases e
      | inst c' fs' =>
        cases e
        obtain ⟨dx, gs, h1, h2⟩ := m.obj i _ a q h
        exact ⟨_, _, _, rfl, h1, h2⟩
  | _ => cases e
theorem der_int (r : Rep T α H d x) (m : RM T α M H) {i : Int} (e : der M d = .int i) : x = .int i := by
  cases r with
  | int j => cases e; rfl
  | @ref i a h =>
    rw [der_ref] at e
    cases q : M[i]? with
    | none => rw [q] at e; cases e
    | some o => rw [q] at e; cases o <;> cases e
  | _ => cases e
theorem der_str (r : Rep T α H d x) (m : RM T α M H) {z : Str} (e : der M d = .str z) : x = .str z ∧ StrOk z := by
  cases r with
  | str y h => cases e; exact ⟨rfl, h⟩
  | @ref i a h =>
    rw [der_ref] at e
    cases q : M[i]? with
    | none => rw [q] at e; cases e
    | some o => rw [q] at e; cases o <;> cases e
  | _ => cases e
theorem der_bl (r : Rep T α H d x) (m : RM T α M H) {b : Bool} (e : der M d = .bl b) : x = .bl b := by
  cases r with
  | bl j => cases e; rfl
  | @ref i a h =>
    rw [der_ref] at e
    cases q : M[i]? with
    | none => rw [q] at e; cases e
    | some o => rw [q] at e; cases o <;> cases e
  | _ => cases e
theorem der_non (r : Rep T α H d x) (m : RM T α M H) (e : der M d = .non) : x = .non := by
  cases r with
  | non => rfl
  | @ref i a h =>
    rw [der_ref] at e
    cases q : M[i]? with
    | none => rw [q] at e; cases e
    | some o => rw [q] at e; cases o <;> cases e
  | _ => cases e
theorem der_scr (r : Rep T α H d x) (m : RM T α M H) {ns : List Int} (e : der M d = .scr ns) : ∃ a, x = .ref a ∧ LstAt T.K α H a (ns.map V.int) := by
  cases r with
  | scr h => cases e; exact ⟨_, rfl, h⟩
  | @ref i a h =>
    rw [der_ref] at e
    cases q : M[i]? with
    | none => rw [q] at e; cases e
    | some o => rw [q] at e; cases o <;> cases e
  | _ => cases e
theorem Rep.int_eq {i : Int} {x : V} (r : Rep T α H (.int i) x) : x = .int i := by cases r; rfl
theorem Rep.bl_eq {i : Bool} {x : V} (r : Rep T α H (.bl i) x) : x = .bl i := by cases r; rfl
theorem Rep.str_eq {i : Str} {x : V} (r : Rep T α H (.str i) x) : x = .str i ∧ StrOk i := by cases r with | str _ h => exact ⟨rfl, h⟩
theorem Rep.non_eq {x : V} (r : Rep T α H .non x) : x = .non := by cases r; rfl

/-! ### as plain data -/
theorem dpAll_of : ∀ {ds : List D} {vs : List V}, ds.length = vs.length → (∀ (i : Nat) d v, ds[i]? = some d → vs[i]? = some v → Dp T.K H v d.py) → DpAll T.K H vs (pys ds)
  | [], [], _, _ => .nil
  | d :: ds, v :: vs, hl, h => .cons (h 0 d v rfl rfl) (dpAll_of (by simpa using hl) fun i e u h1 h2 => h (i + 1) e u (by simpa using h1) (by simpa using h2))
  | [], _ :: _, hl, _ => by simp at hl
  | _ :: _, [], hl, _ => by simp at hl
theorem plains_at : ∀ {ds : List D}, plains ds = true → ∀ (i : Nat) d, ds[i]? = some d → d.plain = true
  | [], _, _, _, h => by simp at h
  | e :: ds, h, i, d, hi => by
    rw [plains, Bool.and_eq_true] at h
    cases i with
    | zero => simp at hi; subst hi; exact h.1
    | succ i => exact plains_at h.2 i d (by simpa using hi)
theorem Rep.dp {d : D} {x : V} (r : Rep T α H d x) (p : d.plain = true) : Dp T.K H x d.py := by
  induction r with
  | non => exact .non
  | bl b => exact .bl b
  | int i => exact .int i
  | str x h => exact .str x
  | fn i => simp [D.plain] at p
  | tup h hl _ ih =>
    rw [D.plain] at p
    rw [D.py]
    exact .tup h.sq (dpAll_of hl fun i d v h1 h2 => ih i d v h1 h2 (plains_at p i d h1))
  | lst h n hl _ ih =>
    rw [D.plain] at p
    rw [D.py]
    exact .lst (SqL.of h) (dpAll_of hl fun i d v h1 h2 => ih i d v h1 h2 (plains_at p i d h1))
  | dict h n hl hk _ ih => simp [D.plain] at p
  | inst g h n hz hg hn _ ih => simp [D.plain] at p
  | scr h => simp [D.plain] at p
  | ref h => simp [D.plain] at p
theorem Reps.dp {ds : List D} {vs : List V} (r : Reps T α H ds vs) (p : plains ds = true) : DpAll T.K H vs (pys ds) := dpAll_of r.1 fun i d v h1 h2 => (r.2 i d v h1 h2).dp (plains_at p i d h1)
theorem canLayAll_of : ∀ {ds : List D}, (∀ (i : Nat) d, ds[i]? = some d → d.py.canLay0 = true) → PyData.canLayAll0 (pys ds) = true
  | [], _ => by rw [pys, PyData.canLayAll0]
  | d :: ds, h => by
    rw [pys, PyData.canLayAll0, h 0 d rfl, Bool.true_and]
    exact canLayAll_of fun i e he => h (i + 1) e (by simpa using he)
theorem Rep.can {d : D} {x : V} (r : Rep T α H d x) (p : d.plain = true) : d.py.canLay0 = true := by
  induction r with
  | non => simp [D.py, PyData.canLay0]
  | bl b => simp [D.py, PyData.canLay0]
  | int i => simp [D.py, PyData.canLay0]
  | str x h => rw [D.py, PyData.canLay0]; exact h.1
  | fn i => simp [D.plain] at p
  | tup h hl r ih =>
    rw [D.plain] at p
    rw [D.py, PyData.canLay0]
    exact canLayAll_of fun i d h1 => let ⟨v, h2, _⟩ := (Reps.get ⟨hl, r⟩ h1); ih i d v h1 h2 (plains_at p i d h1)
  | lst h n hl r ih =>
    rw [D.plain] at p
    rw [D.py, PyData.canLay0]
    exact canLayAll_of fun i d h1 => let ⟨v, h2, _⟩ := (Reps.get ⟨hl, r⟩ h1); ih i d v h1 h2 (plains_at p i d h1)
  | dict h n hl hk _ ih => simp [D.plain] at p
  | inst g h n hz hg hn _ ih => simp [D.plain] at p
  | scr h => simp [D.plain] at p
  | ref h => simp [D.plain] at p
theorem Reps.can {ds : List D} {vs : List V} (r : Reps T α H ds vs) (p : plains ds = true) : PyData.canLayAll0 (pys ds) = true :=
  canLayAll_of fun i d h1 => let ⟨v, h2, q⟩ := r.get h1; q.can (plains_at p i d h1)
mutual
theorem depth_py : ∀ d : D, d.plain = true → d.py.depth = d.depth
  | .non, _ => by simp [D.py, D.depth, PyData.depth]
  | .bl _, _ => by simp [D.py, D.depth, PyData.depth]
  | .int _, _ => by simp [D.py, D.depth, PyData.depth]
  | .str _, _ => by simp [D.py, D.depth, PyData.depth]
  | .tup ds, h => by rw [D.plain] at h; rw [D.py, D.depth, PyData.depth, depths_py ds h]
  | .lst ds, h => by rw [D.plain] at h; rw [D.py, D.depth, PyData.depth, depths_py ds h]
  | .dict _, h => by simp [D.plain] at h
  | .inst _ _, h => by simp [D.plain] at h
  | .fn _, h => by simp [D.plain] at h
  | .scr _, h => by simp [D.plain] at h
  | .ref _, h => by simp [D.plain] at h
theorem depths_py : ∀ ds : List D, plains ds = true → PyData.depthAll (pys ds) = depths ds
  | [], _ => by rw [pys, depths, PyData.depthAll]
  | d :: ds, h => by
    rw [plains, Bool.and_eq_true] at h
    rw [pys, depths, PyData.depthAll, depth_py d h.1, depths_py ds h.2]
end
mutual
theorem eqv_py : ∀ a b : D, a.plain = true → b.plain = true → PyData.eqv a.py b.py = a.eqv b
  | .non, b, _, hb => by cases b <;> simp [D.plain] at hb <;> simp [D.py, D.eqv, PyData.eqv]
  | .bl _, b, _, hb => by cases b <;> simp [D.plain] at hb <;> simp [D.py, D.eqv, PyData.eqv]
  | .int _, b, _, hb => by cases b <;> simp [D.plain] at hb <;> simp [D.py, D.eqv, PyData.eqv]
  | .str _, b, _, hb => by cases b <;> simp [D.plain] at hb <;> simp [D.py, D.eqv, PyData.eqv]
  | .tup ds, b, h, hb => by
    cases b with
    | tup es => rw [D.plain] at h hb; simp only [D.py, D.eqv, PyData.eqv]; exact eqvs_py ds es h hb
    | _ => simp [D.plain] at hb <;> simp [D.py, D.eqv, PyData.eqv]
  | .lst ds, b, h, hb => by
    cases b with
    | lst es => rw [D.plain] at h hb; simp only [D.py, D.eqv, PyData.eqv]; exact eqvs_py ds es h hb
    | _ => simp [D.plain] at hb <;> simp [D.py, D.eqv, PyData.eqv]
  | .dict _, _, h, _ => by simp [D.plain] at h
  | .inst _ _, _, h, _ => by simp [D.plain] at h
  | .fn _, _, h, _ => by simp [D.plain] at h
  | .scr _, _, h, _ => by simp [D.plain] at h
  | .ref _, _, h, _ => by simp [D.plain] at h
theorem eqvs_py : ∀ as bs : List D, plains as = true → plains bs = true → PyData.eqvAll (pys as) (pys bs) = eqvs as bs
  | [], [], _, _ => by simp [pys, eqvs, PyData.eqvAll]
  | [], b :: bs, _, _ => by simp [pys, eqvs, PyData.eqvAll]
  | a :: as, [], _, _ => by simp [pys, eqvs, PyData.eqvAll]
  | a :: as, b :: bs, ha, hb => by
    rw [plains, Bool.and_eq_true] at ha hb
    simp only [pys, eqvs, PyData.eqvAll]
    rw [eqv_py a b ha.1 hb.1, eqvs_py as bs ha.2 hb.2]
end
/-- what stands at a value, as plain data -/
theorem der_dp (m : RM T α M H) {d : D} {x : V} (r : Rep T α H d x) (p : (der M d).plain = true) : Dp T.K H x (der M d).py ∧ (der M d).py.canLay0 = true := by
  cases r with
  | @ref i a h =>
    rw [der_ref] at p ⊢
    cases q : M[i]? with
    | none => rw [q] at p; simp [D.plain] at p
    | some o =>
      rw [q] at p
      cases o with
      | lst es =>
        obtain ⟨vs, h1, h2⟩ := m.obj i _ a q h
        have p' : plains es = true := by simpa [D.plain] using p
        show Dp T.K H _ (D.lst es).py ∧ (D.lst es).py.canLay0 = true
        rw [D.py, PyData.canLay0]
        exact ⟨.lst (SqL.of h1) (h2.dp p'), h2.can p'⟩
      | dict kvs => simp [D.plain] at p
      | fz kvs => simp [D.plain] at p
      | inst c fs => simp [D.plain] at p
  | non => exact ⟨Rep.dp (α := α) (T := T) .non p, Rep.can (T := T) (α := α) (H := H) .non p⟩
  | bl b => exact ⟨Rep.dp (α := α) (T := T) (.bl b) p, Rep.can (T := T) (α := α) (H := H) (.bl b) p⟩
  | int b => exact ⟨Rep.dp (α := α) (T := T) (.int b) p, Rep.can (T := T) (α := α) (H := H) (.int b) p⟩
  | str b h => exact ⟨Rep.dp (α := α) (T := T) (.str b h) p, Rep.can (T := T) (α := α) (H := H) (.str b h) p⟩
  | tup h hl r => exact ⟨Rep.dp (α := α) (T := T) (.tup h hl r) p, Rep.can (.tup h hl r) p⟩
  | lst h n hl r => exact ⟨Rep.dp (α := α) (T := T) (.lst h n hl r) p, Rep.can (.lst h n hl r) p⟩
  | dict h n hl hk r => simp [der, D.plain] at p
  | inst g h n hz hg hn r => simp [der, D.plain] at p
  | fn i => simp [der, D.plain] at p
  | scr i => simp [der, D.plain] at p
end
end Mi
end
section
set_option Elab.async false
set_option linter.all false
set_option maxRecDepth 100000
/-! MiC0: bools among ints. -/
namespace PySem
theorem int_add_bool_int (a : Bool) (b : Int) (u : Tok) : Gives (Builtin.«int.__add__» ⟨[.bool a, .int b u], []⟩) (.int ((if a = true then (1 : Int) else 0) + b)) :=
  .of_wp fun M A E s Q h => by obtain ⟨hp, g, d, tk, os⟩ := s; wp_walk; exact ⟨_, rfl, h⟩
theorem int_sub_bool_int (a : Bool) (b : Int) (u : Tok) : Gives (Builtin.«int.__sub__» ⟨[.bool a, .int b u], []⟩) (.int ((if a = true then (1 : Int) else 0) - b)) :=
  .of_wp fun M A E s Q h => by obtain ⟨hp, g, d, tk, os⟩ := s; wp_walk; exact ⟨_, rfl, h⟩
theorem not_sub_int_bool : isSubtype (.type "int") (.type "bool") = pure false := by kernel_rfl
section
variable {prog : Program} {w : World} {A : Around} {E : Value → Shared → Prop} {s : Shared} {a : Bool} {b : Int} {u : Tok}
theorem slot_bool_add : Slot "bool" (dunder "add") "int.__add__" :=
  .of (by rw [typeLookup_type, builtinLookup_eq_fast]; kernel_rfl) (owner := "int") (n := "__add__") (by kernel_rfl) (by kernel_rfl) (by kernel_rfl) (.inl (by kernel_rfl)) isSubtype_bool_int
theorem slot_bool_sub : Slot "bool" (dunder "sub") "int.__sub__" :=
  .of (by rw [typeLookup_type, builtinLookup_eq_fast]; kernel_rfl) (owner := "int") (n := "__sub__") (by kernel_rfl) (by kernel_rfl) (by kernel_rfl) (.inl (by kernel_rfl)) isSubtype_bool_int
theorem add_bool_int {Q : Value → Shared → Prop} (h : Q (.int ((if a = true then (1 : Int) else 0) + b) s.toks) { s with toks := s.toks + 1 }) : wpAny (model prog w) A (binaryOp .Add (.bool a) (.int b u)) Q E s :=
  binaryOp_left_gives (op := .Add) (T := "bool") (U := "int") (by decide) (PyProof.Rows.typeIs_bool' s a) (fun s' => typeIs_int s' b u) F.fills_bool_add F.fills_int_add not_sub_int_bool slot_bool_add F.slot_int_radd F.entry_int_add (F.args_int_add_2 _ _)
    (int_add_bool_int a b u) trivial h
theorem fills_bool_sub' : fillsNumberSlot (.type "bool") "sub" = pure true := by
  first | exact F.fills_bool_sub | kernel_rfl
theorem sub_bool_int {Q : Value → Shared → Prop} (h : Q (.int ((if a = true then (1 : Int) else 0) - b) s.toks) { s with toks := s.toks + 1 }) : wpAny (model prog w) A (binaryOp .Sub (.bool a) (.int b u)) Q E s :=
  binaryOp_left_gives (op := .Sub) (T := "bool") (U := "int") (by decide) (PyProof.Rows.typeIs_bool' s a) (fun s' => typeIs_int s' b u) fills_bool_sub' F.fills_int_sub not_sub_int_bool slot_bool_sub F.slot_int_rsub F.entry_int_sub (F.args_int_sub_2 _ _)
    (int_sub_bool_int a b u) trivial h
theorem str_of_bool {Q : Value → Shared → Prop} (h : Q (.str (if a then "True" else "False") s.toks) { s with toks := s.toks + 1 }) : wpAny (model prog w) A (call (.type "str") [.bool a]) Q E s :=
  callType_new F.called_str (by decide) (F.typeCall_str_1 _) (F.newCall_str_1 _) (fun obj => F.args_object_init_2 obj _) F.entry_str_new
    (PySem.meets_str_new (S := fun _ R s => R (.ok (.ret (.str (if a then "True" else "False") s.toks))) { s with toks := s.toks + 1 }) fun _ _ _ _ s hq =>
      wpAny_strOf_gives rfl (PyProof.Rows.typeIs_bool' s a) F.slot_bool_str F.slot_bool_repr F.entry_bool_repr (F.args_bool_repr_1 _) (gives_bool_repr a) hq (hsz := by cases a <;> decide)) ⟨typeIs_str _ _ _, h⟩
theorem str_of_none {Q : Value → Shared → Prop} (h : Q (.str "None" s.toks) { s with toks := s.toks + 1 }) : wpAny (model prog w) A (call (.type "str") [.none]) Q E s :=
  callType_new F.called_str (by decide) (F.typeCall_str_1 _) (F.newCall_str_1 _) (fun obj => F.args_object_init_2 obj _) F.entry_str_new
    (PySem.meets_str_new (S := fun _ R s => R (.ok (.ret (.str "None" s.toks))) { s with toks := s.toks + 1 }) fun _ _ _ _ s hq =>
      wpAny_strOf_gives rfl (typeIs_none s) F.slot_NoneType_str F.slot_NoneType_repr F.entry_NoneType_repr (F.args_NoneType_repr_1 _) gives_none_repr hq (hsz := by decide)) ⟨typeIs_str _ _ _, h⟩
end
end PySem
end
section
set_option Elab.async false
set_option linter.all false
set_option maxRecDepth 100000
set_option maxHeartbeats 4000000
/-! MiMu: tuple * 0, tuple * 1; tuples whose object is known. -/
namespace L2
open PySem PySem.Spec PyProof.Rows
theorem tuple_mul1 (l : Addr) (items : Array Value) (n : Nat) (dd : Option Addr) (sl : Array (Option Value)) (u : Tok) :
    Meets (Builtin.«tuple.__mul__» ⟨[.ref l, .int 1 u], []⟩) (fun _ R s => s.heap.get? l = some { cls := .type "tuple", dict := dd, data := .seq items n, slots := sl } ∧ R (.ok (.ret (Value.ref l))) s) :=
  .of_wp fun prog w A R s h => by
    obtain ⟨hp, g, d, tk, os⟩ := s
    obtain ⟨hl, h⟩ := h
    have f1 := AutoSeq1.idx_int
    wp_walk using wpAny_loadPart' hl
    repeat (first
      | (refine wpAny_ite_false (decide_eq_false (by decide)) ?_; wp_walk using wpAny_loadPart' hl)
      | (refine wpAny_ite_true (decide_eq_true (by simp)) ?_; wp_walk using wpAny_loadPart' hl))
    exact ⟨_, rfl, h⟩
theorem tuple_mul0 (l : Addr) (items : Array Value) (n : Nat) (dd : Option Addr) (sl : Array (Option Value)) (u : Tok) (hi : items.isEmpty = false) :
    Meets (Builtin.«tuple.__mul__» ⟨[.ref l, .int 0 u], []⟩) (fun _ R s => s.heap.get? l = some { cls := .type "tuple", dict := dd, data := .seq items n, slots := sl } ∧
      R (.ok (.ret (Value.ref s.heap.objs.size))) { s with heap := s.heap.push { cls := Value.type "tuple", data := Data.seq #[] }, toks := s.toks }) :=
  .of_wp fun prog w A R s h => by
    obtain ⟨hp, g, d, tk, os⟩ := s
    obtain ⟨hl, h⟩ := h
    have f1 := AutoSeq1.idx_int
    have c1 : (items.isEmpty || (0 : Int) == 1) = false := by rw [hi]; rfl
    wp_walk using wpAny_loadPart' hl
    repeat (first
      | (refine wpAny_ite_false (decide_eq_false (by rw [c1]; exact Bool.false_ne_true)) ?_; wp_walk using wpAny_loadPart' hl)
      | (refine wpAny_ite_false (decide_eq_false (by decide)) ?_; wp_walk using wpAny_loadPart' hl)
      | (refine wpAny_ite_true (decide_eq_true (by simp)) ?_; wp_walk using wpAny_loadPart' hl))
    exact ⟨_, rfl, h⟩
def rRepT1 (K : PySem.W.Frag) : R2 := fun x y H Q => ∃ l xs, x = .ref l ∧ y = .int 1 ∧ SqT K H l xs ∧ Q (.ref l) H
def rRepT0 (K : PySem.W.Frag) : R2 := fun x y H Q => ∃ l xs, x = .ref l ∧ y = .int 0 ∧ SqT K H l xs ∧ xs ≠ [] ∧ ∀ p (o : Obj), o.dict = none → H p = none → Q (.ref p) (upd H p (.frz o (.tup [])))
section
variable {X : Cx}
theorem op_repT1 : OpR X (binaryOp .Mult) (rRepT1 X.K) := by
  intro pins s σ H x y v u Q I rx ry h
  obtain ⟨l, xs, rfl, rfl, hT, q⟩ := h
  cases rx
  obtain ⟨t, rfl⟩ := ry
  obtain ⟨its, r, ⟨⟨cls, dd, data, sl⟩, ho, hc, n, hd⟩, hs⟩ := I.tuple hT
  simp only at hc hd
  subst hc hd
  refine wpAny_binaryOp_repeat_ref (T := "tuple") (U := "int") (by decide) ⟨_, ho, rfl⟩ (fun s' => typeIs_int s' 1 t) noFill_tuple_mul F.fills_int_mul F.slot_int_rmul repeat_tuple F.slot_int_index.lookup
    (call_meets F.slot_int_rmul (typeIs_int s 1 t) F.entry_int_rmul (F.args_int_rmul_2 _ _) (int_rmul_tuple 1 t l its.toArray n dd sl)
      ⟨ho, rfl, ⟨_, ho, rfl⟩, call_meets F.slot_tuple_mul ⟨_, ho, rfl⟩ F.entry_tuple_mul (F.args_tuple_mul_2 _ _) (tuple_mul1 l its.toArray n dd sl t) ⟨ho, ?_⟩⟩)
  exact ⟨.ref l, H, I, rfl, q⟩
theorem op_repT0 : OpR X (binaryOp .Mult) (rRepT0 X.K) := by
  intro pins s σ H x y v u Q I rx ry h
  obtain ⟨l, xs, rfl, rfl, hT, hne, q⟩ := h
  cases rx
  obtain ⟨t, rfl⟩ := ry
  obtain ⟨its, r, ⟨⟨cls, dd, data, sl⟩, ho, hc, n, hd⟩, hs⟩ := I.tuple hT
  simp only at hc hd
  subst hc hd
  have hle : its.length = xs.length := r.length.symm
  have hi : its.toArray.isEmpty = false := by
    cases its with
    | nil => exact absurd (List.eq_nil_of_length_eq_zero hle.symm) hne
    | cons a b => rfl
  refine wpAny_binaryOp_repeat_ref (T := "tuple") (U := "int") (by decide) ⟨_, ho, rfl⟩ (fun s' => typeIs_int s' 0 t) noFill_tuple_mul F.fills_int_mul F.slot_int_rmul repeat_tuple F.slot_int_index.lookup
    (call_meets F.slot_int_rmul (typeIs_int s 0 t) F.entry_int_rmul (F.args_int_rmul_2 _ _) (int_rmul_tuple 0 t l its.toArray n dd sl)
      ⟨ho, rfl, ⟨_, ho, rfl⟩, call_meets F.slot_tuple_mul ⟨_, ho, rfl⟩ F.entry_tuple_mul (F.args_tuple_mul_2 _ _) (tuple_mul0 l its.toArray n dd sl t hi) ⟨ho, ?_⟩⟩)
  refine ⟨.ref s.heap.objs.size, _, I.laid (t' := s.toks) (o := .frz { cls := .type "tuple", data := .seq #[] } (.tup [])) (fun b ob q => Heap.get?_push_of_some _ q) (Nat.le_refl _) ?_, rfl, q _ _ rfl (I.hok.fresh (Nat.le_refl _))⟩
  exact ⟨Heap.get?_push_size _ rfl, Nat.zero_le _, [], .nil, IsTup.new _ _⟩
end
/-! ### list.extend(tuple) -/
theorem extend_tup (l : Addr) (items : Array Value) (n : Nat) (b : Addr) (items2 : Array Value) (n2 : Nat) (dd : Option Addr) (sl : Array (Option Value)) (hs0 : ¬(!items.isEmpty && Builtin.List.listTooLong (items.size + items2.size)) = true) (hs1 : items.size ≤ sizeLine) (hs2 : items.size + items2.size ≤ sizeLine + 1) :
    Meets (Builtin.«list.extend» ⟨[.ref l, .ref b], []⟩) (fun _ R s => s.heap.get? l = some { cls := .type "list", dict := none, data := .seq items n, slots := #[] } ∧ s.heap.get? b = some { cls := .type "tuple", dict := dd, data := .seq items2 n2, slots := sl } ∧ R (.ok (.ret Value.none)) { s with heap := s.heap.update l (Obj.mapSeq fun x => x ++ items2), toks := s.toks }) :=
  .of_wp fun prog w A R s h => by
    obtain ⟨hp, g, d, tk, os⟩ := s; obtain ⟨hl, hb, h⟩ := h; have f1 := AutoSeq1.idx_int; have f2 := AutoSeq1.sub_tuple_tuple; have f3 := AutoSeq1.sub_list_list; have f4 := AutoSeq1.sub_tuple_list; have f5 := AutoSeq1.sub_list_tuple;
    have hz' : (items ++ items2).size ≤ sizeLine + 1 := by rw [Array.size_append]; exact hs2
    wp_walk using (wpAny_updateSeq hl rfl (hz := hs1) (_hz' := hz')), wpAny_loadPart' hl, wpAny_loadPart' hb; exact ⟨_, rfl, h⟩
def rExtendT (K : PySem.W.Frag) : V → List V → Hp → VK → Prop := fun x vs H Q => ∃ l b xs zs, x = .ref l ∧ vs = [.ref b] ∧ H l = some (.lst xs) ∧ SqT K H b zs ∧ xs.length + zs.length ≤ sizeLine ∧ Q .non (upd H l (.lst (xs ++ zs)))
section
variable {X : Cx}
theorem mt_extendT : MtM X "list.extend" (rExtendT X.K) := by
  intro pins s σ H x vs v us Q I rx rv h
  obtain ⟨l, b, xs, zs, rfl, rfl, hH, hB, hz, q⟩ := h
  cases rx
  obtain ⟨u, rfl, ru⟩ := rv.one
  cases ru
  obtain ⟨z, its, n, r, hl, e⟩ := I.lstM hH
  obtain ⟨its2, r2, ⟨⟨cls, dd, data, sl⟩, ho, hc, n2, hd⟩, hs⟩ := I.tuple hB
  simp only at hc hd
  subst hc hd
  have hl2 := r2.length
  have hsz : its.toArray.size + its2.toArray.size ≤ sizeLine := by rw [List.size_toArray, List.size_toArray]; omega
  have hlong : ¬ (!its.toArray.isEmpty && Builtin.List.listTooLong (its.toArray.size + its2.toArray.size)) = true := by
    rw [notLongL hsz, Bool.and_false]
    exact Bool.false_ne_true
  refine call_meets F.slot_list_extend ⟨_, e, rfl⟩ F.entry_list_extend (F.args_list_extend_2 _ _)
    (extend_tup l its.toArray n b its2.toArray n2 dd sl hlong (by rw [List.size_toArray]; omega) (by omega)) ⟨e, ho, ?_⟩
  refine ⟨.non, _, I.lset (its' := its ++ its2) hH e (by simp) (r.append r2) ?_, rfl, q⟩
  rw [List.length_append]
  omega
end
end L2

/-! ### tuples laid anew, their object known -/
namespace L2
open PySem PySem.Spec PyProof.Rows
section
variable {X : Cx} {es : List Expr} {t : TA} {pos : Pos}
def tTupK (t : TA) : TE := fun σ H Q => t σ H fun xs H1 => xs.length ≤ sizeLine ∧ ∀ p (o : Obj), o.dict = none → H1 p = none → Q (.ref p) (upd H1 p (.frz o (.tup xs)))
theorem pe_tupK {x1} (h : PA X es t) : PE X (.Tuple es x1 pos) (tTupK t) := by
  refine ⟨fun pins s σ H Q I hq => ?_⟩
  refine wpAny_Tuple_spliced (thn (h.run pos pins s σ H _ I hq) fun us s1 ⟨xs, H1, I1, r, z, q⟩ => ⟨by rw [← r.length]; exact z, ?_⟩)
  have hf : H1 s1.heap.objs.size = none := I1.hok.fresh (Nat.le_refl _)
  refine ⟨.ref s1.heap.objs.size, upd H1 s1.heap.objs.size (.frz { cls := .type "tuple", data := .seq us.toArray } (.tup xs)), I1.laid (t' := s1.toks) (fun b u e => Heap.get?_push_of_some _ e) (Nat.le_refl _) ?_, rfl, q _ _ rfl hf⟩
  exact ⟨Heap.get?_push_size _ rfl, z, us, r, ⟨_, Heap.get?_push_size _ rfl, rfl, _, rfl⟩⟩
theorem call_tuple_ofK : CallR X (.type "tuple") (fun xs H Q => ∃ p ys, xs = [.ref p] ∧ ((SqL X.K H p ys ∧ ∀ l (o : Obj), o.dict = none → H l = none → Q (.ref l) (upd H l (.frz o (.tup ys)))) ∨ (SqT X.K H p ys ∧ Q (.ref p) H))) := by
  intro pins s σ H xs us Q I r h
  obtain ⟨p, ys, rfl, h⟩ := h
  obtain ⟨u, rfl, rx⟩ := vals1 r
  cases rx
  rcases h with ⟨hq, q⟩ | ⟨hq, q⟩
  · obtain ⟨its, r', pl, hz⟩ := I.list hq
    have hlen := r'.length
    refine call_tuple_list pl.isList (fun h' kp => ?_) (by simp only [List.size_toArray] <;> omega)
    have I1 : Inv X pins σ H { s with heap := h' } := I.kept (t' := s.toks) kp
    have I2 : Inv X pins σ (upd H h'.objs.size (.frz { cls := .type "tuple", data := .seq its.toArray } (.tup ys))) { s with heap := h'.push { cls := .type "tuple", data := .seq its.toArray } } :=
      I1.laid (t' := s.toks) (fun b o e => Heap.get?_push_of_some _ e) (Nat.le_refl _) (show ObjOk X.prog X.w _ _ _ (.frz _ (.tup ys)) from ⟨Heap.get?_push_size _ rfl, hz, its, r', IsTup.new _ _⟩)
    exact ⟨.ref h'.objs.size, _, I2, rfl, q _ _ rfl (I1.hok.fresh (Nat.le_refl _))⟩
  · obtain ⟨its, r', pl, hz⟩ := I.tuple hq
    exact call_tuple_same pl ⟨.ref p, H, I, rfl, q⟩
def rCatK (K : PySem.W.Frag) : R2 := fun x y H Q => ∃ a b xs ys, x = .ref a ∧ y = .ref b ∧ SqT K H a xs ∧ SqT K H b ys ∧ xs.length + ys.length ≤ sizeLine ∧
  (xs = [] → Q (.ref b) H) ∧ (xs ≠ [] → ys = [] → Q (.ref a) H) ∧ (xs ≠ [] → ys ≠ [] → ∀ p (o : Obj), o.dict = none → H p = none → Q (.ref p) (upd H p (.frz o (.tup (xs ++ ys)))))
theorem op_catK : OpR X (binaryOp .Add) (rCatK X.K) := by
  intro pins s σ H x y v u Q I rx ry h
  obtain ⟨a, b, xs, ys, rfl, rfl, ha, hb, hz, q0, q1, q2⟩ := h
  cases rx
  cases ry
  obtain ⟨its, r1, p1, _⟩ := I.tuple ha
  obtain ⟨its2, r2, p2, _⟩ := I.tuple hb
  by_cases hx : xs = []
  · subst hx
    cases r1
    exact cat_tup0 p1 p2 ⟨.ref b, H, I, rfl, q0 rfl⟩
  · refine HT.cat_tup p1 p2 (fun z => hx (r1.nil_iff.mp z)) (fun z => ⟨.ref a, H, I, rfl, q1 hx (r2.nil_iff.mp z)⟩) (fun z => ?_) (by rw [← r1.length, ← r2.length]; exact hz)
    refine ⟨.ref s.heap.objs.size, _, I.laid (t' := s.toks) (o := .frz { cls := .type "tuple", data := .seq (its ++ its2).toArray } (.tup (xs ++ ys))) (fun b ob q => Heap.get?_push_of_some _ q) (Nat.le_refl _) ?_, rfl, q2 hx (fun w => z (r2.nil_iff.mpr w)) _ _ rfl (I.hok.fresh (Nat.le_refl _))⟩
    exact ⟨Heap.get?_push_size _ rfl, by rw [List.length_append]; exact hz, _, r1.append r2, IsTup.new _ _⟩
def rSlK (K : PySem.W.Frag) : V → Option Int → Option Int → Hp → VK → Prop := fun x lo hi H Q => ∃ a xs, x = .ref a ∧ SqT K H a xs ∧
  (HT.sIx xs.length 0 lo = 0 ∧ HT.sIx xs.length xs.length hi = xs.length → Q (.ref a) H) ∧ (¬ (HT.sIx xs.length 0 lo = 0 ∧ HT.sIx xs.length xs.length hi = xs.length) → ∀ p (o : Obj), o.dict = none → H p = none → Q (.ref p) (upd H p (.frz o (.tup (cutV xs lo hi)))))
theorem sl_tupK : SlR X (rSlK X.K) := by
  intro pins s σ H x v vl vu lo hi sl Q I rx hs pl pu h
  obtain ⟨a, xs, rfl, hx, q1, q2⟩ := h
  cases rx
  obtain ⟨its, r, ht, hz⟩ := I.tuple hx
  have hlen : its.toArray.size = xs.length := by rw [List.size_toArray]; exact r.length.symm
  refine ⟨"tuple", _, PyProof.Rows.slot_tuple_getitem.lookup, ht.typeIs, ?_⟩
  by_cases hw : HT.sIx xs.length 0 lo = 0 ∧ HT.sIx xs.length xs.length hi = xs.length
  · exact getItem_tuple_whole ht hs pl pu (by rw [hlen]; exact hw) ⟨.ref a, H, I, rfl, q1 hw⟩
  · refine HT.getItem_tuple_cut ht hs pl pu (by rw [hlen]; exact hw) ?_ (by rw [hlen]; exact hz)
    rw [hlen]
    refine ⟨.ref s.heap.objs.size, _, I.laid (t' := s.toks) (o := .frz { cls := .type "tuple", data := .seq ((its.drop (HT.sIx xs.length 0 lo)).take (HT.sIx xs.length xs.length hi - HT.sIx xs.length 0 lo)).toArray } (.tup (cutV xs lo hi))) (fun b ob q => Heap.get?_push_of_some _ q) (Nat.le_refl _) ?_, rfl, q2 hw _ _ rfl (I.hok.fresh (Nat.le_refl _))⟩
    exact ⟨Heap.get?_push_size _ rfl, Nat.le_trans (cutV_length xs lo hi) hz, _, (r.drop (HT.sIx xs.length 0 lo)).take (HT.sIx xs.length xs.length hi - HT.sIx xs.length 0 lo), IsTup.new _ _⟩
def rRepK (K : PySem.W.Frag) : R2 := fun x y H Q => ∃ l k xs, x = .ref l ∧ y = .int k ∧ SqT K H l xs ∧ xs ≠ [] ∧ 2 ≤ k ∧ k ≤ 1000 ∧ xs.length ≤ 1000 ∧ ∀ p (o : Obj), o.dict = none → H p = none → Q (.ref p) (upd H p (.frz o (.tup (List.replicate k.toNat xs).flatten)))
theorem op_repK : OpR X (binaryOp .Mult) (rRepK X.K) := by
  intro pins s σ H x y v u Q I rx ry h
  obtain ⟨l, k, xs, rfl, rfl, hT, hne, h1, h2, hz, q⟩ := h
  cases rx
  obtain ⟨t, rfl⟩ := ry
  obtain ⟨its, r, ⟨⟨cls, dd, data, sl⟩, ho, hc, n, hd⟩, hs⟩ := I.tuple hT
  simp only at hc hd
  subst hc hd
  have hle : its.length = xs.length := r.length.symm
  have hn : its ≠ [] := fun e => hne (by
    rw [e] at hle
    exact List.eq_nil_of_length_eq_zero hle.symm)
  have hi : its.toArray.isEmpty = false := by
    cases its with
    | nil => exact absurd rfl hn
    | cons a b => rfl
  have hsz0 : its.toArray.size = xs.length := by rw [List.size_toArray, hle]
  have hm : ((its.toArray.size : Nat) : Int) * k ≤ 1000000 := by
    rw [hsz0]
    have a1 : ((xs.length : Nat) : Int) * k ≤ 1000 * k := Int.mul_le_mul_of_nonneg_right (by omega) (by omega)
    omega
  have flen : (List.replicate k.toNat its).flatten.length ≤ sizeLine := by
    rw [PyProof.Rows.lm_len_rep_flat, hle, sizeLine_eq]
    have a1 : k.toNat * xs.length ≤ 1000 * 1000 := Nat.mul_le_mul (by omega) hz
    omega
  have c0 : (decide (k < -(2 ^ 63)) || decide (k ≥ 2 ^ 63)) = false := by
    rw [decide_eq_false (by omega), decide_eq_false (by omega)] <;> rfl
  have c1 : (its.toArray.isEmpty || k == 1) = false := by
    rw [hi, Bool.false_or]
    exact beq_eq_false_iff_ne.mpr (by omega)
  have c2 : (decide (k ≤ 0) || its.toArray.isEmpty) = false := by
    rw [hi, Bool.or_false]
    exact decide_eq_false (by omega)
  have c4 : Builtin.Tuple.tupleTooMany (((its.toArray.size : Nat) : Int) * k) = false := by
    unfold Builtin.Tuple.tupleTooMany
    rw [sizeLine_eq]
    exact decide_eq_false (by omega)
  refine wpAny_binaryOp_repeat_ref (T := "tuple") (U := "int") (by decide) ⟨_, ho, rfl⟩ (fun s' => typeIs_int s' k t) noFill_tuple_mul F.fills_int_mul F.slot_int_rmul repeat_tuple F.slot_int_index.lookup
    (call_meets F.slot_int_rmul (typeIs_int s k t) F.entry_int_rmul (F.args_int_rmul_2 _ _) (int_rmul_tuple k t l its.toArray n dd sl)
      ⟨ho, rfl, ⟨_, ho, rfl⟩, call_meets F.slot_tuple_mul ⟨_, ho, rfl⟩ F.entry_tuple_mul (F.args_tuple_mul_2 _ _) (tuple_mulW l its.toArray n dd sl k t c0 c1 c2 (by omega) c4 (by rw [size_rep, List.size_toArray]; exact flen)) ⟨ho, ?_⟩⟩)
  rw [size_rep]
  refine ⟨.ref s.heap.objs.size, _, I.laid (t' := s.toks) (o := .frz { cls := .type "tuple", data := .seq (List.replicate k.toNat its).flatten.toArray } (.tup (List.replicate k.toNat xs).flatten)) (fun b ob q => Heap.get?_push_of_some _ q) (Nat.le_refl _) ?_, rfl, q _ _ rfl (I.hok.fresh (Nat.le_refl _))⟩
  exact ⟨Heap.get?_push_size _ rfl, by rw [PyProof.Rows.lm_len_rep_flat, sizeLine_eq]; have a1 : k.toNat * xs.length ≤ 1000 * 1000 := Nat.mul_le_mul (by omega) hz; omega, _, r.rep k.toNat, IsTup.new _ _⟩
end
end L2
end
section
set_option Elab.async false
set_option linter.all false
set_option maxRecDepth 100000
/-! MiNe: != of tuples within one model. -/
namespace PySem.SeqAt
open AutoSeq1 (wpAny_loadPart')
open MeetsSeq MeetsSeq2 MeetsSeq3 SeqRoads2
section
variable {prog : Program} {w : World}
theorem mi_tuple_ne (l b : Addr) (items items2 : Array Value) (n n2 : Nat) (dd dd2 : Option Addr) (sl sl2 : Array (Option Value)) (e : Nat → Bool) :
    MeetsIn prog w (Builtin.«tuple.__ne__» ⟨[.ref l, .ref b], []⟩)
      (fun A R s => s.heap.get? l = some { cls := .type "tuple", dict := dd, data := .seq items n, slots := sl } ∧ s.heap.get? b = some { cls := .type "tuple", dict := dd2, data := .seq items2 n2, slots := sl2 } ∧
        (∀ j (h1 : j < items.size) (h2 : j < items2.size), EqP prog w A.in1 s items[j] items2[j] (e j)) ∧
        R (.ok (.ret (.bool (!((List.range (min items.size items2.size)).all e && items.size == items2.size))))) s) :=
  .of_wp fun A R s h => by
    obtain ⟨hp, g, d, tk, os⟩ := s; obtain ⟨hl, hb, he, h⟩ := h
    have f2 := AutoSeq1.sub_tuple_tuple
    have hZ : (items.toList.zip items2.toList).length = min items.size items2.size := by simp
    wp_walk using wpAny_loadPart' hl, wpAny_loadPart' hb, wpAny_forIn_list _ (fun rest b s' => b.1 = none ∧ s' = ⟨hp, g, d, tk, os⟩ ∧ ∃ i, rest = (items.toList.zip items2.toList).drop i ∧
      R (.ok (.ret (.bool (!(((List.range (min items.size items2.size)).drop i).all e && items.size == items2.size))))) ⟨hp, g, d, tk, os⟩) _
    case turn =>
      rintro ⟨y, x⟩ rest b s' ⟨hb', rfl, i, hz, hR⟩
      have hlt : i < (items.toList.zip items2.toList).length := by
        rcases Nat.lt_or_ge i (items.toList.zip items2.toList).length with h' | h'
        · exact h'
        · rw [List.drop_of_length_le h'] at hz; cases hz
      have hm : i < min items.size items2.size := hZ ▸ hlt
      have h1 : i < items.size := Nat.lt_of_lt_of_le hm (Nat.min_le_left _ _)
      have h2 : i < items2.size := Nat.lt_of_lt_of_le hm (Nat.min_le_right _ _)
      rw [List.drop_eq_getElem_cons hlt] at hz
      injection hz with hyx hrest
      have hy : y = items[i] := by have := congrArg Prod.fst hyx; simpa using this
      have hx : x = items2[i] := by have := congrArg Prod.snd hyx; simpa using this
      subst hy hx
      have hd : (List.range (min items.size items2.size)).drop i = i :: (List.range (min items.size items2.size)).drop (i + 1) := by simp [List.drop_eq_getElem_cons, hm]
      rw [hd, List.all_cons] at hR
      refine wpAny_bind (he i h1 h2 _ _ ?_)
      cases hy : e i with
      | true =>
        rw [hy] at hR
        wp_walk
        exact ⟨rfl, rfl, i + 1, hrest, by simpa using hR⟩
      | false =>
        rw [hy] at hR
        wp_walk
        exact ⟨_, rfl, by simpa using hR⟩
    case fin =>
      rintro ⟨b1, b2⟩ s' ⟨hb', rfl, i, hz, hR⟩
      simp only at hb'
      subst hb'
      have hge : min items.size items2.size ≤ i := by
        rcases Nat.lt_or_ge i (items.toList.zip items2.toList).length with h' | h'
        · rw [List.drop_eq_getElem_cons h'] at hz; cases hz
        · exact hZ ▸ h'
      rw [List.drop_of_length_le (by simpa using hge)] at hR
      wp_walk
      exact ⟨_, rfl, by simpa [Builtin.Tuple.tupleCompareSizes, bne] using hR⟩
    case h =>
      exact ⟨rfl, rfl, 0, rfl, by simpa using h⟩
theorem mi_rcNe_tuples {A : Around} {E : Value → Shared → Prop} {s : Shared} {l b : Addr} {items items2 : Array Value} {e : Nat → Bool} {Q : Value → Shared → Prop} (hl : s.heap.IsTuple l items) (hb : s.heap.IsTuple b items2) (hu : A.units < cLine)
    (he : ∀ j (h1 : j < items.size) (h2 : j < items2.size), EqP prog w A.in1 s items[j] items2[j] (e j)) (h : Q (.bool (!((List.range (min items.size items2.size)).all e && items.size == items2.size))) s) :
    wpAny (model prog w) A (richCompare .NotEq (.ref l) (.ref b)) Q E s := by
  obtain ⟨⟨cls, dd, data, sl⟩, ho, hc, n, hd⟩ := id hl
  obtain ⟨⟨cls2, dd2, data2, sl2⟩, ho2, hc2, n2, hd2⟩ := id hb
  simp only at hc hd hc2 hd2
  subst hc hd hc2 hd2
  exact wpAny_richCompare_same_room (T := "tuple") (op := .NotEq) ⟨_, ho, rfl⟩ ⟨_, ho2, rfl⟩ F.slot_tuple_ne (call_meetsIn F.slot_tuple_ne ⟨_, ho, rfl⟩ F.entry_tuple_ne (F.args_tuple_ne_2 _ _) (mi_tuple_ne l b items items2 n n2 dd dd2 sl sl2 e)
    ⟨ho, ho2, he, show Value.bool (!((List.range (min items.size items2.size)).all e && items.size == items2.size)) ≠ Value.notImplemented ∧ Q (.bool (!((List.range (min items.size items2.size)).all e && items.size == items2.size))) s from ⟨(fun x => nomatch x), h⟩⟩) hu
end
end PySem.SeqAt
end
section
set_option Elab.async false
set_option linter.all false
set_option maxRecDepth 100000
/-! MiC2: + - * // % **, comparisons. -/
namespace Mi
open PySem PySem.Spec L2
section
variable {T : Tb} {α α' : Al} {H H' : Hp} {M M' : Hh} {X : Cx}
def rD (T : Tb) (f : D → D → Hh → R D) : R2 := fun x y H Q => ∃ α M d e, RM T α M H ∧ Rep T α H d x ∧ Rep T α H e y ∧ PostE T α H Q (f d e M)
def uD (T : Tb) (f : D → Hh → R D) : V → Hp → VK → Prop := fun x H Q => ∃ α M d, RM T α M H ∧ Rep T α H d x ∧ PostE T α H Q (f d M)
def cD (T : Tb) (f : List D → Hh → R D) : List V → Hp → VK → Prop := fun vs H Q => ∃ α M ds, RM T α M H ∧ Reps T α H ds vs ∧ PostE T α H Q (f ds M)
theorem szl {n : Nat} (h : n ≤ 16777216) : n ≤ sizeLine := by rw [sizeLine_eq]; exact h
theorem szl' {n : Nat} (h : n ≤ sizeLine) : n ≤ 16777216 := by rw [sizeLine_eq] at h; exact h
theorem strOk_app {x y : Str} (hx : StrOk x) (hy : StrOk y) (h : x.length + y.length ≤ 16777216) : StrOk (x ++ y) := by
  constructor
  · have h1 := hx.1
    have h2 := hy.1
    unfold PyData.strOk at *
    show (x.cps ++ y.cps).all _ = true
    rw [Array.all_append, h1, h2]; rfl
  · show (x.cps ++ y.cps).size ≤ _
    rw [Array.size_append]
    exact szl h
theorem repL_eq {β : Type} (xs : List β) : ∀ k, repL xs k = (List.replicate k xs).flatten
  | 0 => rfl
  | k + 1 => by rw [repL, List.replicate_succ, List.flatten_cons, repL_eq xs k]
theorem snd_add (hK : T.K = X.K) {m : Bool} : OpR X (binaryOp .Add) (rD T (binD m .add)) := by
  intro pins s σ H x y v u Q I rx ry h
  obtain ⟨α, M, d, e, hm, rd, re, q⟩ := h
  have q : PostE T α H Q (addD m (der M d) (der M e) M) := q
  unfold addD at q
  split at q
  · rename_i i j e1 e2
    obtain rfl := der_int rd hm e1
    obtain rfl := der_int re hm e2
    exact op_add pins s σ H _ _ v u Q I rx ry ⟨i, j, rfl, rfl, q.pure hm (.int _)⟩
  · rename_i k j e1 e2
    obtain rfl := der_bl rd hm e1
    obtain rfl := der_int re hm e2
    cases rx
    obtain ⟨t, rfl⟩ := ry
    exact add_bool_int ⟨.int _, H, I.tok _, ⟨_, rfl⟩, q.pure hm (.int _)⟩
  · rename_i i j e1 e2
    obtain ⟨rfl, o1⟩ := der_str rd hm e1
    obtain ⟨rfl, o2⟩ := der_str re hm e2
    split at q
    · rename_i hl
      exact op_add_str pins s σ H _ _ v u Q I rx ry ⟨i, j, rfl, rfl, szl hl, q.pure hm (.str _ (strOk_app o1 o2 hl))⟩
    · exact q.elim
  · rename_i xs ys e1 e2
    obtain ⟨a, vs, rfl, t1, r1⟩ := der_tup hm rd e1
    obtain ⟨b, us, rfl, t2, r2⟩ := der_tup hm re e2
    split at q
    · rename_i hl
      refine op_catK pins s σ H _ _ v u Q I rx ry ⟨a, b, vs, us, rfl, rfl, hK ▸ t1.sq, hK ▸ t2.sq, szl (by rw [← r1.1, ← r2.1]; exact hl), fun z => ?_, fun z1 z2 => ?_, fun z1 z2 => ?_⟩
      · subst z
        have e0 : xs = [] := List.eq_nil_of_length_eq_zero (by rw [r1.1]; rfl)
        subst e0
        exact q.pure hm (.tup t2 r2.1 r2.2)
      · subst z2
        have e0 : ys = [] := List.eq_nil_of_length_eq_zero (by rw [r2.1]; rfl)
        subst e0
        rw [List.append_nil] at q
        exact q.pure hm (.tup t1 r1.1 r1.2)
      · exact q.tupN hm (r1.append r2)
    · exact q.elim
  · rename_i xs ys e1 e2
    obtain ⟨a, vs, rfl, t1, r1⟩ := der_lst hm rd e1
    obtain ⟨b, us, rfl, t2, r2⟩ := der_lst hm re e2
    split at q
    · rename_i hl
      exact op_cat pins s σ H _ _ v u Q I rx ry ⟨a, b, vs, us, rfl, rfl, t1, t2, szl (by rw [← r1.1, ← r2.1]; exact hl), PostE.alloc hm (r1.append r2) q⟩
    · exact q.elim
  · exact q.elim
theorem snd_mul (hK : T.K = X.K) {m : Bool} : OpR X (binaryOp .Mult) (rD T (binD m .mul)) := by
  intro pins s σ H x y v u Q I rx ry h
  obtain ⟨α, M, d, e, hm, rd, re, q⟩ := h
  have q : PostE T α H Q (mulD m (der M d) (der M e) M) := q
  unfold mulD at q
  split at q
  · rename_i i j e1 e2
    obtain rfl := der_int rd hm e1
    obtain rfl := der_int re hm e2
    split at q
    · rename_i hc
      exact op_mul pins s σ H _ _ v u Q I rx ry ⟨i, j, rfl, rfl, hc, q.pure hm (.int _)⟩
    · exact q.elim
  · rename_i xs k e1 e2
    obtain ⟨a, vs, rfl, t1, r1⟩ := der_lst hm rd e1
    obtain rfl := der_int re hm e2
    split at q
    · rename_i hl
      refine op_rep pins s σ H _ _ v u Q I rx ry ⟨a, k, vs, rfl, rfl, t1, by omega, by omega, szl (by rw [← r1.1]; exact hl.2.2), ?_⟩
      rw [← repL_eq]
      exact PostE.alloc hm (r1.rep _) q
    · exact q.elim
  · rename_i xs k e1 e2
    obtain ⟨a, vs, rfl, t1, r1⟩ := der_tup hm rd e1
    obtain rfl := der_int re hm e2
    split at q
    · rename_i hl
      obtain ⟨h1, h2, h3, h4⟩ := hl
      have hv : vs ≠ [] := fun z => h1 (List.eq_nil_of_length_eq_zero (by rw [r1.1, z]; rfl))
      by_cases k0 : k = 0
      · subst k0
        exact op_repT0 pins s σ H _ _ v u Q I rx ry ⟨a, vs, rfl, rfl, hK ▸ t1.sq, hv, q.tupN hm .nil⟩
      by_cases k1 : k = 1
      · subst k1
        have e1 : repL xs (Int.toNat 1) = xs := by show repL xs 1 = xs; simp [repL]
        rw [e1] at q
        exact op_repT1 pins s σ H _ _ v u Q I rx ry ⟨a, vs, rfl, rfl, hK ▸ t1.sq, q.pure hm (.tup t1 r1.1 r1.2)⟩
      have h2 : 2 ≤ k := by omega
      refine op_repK pins s σ H _ _ v u Q I rx ry ⟨a, k, vs, rfl, rfl, hK ▸ t1.sq, fun z => h1 (List.eq_nil_of_length_eq_zero (by rw [r1.1, z]; rfl)), h2, h3, by rw [← r1.1]; exact h4, ?_⟩
      rw [← repL_eq]
      exact q.tupN hm (r1.rep _)
    · exact q.elim
  · exact q.elim
theorem snd_sub {m : Bool} : OpR X (binaryOp .Sub) (rD T (binD m .sub)) := by
  intro pins s σ H x y v u Q I rx ry h
  obtain ⟨α, M, d, e, hm, rd, re, q⟩ := h
  simp only [binD] at q
  split at q
  · obtain rfl := rd.int_eq
    obtain rfl := re.int_eq
    exact op_sub pins s σ H _ _ v u Q I rx ry ⟨_, _, rfl, rfl, q.pure hm (.int _)⟩
  · cases rd
    obtain rfl := re.int_eq
    cases rx
    obtain ⟨t, rfl⟩ := ry
    exact sub_bool_int ⟨.int _, H, I.tok _, ⟨_, rfl⟩, q.pure hm (.int _)⟩
  · exact q.elim
theorem snd_fdiv {m : Bool} : OpR X (binaryOp .FloorDiv) (rD T (binD m .fdiv)) := by
  intro pins s σ H x y v u Q I rx ry h
  obtain ⟨α, M, d, e, hm, rd, re, q⟩ := h
  simp only [binD] at q
  split at q
  · obtain rfl := rd.int_eq
    obtain rfl := re.int_eq
    split at q
    · rename_i hc
      exact op_fdivN pins s σ H _ _ v u Q I rx ry ⟨_, _, rfl, rfl, hc, q.pure hm (.int _)⟩
    · exact q.elim
  · exact q.elim
theorem snd_mod {m : Bool} : OpR X (binaryOp .Mod) (rD T (binD m .mod)) := by
  intro pins s σ H x y v u Q I rx ry h
  obtain ⟨α, M, d, e, hm, rd, re, q⟩ := h
  simp only [binD] at q
  split at q
  · obtain rfl := rd.int_eq
    obtain rfl := re.int_eq
    split at q
    · rename_i hc
      exact op_modN pins s σ H _ _ v u Q I rx ry ⟨_, _, rfl, rfl, hc, q.pure hm (.int _)⟩
    · exact q.elim
  · exact q.elim
theorem snd_pow {m : Bool} : OpR X (binaryOp .Pow) (rD T (binD m .pow)) := by
  intro pins s σ H x y v u Q I rx ry h
  obtain ⟨α, M, d, e, hm, rd, re, q⟩ := h
  simp only [binD] at q
  split at q
  · obtain rfl := rd.int_eq
    obtain rfl := re.int_eq
    split at q
    · rename_i hc
      exact op_pow pins s σ H _ _ v u Q I rx ry ⟨_, _, rfl, rfl, hc, q.pure hm (.int _)⟩
    · exact q.elim
  · exact q.elim
def opA : Op → Operator
  | .add => .Add | .sub => .Sub | .mul => .Mult | .fdiv => .FloorDiv | .mod => .Mod | .pow => .Pow
theorem snd_op (hK : T.K = X.K) {m : Bool} : ∀ o : Op, OpR X (binaryOp (opA o)) (rD T (binD m o))
  | .add => snd_add hK | .sub => snd_sub | .mul => snd_mul hK | .fdiv => snd_fdiv | .mod => snd_mod | .pow => snd_pow

/-! ### comparisons -/
theorem snd_eq (hK : T.K = X.K) (hu : X.A.units + 64 < cLine) : OpR X (compareOp .Eq) (rD T (cmpD .eq)) := by
  intro pins s σ H x y v u Q I rx ry h
  obtain ⟨α, M, d, e, hm, rd, re, q⟩ := h
  simp only [cmpD, eqD] at q
  split at q
  · rename_i hc
    obtain ⟨p1, p2, p3⟩ := hc
    obtain ⟨d1, c1⟩ := der_dp hm rd p1
    obtain ⟨d2, c2⟩ := der_dp hm re p2
    rw [hK] at d1 d2
    obtain ⟨as, r1⟩ := Dp.reads I _ x v d1 rx
    obtain ⟨bs, r2⟩ := Dp.reads I _ y u d2 ry
    refine PySem.SeqAt.compareEq_reads r1 r2 c1 c2 (by rw [depth_py _ p1, depth_py _ p2]; omega) ⟨.bl _, H, I, rfl, ?_⟩
    rw [eqv_py _ _ p1 p2]
    exact q.pure hm (.bl _)
  · rw [if_neg (fun z => nomatch z.1)] at q
    exact q.elim
theorem ints_reps : ∀ {ds : List D} {vs : List V} {ns : List Int}, intsL ds = some ns → Reps T α H ds vs → vs = ns.map V.int
  | [], vs, ns, e, r => by cases e; rw [r.inv_nil]; rfl
  | .int i :: ds, vs, ns, e, r => by
    obtain ⟨v, us, rfl, h1, h2⟩ := r.inv_cons
    cases e2 : intsL ds with
    | none => rw [intsL, e2] at e; cases e
    | some ms =>
      rw [intsL, e2] at e
      cases e
      obtain rfl := h1.int_eq
      rw [ints_reps e2 h2]; rfl
theorem snd_lt (hK : T.K = X.K) (hu : X.A.units < cLine) : OpR X (compareOp .Lt) (rD T (cmpD .lt)) := by
  intro pins s σ H x y v u Q I rx ry h
  obtain ⟨α, M, d, e, hm, rd, re, q⟩ := h
  simp only [cmpD] at q
  split at q
  · obtain rfl := rd.int_eq
    obtain rfl := re.int_eq
    exact op_lt pins s σ H _ _ v u Q I rx ry ⟨_, _, rfl, rfl, q.pure hm (.bl _)⟩
  · obtain ⟨rfl, _⟩ := rd.str_eq
    obtain ⟨rfl, _⟩ := re.str_eq
    exact op_lt_str pins s σ H _ _ v u Q I rx ry ⟨_, _, rfl, rfl, q.pure hm (.bl _)⟩
  · rename_i ds es
    split at q
    · rename_i ns ms e1 e2
      obtain ⟨a, vs, rfl, t1, r1⟩ := der_tup hm rd rfl
      obtain ⟨b, us, rfl, t2, r2⟩ := der_tup hm re rfl
      obtain rfl := ints_reps e1 r1
      obtain rfl := ints_reps e2 r2
      exact op_ltT hu pins s σ H _ _ v u Q I rx ry ⟨a, b, ns, ms, rfl, rfl, hK ▸ t1.sq, hK ▸ t2.sq, q.pure hm (.bl _)⟩
    · exact q.elim
  · exact q.elim
theorem snd_le : OpR X (compareOp .LtE) (rD T (cmpD .le)) := by
  intro pins s σ H x y v u Q I rx ry h
  obtain ⟨α, M, d, e, hm, rd, re, q⟩ := h
  simp only [cmpD] at q
  split at q
  · obtain rfl := rd.int_eq
    obtain rfl := re.int_eq
    exact op_le pins s σ H _ _ v u Q I rx ry ⟨_, _, rfl, rfl, q.pure hm (.bl _)⟩
  · exact q.elim
theorem snd_gt : OpR X (compareOp .Gt) (rD T (cmpD .gt)) := by
  intro pins s σ H x y v u Q I rx ry h
  obtain ⟨α, M, d, e, hm, rd, re, q⟩ := h
  simp only [cmpD] at q
  split at q
  · obtain rfl := rd.int_eq
    obtain rfl := re.int_eq
    exact op_gt pins s σ H _ _ v u Q I rx ry ⟨_, _, rfl, rfl, q.pure hm (.bl _)⟩
  · exact q.elim
theorem snd_ge : OpR X (compareOp .GtE) (rD T (cmpD .ge)) := by
  intro pins s σ H x y v u Q I rx ry h
  obtain ⟨α, M, d, e, hm, rd, re, q⟩ := h
  simp only [cmpD] at q
  split at q
  · obtain rfl := rd.int_eq
    obtain rfl := re.int_eq
    exact op_ge pins s σ H _ _ v u Q I rx ry ⟨_, _, rfl, rfl, q.pure hm (.bl _)⟩
  · exact q.elim
/-! dicts -/
theorem keyD_eqv (a b : Key) : (keyD a).eqv (keyD b) = decide (a = b) := by
  cases a <;> cases b <;> simp [keyD, D.eqv]
  · rename_i a b
    by_cases h : a = b <;> simp [h]
  · rename_i a b
    by_cases h : a = b <;> simp [h]
theorem isKey_of {d : D} (h : isKey d = true) : ∃ k, d = keyD k := by
  cases d with
  | int i => exact ⟨.inl i, rfl⟩
  | str x => exact ⟨.inr x, rfl⟩
  | _ => simp [isKey] at h
theorem rep_key {k : Key} {x : V} (r : Rep T α H (keyD k) x) : x = kV k := by
  cases k with
  | inl i => exact r.int_eq
  | inr z => exact r.str_eq.1
theorem RepK.nil : RepK T α H [] [] := ⟨rfl, fun i p q h => by simp at h, fun i p q h => by simp at h⟩
theorem RepK.inv {p : D × D} {kvs : List (D × D)} {ws : List (Key × V)} (r : RepK T α H (p :: kvs) ws) : ∃ q us, ws = q :: us ∧ p.1 = keyD q.1 ∧ Rep T α H p.2 q.2 ∧ RepK T α H kvs us := by
  cases ws with
  | nil => have := r.1; simp at this
  | cons q us => exact ⟨q, us, rfl, r.2.1 0 p q rfl rfl, r.2.2 0 p q rfl rfl, by have := r.1; simpa using this, fun i a b h1 h2 => r.2.1 (i + 1) a b (by simpa using h1) (by simpa using h2), fun i a b h1 h2 => r.2.2 (i + 1) a b (by simpa using h1) (by simpa using h2)⟩
theorem RepK.inv0 {ws : List (Key × V)} (r : RepK T α H [] ws) : ws = [] := by
  have := r.1; simp at this; exact List.eq_nil_of_length_eq_zero this.symm
theorem RepK.cons {p : D × D} {q : Key × V} {kvs : List (D × D)} {ws : List (Key × V)} (h : p.1 = keyD q.1) (h2 : Rep T α H p.2 q.2) (r : RepK T α H kvs ws) : RepK T α H (p :: kvs) (q :: ws) := by
  refine ⟨by simp [r.1], fun i a b e1 e2 => ?_, fun i a b e1 e2 => ?_⟩
  · cases i with
    | zero => simp at e1 e2; subst e1; subst e2; exact h
    | succ i => exact r.2.1 i a b (by simpa using e1) (by simpa using e2)
  · cases i with
    | zero => simp at e1 e2; subst e1; subst e2; exact h2
    | succ i => exact r.2.2 i a b (by simpa using e1) (by simpa using e2)
theorem RepK.look : ∀ {kvs : List (D × D)} {ws : List (Key × V)}, RepK T α H kvs ws → ∀ k : Key, (lookD kvs (keyD k) = none ∧ valV ws k = none) ∨ ∃ d v, lookD kvs (keyD k) = some d ∧ valV ws k = some v ∧ Rep T α H d v
  | [], ws, r, k => by rw [r.inv0]; exact .inl ⟨rfl, rfl⟩
  | p :: kvs, ws, r, k => by
    obtain ⟨q, us, rfl, h1, h2, h3⟩ := r.inv
    by_cases e : q.1 = k
    · refine .inr ⟨p.2, q.2, ?_, valV_pos e, h2⟩
      unfold lookD
      rw [List.find?_cons, h1, keyD_eqv, decide_eq_true e]
      rfl
    · rw [valV_neg e]
      have : lookD (p :: kvs) (keyD k) = lookD kvs (keyD k) := by
        unfold lookD
        rw [List.find?_cons, h1, keyD_eqv, decide_eq_false e]
      rw [this]
      exact h3.look k
theorem RepK.any : ∀ {kvs : List (D × D)} {ws : List (Key × V)}, RepK T α H kvs ws → ∀ k : Key, (kvs.any fun p => p.1.eqv (keyD k)) = ws.any fun kv => decide (kv.1 = k)
  | [], ws, r, k => by rw [r.inv0]; rfl
  | p :: kvs, ws, r, k => by
    obtain ⟨q, us, rfl, h1, h2, h3⟩ := r.inv
    rw [List.any_cons, List.any_cons, h1, keyD_eqv, h3.any k]
theorem RepK.repl : ∀ {kvs : List (D × D)} {ws : List (Key × V)}, RepK T α H kvs ws → ∀ (k : Key) {d : D} {v : V}, Rep T α H d v →
    RepK T α H (kvs.map fun p => if p.1.eqv (keyD k) then (p.1, d) else p) (ws.map fun kv => if kv.1 = k then (kv.1, v) else kv)
  | [], ws, r, k, d, v, q => by rw [r.inv0]; exact .nil
  | p :: kvs, ws, r, k, d, v, q => by
    obtain ⟨w, us, rfl, h1, h2, h3⟩ := r.inv
    rw [List.map_cons, List.map_cons]
    refine RepK.cons ?_ ?_ (h3.repl k q)
    · rw [h1, keyD_eqv]
      by_cases e : w.1 = k <;> simp [e, h1]
    · rw [h1, keyD_eqv]
      by_cases e : w.1 = k <;> simp [e, q, h2]
theorem RepK.snoc : ∀ {kvs : List (D × D)} {ws : List (Key × V)}, RepK T α H kvs ws → ∀ (k : Key) {d : D} {v : V}, Rep T α H d v → RepK T α H (kvs ++ [(keyD k, d)]) (ws ++ [(k, v)])
  | [], ws, r, k, d, v, q => by rw [r.inv0]; exact RepK.cons rfl q .nil
  | p :: kvs, ws, r, k, d, v, q => by
    obtain ⟨w, us, rfl, h1, h2, h3⟩ := r.inv
    exact RepK.cons h1 h2 (h3.snoc k q)
theorem RepK.put {kvs : List (D × D)} {ws : List (Key × V)} (r : RepK T α H kvs ws) (k : Key) {d : D} {v : V} (q : Rep T α H d v) : RepK T α H (putD kvs (keyD k) d) (putK ws k v) := by
  unfold putD putK
  rw [r.any k]
  split
  · exact r.repl k q
  · exact r.snoc k q
theorem inSeq_py (d : D) (hd : d.plain = true) : ∀ ds : List D, plains ds = true → ((pys ds).any fun y => PyData.eqv y d.py) = inSeq d ds
  | [], _ => rfl
  | e :: ds, h => by
    rw [plains, Bool.and_eq_true] at h
    unfold inSeq
    rw [pys, List.any_cons, List.any_cons, eqv_py e d h.1 hd, inSeq_py d hd ds h.2]
    rfl
theorem if_bool {β : Type} {k : Bool} {a b c : β} (h : (if k then a else b) = c) : (k = true ∧ a = c) ∨ (k = false ∧ b = c) := by cases k <;> simp at h <;> simp [h]
theorem snd_in (hK : T.K = X.K) (hu : X.A.units + 66 < cLine) (neg : Bool) : OpR X (compareOp (if neg then .NotIn else .In)) (rD T (fun a b M => inD neg (der M a) (der M b) M)) := by
  intro pins s σ H x y v u Q I rx ry h
  obtain ⟨α, M, d, e, hm, rd, re, q⟩ := h
  simp only [inD] at q
  split at q
  · rename_i z e2
    obtain ⟨rfl, _⟩ := der_str re hm e2
    split at q
    · rename_i w e1
      obtain ⟨rfl, _⟩ := der_str rd hm e1
      have q' := q.pure hm (.bl _)
      cases neg with
      | false => exact op_in_str pins s σ H _ _ v u Q I rx ry ⟨_, _, rfl, rfl, q'⟩
      | true => exact L2.op_notIn_str pins s σ H _ _ v u Q I rx ry ⟨_, _, rfl, rfl, q'⟩
    · exact q.elim
  · rename_i ds e2
    split at q
    · rename_i hc
      obtain ⟨p1, p2, p3⟩ := hc
      obtain ⟨d1, c1⟩ := der_dp hm rd p1
      have p2' : (der M e).plain = true := by rw [e2, D.plain]; exact p2
      obtain ⟨d2, c2⟩ := der_dp hm re p2'
      rw [hK] at d1 d2
      obtain ⟨as, r1⟩ := Dp.reads I _ x v d1 rx
      obtain ⟨bs, r2⟩ := Dp.reads I _ y u d2 ry
      rw [e2, D.py] at r2 c2
      rw [PyData.canLay0] at c2
      have hd : X.A.units + 1 + min (PyData.depthAll (pys ds)) (der M d).py.depth < cLine := by rw [depth_py _ p1, depths_py _ p2]; omega
      have q' := q.pure hm (.bl _)
      cases neg with
      | false => exact PySem.SeqAt.in_list_reads r2 r1 c2 c1 hd ⟨.bl _, H, I, rfl, by rw [inSeq_py _ p1 ds p2]; exact q'⟩
      | true => exact PySem.SeqAt.notIn_list_reads r2 r1 c2 c1 hd ⟨.bl _, H, I, rfl, by rw [inSeq_py _ p1 ds p2]; exact q'⟩
    · exact q.elim
  · rename_i ds e2
    split at q
    · rename_i hc
      obtain ⟨p1, p2, p3⟩ := hc
      obtain ⟨d1, c1⟩ := der_dp hm rd p1
      have p2' : (der M e).plain = true := by rw [e2, D.plain]; exact p2
      obtain ⟨d2, c2⟩ := der_dp hm re p2'
      rw [hK] at d1 d2
      obtain ⟨as, r1⟩ := Dp.reads I _ x v d1 rx
      obtain ⟨bs, r2⟩ := Dp.reads I _ y u d2 ry
      rw [e2, D.py] at r2 c2
      rw [PyData.canLay0] at c2
      have hd : X.A.units + 1 + min (PyData.depthAll (pys ds)) (der M d).py.depth < cLine := by rw [depth_py _ p1, depths_py _ p2]; omega
      have q' := q.pure hm (.bl _)
      cases neg with
      | false => exact PySem.SeqAt.in_tuple_reads r2 r1 c2 c1 hd ⟨.bl _, H, I, rfl, by rw [inSeq_py _ p1 ds p2]; exact q'⟩
      | true => exact PySem.SeqAt.notIn_tuple_reads r2 r1 c2 c1 hd ⟨.bl _, H, I, rfl, by rw [inSeq_py _ p1 ds p2]; exact q'⟩
    · exact q.elim
  · rename_i kvs e2
    obtain ⟨a, ws, rfl, hd, rk⟩ := der_dict hm re e2
    cases ry
    split at q
    · rename_i hc
      obtain ⟨k, ek⟩ := isKey_of hc
      have ex : x = kV k := by
        rw [ek] at q hc
        cases k with
        | inl i => exact der_int rd hm ek
        | inr z => exact (der_str rd hm ek).1
      subst ex
      rw [ek] at q
      have q' := q.pure hm (.bl _)
      have g : DGet H a (kV k) (valV ws k) := .inl ⟨ws, k, hd, rfl, rfl⟩
      have eo : (lookD kvs (keyD k)).isSome = (valV ws k).isSome := by
        rcases rk.look k with ⟨e3, e4⟩ | ⟨d', v', e3, e4, _⟩ <;> rw [e3, e4] <;> rfl
      rw [eo] at q'
      cases neg with
      | false => exact d_in (by omega) I g rx fun s' I' => ⟨.bl _, H, I', rfl, q'⟩
      | true => exact d_notIn (by omega) I g rx fun s' I' => ⟨.bl _, H, I', rfl, q'⟩
    · exact q.elim
  · exact q.elim
def cmA : Cm → CmpOp
  | .eq => .Eq | .ne => .NotEq | .lt => .Lt | .le => .LtE | .gt => .Gt | .ge => .GtE | .isin => .In | .notin => .NotIn
theorem pair_of {F : V → V → Prop} : ∀ {xs ys : List V}, xs.length = ys.length → (∀ (i : Nat) x y, xs[i]? = some x → ys[i]? = some y → F x y) → Paired F xs ys
  | [], [], _, _ => .nil
  | x :: xs, y :: ys, h, k => .cons (k 0 x y rfl rfl) (pair_of (by simpa using h) fun i a b h1 h2 => k (i + 1) a b (by simpa using h1) (by simpa using h2))
  | [], _ :: _, h, _ => by simp at h
  | _ :: _, [], h, _ => by simp at h
theorem flat_same {d : D} {v u : V} (h : flatD d = true) (r1 : Rep T α H d v) (r2 : Rep T α H d u) : v = u ∧ flatB v = true := by
  cases d with
  | non => cases r1; cases r2; exact ⟨rfl, rfl⟩
  | bl b => cases r1; cases r2; exact ⟨rfl, rfl⟩
  | int b => cases r1; cases r2; exact ⟨rfl, rfl⟩
  | str b => cases r1; cases r2; exact ⟨rfl, rfl⟩
  | _ => cases h
theorem dicts_eqV {K : PySem.W.Frag} (hm : RM T α M H) {p q : Nat} {kvs : List (D × D)} {x y : V} (k1 : Rep T α H (.ref p) x) (k2 : Rep T α H (.ref q) y) (m1 : M[p]? = some (.dict kvs)) (m2 : M[q]? = some (.dict kvs))
    (hf : ∀ r ∈ kvs, flatD r.2 = true ∧ lookD kvs r.1 = some r.2) : EqV K H 2 x y := by
  cases k1 with
  | ref h1 =>
    cases k2 with
    | ref h2 =>
      obtain ⟨ks, e1, r1⟩ := hm.obj p _ _ m1 h1
      obtain ⟨ls, e2, r2⟩ := hm.obj q _ _ m2 h2
      refine .inr (.inr (.inr ⟨_, _, ks, ls, rfl, rfl, e1, e2, by rw [← r1.1, ← r2.1], fun z hz => ?_⟩))
      obtain ⟨i, hi, ei⟩ := List.getElem_of_mem hz
      have g2 : ks[i]? = some z := by rw [List.getElem?_eq_getElem hi, ei]
      have hi2 : i < kvs.length := by rw [r1.1]; exact hi
      have g1 : kvs[i]? = some kvs[i] := List.getElem?_eq_getElem hi2
      have hk := r1.2.1 i _ _ g1 g2
      have hv := r1.2.2 i _ _ g1 g2
      obtain ⟨f1, f2⟩ := hf _ (List.getElem_mem hi2)
      rw [hk] at f2
      rcases r2.look z.1 with ⟨n1, _⟩ | ⟨d, v, n1, n2, n3⟩
      · rw [n1] at f2; cases f2
      · rw [n1] at f2
        cases f2
        exact ⟨v, n2, .inl (flat_same f1 hv n3)⟩
theorem snd_ne (hK : T.K = X.K) (hu : X.A.units + 64 < cLine) : OpR X (compareOp .NotEq) (rD T (cmpD .ne)) := by
  intro pins s σ H x y v u Q I rx ry h
  obtain ⟨α, M, d, e, hm, rd, re, q⟩ := h
  simp only [cmpD, eqD] at q
  split at q
  · rename_i hc
    obtain ⟨p1, p2, p3⟩ := hc
    obtain ⟨d1, c1⟩ := der_dp hm rd p1
    obtain ⟨d2, c2⟩ := der_dp hm re p2
    rw [hK] at d1 d2
    obtain ⟨as, r1⟩ := Dp.reads I _ x v d1 rx
    obtain ⟨bs, r2⟩ := Dp.reads I _ y u d2 ry
    refine PySem.SeqAt.compareNe_reads r1 r2 c1 c2 (by rw [depth_py _ p1, depth_py _ p2]; omega) ⟨.bl _, H, I, rfl, ?_⟩
    rw [eqv_py _ _ p1 p2]
    exact q.pure hm (.bl _)
  · split at q
    · rename_i hc
      obtain ⟨_, ds, es, ea, eb, hl, hp⟩ := hc
      obtain ⟨a1, xs, rfl, t1, r1⟩ := der_tup hm rd ea
      obtain ⟨a2, ys, rfl, t2, r2⟩ := der_tup hm re eb
      cases rx
      cases ry
      obtain ⟨i1, v1, p1, _⟩ := I.tuple (by rw [← hK]; exact t1.sq)
      obtain ⟨i2, v2, p2, _⟩ := I.tuple (by rw [← hK]; exact t2.sq)
      have hpair : Paired (EqV X.K H 2) xs ys := by
        refine pair_of (by rw [← r1.1, ← r2.1]; exact hl) fun i x y h1 h2 => ?_
        have hx := (List.getElem?_eq_some_iff.mp h1).1
        have hy := (List.getElem?_eq_some_iff.mp h2).1
        have g1 : ds[i]? = some (ds[i]'(by rw [r1.1]; exact hx)) := List.getElem?_eq_getElem _
        have g2 : es[i]? = some (es[i]'(by rw [r2.1]; exact hy)) := List.getElem?_eq_getElem _
        obtain ⟨p, q, kvs, e1, e2, m1, m2, hf⟩ := hp i _ _ g1 g2
        have k1 := r1.2 i _ x g1 h1
        have k2 := r2.2 i _ y g2 h2
        rw [e1] at k1
        rw [e2] at k2
        exact dicts_eqV hm k1 k2 m1 m2 hf
      have hsz : i1.toArray.size = i2.toArray.size := by
        rw [List.size_toArray, List.size_toArray, ← v1.length, ← v2.length]
        exact Paired.length hpair
      refine PySem.SeqAt.mi_rcNe_tuples (e := fun _ => true) (show s.heap.IsTuple a1 i1.toArray from p1) (show s.heap.IsTuple a2 i2.toArray from p2) (by omega) (fun j h1 h2 => ?_) ⟨.bl false, H, I, ?_, q.pure hm (.bl _)⟩
      · have k := items_run (F := EqV X.K H 2) (fun x y v u h rx ry => eqV_run I 2 X.A.in1 (by show X.A.units + 1 + 2 < cLine; omega) x y v u h rx ry) hpair v1 v2 j (by simpa using h1) (by simpa using h2)
        simpa using k
      · rw [show ((List.range (min i1.toArray.size i2.toArray.size)).all fun _ => true) = true from List.all_eq_true.mpr fun _ _ => rfl, hsz]
        simp [RelV]
    · exact q.elim
theorem snd_cm (hK : T.K = X.K) (hu : X.A.units + 66 < cLine) : ∀ o : Cm, OpR X (compareOp (cmA o)) (rD T (cmpD o))
  | .eq => snd_eq hK (by omega) | .ne => snd_ne hK (by omega) | .lt => snd_lt hK (by omega) | .le => snd_le | .gt => snd_gt | .ge => snd_ge
  | .isin => snd_in hK hu false | .notin => snd_in hK hu true
end
end Mi
end
section
set_option Elab.async false
set_option linter.all false
set_option maxRecDepth 100000
set_option maxHeartbeats 2000000
/-! MiSet: set(xs) of a list of keys (ints, texts), sorted of it. -/
namespace Mi
open PySem PySem.Spec L2 PyProof.Rows
def keyM (e : Int × Value) : Key := match e.2 with | .int k _ => .inl k | .str x _ => .inr x | _ => .inl 0
def GoodM (P : Program) (w : World) (e : Int × Value) : Prop := ∃ k, RelV (kV k) e.2 ∧ e.1 = (mixKind P w).hash k
theorem keyM_of {k : Key} {u : Value} (r : RelV (kV k) u) (h : Int) : keyM (h, u) = k := by
  cases k with
  | inl i => obtain ⟨t, rfl⟩ := r; rfl
  | inr x => obtain ⟨t, rfl⟩ := r; rfl
/-- the set of keys at a, with its table -/
def SetM (P : Program) (w : World) (h : Heap) (a : Addr) (S : Key → Bool) (n : Nat) : Prop :=
  ∃ o es ep t, h.get? a = some o ∧ o.ExactSet ∧ o.data = .set es ep t ∧ (∀ e ∈ es.toList, GoodM P w e) ∧ (es.toList.map keyM).Nodup ∧ (∀ k, S k = true ↔ k ∈ es.toList.map keyM) ∧
    es.size < scanBound ∧ t.fits es.size = true ∧ es.size = n ∧ Ris t.place.toList ∧ (w.params.followText "set-order" = true ∨ t.led = true)
section
variable {P : Program} {w : World} {h h' : Heap} {a : Addr} {S : Key → Bool} {n : Nat}
theorem SetM.at (R : SetM P w h a S n) (k : ∀ o, h.get? a = some o → h'.get? a = some o) : SetM P w h' a S n := by
  obtain ⟨o, es, ep, t, ho, r⟩ := R
  exact ⟨o, es, ep, t, k o ho, r⟩
theorem SetM.congr {S' : Key → Bool} {n' : Nat} (R : SetM P w h a S n) (e : ∀ k, S' k = S k) (en : n = n') : SetM P w h a S' n' := by
  have q : S' = S := funext e
  rw [q, ← en]; exact R
theorem goodM_elems {l : List (Int × Value)} (g : ∀ e ∈ l, GoodM P w e) : ElemsOf (mixKind P w) l := fun e he => by
  obtain ⟨k, h1, h2⟩ := g e he
  exact ⟨⟨k, kV_is h1, h2⟩, key_scan h1⟩
theorem goodM_is {e : Int × Value} (g : GoodM P w e) (k : Key) : (mixKind P w).is k e.2 = true ↔ keyM e = k := by
  obtain ⟨k0, h1, h2⟩ := g
  obtain ⟨h, u⟩ := e
  rw [keyM_of h1]
  constructor
  · intro q; exact (mixKind P w).inj _ _ _ (kV_is h1) q
  · intro q; rw [← q]; exact kV_is h1
theorem goodM_mem {l : List (Int × Value)} (g : ∀ e ∈ l, GoodM P w e) (k : Key) : k ∈ l.map keyM ↔ ∃ e ∈ l, (mixKind P w).is k e.2 = true := by
  rw [List.mem_map]
  constructor
  · rintro ⟨e, he, q⟩
    exact ⟨e, he, (goodM_is (g e he) k).2 q⟩
  · rintro ⟨e, he, q⟩
    exact ⟨e, he, (goodM_is (g e he) k).1 q⟩
end
section
variable {P : Program} {w : World} {A : Around} {E : Value → Shared → Prop} {s : Shared} {a : Addr} {S : Key → Bool} {n : Nat}
theorem setM_add_tail {g : Bool → Sem Unit} (hg : ∀ (b : Bool) (s₁ : Shared) (Q' : Unit → Shared → Prop), Q' () s₁ → wpAny (model P w) A (g b) Q' E s₁)
    {o : Obj} {es : Array (Int × Value)} {ep : Nat} {t : SetTable} (ho : s.heap.get? a = some o) (hex : o.ExactSet) (hd : o.data = .set es ep t)
    {es1 : Array (Int × Value)} {t2 : SetTable} {S' : Key → Bool} (g1 : ∀ e ∈ es1.toList, GoodM P w e) (nd1 : (es1.toList.map keyM).Nodup) (m1 : ∀ k, S' k = true ↔ k ∈ es1.toList.map keyM)
    (hb1 : es1.size < scanBound) (hf2 : t2.fits es1.size = true) (hr : Ris t2.place.toList) (hl : w.params.followText "set-order" = true ∨ t2.led = true) {wasDummy : Bool} {R : Option Bool → Shared → Prop}
    (hR : ∀ h', Heap.SameBut a s.heap h' → SetM P w h' a S' es1.size → R (some true) { s with heap := h' }) :
    wpAny (model P w) A (do
        storeSet a es1 t2
        if (!wasDummy && t2.tooFull) = true then do
            g (relayAll t2 es1 (SetTable.grown es1.size)).2.2
            storeSet a (relayAll t2 es1 (SetTable.grown es1.size)).1 (relayAll t2 es1 (SetTable.grown es1.size)).2.1
            pure (some true)
          else pure (some true)) R E s := by
  refine wpAny_bind (wpAny_storeSet_of ho hd ?_ (fits_of_scanBound hb1))
  have ho1 := store_at (es' := es1) (t' := t2) ho hd
  have sb1 := Heap.SameBut.update s.heap a (Obj.putSet es1 t2)
  split
  · have pm := relayAll_perm t2 es1 (SetTable.grown es1.size)
    have hf3 := relayAll_fits t2 es1 (SetTable.grown es1.size)
    have hr3 := relayAll_ris t2 es1 (SetTable.grown es1.size)
    have hl3 := relayAll_led t2 es1 (SetTable.grown es1.size)
    generalize relayAll t2 es1 (SetTable.grown es1.size) = Z at pm hf3 hr3 hl3 ⊢
    obtain ⟨es2, t3, gave⟩ := Z
    dsimp only at pm hf3 hr3 hl3 ⊢
    have hsz : es2.size = es1.size := by rw [← Array.length_toList, pm.length_eq, Array.length_toList]
    have hb2 : es2.size < scanBound := by rw [hsz]; exact hb1
    refine wpAny_bind (hg _ _ _ ?_)
    refine wpAny_bind (wpAny_storeSet_of ho1 rfl ?_ (fits_of_scanBound hb2))
    have ho2 := store_at (es' := es2) (t' := t3) ho1 rfl
    refine wpAny_pure (hR _ (sb1.trans (Heap.SameBut.update _ a _)) ?_)
    exact ⟨_, es2, _, t3, ho2, hex, rfl, fun e he => g1 e (pm.mem_iff.mp he), (pm.map keyM).nodup_iff.mpr nd1, fun k => (m1 k).trans (pm.map keyM).mem_iff.symm, hb2, hf3, hsz, hr3,
      hl.imp id fun z => by rw [hl3]; exact z⟩
  · exact wpAny_pure (hR _ sb1 ⟨_, es1, _, t2, ho1, hex, rfl, g1, nd1, m1, hb1, hf2, rfl, hr, hl⟩)
theorem setM_add_hashed {k : Key} {v : Value} {Q : Bool → Shared → Prop} (rv : RelV (kV k) v) (R : SetM P w s.heap a S n) (room : n + 1 < scanBound)
    (hQ : ∀ h', Heap.SameBut a s.heap h' → SetM P w h' a (fun j => S j || decide (j = k)) (if S k = true then n else n + 1) → Q (!S k) { s with heap := h' }) :
    wpAny (model P w) A (setAddHashed a v ((mixKind P w).hash k)) Q E s := by
  obtain ⟨o, es, ep, t, ho, hex, hd, g, nd, hm, hb, hf, hn, hr, hl⟩ := R
  have hkey : (mixKind P w).is k v = true := kV_is rv
  have hsc : v.scannable = true := key_scan rv
  have hel : ElemsOf (mixKind P w) es.toList := goodM_elems g
  unfold setAddHashed setAddHashedIn
  refine wpAny_holding (wpAny_bind (wpAny_setState_of ho hd hf ?_))
  dsimp only
  rw [byScan_of hsc hb hel]
  simp only [↓reduceIte]
  unfold setAddByScan
  refine wpAny_bind ?_
  refine wpAny_bind (wpAny_rule ?_)
  refine wpAny_bind (wpAny_setScan_of hkey ho hd hf hel ?_)
  cases hfi : List.findIdx? (fun e => (mixKind P w).is k e.2) es.toList with
  | some j =>
    dsimp only
    obtain ⟨hj, pj, _⟩ := List.findIdx?_eq_some_iff_getElem.mp hfi
    have hSk : S k = true := (hm k).2 ((goodM_mem g k).2 ⟨es.toList[j], List.getElem_mem hj, pj⟩)
    refine wpAny_pure (wpAny_pure ?_)
    have q := hQ s.heap (Heap.SameBut.refl a s.heap) ⟨o, es, ep, t, ho, hex, hd, g, nd, fun i => by
      rw [Bool.or_eq_true, decide_eq_true_eq, ← hm i]
      exact ⟨fun z => z.elim id (fun e => e ▸ hSk), .inl⟩, hb, hf, by rw [if_pos hSk]; exact hn, hr, hl⟩
    rw [hSk] at q
    exact q
  | none =>
    dsimp only
    have hnk : k ∉ es.toList.map keyM := fun z => by
      obtain ⟨e, he, q⟩ := (goodM_mem g k).1 z
      have c := List.findIdx?_eq_none_iff.mp hfi e he
      rw [q] at c
      cases c
    have hSk : S k = false := by
      cases q : S k with
      | false => rfl
      | true => exact absurd ((hm k).1 q) hnk
    have hgw : ∀ (b : Bool) {s₁ : Shared} {Q' : Unit → Shared → Prop}, Q' () s₁ → wpAny (model P w) A (match b with | true => rule "set.scan.the-table-gave-way" | false => pure ()) Q' E s₁ :=
      fun b s₁ Q' q => by cases b <;> first | exact wpAny_pure q | exact wpAny_rule q
    have pm := layNew_perm t es ((mixKind P w).hash k) v
    have hf1 := layNew_fits t es ((mixKind P w).hash k) v
    have hr1 := layNew_ris t es ((mixKind P w).hash k) v hr
    have hl1 := layNew_led t es ((mixKind P w).hash k) v
    generalize layNew t es ((mixKind P w).hash k) v = Z at pm hf1 hr1 hl1 ⊢
    obtain ⟨es1, t1, wasDummy, gave⟩ := Z
    dsimp only at pm hf1 hr1 hl1 ⊢
    rw [Array.toList_push] at pm
    have pc : es1.toList.Perm (((mixKind P w).hash k, v) :: es.toList) := pm.trans (List.perm_append_singleton _ _)
    have pk : (es1.toList.map keyM).Perm (k :: es.toList.map keyM) := by
      have := pc.map keyM
      rwa [List.map_cons, keyM_of rv] at this
    have g1 : ∀ e ∈ es1.toList, GoodM P w e := fun e he => by
      rcases List.mem_cons.mp (pc.mem_iff.mp he) with z | z
      · rw [z]; exact ⟨k, rv, rfl⟩
      · exact g e z
    have nd1 : (es1.toList.map keyM).Nodup := pk.nodup_iff.mpr (List.nodup_cons.mpr ⟨hnk, nd⟩)
    have m1 : ∀ i, (S i || decide (i = k)) = true ↔ i ∈ es1.toList.map keyM := fun i => by
      rw [Bool.or_eq_true, decide_eq_true_eq, hm i, pk.mem_iff, List.mem_cons]
      exact Or.comm
    have hsz : es1.size = n + 1 := by rw [← Array.length_toList, pc.length_eq, List.length_cons, Array.length_toList, hn]
    have hb1 : es1.size < scanBound := by rw [hsz]; exact room
    have hled : w.params.followText "set-order" = true ∨ t1.led = true := hl.imp id fun z => by rw [hl1]; exact z
    have fin : ∀ h', Heap.SameBut a s.heap h' → SetM P w h' a (fun j => S j || decide (j = k)) es1.size → Q true { s with heap := h' } := fun h' sb r => by
      have q := hQ h' sb
      rw [hSk] at q
      rw [hsz] at r
      exact q r
    refine wpAny_bind (hgw _ ?_)
    split
    · refine wpAny_bind ?_
      rw [hashByValue_scannable 8 hsc]
      refine wpAny_pure ?_
      refine setM_add_tail ?_ ho hex hd g1 nd1 m1 hb1 ?_ ?_ ?_ ?_
      · intro b s₁ Q' q; cases b <;> first | exact wpAny_pure q | exact wpAny_rule q
      · first | (split <;> first | exact hf1 | exact SetTable.fits_plain_off hf1) | exact hf1
      · first | (split <;> exact hr1) | exact hr1
      · first | (split <;> exact hled) | exact hled
      · intro h' sb r; dsimp only; exact wpAny_pure (fin h' sb r)
    · refine wpAny_bind (wpAny_pure ?_)
      simp only [↓reduceIte]
      refine setM_add_tail ?_ ho hex hd g1 nd1 m1 hb1 hf1 hr1 hled ?_
      · intro b s₁ Q' q; cases b <;> first | exact wpAny_pure q | exact wpAny_rule q
      · intro h' sb r; dsimp only; exact wpAny_pure (fin h' sb r)
end
/-! ### set(xs) -/
open Classical in
noncomputable def ded : List Key → List Key → List Key
  | acc, [] => acc
  | acc, k :: ks => ded (if k ∈ acc then acc else acc ++ [k]) ks
open Classical in
theorem ded_snoc : ∀ (ks acc : List Key) (k : Key), ded acc (ks ++ [k]) = if k ∈ ded acc ks then ded acc ks else ded acc ks ++ [k]
  | [], acc, k => rfl
  | j :: ks, acc, k => by rw [List.cons_append, ded, ded, ded_snoc ks]
open Classical in
theorem ded_len : ∀ (ks acc : List Key), (ded acc ks).length ≤ acc.length + ks.length
  | [], acc => by simp [ded]
  | k :: ks, acc => by
    rw [ded]
    by_cases c : k ∈ acc
    · rw [if_pos c]
      have := ded_len ks acc
      simp; omega
    · rw [if_neg c]
      have := ded_len ks (acc ++ [k])
      simp at this ⊢; omega
open Classical in
theorem ded_le : ∀ (ks acc : List Key), acc.length ≤ (ded acc ks).length
  | [], acc => Nat.le_refl _
  | k :: ks, acc => by
    rw [ded]
    have := ded_le ks (if k ∈ acc then acc else acc ++ [k])
    refine Nat.le_trans ?_ this
    split <;> simp
open Classical in
theorem ded_app : ∀ (ks js acc : List Key), ded acc (ks ++ js) = ded (ded acc ks) js
  | [], js, acc => rfl
  | k :: ks, js, acc => by rw [List.cons_append, ded, ded, ded_app ks]
theorem ded_pre (xs : List Key) (i : Nat) : (ded [] (xs.take i)).length ≤ (ded [] xs).length := by
  have h := ded_app (xs.take i) (xs.drop i) []
  rw [List.take_append_drop] at h
  rw [h]
  exact ded_le _ _
section
variable {prog : Program} {w : World} {A : Around} {R : Result → Shared → Prop} {I : Addr} {fp wr : List Addr} {G : Array GenState → Array GenState → Prop} {n : Nat} {P : Nat → Value → Prop} {St : Nat → Shared → Prop}
open Classical in
theorem loopM (W : WalksS prog w A.in1 I fp wr G n P St) (S : Addr) (hSf : S ∉ fp) (xs : List Key) (hsz : xs.length = n) (hb : (ded [] xs).length + 1 < scanBound)
    (hval : ∀ i v, P i v → ∃ k, xs[i]? = some k ∧ RelV (kV k) v) :
    ∀ (k i : Nat) (s : Shared), n - i = k → i ≤ n → St i s →
      SetM prog w s.heap S (fun k' => decide (k' ∈ ded [] (xs.take i))) (ded [] (xs.take i)).length →
      (∀ s', Moved (S :: wr) G s s' → SetM prog w s'.heap S (fun k' => decide (k' ∈ ded [] xs)) (ded [] xs).length → R (.ok (.ret .none)) s') →
      codeAny (model prog w) A (.builtin "set.update.loop" ⟨[.ref S, .ref I], []⟩) R s := by
  have hSw : S ∉ wr := fun h => hSf (W.sub _ h)
  have hsub : ∀ b ∈ wr, b ∈ S :: wr := fun b hb => List.mem_cons_of_mem _ hb
  intro k
  induction k with
  | zero =>
    intro i s hk hi hst hS hR
    have hin : i = n := by omega
    subst hin
    refine codeAny_builtin PyProof.Rows.F.entry_set_update_loop ?_
    rw [Around.under_plainId PyProof.Rows.F.plain_set_update_loop _]
    show wpAny _ A.in1 (pyNext (.ref I) >>= _) _ _ s
    refine wpAny_bind (W.done s _ _ hst fun s' hm => ?_)
    show wpAny _ A.in1 (ret Value.none) _ _ s'
    rw [← hsz, List.take_length] at hS
    exact wpAny_pure (hR s' (hm.mono hsub) (hS.at fun o ho => hm.heap S _ hSw ho))
  | succ k ih =>
    intro i s hk hi hst hS hR
    have hlt : i < n := by omega
    refine codeAny_builtin PyProof.Rows.F.entry_set_update_loop ?_
    rw [Around.under_plainId PyProof.Rows.F.plain_set_update_loop _]
    show wpAny _ A.in1 (pyNext (.ref I) >>= _) _ _ s
    refine wpAny_bind (W.item i s _ _ hlt hst fun v s' hP hst' hm => ?_)
    obtain ⟨kk, hkk, rv⟩ := hval i v hP
    have hS' := hS.at (h' := s'.heap) fun o ho => hm.heap S _ hSw ho
    show wpAny _ A.in1 (holding [v] (setAdd S v) >>= _) _ _ s'
    refine wpAny_bind (wpAny_holding ?_)
    unfold setAdd
    refine wpAny_holding ?_
    refine wpAny_bind ((mixKind prog w).pyHash (k := kk) (kV_is rv) ?_)
    have hroom : (ded [] (xs.take i)).length + 1 < scanBound := by
      have := ded_pre xs i
      omega
    refine setM_add_hashed (s := { s' with toks := s'.toks + 1 }) rv hS' hroom fun h' hsb hS2 => ?_
    have e1 : xs.take (i + 1) = xs.take i ++ [kk] := by
      rw [List.take_add_one, hkk]; rfl
    have hSi : SetM prog w h' S (fun k' => decide (k' ∈ ded [] (xs.take (i + 1)))) (ded [] (xs.take (i + 1))).length := by
      refine hS2.congr (fun k' => ?_) ?_
      · rw [e1, ded_snoc]
        by_cases c : kk ∈ ded [] (xs.take i)
        · rw [if_pos c]
          by_cases d : k' = kk
          · subst d; simp [c]
          · simp [d]
        · rw [if_neg c]
          simp
      · rw [e1, ded_snoc]
        by_cases c : kk ∈ ded [] (xs.take i)
        · simp [c]
        · simp [c]
    refine wpAny_pure ⟨plainId_quiet PyProof.Rows.F.plain_set_update_loop _, ih (i + 1) _ (by omega) hlt (W.frame _ s' _ _ hst' (Nat.le_succ _) fun b hb o e => ?_) hSi fun s'' hm'' hS'' => ?_⟩
    · rw [hsb.2 b (fun h : b = S => hSf (by rw [← h]; exact hb))]; exact e
    · refine hR s'' (Moved.trans W.gtrans ((hm.mono hsub).then_heap (Nat.le_succ _) fun b o hb e => ?_) hm'') hS''
      rw [hsb.2 b (fun h : b = S => hb (by rw [h]; exact List.mem_cons_self))]; exact e
end

theorem keys_at : ∀ {us : List Value} {xs : List Key}, Vals (xs.map kV) us → ∀ (i : Nat) (v : Value), us[i]? = some v → ∃ k, xs[i]? = some k ∧ RelV (kV k) v
  | [], xs, h, i, v, e => by simp at e
  | u :: us, [], h, i, v, e => by cases h
  | u :: us, x :: xs, h, 0, v, e => by
    cases h with
    | cons r t => simp at e; subst e; exact ⟨x, rfl, r⟩
  | u :: us, x :: xs, h, i + 1, v, e => by
    cases h with
    | cons r t => exact keys_at t i v (by simpa using e)
open Classical in
theorem setM_fresh {P : Program} {w : World} {h : Heap} {a : Addr} {xs : List Key} (hg : h.get? a = some { cls := .type "set", dict := none, data := .set #[] 0 (.fresh 0 0 (!w.params.followText "set-order")) }) : SetM P w h a (fun k' => decide (k' ∈ ded [] (List.take 0 xs))) (ded [] (List.take 0 xs)).length := by
  refine ⟨_, #[], 0, _, hg, ⟨rfl, rfl, rfl⟩, rfl, fun e he => by simp at he, by simp, fun k => by simp [ded], by decide, by rfl, rfl, ?_, ?_⟩
  · unfold Ris
    exact List.Pairwise.nil
  · show _ ∨ (!w.params.followText "set-order") = true
    cases w.params.followText "set-order"
    · exact .inr rfl
    · exact .inl rfl
section
variable {prog : Program} {w : World} {A : Around} {E : Value → Shared → Prop} {s : Shared}
theorem code_set_led1 (a : Value) {Q₁ : Value → Shared → Prop}
    (h : Q₁ (.ref s.heap.objs.size) { s with heap := s.heap.push { cls := .type "set", dict := none, data := .set #[] 0 (.fresh 0 0 (!w.params.followText "set-order")) } }) :
    codeAny (model prog w) A (.call (.builtin "set.__new__") ⟨[.type "set", a], []⟩) (wants Q₁ E) s := by
  refine codeAny_of_tree ?_
  show wpAny _ A.in1 (do checkBuiltinCall "set.__new__" ⟨[.type "set", a], []⟩; again (.builtin "set.__new__" ⟨[.type "set", a], []⟩)) _ _ s
  refine wpAny_bind (wpAny_of_eq (PySem.F.newCall_set_1 a) (wpAny_pure ⟨plainId_quiet PySem.F.plain_set_new _, codeAny_builtin PySem.F.entry_set_new ?_⟩))
  rw [Around.under_plainId PySem.F.plain_set_new _]
  unfold Builtin.«set.__new__» Builtin.Frozenset.newClass
  have hsub := sub_set_self
  obtain ⟨hp, g, d, tk, os⟩ := s
  dsimp only
  wp_walk
  refine wpAny_askSetting (wpAny_pure ?_)
  dsimp only
  simp only [newObj]
  refine wpAny_bind (wpAny_alloc (wpAny_pure ?_))
  exact wpAny_pure h
set_option maxHeartbeats 3200000 in
open Classical in
theorem call_set_listM {l : Addr} {items : Array Value} {xs : List Key} {Q : Value → Shared → Prop}
    (hh : A.handled = none) (hl : s.heap.IsList l items) (hi : Vals (xs.map kV) items.toList) (hb : (ded [] xs).length + 1 < scanBound)
    (h : ∀ (h' : Heap) (tk : Nat), SetM prog w h' s.heap.objs.size (fun k' => decide (k' ∈ ded [] xs)) (ded [] xs).length →
      (∀ b o, b < s.heap.objs.size → s.heap.get? b = some o → h'.get? b = some o) → Q (.ref s.heap.objs.size) { s with heap := h', toks := tk }) :
    wpAny (model prog w) A (call (.type "set") [.ref l]) Q E s := by
  obtain ⟨c, tl, hmro⟩ := PySem.F.called_set.mro
  have hmade := PySem.F.called_set.made
  have hsub := PySem.F.called_set.sub
  refine wpAny_call (codeAny_of_tree ?_)
  show wpAny _ _ (callAny (.type "set") _) _ _ _
  refine wpAny_pure ⟨Code.quiet_builtin _ (by decide +kernel), codeAny_builtin PySem.F.entry_type_call ?_⟩
  rw [Around.under_plain (weight_type_call_type "set" [.ref l] []) rfl]
  have h1 := PySem.F.called_set.notType
  have h2 := PySem.F.called_set.canCreate
  have hct := PySem.F.typeCall_set_1 (.ref l)
  repeat (any_goals (first | assumption | wp_step))

  refine codeAny_mono (code_set_led1 (.ref l) (E := E) (Q₁ := fun obj s₁ => obj = .ref s.heap.objs.size ∧ s₁ = { s with heap := s.heap.push { cls := .type "set", dict := none, data := .set #[] 0 (.fresh 0 0 (!w.params.followText "set-order")) } }) ⟨rfl, rfl⟩) fun r s₁ hr => ?_
  cases r with
  | error e => exact hr
  | ok fl =>
    cases fl with
    | ret obj =>
      obtain ⟨rfl, rfl⟩ := hr
      have hS : (s.heap.push { cls := .type "set", dict := none, data := .set #[] 0 (.fresh 0 0 (!w.params.followText "set-order")) }).get? s.heap.objs.size = some { cls := .type "set", dict := none, data := .set #[] 0 (.fresh 0 0 (!w.params.followText "set-order")) } := Heap.get?_push_size _ rfl
      have hT : Shared.TypeIs { s with heap := s.heap.push { cls := .type "set", dict := none, data := .set #[] 0 (.fresh 0 0 (!w.params.followText "set-order")) } } (.ref s.heap.objs.size) "set" := ⟨_, hS, rfl⟩
      have hli := PySem.F.called_set.init.lookup
      have hbi := PySem.F.called_set.init.bind (.ref s.heap.objs.size)
      repeat (any_goals (first | assumption | wp_step))

      refine codeAny_mono (codeAny_call_builtin (R := wants (fun r s₂ => r = .none ∧ ∃ h' tk, s₂ = { s with heap := h', toks := tk } ∧
          SetM prog w h' s.heap.objs.size (fun k' => decide (k' ∈ ded [] xs)) (ded [] xs).length ∧
          (∀ b o, b < s.heap.objs.size → s.heap.get? b = some o → h'.get? b = some o)) E) PySem.F.called_set.init.plain PySem.F.entry_set_init (check_set_init_1 hT ?_)) fun r₂ s₂ hr₂ => ?_
      · obtain ⟨ol, hol, hcl, nl, hdl⟩ := hl
        obtain ⟨ocls, odict, odata, oslots⟩ := ol
        simp only at hcl hdl
        subst hcl; subst hdl
        have hol' : (s.heap.push { cls := .type "set", dict := none, data := .set #[] 0 (.fresh 0 0 (!w.params.followText "set-order")) }).get? l = some { cls := .type "list", dict := odict, data := .seq items nl, slots := oslots } := Heap.get?_push_of_some _ hol
        have hsls := PySem.F.sub_list_set
        have hslf := PySem.F.sub_list_frozenset
        have hne : (Value.type "list" == Value.type "dict") = false := by decide
        have hl1 : (s.heap.push { cls := .type "set", dict := none, data := .set #[] 0 (.fresh 0 0 (!w.params.followText "set-order")) }).IsList l items := ⟨_, hol', rfl, nl, rfl⟩
        unfold Builtin.«set.__init__» noKeywords Builtin.Frozenset.updateFrom
        generalize hPI : pyIter = PI
        wp_walk
        subst hPI

        refine wpAny_pyIter_list hl1 ?_
        refine wpAny_bind (wpAny_runValue ?_)
        have hlS : l < s.heap.objs.size := Heap.lt_size hol
        have hh3 : A.in1.in1.in1.handled = none := by simp [hh]
        have hneI : l ≠ (s.heap.push { cls := .type "set", dict := none, data := .set #[] 0 (.fresh 0 0 (!w.params.followText "set-order")) }).objs.size := by
          rw [Heap.size_push]; exact Nat.ne_of_lt (Nat.lt_succ_of_lt hlS)
        have hSf : s.heap.objs.size ∉ [(s.heap.push { cls := .type "set", dict := none, data := .set #[] 0 (.fresh 0 0 (!w.params.followText "set-order")) }).objs.size, l] := by
          rw [Heap.size_push]; simp only [List.mem_cons, List.mem_singleton, List.not_mem_nil, or_false, not_or]
          exact ⟨Nat.ne_of_lt (Nat.lt_succ_self _), Nat.ne_of_gt hlS⟩
        have hsz : xs.length = items.size := by rw [← Array.length_toList, ← hi.length, List.length_map]
        have hval : ∀ (i : Nat) (v : Value), items[i]? = some v → ∃ k, xs[i]? = some k ∧ RelV (kV k) v := fun i v hv => keys_at hi i v (by rw [Array.getElem?_toList]; exact hv)
        refine loopM ((Walks.list hh3 _ l hneI items).toS) s.heap.objs.size
          hSf xs hsz hb hval (items.size - 0) 0 _ (by omega) (Nat.zero_le _)
          ⟨⟨_, Heap.get?_push_size _ rfl, rfl, rfl⟩, (hl1.push _)⟩ ?hS0 ?hR
        case hS0 =>
          have hget : ((s.heap.push { cls := .type "set", dict := none, data := .set #[] 0 (.fresh 0 0 (!w.params.followText "set-order")) }).push { cls := .type "list_iterator", data := .fields #[.ref l, .int 0 0] }).get? s.heap.objs.size
              = some { cls := .type "set", dict := none, data := .set #[] 0 (.fresh 0 0 (!w.params.followText "set-order")) } := Heap.get?_push_of_some _ hS
          exact setM_fresh hget
        case hR =>
          intro s' hm hS'
          obtain ⟨h', g', d', tk', os'⟩ := s'
          have eg : g' = s.gens := hm.gens
          have ed : d' = s.drawn := hm.drawn
          have eo : os' = s.os := hm.os
          subst eg; subst ed; subst eo
          show wpAny _ _ _ _ _ _
          refine wpAny_pure ?_
          show wpAny _ _ (ret Value.none) _ _ _
          refine wpAny_pure ⟨rfl, h', tk', rfl, hS', fun b o hb e => ?_⟩
          have hb1 : b ≠ s.heap.objs.size := Nat.ne_of_lt hb
          have hb2 : b ≠ (s.heap.push { cls := .type "set", dict := none, data := .set #[] 0 (.fresh 0 0 (!w.params.followText "set-order")) }).objs.size := by
            rw [Heap.size_push]; exact Nat.ne_of_lt (Nat.lt_succ_of_lt hb)
          exact hm.heap b o (by simp only [List.mem_cons, List.mem_singleton, List.not_mem_nil, or_false, not_or]; exact ⟨hb1, hb2⟩) (Heap.get?_push_of_some _ (Heap.get?_push_of_some _ e))

      · cases r₂ with
        | error e => exact hr₂
        | ok fl₂ =>
          cases fl₂ with
          | ret r =>
            obtain ⟨rfl, h', tk, rfl, hS', hk'⟩ := hr₂
            repeat (any_goals (first | assumption | wp_step))
            exact h _ _ hS' hk'
          | _ => exact hr₂.elim
    | _ => exact hr.elim

end
end Mi
end
section
set_option Elab.async false
set_option linter.all false
set_option maxRecDepth 100000
set_option maxHeartbeats 2000000
/-! MiSetS: sorted(set(xs)). -/
namespace Mi
open PySem PySem.Spec L2 PyProof.Rows
def encK : Key → PyData
  | .inl i => .int i
  | .inr x => .str x
theorem reads_key {h : Heap} {k : Key} {v : Value} (r : RelV (kV k) v) : Reads h v (encK k) [] := by
  cases k with
  | inl i => obtain ⟨t, rfl⟩ := r; exact .int _ _
  | inr x => obtain ⟨t, rfl⟩ := r; exact .str _ _
/-- keys that may be sorted -/
def OneKind (ks : List Key) : Prop := (∀ k ∈ ks, ∃ i, k = .inl i) ∨ ∀ k ∈ ks, ∃ x, k = .inr x
theorem kind_alike {ks : List Key} (h : OneKind ks) : PySem.W.AllAlike (ks.map encK) := by
  intro d hd d' hd'
  obtain ⟨b, hb, rfl⟩ := List.mem_map.mp hd
  obtain ⟨b', hb', rfl⟩ := List.mem_map.mp hd'
  rcases h with h | h
  · obtain ⟨i, rfl⟩ := h b hb
    obtain ⟨j, rfl⟩ := h b' hb'
    simp [encK, PySem.W.alike]
  · obtain ⟨i, rfl⟩ := h b hb
    obtain ⟨j, rfl⟩ := h b' hb'
    simp [encK, PySem.W.alike]
theorem kind_sortable (ks : List Key) : PySem.W.Sortable (ks.map encK) := .inr fun d hd => by
  obtain ⟨b, hb, rfl⟩ := List.mem_map.mp hd
  cases b <;> simp [encK]
theorem each_keys : ∀ {vs : List Value}, (∀ v ∈ vs, ∃ k, RelV (kV k) v) → PySem.W.EachIs (fun v k => RelV (kV k) v) vs (vs.map fun v => keyM (0, v))
  | [], _ => .nil
  | v :: vs, h => by
    obtain ⟨k, r⟩ := h v List.mem_cons_self
    refine .cons ?_ (each_keys fun u hu => h u (List.mem_cons_of_mem _ hu))
    show RelV (kV (keyM (0, v))) v
    rw [keyM_of r]; exact r
theorem each_vals : ∀ {vs : List Value} {ks : List Key}, PySem.W.EachIs (fun v k => RelV (kV k) v) vs ks → Vals (ks.map kV) vs
  | _, _, .nil => .nil
  | _, _, .cons r t => .cons r (each_vals t)
section
variable {P : Program} {w : World} {A : Around} {E : Value → Shared → Prop} {s : Shared}
theorem sorted_setM {a : Addr} {S : Key → Bool} {n : Nat} {Q : Value → Shared → Prop} (R : SetM P w s.heap a S n) (hh : A.handled = none) (hu : A.units + 10 < cLine) (hk : ∀ ks : List Key, (∀ k ∈ ks, S k = true) → OneKind ks)
    (hQ : ∀ s' p (out : Array Value) (c : Nat) (bs : List Key), (∀ b o, s.heap.get? b = some o → s'.heap.get? b = some o) → s'.gens = s.gens → s'.os = s.os → s.heap.objs.size ≤ p →
      s'.heap.get? p = some (seqObj "list" out c) → bs.Nodup → (∀ k, k ∈ bs ↔ S k = true) → Vals ((bs.mergeSort (PySem.W.dataLe false encK)).map kV) out.toList → Q (.ref p) s') :
    wpAny (model P w) A (call (.builtin "sorted") [.ref a]) Q E s := by
  obtain ⟨o, es, ep, t, ho, hex, hd, g, nd, hm, hb, hf, hn, hr, hl⟩ := R
  refine Calls.call_function_entry kind_sorted plain_sorted entry_sorted (args_sorted1 _) ?_
  unfold Builtin.«sorted»
  refine wpAny_bind (m := checkCount "sorted" 1 1 _) (wpAny_pure ?_)
  refine wpAny_bind (collect_set (A := A.in1) hh ⟨o, ho, hex.1, hd⟩ hf hb hr hl fun s1 vs k1 hz g1 o1 pm => ?_)
  have hvl : vs.length = es.size := by rw [pm.length_eq, List.length_map, Array.length_toList]
  have hvs : ∀ v ∈ vs, ∃ k, RelV (kV k) v := fun v hv => by
    obtain ⟨e, he, q⟩ := List.mem_map.mp (pm.mem_iff.mp hv)
    obtain ⟨k, h1, _⟩ := g e he
    exact ⟨k, by rw [← q]; exact h1⟩
  have pk : (vs.map fun v => keyM (0, v)).Perm (es.toList.map keyM) := by
    have q := pm.map fun v => keyM (0, v)
    rw [List.map_map] at q
    exact q
  have hbd : scanBound ≤ 4096 := by decide
  have hsz : vs.length ≤ sizeLine := by rw [sizeLine_eq]; omega
  refine wpAny_bind (wpAny_newList ?_ hsz)
  have hoL : (s1.heap.push (seqObj "list" vs.toArray 0)).get? s1.heap.objs.size = some (seqObj "list" vs.toArray 0) := Heap.get?_push_size _ rfl
  have hmem : ∀ k, k ∈ (vs.map fun v => keyM (0, v)) ↔ S k = true := fun k => by rw [pk.mem_iff, hm k]
  have hone := hk (vs.map fun v => keyM (0, v)) fun k h => (hmem k).1 h
  have ee := each_keys hvs
  refine wpAny_bind (wpAny_holding (PySem.W.list_sort_data (s := { s1 with heap := s1.heap.push (seqObj "list" vs.toArray 0) }) (enc := encK) hoL ee (ee.mono fun v k r => ⟨[], reads_key r, by simp⟩) (kind_alike hone) (kind_sortable _) (by rw [List.length_map]; exact hsz) (fun b hb => ?_) fun out hl2 he => ?_))
  · have : (encK b).depth = 0 := by cases b <;> simp [encK, PyData.depth]
    rw [this]
    show A.units + 1 + 1 + 0 < cLine
    omega
  · obtain ⟨c, hc⟩ := sortedHeap_at (vs := vs) (out := out.toArray) hoL
    refine wpAny_pure ⟨_, rfl, hQ _ s1.heap.objs.size out.toArray c _ (fun b u e => ?_) g1 o1 hz hc (pk.nodup_iff.mpr nd) hmem (by simpa using each_vals he)⟩
    have q := k1 b u e
    have hlt := Heap.lt_size q
    show (sortedHeap (s1.heap.push (seqObj "list" vs.toArray 0)) s1.heap.objs.size vs out.toArray).get? b = some u
    rw [sortedHeap_old (Nat.ne_of_lt hlt) (by rw [size_push']; exact Nat.lt_succ_of_lt hlt)]
    exact Heap.get?_push_of_some _ q
end
section
variable {X : Cx}
/-- sorted(set(xs)) -/
def tSortSet (K : PySem.W.Frag) (ta : TE) : TE := fun σ H Q => ta σ H fun x H1 => ∃ (l : Addr) (ks : List Key), x = .ref l ∧ SqL K H1 l (ks.map kV) ∧ (ded [] ks).length ≤ 4000 ∧ OneKind ks ∧
  ∀ (bs : List Key) (p : Addr), bs.Nodup → (∀ k, k ∈ bs ↔ k ∈ ks) → H1 p = none → Q (.ref p) (upd H1 p (.lst ((bs.mergeSort (PySem.W.dataLe false encK)).map kV)))
theorem boot_sorted' : bootBuiltins "sorted" = some (.builtin "sorted") := by kernel_rfl
open Classical in
theorem ded_mem : ∀ (ks acc : List Key) (k : Key), k ∈ ded acc ks ↔ k ∈ acc ∨ k ∈ ks
  | [], acc, k => by simp [ded]
  | j :: ks, acc, k => by
    rw [ded, ded_mem ks]
    by_cases c : j ∈ acc
    · rw [if_pos c, List.mem_cons]
      constructor
      · rintro (h | h)
        · exact .inl h
        · exact .inr (.inr h)
      · rintro (h | h | h)
        · exact .inl h
        · subst h; exact .inl c
        · exact .inr h
    · rw [if_neg c]
      simp [or_assoc]
theorem nodup_len : ∀ (l D : List Key), l.Nodup → (∀ x ∈ l, x ∈ D) → l.length ≤ D.length
  | [], _, _, _ => Nat.zero_le _
  | x :: l, D, hn, hs => by
    classical
    obtain ⟨h1, h2⟩ := List.nodup_cons.mp hn
    have hx : x ∈ D := hs x List.mem_cons_self
    obtain ⟨A, B, rfl⟩ := List.append_of_mem hx
    have ih := nodup_len l (A ++ B) h2 fun y hy => by
      have hne : y ≠ x := fun e => h1 (e ▸ hy)
      have := hs y (List.mem_cons_of_mem _ hy)
      simp [hne] at this ⊢; exact this
    simp at ih ⊢; omega
open Classical in
theorem pe_sortSet {a : Expr} {ta : TE} {p p2 q pos : Pos} (hc : X.calm = true) (hu : X.A.units + 20 < cLine) (hg : Gl X "sorted") (hm : X.mg "sorted" = none) (hg2 : Gl X "set") (hm2 : X.mg "set" = none) (ha : PE X a ta)
    (na : starEach [a] X.env = (false, eval a X.env) :: starEach [] X.env) : PE X (.Call (.Name "sorted" p) [.Call (.Name "set" p2) [a] [] q] [] pos) (tSortSet X.K ta) := by
  refine ⟨fun pins s σ H Q I h => ?_⟩
  refine Call_ (ld_blt I hg hm boot_sorted' ?_)
  refine PyProof.Rows.callWith_builtin1 (PyProof.Rows.args_cons ?_ rfl) rfl rfl
  refine Call_ (ld_blt I hg2 hm2 boot_set ?_)
  refine PyProof.Rows.callWith_type1 (PyProof.Rows.args_cons (thn (ha.run pins s σ H _ I h) fun v s1 ⟨x, H1, I1, r1, q1⟩ => PyProof.Rows.args_nil ?_) na) na rfl
  obtain ⟨l, ks, rfl, hq, hl, hk, q1⟩ := q1
  cases r1
  obtain ⟨its, r, pl, hz⟩ := I1.list hq
  have hlen : its.toArray.size = ks.length := by rw [List.size_toArray, ← r.length, List.length_map]
  have hbd : 4096 ≤ scanBound := by decide
  refine call_set_listM (I1.ok.hd hc) pl.isList (by simpa using r) (by omega) fun h' tk hS hkk => ?_
  refine PyProof.Rows.args_nil ?_
  have I2 : Inv X pins σ H1 { s1 with heap := h', toks := tk } := I1.kept fun b o e => hkk b o (Heap.lt_size e) e
  refine sorted_setM hS (I1.ok.hd hc) (by omega) (fun js hj => ?_) fun s' p out c bs k g o hp hg hnd hmem hv => ?_
  · have : ∀ j ∈ js, j ∈ ks := fun j h => by
      have := hj j h
      have := (ded_mem ks [] j).1 (of_decide_eq_true this)
      simpa using this
    rcases hk with hk | hk
    · exact .inl fun j h => hk j (this j h)
    · exact .inr fun j h => hk j (this j h)
  · have hmem2 : ∀ k, k ∈ bs ↔ k ∈ ks := fun k => by
      rw [hmem k, decide_eq_true_iff, ded_mem]; simp
    have hn : H1 p = none := I2.hok.fresh hp
    have hlen2 : ((bs.mergeSort (PySem.W.dataLe false encK)).map kV).length ≤ sizeLine := by
      have h1 : bs.length ≤ (ded [] ks).length := nodup_len bs (ded [] ks) hnd fun k h => of_decide_eq_true ((hmem k).1 h)
      rw [List.length_map, List.length_mergeSort, sizeLine_eq]; omega
    have J : Inv X pins σ (upd H1 p (.lst ((bs.mergeSort (PySem.W.dataLe false encK)).map kV))) { ({ s1 with heap := h', toks := tk } : Shared) with heap := s'.heap, gens := s'.gens, drawn := s'.drawn, toks := s'.toks } :=
      I2.call (ch := []) (Un.laid k hp hn) (I2.hok.laid k hp ⟨hlen2, out.toList, c, hv, hg⟩) (by rw [g]; exact I2.bare) (fun _ z => nomatch z)
    have e : s' = { ({ s1 with heap := h', toks := tk } : Shared) with heap := s'.heap, gens := s'.gens, drawn := s'.drawn, toks := s'.toks } := by
      cases s'
      cases s1
      cases o
      rfl
    rw [e]
    exact ⟨.ref p, _, J, rfl, q1 bs p hnd hmem2 hn⟩
end
end Mi
end
section
set_option Elab.async false
set_option linter.all false
set_option maxRecDepth 100000
/-! MiSk: sorted keys, whatever the order they came in. -/
namespace Mi
open PySem PySem.Spec L2
def leS (a b : Str) : Bool := decide (a.cps.toList ≤ b.cps.toList)
def leI (a b : Int) : Bool := decide (a ≤ b)
theorem str_ext {a b : Str} (h : a.cps.toList = b.cps.toList) : a = b := by
  cases a; cases b; simp at h; subst h; rfl
theorem leS_trans (a b c : Str) (h1 : leS a b = true) (h2 : leS b c = true) : leS a c = true := by
  simp only [leS, decide_eq_true_eq] at *
  exact List.le_trans h1 h2
theorem leS_total (a b : Str) : (leS a b || leS b a) = true := by
  simp only [leS, Bool.or_eq_true, decide_eq_true_eq]
  exact List.le_total _ _
theorem leS_anti {a b : Str} (h1 : leS a b = true) (h2 : leS b a = true) : a = b := by
  simp only [leS, decide_eq_true_eq] at *
  exact str_ext (List.le_antisymm h1 h2)
theorem leI_trans (a b c : Int) (h1 : leI a b = true) (h2 : leI b c = true) : leI a c = true := by
  simp only [leI, decide_eq_true_eq] at *; omega
theorem leI_total (a b : Int) : (leI a b || leI b a) = true := by
  simp only [leI, Bool.or_eq_true, decide_eq_true_eq]; omega
theorem leI_anti {a b : Int} (h1 : leI a b = true) (h2 : leI b a = true) : a = b := by
  simp only [leI, decide_eq_true_eq] at *; omega
theorem sortS_perm {xs ys : List Str} (p : xs.Perm ys) : xs.mergeSort leS = ys.mergeSort leS :=
  List.Perm.eq_of_pairwise (le := fun a b => leS a b = true) (fun a b _ _ h1 h2 => leS_anti h1 h2) (List.pairwise_mergeSort leS_trans leS_total _) (List.pairwise_mergeSort leS_trans leS_total _) (((List.mergeSort_perm xs leS).trans p).trans (List.mergeSort_perm ys leS).symm)
theorem sortI_perm {xs ys : List Int} (p : xs.Perm ys) : xs.mergeSort leI = ys.mergeSort leI :=
  List.Perm.eq_of_pairwise (le := fun a b => leI a b = true) (fun a b _ _ h1 h2 => leI_anti h1 h2) (List.pairwise_mergeSort leI_trans leI_total _) (List.pairwise_mergeSort leI_trans leI_total _) (((List.mergeSort_perm xs leI).trans p).trans (List.mergeSort_perm ys leI).symm)
theorem le_encS : (fun a b : Str => PySem.W.dataLe false encK (.inr a) (.inr b)) = leS := by
  have := PySem.W.dataLe_str (fun x : Str => x)
  funext a b
  exact congrFun (congrFun this a) b
theorem le_encI : (fun a b : Int => PySem.W.dataLe false encK (.inl a) (.inl b)) = leI := by
  have := PySem.W.dataLe_int (fun x : Int => x)
  funext a b
  exact congrFun (congrFun this a) b
theorem sortK_S (xs : List Str) : (xs.map Sum.inr : List Key).mergeSort (PySem.W.dataLe false encK) = (xs.mergeSort leS).map Sum.inr :=
  (List.map_mergeSort fun a _ b _ => (congrFun (congrFun le_encS a) b).symm).symm
theorem sortK_I (xs : List Int) : (xs.map Sum.inl : List Key).mergeSort (PySem.W.dataLe false encK) = (xs.mergeSort leI).map Sum.inl :=
  (List.map_mergeSort fun a _ b _ => (congrFun (congrFun le_encI a) b).symm).symm
theorem kind_cases {ks : List Key} (h : OneKind ks) : (∃ xs : List Int, ks = xs.map Sum.inl) ∨ ∃ xs : List Str, ks = xs.map Sum.inr := by
  rcases h with h | h
  · left
    induction ks with
    | nil => exact ⟨[], rfl⟩
    | cons k ks ih =>
      obtain ⟨i, rfl⟩ := h k List.mem_cons_self
      obtain ⟨xs, rfl⟩ := ih fun k hk => h k (List.mem_cons_of_mem _ hk)
      exact ⟨i :: xs, rfl⟩
  · right
    induction ks with
    | nil => exact ⟨[], rfl⟩
    | cons k ks ih =>
      obtain ⟨i, rfl⟩ := h k List.mem_cons_self
      obtain ⟨xs, rfl⟩ := ih fun k hk => h k (List.mem_cons_of_mem _ hk)
      exact ⟨i :: xs, rfl⟩
theorem sortK_perm {ks js : List Key} (h : OneKind ks) (p : ks.Perm js) : ks.mergeSort (PySem.W.dataLe false encK) = js.mergeSort (PySem.W.dataLe false encK) := by
  have h2 : OneKind js := h.imp (fun h k hk => h k (p.mem_iff.2 hk)) fun h k hk => h k (p.mem_iff.2 hk)
  rcases kind_cases h with ⟨xs, rfl⟩ | ⟨xs, rfl⟩
  · rcases kind_cases h2 with ⟨ys, rfl⟩ | ⟨ys, rfl⟩
    · rw [sortK_I, sortK_I, sortI_perm]
      have := p.filterMap fun k : Key => k.getLeft?
      simpa [List.filterMap_map, Function.comp_def] using this
    · cases ys with
      | nil => simp at p; subst p; rfl
      | cons y ys => have := p.symm.mem_iff (a := .inr y); simp at this
  · rcases kind_cases h2 with ⟨ys, rfl⟩ | ⟨ys, rfl⟩
    · cases ys with
      | nil => simp at p; subst p; rfl
      | cons y ys => have := p.symm.mem_iff (a := .inl y); simp at this
    · rw [sortK_S, sortK_S, sortS_perm]
      have := p.filterMap fun k : Key => k.getRight?
      simpa [List.filterMap_map, Function.comp_def] using this
theorem keyD_py (k : Key) : (keyD k).py = encK k := by cases k <;> simp [keyD, D.py, encK]
theorem sortD_keys (ks : List Key) : sortD (ks.map keyD) = (ks.mergeSort (PySem.W.dataLe false encK)).map keyD := by
  unfold sortD
  refine (List.map_mergeSort fun a _ b _ => ?_).symm
  rw [PySem.W.dataLe_eq, PySem.W.dataLe_eq]
  simp only [keyD_py]
theorem dedupS_keys : ∀ (ks acc : List Key), acc.Nodup → ∃ dk : List Key, dedupS (ks.map keyD) (acc.map keyD) = dk.map keyD ∧ dk.Nodup ∧ ∀ k, k ∈ dk ↔ k ∈ acc ∨ k ∈ ks
  | [], acc, nd => ⟨acc.reverse, by simp [dedupS], by unfold List.Nodup; rw [List.pairwise_reverse]; exact nd.imp fun h => h.symm, fun k => by simp⟩
  | j :: ks, acc, nd => by
    rw [List.map_cons, dedupS]
    have e : ((acc.map keyD).any fun e => e.eqv (keyD j)) = true ↔ j ∈ acc := by
      rw [List.any_map, List.any_eq_true]
      constructor
      · rintro ⟨x, hx, h⟩
        rw [Function.comp, keyD_eqv, decide_eq_true_eq] at h
        exact h ▸ hx
      · intro h
        exact ⟨j, h, by rw [Function.comp, keyD_eqv]; simp⟩
    by_cases c : j ∈ acc
    · rw [if_pos (e.2 c)]
      obtain ⟨dk, h1, h2, h3⟩ := dedupS_keys ks acc nd
      refine ⟨dk, h1, h2, fun k => ?_⟩
      rw [h3, List.mem_cons]
      constructor
      · rintro (h | h)
        · exact .inl h
        · exact .inr (.inr h)
      · rintro (h | h | h)
        · exact .inl h
        · subst h; exact .inl c
        · exact .inr h
    · rw [if_neg (fun h => c (e.1 h))]
      obtain ⟨dk, h1, h2, h3⟩ := dedupS_keys ks (j :: acc) (List.nodup_cons.2 ⟨c, nd⟩)
      refine ⟨dk, h1, h2, fun k => ?_⟩
      rw [h3, List.mem_cons, List.mem_cons]
      constructor
      · rintro ((h | h) | h)
        · exact .inr (.inl h)
        · exact .inl h
        · exact .inr (.inr h)
      · rintro (h | h | h)
        · exact .inl (.inr h)
        · exact .inl (.inl h)
        · exact .inr h
/-- sorted(set(..)) by the members alone -/
theorem sortset_eq {ks bs : List Key} (h : OneKind ks) (nd : bs.Nodup) (m : ∀ k, k ∈ bs ↔ k ∈ ks) : (bs.mergeSort (PySem.W.dataLe false encK)).map keyD = sortD (dedupS (ks.map keyD) []) := by
  obtain ⟨dk, h1, h2, h3⟩ := dedupS_keys ks [] List.nodup_nil
  rw [List.map_nil] at h1
  rw [h1, sortD_keys, sortK_perm (ks := bs) (js := dk)]
  · exact h.imp (fun h k hk => h k ((m k).1 hk)) fun h k hk => h k ((m k).1 hk)
  · exact (List.perm_ext_iff_of_nodup nd h2).2 fun k => by rw [m, h3]; simp
theorem strs_keys : ∀ {ds : List D}, strsB ds = true → ∃ xs : List Str, ds = (xs.map Sum.inr : List Key).map keyD
  | [], _ => ⟨[], rfl⟩
  | .str x :: ds, h => by
    obtain ⟨xs, e⟩ := strs_keys (ds := ds) (by simpa [strsB] using h)
    exact ⟨x :: xs, by rw [e]; rfl⟩
  | .int _ :: _, h | .non :: _, h | .bl _ :: _, h | .tup _ :: _, h | .lst _ :: _, h | .dict _ :: _, h | .inst _ _ :: _, h | .fn _ :: _, h | .scr _ :: _, h | .ref _ :: _, h => by simp [strsB] at h
theorem ints_keys : ∀ {ds : List D}, intsOf ds = true → ∃ xs : List Int, ds = (xs.map Sum.inl : List Key).map keyD
  | [], _ => ⟨[], rfl⟩
  | .int x :: ds, h => by
    obtain ⟨xs, e⟩ := ints_keys (ds := ds) (by simpa [intsOf] using h)
    exact ⟨x :: xs, by rw [e]; rfl⟩
  | .str _ :: _, h | .non :: _, h | .bl _ :: _, h | .tup _ :: _, h | .lst _ :: _, h | .dict _ :: _, h | .inst _ _ :: _, h | .fn _ :: _, h | .scr _ :: _, h | .ref _ :: _, h => by simp [intsOf] at h
theorem oneKind_of {ds : List D} (h : strsB ds = true ∨ intsOf ds = true) : ∃ ks : List Key, ds = ks.map keyD ∧ OneKind ks := by
  rcases h with h | h
  · obtain ⟨xs, e⟩ := strs_keys h
    exact ⟨_, e, .inr fun k hk => by obtain ⟨x, _, rfl⟩ := List.mem_map.1 hk; exact ⟨x, rfl⟩⟩
  · obtain ⟨xs, e⟩ := ints_keys h
    exact ⟨_, e, .inl fun k hk => by obtain ⟨x, _, rfl⟩ := List.mem_map.1 hk; exact ⟨x, rfl⟩⟩
end Mi
end
section
set_option Elab.async false
set_option linter.all false
set_option maxRecDepth 100000
set_option maxHeartbeats 4000000
/-! MiDt: dict(t) of a tuple of pairs whose object is known. -/
namespace L2
open PySem PySem.Spec PyProof.Rows
/-- a tuple without a dict of its own -/
def KnT (K : PySem.W.Frag) (H : Hp) (a : Addr) (xs : List V) : Prop :=
  (∃ o : Obj, o.dict = none ∧ H a = some (.frz o (.tup xs))) ∨ ∃ (o : Obj) (its : Array Value) (n : Nat), K.lookup a = some o ∧ o.cls = .type "tuple" ∧ o.dict = none ∧ o.data = .seq its n ∧ its.size ≤ sizeLine ∧ Vals xs its.toList
section
variable {X : Cx} {pins : List (Addr × Obj)} {σ : St} {H : Hp} {s : Shared} {a : Addr} {xs : List V}
theorem Inv.known (I : Inv X pins σ H s) (h : KnT X.K H a xs) : ∃ its : List Value, Vals xs its ∧ PlainSeq "tuple" s.heap a its.toArray ∧ xs.length ≤ sizeLine := by
  rcases h with ⟨o, hd, h⟩ | ⟨o, its, n, hk, hc, hd, hs, hz, r⟩
  · obtain ⟨e, z, its, r, ⟨o', e', hc, n, hdt⟩⟩ := (show ObjOk X.prog X.w H s.heap a (.frz o (.tup xs)) from I.hok a _ h)
    rw [e] at e'
    cases e'
    exact ⟨its, r, ⟨o, n, e, hc, hd, hdt⟩, z⟩
  · refine ⟨its.toList, r, ⟨o, n, I.kIn a o hk, hc, hd, by simpa using hs⟩, ?_⟩
    have e := r.length
    simp only [Array.length_toList] at e
    omega
theorem pairs_ofK (I : Inv X pins σ H s) : ∀ {ps : List Addr} {kvs : List (Key × V)}, Paired (fun p kv => SqT X.K H p [kV kv.1, kv.2]) ps kvs →
    ∃ (us : List (Value × Value)) (prs : List (Key × Value)), KV kvs prs ∧ us.length = ps.length ∧ prs.length = ps.length ∧ ∀ (j : Nat) (k v : Value), us[j]? = some (k, v) → ∃ (b : Addr) (q : Key), ps[j]? = some b ∧ IsTup s.heap b #[k, v] ∧ prs[j]? = some (q, v) ∧ keyIs q k = true
  | _, _, .nil => ⟨[], [], .nil, rfl, rfl, fun j k v e => by simp at e⟩
  | _, _, .cons (a := p) (b := kv) h t => by
    obtain ⟨us, prs, r, h1, h2, hp⟩ := pairs_ofK I t
    obtain ⟨its, rv, ht, _⟩ := I.tuple h
    obtain ⟨u, y, ei, ru, ry⟩ := vals2 rv
    subst ei
    refine ⟨(u, y) :: us, (kv.1, y) :: prs, .cons ⟨rfl, ry⟩ r, by simp [h1], by simp [h2], fun j k v e => ?_⟩
    cases j with
    | zero =>
      have e' : (u, y) = (k, v) := Option.some.inj e
      injection e' with e1 e2
      subst e1 e2
      exact ⟨p, kv.1, rfl, ht, rfl, kV_is (P := X.prog) (w := X.w) ru⟩
    | succ j =>
      obtain ⟨b, q, q1, q2, q3, q4⟩ := hp j k v (by simpa using e)
      exact ⟨b, q, by simpa using q1, q2, by simpa using q3, q4⟩
theorem call_dictT (hcalm : X.calm = true) : CallR X (.type "dict") (fun xs H Q => ∃ (a : Addr) (ps : List Addr) (kvs : List (Key × V)), xs = [.ref a] ∧ KnT X.K H a (ps.map V.ref) ∧ Paired (fun p kv => SqT X.K H p [kV kv.1, kv.2]) ps kvs ∧
    ∀ p, H p = none → Q (.ref p) (upd H p (.dK (mergeK [] kvs)))) := by
  intro pins s σ H xs us Q I r q
  obtain ⟨a, ps, kvs, ex, hq, hp, q⟩ := q
  subst ex
  obtain ⟨u, eu, rx⟩ := vals1 r
  subst eu
  cases rx
  obtain ⟨its, rv, pl, hz⟩ := I.known hq
  have ei := refs_at rv
  subst ei
  rw [List.length_map] at hz
  obtain ⟨uv, prs, rel, h1, h2, hpr⟩ := pairs_ofK I hp
  have ok : PlainSeq "tuple" s.heap a (ps.map Value.ref).toArray ∧ PairItems s.heap (ps.map Value.ref).toArray (fun j => (ps[j]?).getD 0) uv := by
    refine ⟨pl, by simp [h1], fun j k v hj => ?_⟩
    obtain ⟨b, qk, e1, e2, _⟩ := hpr j k v hj
    refine ⟨by simp [e1], ?_⟩
    simp only [e1, Option.getD_some]
    exact .inl e2
  refine PySem.call_dict_pairs (knd := mixKind X.prog X.w) (kvs := prs) (PairArg.tuple a (ps.map Value.ref).toArray (fun j => (ps[j]?).getD 0) uv) (I.ok.hd hcalm) ok ⟨by rw [h2, h1], fun i k v hr => ?_⟩ (by rw [h1]; exact hz) fun h' tk hd' k => ?_
  · obtain ⟨b, qk, _, _, e3, e4⟩ := hpr i k v hr
    exact ⟨qk, e3, e4⟩
  · have hm : (s.heap.objs.size == sysModules) = false := beq_eq_false_iff_ne.mpr (Nat.ne_of_gt I.big)
    have hlen : (mergeK [] kvs).length ≤ sizeLine := by
      refine Nat.le_trans (length_mergeK kvs []) ?_
      rw [List.length_nil, Nat.zero_add, rel.length, h2]
      exact hz
    exact ⟨.ref s.heap.objs.size, upd H s.heap.objs.size (.dK (mergeK [] kvs)), I.laid (t' := tk) (fun b o e => k b o (by simp) e) (Nat.le_refl _) (show ObjOk X.prog X.w _ _ _ (.dK (mergeK [] kvs)) from ⟨hlen, hm, merged [] prs, KV.merge rel .nil, hd'⟩), rfl, q _ (I.hok.fresh (Nat.le_refl _))⟩
end
end L2
end
section
set_option Elab.async false
set_option linter.all false
set_option maxRecDepth 100000
/-! MiC3: built-ins, subscripts, slices, methods of built-in types. -/
namespace Mi
open PySem PySem.Spec L2
section
variable {T : Tb} {α α' : Al} {H H' : Hp} {M M' : Hh} {X : Cx}
/-! ### the calls of built-ins with one argument -/
def c1D (f : D → Hh → R D) : List D → Hh → R D := fun ds M => match ds with | [d] => f d M | _ => .bad
theorem cD1 {f : D → Hh → R D} {vs : List V} {Q : VK} (h : cD T (c1D f) vs H Q) : ∃ x α M d, vs = [x] ∧ RM T α M H ∧ Rep T α H d x ∧ PostE T α H Q (f d M) := by
  obtain ⟨α, M, ds, hm, rs, q⟩ := h
  match ds, q with
  | [d], q =>
    obtain ⟨x, us, rfl, r, r2⟩ := rs.inv_cons
    rw [r2.inv_nil]
    exact ⟨x, α, M, d, rfl, hm, r, q⟩
  | [], q => exact q.elim
  | _ :: _ :: _, q => exact q.elim
theorem mono_c {f : Value} {r r' : List V → Hp → VK → Prop} (h : CallR X f r) (hi : ∀ xs H Q, r' xs H Q → r xs H Q) : CallR X f r' := fun pins s σ H xs us Q I rs q => h pins s σ H xs us Q I rs (hi _ _ _ q)
theorem snd_len (hK : T.K = X.K) {m : Bool} : CallR X (.builtin "len") (cD T (c1D (b1D m .len))) := by
  intro pins s σ H xs us Q I rs h
  obtain ⟨x, α, M, d, rfl, hm, rd, q⟩ := cD1 h
  unfold b1D at q
  cases e : der M d with
  | lst ds =>
    rw [e] at q
    obtain ⟨a, vs, rfl, t, r⟩ := der_lst hm rd e
    exact call_len pins s σ H _ us Q I rs ⟨_, _, rfl, .inl ⟨vs, SqL.of t, r.1⟩, q.pure hm (.int _)⟩
  | tup ds =>
    rw [e] at q
    obtain ⟨a, vs, rfl, t, r⟩ := der_tup hm rd e
    exact call_len pins s σ H _ us Q I rs ⟨_, _, rfl, .inr ⟨vs, hK ▸ t.sq, r.1⟩, q.pure hm (.int _)⟩
  | scr ns =>
    rw [e] at q
    obtain ⟨a, rfl, t⟩ := der_scr rd hm e
    exact call_len pins s σ H _ us Q I rs ⟨_, _, rfl, .inl ⟨_, hK ▸ t.sq, (List.length_map _).symm⟩, q.pure hm (.int _)⟩
  | str z =>
    rw [e] at q
    obtain ⟨rfl, o⟩ := der_str rd hm e
    exact call_len pins s σ H _ us Q I rs ⟨_, _, rfl, ⟨o.2, rfl⟩, q.pure hm (.int _)⟩
  | dict kvs =>
    rw [e] at q
    obtain ⟨a, ws, rfl, t, r⟩ := der_dict hm rd e
    obtain ⟨u, rfl, ru⟩ := vals1 rs
    cases ru
    have q' := q.pure hm (.int _)
    rw [r.1] at q'
    exact d_len I t fun t s' I' => ⟨.int _, H, I', ⟨_, rfl⟩, q'⟩
  | _ => rw [e] at q; exact q.elim
theorem snd_tuple (hK : T.K = X.K) {m : Bool} : CallR X (.type "tuple") (cD T (c1D (b1D m .tuple))) := by
  intro pins s σ H xs us Q I rs h
  obtain ⟨x, α, M, d, rfl, hm, rd, q⟩ := cD1 h
  unfold b1D at q
  cases e : der M d with
  | lst ds =>
    rw [e] at q
    obtain ⟨a, vs, rfl, t, r⟩ := der_lst hm rd e
    exact call_tuple_ofK pins s σ H _ us Q I rs ⟨a, vs, rfl, .inl ⟨SqL.of t, q.tupN hm r⟩⟩
  | tup ds =>
    rw [e] at q
    obtain ⟨a, vs, rfl, t, r⟩ := der_tup hm rd e
    exact call_tuple_ofK pins s σ H _ us Q I rs ⟨a, vs, rfl, .inr ⟨hK ▸ t.sq, q.pure hm (.tup t r.1 r.2)⟩⟩
  | _ => rw [e] at q; exact q.elim
theorem keyOk_rep {d : D} {k : Key} (h : keyOk d = true) (e : d = keyD k) : Rep T α H d (kV k) := by
  subst e
  cases k with
  | inl i => exact .int i
  | inr z =>
    simp only [keyD, keyOk, Bool.and_eq_true, decide_eq_true_eq] at h
    exact .str z h
theorem RepK.keys : ∀ {kvs : List (D × D)} {ws : List (Key × V)}, RepK T α H kvs ws → kvs.all (fun p => keyOk p.1) = true → Reps T α H (kvs.map (·.1)) (ws.map fun kv => kV kv.1)
  | [], ws, r, _ => by rw [r.inv0]; exact .nil
  | p :: kvs, ws, r, h => by
    obtain ⟨q, us, rfl, h1, h2, h3⟩ := r.inv
    rw [List.all_cons, Bool.and_eq_true] at h
    exact .cons (keyOk_rep h.1 h1) (h3.keys h.2)
theorem PostE.allocD {Q : VK} {mm : Bool} {kvs : List (D × D)} {ws : List (Key × V)} (m : RM T α M H) (r : RepK T α H kvs ws) (h : PostE T α H Q (allocD mm kvs M)) : ∀ p, H p = none → Q (.ref p) (upd H p (.dK ws)) := by
  intro p hp
  unfold Mi.allocD at h
  cases mm with
  | false =>
    simp only [Bool.false_eq_true, if_false] at h
    have r' := r.ext (Ext.laid (o := .dK ws) hp)
    exact h α _ _ (Ext.laid hp) (m.laid hp) (.dict (.inl upd_same) (m.fresh hp) r'.1 r'.2.1 r'.2.2)
  | true =>
    simp only [if_true] at h
    refine h (α.add p) _ _ (Ext.grown hp) (m.grown hp ⟨ws, upd_same, r.ext (Ext.grown hp)⟩) (.ref ?_)
    rw [← m.len]; simp [Al.add]
theorem RepK.merge : ∀ {kvs : List (D × D)} {ws : List (Key × V)} {acc : List (D × D)} {us : List (Key × V)}, RepK T α H acc us → RepK T α H kvs ws → RepK T α H (mergeD acc kvs) (mergeK us ws)
  | [], ws, acc, us, ra, r => by rw [r.inv0]; exact ra
  | p :: kvs, ws, acc, us, ra, r => by
    obtain ⟨q, ws, rfl, h1, h2, h3⟩ := r.inv
    rw [mergeD]
    have : RepK T α H (putD acc p.1 p.2) (putK us q.1 q.2) := by rw [h1]; exact ra.put q.1 h2
    show RepK T α H _ (mergeK (putK us q.1 q.2) ws)
    exact RepK.merge this h3
theorem pairs_of (hK : T.K = X.K) : ∀ {ds : List D} {vs : List V} {kvs : List (D × D)}, pairsIn ds = some kvs → Reps T α H ds vs → ∃ (ps : List Addr) (ws : List (Key × V)), vs = ps.map V.ref ∧ Paired (fun p kv => SqT X.K H p [kV kv.1, kv.2]) ps ws ∧ RepK T α H kvs ws
  | [], vs, kvs, h, r => by
    cases h
    rw [r.inv_nil]
    exact ⟨[], [], rfl, .nil, .nil⟩
  | d :: ds, vs, kvs, h, r => by
    obtain ⟨v, us, rfl, h1, h2⟩ := r.inv_cons
    unfold pairsIn at h
    split at h
    · rename_i he; cases he
    · rename_i k w r2 he
      cases he
      split at h
      · rename_i hk
        obtain ⟨kvs, h3, rfl⟩ := Option.map_eq_some_iff.mp h
        obtain ⟨ps, ws, rfl, hp, rk⟩ := pairs_of hK h3 h2
        obtain ⟨kk, rfl⟩ := isKey_of hk
        cases h1 with
        | tup t hl rr =>
          rename_i a zs
          have rs : Reps T α H [keyD kk, w] zs := ⟨hl, rr⟩
          obtain ⟨x, zs, rfl, rx, rs⟩ := rs.inv_cons
          obtain ⟨y, zs, rfl, ry, rs⟩ := rs.inv_cons
          obtain rfl := rs.inv_nil
          obtain rfl := rep_key rx
          exact ⟨a :: ps, (kk, y) :: ws, rfl, .cons (hK ▸ t.sq) hp, .cons rfl ry rk⟩
      · cases h
    · cases h
theorem snd_dict (hK : T.K = X.K) (hc : X.calm = true) {m : Bool} : CallR X (.type "dict") (cD T (c1D (b1D m .dict))) := by
  intro pins s σ H xs us Q I rs h
  obtain ⟨x, α, M, d, rfl, hm, rd, q⟩ := cD1 h
  unfold b1D at q
  cases e : der M d with
  | dict kvs =>
    rw [e] at q
    obtain ⟨a, gs, rfl, t, r⟩ := der_dict hm rd e
    exact call_dictD pins s σ H _ us Q I rs ⟨a, gs, rfl, t, PostE.allocD hm r q⟩
  | lst ds =>
    rw [e] at q
    obtain ⟨a, vs, rfl, t, r⟩ := der_lst hm rd e
    have q : PostE T α H Q (match pairsIn ds with | some kvs => allocD m (mergeD [] kvs) M | none => .bad) := q
    cases ep : pairsIn ds with
    | none => rw [ep] at q; exact q.elim
    | some kvs =>
      rw [ep] at q
      obtain ⟨ps, ws, rfl, hp, rk⟩ := pairs_of hK ep r
      exact call_dictP hc pins s σ H _ us Q I rs ⟨a, ps, ws, rfl, SqL.of t, hp, PostE.allocD hm (RepK.merge .nil rk) q⟩
  | tup ds =>
    rw [e] at q
    obtain ⟨a, vs, rfl, t, r⟩ := der_tup hm rd e
    have q : PostE T α H Q (match pairsIn ds with | some kvs => allocD m (mergeD [] kvs) M | none => .bad) := q
    cases ep : pairsIn ds with
    | none => rw [ep] at q; exact q.elim
    | some kvs =>
      rw [ep] at q
      obtain ⟨ps, ws, rfl, hp, rk⟩ := pairs_of hK ep r
      exact call_dictT hc pins s σ H _ us Q I rs ⟨a, ps, ws, rfl, hK ▸ t.elim (fun h => .inl h.1) .inr, hp, PostE.allocD hm (RepK.merge .nil rk) q⟩
  | _ => rw [e] at q; exact q.elim
theorem snd_list (hK : T.K = X.K) (hc : X.calm = true) {m : Bool} : CallR X (.type "list") (cD T (c1D (b1D m .list))) := by
  intro pins s σ H xs us Q I rs h
  obtain ⟨x, α, M, d, rfl, hm, rd, q⟩ := cD1 h
  unfold b1D at q
  cases e : der M d with
  | lst ds =>
    rw [e] at q
    obtain ⟨a, vs, rfl, t, r⟩ := der_lst hm rd e
    exact call_list_of pins s σ H _ us Q I rs ⟨a, vs, rfl, .inl (SqL.of t), PostE.alloc hm r q⟩
  | tup ds =>
    rw [e] at q
    obtain ⟨a, vs, rfl, t, r⟩ := der_tup hm rd e
    exact call_list_of pins s σ H _ us Q I rs ⟨a, vs, rfl, .inr (hK ▸ t.sq), PostE.alloc hm r q⟩
  | dict kvs =>
    rw [e] at q
    obtain ⟨a, gs, rfl, t, r⟩ := der_dict hm rd e
    have q : PostE T α H Q (if kvs.all (fun p => keyOk p.1) = true then alloc m (kvs.map (·.1)) M else .bad) := q
    split at q
    · rename_i ok
      exact call_listD hc pins s σ H _ us Q I rs ⟨a, gs, rfl, t, PostE.alloc hm (r.keys ok) q⟩
    · exact q.elim
  | _ => rw [e] at q; exact q.elim
theorem bools_of : ∀ {ds : List D} {bs : List Bool} {vs : List V}, boolsOf ds = some bs → Reps T α H ds vs → vs = bs.map V.bl
  | [], bs, vs, h, r => by cases h; rw [r.inv_nil]; rfl
  | d :: ds, bs, vs, h, r => by
    obtain ⟨v, us, rfl, h1, h2⟩ := r.inv_cons
    cases d with
    | bl b =>
      rw [boolsOf] at h
      cases e : boolsOf ds with
      | none => rw [e] at h; cases h
      | some cs =>
        rw [e] at h
        cases h
        rw [h1.bl_eq, bools_of e h2]; rfl
    | _ => simp [boolsOf] at h
theorem snd_any (hK : T.K = X.K) (hc : X.calm = true) {m : Bool} : CallR X (.builtin "any") (cD T (c1D (b1D m .any))) := by
  intro pins s σ H xs us Q I rs h
  obtain ⟨x, α, M, d, rfl, hm, rd, q⟩ := cD1 h
  unfold b1D at q
  cases e : der M d with
  | lst ds =>
    rw [e] at q
    obtain ⟨a, vs, rfl, t, r⟩ := der_lst hm rd e
    have q : PostE T α H Q (match boolsOf ds with | some bs => .ok (.bl (bs.any id)) M | none => .bad) := q
    cases eb : boolsOf ds with
    | none => rw [eb] at q; exact q.elim
    | some bs =>
      rw [eb] at q
      have ev := bools_of eb r
      subst ev
      exact cr_any hc pins s σ H _ us Q I rs ⟨a, bs, rfl, SqL.of t, q.pure hm (.bl _)⟩
  | _ => rw [e] at q; exact q.elim
theorem snd_all (hK : T.K = X.K) (hc : X.calm = true) {m : Bool} : CallR X (.builtin "all") (cD T (c1D (b1D m .all))) := by
  intro pins s σ H xs us Q I rs h
  obtain ⟨x, α, M, d, rfl, hm, rd, q⟩ := cD1 h
  unfold b1D at q
  cases e : der M d with
  | lst ds =>
    rw [e] at q
    obtain ⟨a, vs, rfl, t, r⟩ := der_lst hm rd e
    have q : PostE T α H Q (match boolsOf ds with | some bs => .ok (.bl (bs.all id)) M | none => .bad) := q
    cases eb : boolsOf ds with
    | none => rw [eb] at q; exact q.elim
    | some bs =>
      rw [eb] at q
      have ev := bools_of eb r
      subst ev
      exact cr_all hc pins s σ H _ us Q I rs ⟨a, bs, rfl, SqL.of t, q.pure hm (.bl _)⟩
  | _ => rw [e] at q; exact q.elim
theorem snd_int {m : Bool} : CallR X (.type "int") (cD T (c1D (b1D m .int))) := by
  intro pins s σ H xs us Q I rs h
  obtain ⟨x, α, M, d, rfl, hm, rd, q⟩ := cD1 h
  unfold b1D at q
  cases e : der M d with
  | int i =>
    rw [e] at q
    obtain rfl := der_int rd hm e
    exact call_int1 pins s σ H _ us Q I rs (.inl ⟨_, rfl, q.pure hm (.int _)⟩)
  | bl b =>
    rw [e] at q
    obtain rfl := der_bl rd hm e
    exact call_int1 pins s σ H _ us Q I rs (.inr ⟨_, rfl, q.pure hm (.int _)⟩)
  | _ => rw [e] at q; exact q.elim
theorem strOk_of (z : String) : PyData.strOk (Str.ofString z) = true := by
  rw [Str.ofString_eq_toList]
  unfold PyData.strOk
  rw [Array.all_eq_true']
  intro c hc
  have hc : c ∈ z.toList.map Char.toNat := by simpa using hc
  obtain ⟨k, _, rfl⟩ := List.mem_map.mp hc
  have h := k.valid
  have : k.toNat < 0x110000 := by
    rcases h with h | h
    · exact Nat.lt_trans h (by decide)
    · exact h.2
  exact decide_eq_true this
theorem strOk_int (i : Int) (h : i.natAbs.log2 < 1920) : StrOk (toString i : String) := ⟨strOk_of _, int_text_fits h⟩
theorem snd_str {m : Bool} : CallR X (.type "str") (cD T (c1D (b1D m .str))) := by
  intro pins s σ H xs us Q I rs h
  obtain ⟨x, α, M, d, rfl, hm, rd, q⟩ := cD1 h
  unfold b1D at q
  cases e : der M d with
  | bl k =>
    rw [e] at q
    obtain rfl := der_bl rd hm e
    have q : PostE T α H Q (.ok (.str (if k then "True" else "False" : String)) M) := q
    obtain ⟨u, rfl, t⟩ := vals1 rs
    cases t
    refine str_of_bool (a := k) ⟨.str _, H, I.tok _, ⟨s.toks, by cases k <;> rfl⟩, q.pure hm (.str _ ⟨strOk_of _, by cases k <;> decide⟩)⟩
  | int i =>
    rw [e] at q
    obtain rfl := der_int rd hm e
    have q : PostE T α H Q (if i.natAbs.log2 < 1920 then .ok (.str (toString i : String)) M else .bad) := q
    split at q
    · rename_i hl
      exact call_str_int pins s σ H _ us Q I rs ⟨_, rfl, hl, q.pure hm (.str _ (strOk_int i hl))⟩
    · exact q.elim
  | non =>
    rw [e] at q
    have q : PostE T α H Q (.ok (.str ("None" : String)) M) := q
    obtain ⟨u, rfl, t⟩ := vals1 rs
    have hx : x = .non := by
      cases rd with
      | non => rfl
      | @ref i a h =>
        rw [der_ref] at e
        cases hq : M[i]? with
        | none => rw [hq] at e; cases e
        | some o => rw [hq] at e; cases o <;> cases e
      | _ => cases e
    subst hx
    cases t
    exact str_of_none ⟨.str _, H, I.tok _, ⟨s.toks, rfl⟩, q.pure hm (.str _ ⟨strOk_of _, by decide⟩)⟩
  | str y =>
    rw [e] at q
    have q : PostE T α H Q (.ok (.str y) M) := q
    cases rd with
    | str y2 hy => cases e; obtain ⟨u, rfl, t⟩ := vals1 rs; obtain ⟨t, rfl⟩ := t; exact PySem.P.str_of_str ⟨.str y, H, I, ⟨t, rfl⟩, q.pure hm (.str _ hy)⟩
    | @ref i a h =>
      rw [der_ref] at e
      cases hq : M[i]? with
      | none => rw [hq] at e; cases e
      | some o => rw [hq] at e; cases o <;> cases e
    | _ => cases e
  | _ => rw [e] at q; exact q.elim
mutual
theorem py_depth : ∀ d : D, PyData.depth d.py ≤ d.depth
  | .non => Nat.le_refl _ | .bl _ => Nat.le_refl _ | .int _ => Nat.le_refl _ | .str _ => Nat.le_refl _
  | .tup ds => by
    have := pys_depth ds
    simp only [D.py, D.depth, PyData.depth]
    omega
  | .lst ds => by
    have := pys_depth ds
    simp only [D.py, D.depth, PyData.depth]
    omega
  | .dict _ => Nat.le_refl _ | .inst _ _ => Nat.le_refl _ | .fn _ => Nat.le_refl _ | .scr _ => Nat.le_refl _ | .ref _ => Nat.le_refl _
theorem pys_depth : ∀ ds : List D, PyData.depthAll (pys ds) ≤ depths ds
  | [] => Nat.le_refl _
  | d :: ds => by
    have h1 := py_depth d
    have h2 := pys_depth ds
    simp only [pys, depths, PyData.depthAll]
    omega
end
mutual
theorem py_nodict : ∀ d : D, PyData.hasDict d.py = false
  | .non => rfl | .bl _ => rfl | .int _ => rfl | .str _ => rfl
  | .tup ds => by
    have := pys_nodict ds
    simpa only [D.py, PyData.hasDict] using this
  | .lst ds => by
    have := pys_nodict ds
    simpa only [D.py, PyData.hasDict] using this
  | .dict _ => rfl | .inst _ _ => rfl | .fn _ => rfl | .scr _ => rfl | .ref _ => rfl
theorem pys_nodict : ∀ ds : List D, PyData.hasDictAll (pys ds) = false
  | [] => rfl
  | d :: ds => by
    have h1 := py_nodict d
    have h2 := pys_nodict ds
    simp only [pys, PyData.hasDictAll, h1, h2, Bool.or_self]
end
theorem repr_all (hK : T.K = X.K) (hg : X.A.guards = some []) (hu : X.A.units + 67 < cLine) {pins : List (Addr × Obj)} {s : Shared} {σ : St} {x : V} {us : List Value} {Q : VK} {d e : D}
    (I : Inv X pins σ H s) (rs : Vals [x] us) (m : RM T α M H) (r : Rep T α H d x) (he : der M d = e) (q : PostE T α H Q (reprD e M)) :
    wpAny (model X.prog X.w) X.A (call (.builtin "repr") us) (EP X pins σ Q) X.xe s := by
  subst he
  unfold reprD at q
  split at q
  · rename_i h
    obtain ⟨h1, h2, h3, h4, h5⟩ := h
    obtain ⟨dp, can⟩ := der_dp m r h1
    obtain ⟨u, rfl, ru⟩ := vals1 rs
    rw [hK] at dp
    obtain ⟨as, rd⟩ := Dp.reads I _ _ _ dp ru
    have nd := py_nodict (der M d)
    have dl := py_depth (der M d)
    have hq : Q (.str (der M d).py.shown) H := q.pure m (.str _ ⟨h5, h4⟩)
    have go : ∀ a : Addr, u = .ref a → wpAny (model X.prog X.w) X.A (call (.builtin "repr") [u]) (EP X pins σ Q) X.xe s := by
      rintro a rfl
      refine repr_of_reads' (h₀ := s.heap) rd h3 (fun z => by rw [nd] at z; cases z) hg (by omega) (fun _ _ z => z) (fun h' t tk hk => ?_) h4
      exact ⟨.str _, H, I.kept hk, ⟨t, rfl⟩, hq⟩
    cases e : der M d with
    | tup ds => rw [e] at dp; cases dp; exact go _ ru
    | lst ds => rw [e] at dp; cases dp; exact go _ ru
    | non =>
      rw [e] at dp hq
      cases dp
      cases ru
      exact PySem.P.repr_of_none ⟨.str _, H, I.tok _, ⟨_, rfl⟩, hq⟩
    | bl b =>
      rw [e] at dp hq
      cases dp
      cases ru
      exact PySem.P.repr_of_bool ⟨.str _, H, I.tok _, ⟨_, rfl⟩, hq⟩
    | str y =>
      rw [e] at dp hq h4
      cases dp
      obtain ⟨t, rfl⟩ := ru
      exact PySem.P.repr_of_str ⟨.str _, H, I.tok _, ⟨_, rfl⟩, hq⟩ h4
    | int i =>
      rw [e] at dp hq h3
      cases dp
      exact SkE.call_repr_int pins s σ H _ [u] Q I rs ⟨_, rfl, by simpa [D.py, PyData.showable] using h3, hq⟩
    | _ => rw [e] at h1; simp [D.plain] at h1
  · exact q.elim
theorem snd_repr (hK : T.K = X.K) (hg : X.A.guards = some []) (hu : X.A.units + 67 < cLine) {m : Bool} : CallR X (.builtin "repr") (cD T (c1D (b1D m .repr))) := by
  intro pins s σ H xs us Q I rs h
  obtain ⟨x, α, M, d, rfl, hm, rd, q⟩ := cD1 h
  unfold b1D at q
  cases e : der M d with
  | int i =>
    rw [e] at q
    obtain rfl := der_int rd hm e
    have q : PostE T α H Q (if i.natAbs.log2 < 1920 then .ok (.str (toString i : String)) M else .bad) := q
    split at q
    · rename_i hl
      exact SkE.call_repr_int pins s σ H _ us Q I rs ⟨_, rfl, hl, q.pure hm (.str _ (strOk_int i hl))⟩
    · exact q.elim
  | tup ds => rw [e] at q; exact repr_all hK hg hu I rs hm rd e q
  | lst ds => rw [e] at q; exact repr_all hK hg hu I rs hm rd e q
  | non => rw [e] at q; exact repr_all hK hg hu I rs hm rd e q
  | bl b => rw [e] at q; exact repr_all hK hg hu I rs hm rd e q
  | str y => rw [e] at q; exact repr_all hK hg hu I rs hm rd e q
  | _ => rw [e] at q; exact q.elim
theorem snd_abs {m : Bool} : CallR X (.builtin "abs") (cD T (c1D (b1D m .abs))) := by
  intro pins s σ H xs us Q I rs h
  obtain ⟨x, α, M, d, rfl, hm, rd, q⟩ := cD1 h
  unfold b1D at q
  cases e : der M d with
  | int i =>
    rw [e] at q
    obtain rfl := der_int rd hm e
    exact call_abs pins s σ H _ us Q I rs ⟨_, rfl, q.pure hm (.int _)⟩
  | _ => rw [e] at q; exact q.elim
/-! min of texts -/
theorem strsOf_eq : ∀ {ds : List D} {xs : List Str}, strsOf ds = some xs → ds = xs.map .str
  | [], xs, h => by cases h; rfl
  | d :: ds, xs, h => by
    cases d with
    | str x =>
      have h : (strsOf ds).map (x :: ·) = some xs := h
      cases e : strsOf ds with
      | none => rw [e] at h; cases h
      | some ys => rw [e] at h; cases h; rw [strsOf_eq e]; rfl
    | _ => cases h
theorem minD_strs (x : Str) : ∀ xs : List Str, PySem.W.minD (.str x) (xs.map .str) = .str (minS x xs) := by
  intro xs
  unfold PySem.W.minD minS
  induction xs generalizing x with
  | nil => rfl
  | cons y xs ih =>
    rw [List.map_cons, List.foldl_cons, List.foldl_cons, ← ih]
    split <;> rfl
theorem minS_mem (x : Str) : ∀ xs : List Str, minS x xs ∈ x :: xs := by
  intro xs
  unfold minS
  induction xs generalizing x with
  | nil => simp
  | cons y xs ih =>
    rw [List.foldl_cons]
    have := ih (if PySem.W.dataLt (.str y) (.str x) = true then y else x)
    rcases List.mem_cons.mp this with h | h
    · rw [h]; split <;> simp
    · exact List.mem_cons_of_mem _ (List.mem_cons_of_mem _ h)
theorem pys_strs (xs : List Str) : pys (xs.map .str) = xs.map .str := by
  rw [pys_map, List.map_map]; rfl
theorem strsP_ : ∀ xs : List Str, plains (xs.map D.str) = true
  | [] => rfl
  | x :: xs => by rw [List.map_cons, plains, strsP_ xs]; rfl
theorem snd_min1 (hK : T.K = X.K) (hc : X.calm = true) (hu : X.A.units + 67 < cLine) {m : Bool} : CallR X (.builtin "min") (cD T (c1D (b1D m .min1))) := by
  intro pins s σ H xs us Q I rs h
  obtain ⟨x, α, M, d, rfl, hm, rd, q⟩ := cD1 h
  unfold b1D at q
  cases e : der M d with
  | lst ds =>
    rw [e] at q
    have q : PostE T α H Q (match strsOf ds with | some (x :: xs) => .ok (.str (minS x xs)) M | _ => .bad) := q
    cases es : strsOf ds with
    | none => rw [es] at q; exact q.elim
    | some ys =>
      rw [es] at q
      cases ys with
      | nil => exact q.elim
      | cons y ys =>
        have q2 : PostE T α H Q (.ok (.str (minS y ys)) M) := q
        obtain rfl := strsOf_eq es
        obtain ⟨a, vs, rfl, t, r⟩ := der_lst hm rd e
        obtain ⟨u, rfl, ru⟩ := vals1 rs
        cases ru
        obtain ⟨its, rv, pl, hz⟩ := I.list (SqL.of t)
        have hp : plains ((y :: ys).map D.str) = true := strsP_ (y :: ys)
        have dp := r.dp hp
        rw [hK] at dp
        obtain ⟨as, ra⟩ := Dp.readsAll I _ _ _ dp rv
        rw [pys_strs] at ra
        have ok : StrOk (minS y ys) := by
          have hm2 := minS_mem y ys
          have : D.str (minS y ys) ∈ (y :: ys).map D.str := List.mem_map.mpr ⟨_, hm2, rfl⟩
          obtain ⟨i, hi, ei⟩ := List.mem_iff_getElem.mp this
          have hi2 : i < vs.length := by rw [← r.1]; exact hi
          have := r.2 i _ vs[i] (by rw [List.getElem?_eq_getElem hi, ei]) (List.getElem?_eq_getElem hi2)
          generalize vs[i] = z at this
          cases this with
          | str _ h => exact h
        refine PySem.W.min_list_data (vs := its.toArray) (x := .str y) (xs := ys.map .str) (as := as) (I.ok.hd hc) pl.isList (by simpa using ra) ⟨?_, ?_⟩ ?_ fun i v h' tk bs hv hr hk => ?_
        · intro a ha b hb
          have : ∀ c, c ∈ PyData.str y :: ys.map PyData.str → ∃ z, c = .str z := fun c hc => by
            rcases List.mem_cons.mp hc with rfl | hc
            · exact ⟨_, rfl⟩
            · obtain ⟨z, _, rfl⟩ := List.mem_map.mp hc; exact ⟨_, rfl⟩
          obtain ⟨z1, rfl⟩ := this a ha
          obtain ⟨z2, rfl⟩ := this b hb
          rfl
        · intro a ha
          rcases List.mem_cons.mp ha with rfl | ha
          · simp
          · obtain ⟨z, _, rfl⟩ := List.mem_map.mp ha; simp
        · have : PyData.depthAll (.str y :: ys.map .str) = 0 := by
            have : ∀ zs : List Str, PyData.depthAll (zs.map PyData.str) = 0 := by
              intro zs
              induction zs with
              | nil => rfl
              | cons z zs ih => simp only [List.map_cons, PyData.depthAll, ih, PyData.depth]; rfl
            exact this (y :: ys)
          rw [this]; omega
        · rw [minD_strs] at hr
          cases hr
          exact ⟨.str _, H, I.kept hk, ⟨_, rfl⟩, q2.pure hm (.str _ ok)⟩
  | _ => rw [e] at q; exact q.elim
/-! sorted -/
theorem each_reads (hK : T.K = X.K) {pins : List (Addr × Obj)} {s : Shared} {σ : St} (I : Inv X pins σ H s) : ∀ {ds : List D} {vs : List V} {us : List Value}, Reps T α H ds vs → plains ds = true → Vals vs us →
    PySem.W.EachIs (fun v d => ∃ x, RelV x v ∧ Rep T α H d x) us ds ∧ PySem.W.EachIs (fun v d => ∃ as, Reads s.heap v (D.py d) as) us ds
  | [], vs, us, r, _, rv => by
    rw [r.inv_nil] at rv
    cases rv
    exact ⟨.nil, .nil⟩
  | d :: ds, vs, us, r, p, rv => by
    obtain ⟨x, xs, rfl, h1, h2⟩ := r.inv_cons
    rw [plains, Bool.and_eq_true] at p
    cases rv with
    | cons a b =>
      obtain ⟨e1, e2⟩ := each_reads hK I h2 p.2 b
      obtain ⟨as, ra⟩ := Dp.reads I _ _ _ (hK ▸ h1.dp p.1) a
      exact ⟨.cons ⟨_, a, h1⟩ e1, .cons ⟨as, ra⟩ e2⟩
theorem each_back : ∀ {ds : List D} {us : List Value}, PySem.W.EachIs (fun v d => ∃ x, RelV x v ∧ Rep T α H d x) us ds → ∃ vs, Vals vs us ∧ Reps T α H ds vs
  | _, _, .nil => ⟨[], .nil, .nil⟩
  | _, _, .cons ⟨x, a, b⟩ e => let ⟨vs, h1, h2⟩ := each_back e; ⟨x :: vs, .cons a h1, .cons b h2⟩
theorem depth_mem : ∀ {ds : List D} {d : D}, d ∈ ds → d.depth ≤ depths ds
  | e :: ds, d, h => by
    rw [depths]
    rcases List.mem_cons.mp h with rfl | h
    · omega
    · have := depth_mem h; omega
theorem plains_mem : ∀ {ds : List D}, plains ds = true → ∀ d ∈ ds, d.plain = true
  | e :: ds, h, d, hd => by
    rw [plains, Bool.and_eq_true] at h
    rcases List.mem_cons.mp hd with rfl | hd
    · exact h.1
    · exact plains_mem h.2 d hd
theorem RepK.ints : ∀ {kvs : List (D × D)} {ws : List (Key × V)}, RepK T α H kvs ws → intsOf (kvs.map (·.1)) = true → ∃ is : List Int, kvs.map (·.1) = is.map D.int ∧ ws.map (·.1) = is.map Sum.inl
  | [], ws, r, _ => ⟨[], rfl, by rw [r.inv0]; rfl⟩
  | p :: kvs, ws, r, h => by
    obtain ⟨q, us, rfl, h1, h2, h3⟩ := r.inv
    rw [List.map_cons, h1] at h
    obtain ⟨k, x⟩ := q
    cases k with
    | inr y => simp [keyD, intsOf] at h
    | inl i =>
      have h : intsOf (kvs.map (·.1)) = true := by simpa [keyD, intsOf] using h
      obtain ⟨is, e1, e2⟩ := h3.ints h
      refine ⟨i :: is, ?_, ?_⟩
      · rw [List.map_cons, List.map_cons, e1, h1]; rfl
      · rw [List.map_cons, List.map_cons, e2]
theorem reps_intsV : ∀ ys : List Int, Reps T α H (ys.map D.int) (ys.map V.int)
  | [] => .nil
  | _ :: ys => .cons (.int _) (reps_intsV ys)
theorem sortD_ints {is ys : List Int} (hp : ys.Perm is) (hs : ys.Pairwise (· ≤ ·)) : sortD (is.map D.int) = ys.map D.int := by
  have ek : is.map D.int = (is.map Sum.inl : List Key).map keyD := by rw [List.map_map]; rfl
  have e : is.mergeSort leI = ys := List.Perm.eq_of_pairwise (le := fun a b => leI a b = true) (fun a b _ _ h1 h2 => by simp only [leI, decide_eq_true_eq] at h1 h2; omega) (List.pairwise_mergeSort leI_trans leI_total _) (hs.imp fun h => by simpa [leI] using h) ((List.mergeSort_perm is leI).trans hp.symm)
  rw [ek, sortD_keys, sortK_I, e, List.map_map]
  rfl
theorem snd_sorted (hK : T.K = X.K) (hcalm : X.calm = true) (hu : X.A.units + 67 < cLine) {m : Bool} : CallR X (.builtin "sorted") (cD T (c1D (b1D m .sorted))) := by
  intro pins s σ H xs us Q I rs h
  obtain ⟨x, α, M, d, rfl, hm, rd, q⟩ := cD1 h
  unfold b1D at q
  cases e : der M d with
  | lst ds =>
    rw [e] at q
    have q : PostE T α H Q (open Classical in if CanSort ds then alloc m (sortD ds) M else .bad) := q
    split at q
    · rename_i hc
      obtain ⟨p1, p2, p4⟩ := hc
      obtain ⟨a, vs, rfl, t, r⟩ := der_lst hm rd e
      obtain ⟨u, rfl, ru⟩ := vals1 rs
      cases ru
      obtain ⟨its, rv, pl, hz⟩ := I.list (SqL.of t)
      obtain ⟨e1, e2⟩ := each_reads hK I r p1 rv
      have hL : ds.length ≤ sizeLine := by rw [r.1]; exact hz
      have hU : ∀ b, b ∈ ds → X.A.units + 2 + (D.py b).depth < cLine := fun b hb => by rw [depth_py b (plains_mem p1 b hb)]; have := depth_mem hb; omega
      have fin : ∀ out : List Value, out.length = ds.length → PySem.W.EachIs (fun v d => ∃ x, RelV x v ∧ Rep T α H d x) out (ds.mergeSort (PySem.W.dataLe false D.py)) → EP X pins σ Q (.ref (s.heap.objs.size + 1)) { s with heap := PyProof.Rows.sortedAll s.heap its (List.toArray out) } := by
        intro out ho eo
        obtain ⟨ws, rw', rr⟩ := each_back eo
        obtain ⟨c, hc⟩ := PyProof.Rows.sortedAll_at s.heap its out.toArray
        have hq := PostE.alloc hm rr q
        refine ⟨.ref (s.heap.objs.size + 1), upd H (s.heap.objs.size + 1) (.lst ws), ?_, rfl, hq _ (I.hok.fresh (Nat.le_succ _))⟩
        refine I.laid (t' := s.toks) (fun b o e => PyProof.Rows.sortedAll_old e) (Nat.le_succ _) ⟨?_, out, c, rw', hc⟩
        have := rw'.length
        have := r.1
        omega
      rcases p2 with ⟨p2, p3⟩ | ⟨p2, p3⟩
      · exact PySem.W.sorted_data (bs := ds) (enc := D.py) pl.isList e1 e2 p2 p3 hL hU fin
      · exact sorted_apart (bs := ds) (enc := D.py) pl.isList e1 e2 p2 p3 hL hU fin
    · exact q.elim
  | dict kvs =>
    rw [e] at q
    have q : PostE T α H Q (if intsOf (kvs.map (·.1)) = true ∧ kvs.length < 64 then alloc m (sortD (kvs.map (·.1))) M else .bad) := q
    split at q
    · rename_i ok
      obtain ⟨a, gs, rfl, t, r⟩ := der_dict hm rd e
      obtain ⟨is, h1, h2⟩ := r.ints ok.1
      have hl : is.length < 64 := by have := congrArg List.length h1; rw [List.length_map, List.length_map] at this; omega
      refine call_sortedDI hcalm pins s σ H _ us Q I rs ⟨a, gs, is, rfl, t, h2, hl, fun ys p hp hs hH => ?_⟩
      rw [h1, sortD_ints hp hs] at q
      exact PostE.alloc hm (reps_intsV ys) q p hH
    · exact q.elim
  | _ => rw [e] at q; exact q.elim
/-! ### two arguments -/
def c2D (f : D → D → Hh → R D) : List D → Hh → R D := fun ds M => match ds with | [d, e] => f d e M | _ => .bad
theorem cD2 {f : D → D → Hh → R D} {vs : List V} {Q : VK} (h : cD T (c2D f) vs H Q) : ∃ x y α M d e, vs = [x, y] ∧ RM T α M H ∧ Rep T α H d x ∧ Rep T α H e y ∧ PostE T α H Q (f d e M) := by
  obtain ⟨α, M, ds, hm, rs, q⟩ := h
  match ds, q with
  | [d, e], q =>
    obtain ⟨x, us, rfl, r, r2⟩ := rs.inv_cons
    obtain ⟨y, us, rfl, r3, r4⟩ := r2.inv_cons
    rw [r4.inv_nil]
    exact ⟨x, y, α, M, d, e, rfl, hm, r, r3, q⟩
  | [], q => exact q.elim
  | [_], q => exact q.elim
  | _ :: _ :: _ :: _, q => exact q.elim
theorem snd_min2 (hc : X.calm = true) : CallR X (.builtin "min") (cD T (c2D (b2D .min2))) := by
  intro pins s σ H xs us Q I rs h
  obtain ⟨x, y, α, M, d, e, rfl, hm, rd, re, q⟩ := cD2 h
  cases d <;> cases e <;> try exact q.elim
  rename_i i j
  obtain rfl := rd.int_eq
  obtain rfl := re.int_eq
  exact call_min2 hc pins s σ H _ us Q I rs ⟨_, _, rfl, PostE.pure hm (.int _) q⟩
theorem snd_max2 (hc : X.calm = true) : CallR X (.builtin "max") (cD T (c2D (b2D .max2))) := by
  intro pins s σ H xs us Q I rs h
  obtain ⟨x, y, α, M, d, e, rfl, hm, rd, re, q⟩ := cD2 h
  cases d <;> cases e <;> try exact q.elim
  rename_i i j
  obtain rfl := rd.int_eq
  obtain rfl := re.int_eq
  exact call_max2 hc pins s σ H _ us Q I rs ⟨_, _, rfl, PostE.pure hm (.int _) q⟩

/-! ### subscripts -/
theorem reps_ints : ∀ ns : List Int, Reps T α H (ns.map D.int) (ns.map V.int)
  | [] => .nil
  | n :: ns => .cons (.int n) (reps_ints ns)
theorem strOk_sub {x y : Str} (h : ∀ c ∈ y.cps, c ∈ x.cps) (hl : y.length ≤ x.length) (o : StrOk x) : StrOk y := by
  refine ⟨?_, Nat.le_trans hl o.2⟩
  have h1 := o.1
  unfold PyData.strOk at *
  rw [Array.all_eq_true'] at *
  exact fun c hc => h1 c (h c hc)
theorem strOk_sign {x : Str} (o : StrOk x) {c : Nat} (h : c ∈ x.cps) : StrOk ⟨#[c]⟩ := by
  refine strOk_sub (fun d hd => ?_) ?_ o
  · have : d = c := by simpa using hd
    subst this; exact h
  · show 1 ≤ x.cps.size
    obtain ⟨i, hi, _⟩ := Array.getElem_of_mem h
    omega
theorem snd_ix (hK : T.K = X.K) (hu : X.A.units + 1 < cLine) : IxR X (rD T ixD) := by
  intro value slice pins s σ H x y v u Q I rx ry h hs
  obtain ⟨α, M, d, e, hm, rd, re, q⟩ := h
  unfold ixD at q
  split at q
  · rename_i ds i e1
    obtain ⟨a, vs, rfl, t, r⟩ := der_lst hm rd e1
    obtain rfl := re.int_eq
    split at q
    · rename_i w hw
      cases hj : ixN ds.length i with
      | none => rw [hj] at hw; cases hw
      | some j =>
        rw [hj] at hw
        obtain ⟨z, hz, rz⟩ := r.get (show ds[j]? = some w from hw)
        refine ix_list value slice pins s σ H _ _ v u Q I rx ry ⟨a, vs, i, z, rfl, rfl, SqL.of t, ?_, q.pure hm rz⟩ hs
        unfold atI
        rw [← r.1, show L2.ixN ds.length i = some j from hj]; exact hz
    · exact q.elim
  · rename_i ds i e1
    obtain ⟨a, vs, rfl, t, r⟩ := der_tup hm rd e1
    obtain rfl := re.int_eq
    split at q
    · rename_i w hw
      cases hj : ixN ds.length i with
      | none => rw [hj] at hw; cases hw
      | some j =>
        rw [hj] at hw
        obtain ⟨z, hz, rz⟩ := r.get (show ds[j]? = some w from hw)
        refine ix_tup value slice pins s σ H _ _ v u Q I rx ry ⟨a, vs, i, z, rfl, rfl, hK ▸ t.sq, ?_, q.pure hm rz⟩ hs
        unfold atI
        rw [← r.1, show L2.ixN ds.length i = some j from hj]; exact hz
    · exact q.elim
  · rename_i ns i e1
    obtain ⟨a, rfl, t⟩ := der_scr rd hm e1
    obtain rfl := re.int_eq
    split at q
    · rename_i w hw
      refine ix_list value slice pins s σ H _ _ v u Q I rx ry ⟨a, _, i, .int w, rfl, rfl, hK ▸ t.sq, ?_, q.pure hm (.int _)⟩ hs
      unfold atI
      rw [List.length_map]
      cases hj : ixN ns.length i with
      | none => rw [hj] at hw; cases hw
      | some j =>
        rw [hj] at hw
        rw [show L2.ixN ns.length i = some j from hj]
        show (ns.map V.int)[j]? = _
        rw [List.getElem?_map, show ns[j]? = some w from hw]; rfl
    · exact q.elim
  · rename_i z i e1
    obtain ⟨rfl, o⟩ := der_str rd hm e1
    obtain rfl := re.int_eq
    split at q
    · rename_i c hw
      have hc : c ∈ z.cps := by
        cases hj : ixN z.cps.toList.length i with
        | none => rw [hj] at hw; cases hw
        | some j =>
          rw [hj] at hw
          have := List.mem_of_getElem? (show z.cps.toList[j]? = some c from hw)
          simpa using this
      exact ix_str value slice pins s σ H _ _ v u Q I rx ry ⟨z, i, c, rfl, rfl, o.2, hw, q.pure hm (.str _ (strOk_sign o hc))⟩ hs
    · exact q.elim
  · rename_i kvs k e1
    obtain ⟨a, ws, rfl, t, r⟩ := der_dict hm rd e1
    cases rx
    split at q
    · rename_i hk
      obtain ⟨k, rfl⟩ := isKey_of hk
      obtain rfl := rep_key re
      split at q
      · rename_i w hw
        rcases r.look k with ⟨h1, h2⟩ | ⟨d', v', h1, h2, h3⟩
        · rw [h1] at hw; cases hw
        · rw [h1] at hw; cases hw
          have g : DGet H a (kV k) (some v') := .inl ⟨ws, k, t, rfl, h2.symm⟩
          have q' := q.pure hm h3
          refine PyProof.Rows.tail_any (ops := [.ref a, u]) (dict_typeIs I g) F.slot_dict_getitem.lookup (d_getItem hu I g ry fun w' s' I' rw' => ⟨v', H, I', rw', q'⟩) ?_
          rw [hs]
      · exact q.elim
    · exact q.elim
  · exact q.elim
end
end Mi
end
section
set_option Elab.async false
set_option linter.all false
set_option maxRecDepth 100000
/-! MiRe: l.remove(x), l.count(x) of data. -/
namespace Mi
open PySem PySem.Spec PyProof.Rows L2
section
variable {X : Cx}
def rRemD (K : PySem.W.Frag) : V → List V → Hp → VK → Prop := fun x xs H Q => ∃ (a : Addr) (vs : List V) (y : V) (d : PyData) (ds : List PyData) (j : Nat) (z : PyData), x = V.ref a ∧ xs = [y] ∧ H a = some (.lst vs) ∧ DpAll K H vs ds ∧ Dp K H y d ∧
  SeqAt.shaped (.list ds) = true ∧ SeqAt.shaped d = true ∧ ds[j]? = some z ∧ PyData.eqv z d = true ∧ (∀ (m : Nat) (z' : PyData), m < j → ds[m]? = some z' → PyData.eqv z' d = false) ∧ Q .non (upd H a (.lst (vs.eraseIdx j)))
theorem mt_removeD (hu : X.A.units + 65 < cLine) : MtM X "list.remove" (rRemD X.K) := by
  intro pins s σ H x xs v us Q I rx rxs h
  obtain ⟨a, vs, y, d, ds, j, z, rfl, rfl, hH, hl, hy, sl, sd, hz, hzj, hno, q⟩ := h
  cases rx
  obtain ⟨uy, rfl, ry⟩ := rxs.one
  obtain ⟨bs, r1⟩ := Dp.reads I d y uy hy ry
  have hxs : PyData.canLayAll0 ds = true := SeqAt.canLay_of_shaped sl
  have hroom : X.A.units + 1 + min (PyData.depthAll ds) d.depth < cLine := room_in_shaped sd hu
  obtain ⟨hsz, its, n, rv, hlen, ho⟩ := I.lstM hH
  obtain ⟨as, h4⟩ := Dp.readsAll I ds _ its hl rv
  have hn : its.length = ds.length := SeqAt.ReadsAll.length ds its as h4
  have hmap : its.map (SeqAt.readOf s.heap) = ds := SeqAt.readsAll_map ds its as hxs h4
  obtain ⟨hjd, _⟩ := List.getElem?_eq_some_iff.mp hz
  have hjl : j < its.length := by omega
  have hj : j < its.toArray.size := by simpa using hjl
  have at_ : ∀ (m : Nat) (hm : m < its.toArray.size) (z' : PyData), ds[m]? = some z' → SeqAt.readOf s.heap its.toArray[m] = z' := by
    intro m hm z' hz'
    have hml : m < its.length := by simpa using hm
    rw [← hmap, List.getElem?_map, List.getElem?_eq_getElem hml] at hz'
    have e1 : SeqAt.readOf s.heap its[m] = z' := Option.some.inj (show some (SeqAt.readOf s.heap its[m]) = some z' from hz')
    simpa using e1
  refine call_meets PySem.F.slot_list_remove ⟨_, ho, rfl⟩ PySem.F.entry_list_remove (PySem.F.args_list_remove_2 _ _)
    (SeqAt.list_removeAt a its.toArray n none #[] uy (fun u => PyData.eqv (SeqAt.readOf s.heap u) d) j hj ?_ ?_ (by rw [List.size_toArray]; omega)) ⟨ho, SeqAt.items_eqAt (vs := its.toArray) (show ReadsAll s.heap its.toArray.toList ds as from h4) r1 hxs (SeqAt.canLay_of_shaped sd) hroom, ?_⟩
  · show PyData.eqv (SeqAt.readOf s.heap its.toArray[j]) d = true
    rw [at_ j hj z hz]
    exact hzj
  · intro m hm hmj
    have hmd : m < ds.length := by omega
    have hz' : ds[m]? = some ds[m] := List.getElem?_eq_getElem hmd
    show PyData.eqv (SeqAt.readOf s.heap its.toArray[m]) d = false
    rw [at_ m hm _ hz']
    exact hno m _ hmj hz'
  · have rr := rv.eraseIdx j
    refine ⟨.non, _, I.lset (its' := its.eraseIdx j) (t' := s.toks) hH ho ?_ rr ?_, rfl, q⟩
    · show its.toArray.eraseIdxIfInBounds j = (its.eraseIdx j).toArray
      rw [List.eraseIdxIfInBounds_toArray]
    · have := List.length_eraseIdx_le vs j
      omega
def rCntD (K : PySem.W.Frag) : V → List V → Hp → VK → Prop := fun x xs H Q => ∃ (a : Addr) (y : V) (d : PyData) (ds : List PyData), x = V.ref a ∧ xs = [y] ∧ Dp K H (V.ref a) (.list ds) ∧ Dp K H y d ∧
  SeqAt.shaped (.list ds) = true ∧ SeqAt.shaped d = true ∧ Q (.int ((ds.countP fun z => PyData.eqv z d : Nat))) H
theorem mt_countD (hu : X.A.units + 65 < cLine) : MtR X "list.count" (rCntD X.K) := by
  intro pins s σ H x xs v us Q I rx rxs h
  obtain ⟨a, y, d, ds, rfl, rfl, hl, hy, sl, sd, q⟩ := h
  cases rx
  obtain ⟨uy, rfl, ry⟩ := rxs.one
  obtain ⟨bs, r1⟩ := Dp.reads I d y uy hy ry
  have hxs : PyData.canLayAll0 ds = true := SeqAt.canLay_of_shaped sl
  have hroom : X.A.units + 1 + min (PyData.depthAll ds) d.depth < cLine := room_in_shaped sd hu
  cases hl with
  | lst hs ha =>
    obtain ⟨its, rv, ⟨⟨cls, dd, data, sls⟩, n, ho, hc, hdn, hdt⟩, hlen⟩ := I.list hs
    simp only at hc hdt
    subst hc hdt
    obtain ⟨as, h4⟩ := Dp.readsAll I ds _ its ha rv
    have hmap : its.map (SeqAt.readOf s.heap) = ds := SeqAt.readsAll_map ds its as hxs h4
    refine call_meets PySem.F.slot_list_count ⟨_, ho, rfl⟩ PySem.F.entry_list_count (PySem.F.args_list_count_2 _ _)
      (SeqAt.list_countAt a its.toArray n dd sls uy (fun u => PyData.eqv (SeqAt.readOf s.heap u) d)) ⟨ho, SeqAt.items_eqAt (vs := its.toArray) (show ReadsAll s.heap its.toArray.toList ds as from h4) r1 hxs (SeqAt.canLay_of_shaped sd) hroom, ?_⟩
    have ec : its.toArray.toList.countP (fun u => PyData.eqv (SeqAt.readOf s.heap u) d) = ds.countP fun z => PyData.eqv z d := by
      rw [← hmap, List.countP_map]; rfl
    refine ⟨.int ((ds.countP fun z => PyData.eqv z d : Nat)), H, I.tok _, ⟨s.toks, ?_⟩, q⟩
    show Value.int ((its.toArray.toList.countP (fun u => PyData.eqv (SeqAt.readOf s.heap u) d) : Nat) : Int) s.toks = _
    rw [ec]
end
end Mi
end
section
set_option Elab.async false
set_option linter.all false
set_option maxRecDepth 100000
/-! MiC4: slices, methods of built-in types, isinstance. -/
namespace Mi
open PySem PySem.Spec L2
section
variable {T : Tb} {α α' : Al} {H H' : Hp} {M M' : Hh} {X : Cx}
/-! ### slices -/
theorem Reps.cut {ds : List D} {vs : List V} (r : Reps T α H ds vs) (lo hi : Option Int) : Reps T α H (Mi.cut ds lo hi) (cutV vs lo hi) := by
  unfold Mi.cut cutV
  rw [r.1]
  exact (r.drop _).take _
theorem cut_all {β : Type} {xs : List β} {lo hi : Option Int} (h : HT.sIx xs.length 0 lo = 0 ∧ HT.sIx xs.length xs.length hi = xs.length) : cut xs lo hi = xs := by
  unfold cut
  show (xs.drop (HT.sIx xs.length 0 lo)).take (HT.sIx xs.length xs.length hi - HT.sIx xs.length 0 lo) = xs
  rw [h.1, h.2]; simp
def slD (T : Tb) (m : Bool) : V → Option Int → Option Int → Hp → VK → Prop := fun x lo hi H Q => ∃ α M d, RM T α M H ∧ Rep T α H d x ∧ PostE T α H Q (sliceD m d lo hi M)
theorem snd_slice (hK : T.K = X.K) {m : Bool} : SlR X (slD T m) := by
  intro pins s σ H x v vl vu lo hi sl Q I rx hs pl pu h
  obtain ⟨α, M, d, hm, rd, q⟩ := h
  unfold sliceD at q
  split at q
  · rename_i ds e1
    obtain ⟨a, vs, rfl, t, r⟩ := der_lst hm rd e1
    exact sl_list pins s σ H _ v vl vu lo hi sl Q I rx hs pl pu ⟨a, vs, rfl, SqL.of t, PostE.alloc hm (r.cut lo hi) q⟩
  · rename_i ns e1
    obtain ⟨a, rfl, t⟩ := der_scr rd hm e1
    exact sl_list pins s σ H _ v vl vu lo hi sl Q I rx hs pl pu ⟨a, _, rfl, hK ▸ t.sq, PostE.alloc hm ((reps_ints ns).cut lo hi) q⟩
  · rename_i ds e1
    obtain ⟨a, vs, rfl, t, r⟩ := der_tup hm rd e1
    refine sl_tupK pins s σ H _ v vl vu lo hi sl Q I rx hs pl pu ⟨a, vs, rfl, hK ▸ t.sq, fun z => ?_, fun z => q.tupN hm (r.cut lo hi)⟩
    rw [← r.1] at z
    rw [cut_all z] at q
    exact q.pure hm (.tup t r.1 r.2)
  · rename_i z e1
    obtain ⟨rfl, o⟩ := der_str rd hm e1
    refine sl_str pins s σ H _ v vl vu lo hi sl Q I rx hs pl pu ⟨z, rfl, o.2, ?_⟩
    have e2 : cutS z lo hi = ⟨(cut z.cps.toList lo hi).toArray⟩ := rfl
    rw [e2]
    refine q.pure hm (.str _ (strOk_sub (fun c hc => ?_) ?_ o))
    · have hc : c ∈ cut z.cps.toList lo hi := by simpa using hc
      have := List.mem_of_mem_drop (List.mem_of_mem_take hc)
      simpa using this
    · have := cutS_length z lo hi
      rw [e2] at this; exact this
  · exact q.elim

/-! ### methods of built-in types -/
def mtD (T : Tb) (f : BM) : V → List V → Hp → VK → Prop := fun x vs H Q => ∃ α M d ds, RM T α M H ∧ Rep T α H d x ∧ Reps T α H ds vs ∧ PostE T α H Q (bmD f d ds M)
def bmId : BM → String
  | .lappend => "list.append" | .lextend => "list.extend" | .linsert => "list.insert" | .lpop => "list.pop" | .lpopat => "list.pop" | .dget => "dict.get" | .dpop => "dict.pop" | .lindex => "list.index" | .sjoin => "str.join" | .sstarts => "str.startswith"
  | .lremove => "list.remove" | .lcount => "list.count" | .supper => "str.upper" | .scount => "str.count" | .ssplit _ => "str.split" | .ssplitm _ => "str.split" | .sfind => "str.find" | .srfind => "str.rfind" | .sends => "str.endswith"
def bmNm : BM → Str
  | .lappend => "append" | .lextend => "extend" | .linsert => "insert" | .lpop => "pop" | .lpopat => "pop" | .dget => "get" | .dpop => "pop" | .lindex => "index" | .sjoin => "join" | .sstarts => "startswith"
  | .lremove => "remove" | .lcount => "count" | .supper => "upper" | .scount => "count" | .ssplit _ => "split" | .ssplitm _ => "split" | .sfind => "find" | .srfind => "rfind" | .sends => "endswith"
def bmT : BM → String
  | .lappend => "list" | .lextend => "list" | .linsert => "list" | .lpop => "list" | .lpopat => "list" | .dget => "dict" | .dpop => "dict" | .lindex => "list" | .sjoin => "str" | .sstarts => "str"
  | .lremove => "list" | .lcount => "list" | .supper => "str" | .scount => "str" | .ssplit _ => "str" | .ssplitm _ => "str" | .sfind => "str" | .srfind => "str" | .sends => "str"
theorem bm_plain : ∀ f : BM, PlainAttrs (bmT f)
  | .lappend => F.plainAttrs_list | .lextend => F.plainAttrs_list | .linsert => F.plainAttrs_list | .lpop => F.plainAttrs_list | .lpopat => F.plainAttrs_list | .dget => F.plainAttrs_dict | .dpop => F.plainAttrs_dict | .lindex => F.plainAttrs_list | .sjoin => F.plainAttrs_str | .sstarts => F.plainAttrs_str
  | .lremove => F.plainAttrs_list | .lcount => F.plainAttrs_list | .supper => F.plainAttrs_str | .scount => F.plainAttrs_str | .ssplit _ => F.plainAttrs_str | .ssplitm _ => F.plainAttrs_str | .sfind => F.plainAttrs_str | .srfind => F.plainAttrs_str | .sends => F.plainAttrs_str
theorem bm_slot : ∀ f : BM, Slot (bmT f) (bmNm f) (bmId f)
  | .lappend => F.slot_list_append | .lextend => F.slot_list_extend | .linsert => F.slot_list_insert | .lpop => F.slot_list_pop | .lpopat => F.slot_list_pop | .dget => F.slot_dict_get | .dpop => F.slot_dict_pop | .lindex => F.slot_list_index | .sjoin => F.slot_str_join | .sstarts => F.slot_str_startswith
  | .lremove => F.slot_list_remove | .lcount => F.slot_list_count | .supper => F.slot_str_upper | .scount => F.slot_str_count | .ssplit _ => F.slot_str_split | .ssplitm _ => F.slot_str_split | .sfind => F.slot_str_find | .srfind => F.slot_str_rfind | .sends => F.slot_str_endswith
theorem bm_type : ∀ f : BM, typeOf (.builtin (bmId f)) = pure (.type "method_descriptor")
  | .lappend => F.type_list_append | .lextend => F.type_list_extend | .linsert => F.type_list_insert | .lpop => F.type_list_pop | .lpopat => F.type_list_pop | .dget => F.type_dict_get | .dpop => F.type_dict_pop | .lindex => F.type_list_index | .sjoin => F.type_str_join | .sstarts => F.type_str_startswith
  | .lremove => F.type_list_remove | .lcount => F.type_list_count | .supper => F.type_str_upper | .scount => F.type_str_count | .ssplit _ => F.type_str_split | .ssplitm _ => F.type_str_split | .sfind => F.type_str_find | .srfind => F.type_str_rfind | .sends => F.type_str_endswith
/-- a list of the small heap -/
theorem refL_inv {o : D} {x : V} {f : Nat → List D → R D} {Q : VK} (hm : RM T α M H) (r : Rep T α H o x) (q : PostE T α H Q (refL o M f)) :
    ∃ i a ds vs, x = .ref a ∧ α.a[i]? = some a ∧ M[i]? = some (.lst ds) ∧ H a = some (.lst vs) ∧ Reps T α H ds vs ∧ PostE T α H Q (f i ds) := by
  unfold refL at q
  split at q
  · rename_i i
    split at q
    · rename_i ds e
      cases r with
      | ref h =>
        obtain ⟨vs, h1, h2⟩ := hm.obj i _ _ e h
        exact ⟨i, _, ds, vs, rfl, h, e, h1, h2, q⟩
    · exact q.elim
  · exact q.elim
theorem PostE.put {Q : VK} {i : Nat} {a : Addr} {d : D} {v : V} {ds : List D} {vs : List V} (hm : RM T α M H) (ha : α.a[i]? = some a) {v0 : List V} (h0 : H a = some (.lst v0)) (r : Rep T α H d v) (rs : Reps T α H ds vs) (q : PostE T α H Q (.ok d (M.set i (.lst ds)))) : Q v (upd H a (.lst vs)) :=
  have hn : NoFr H a := NoFr.of h0 (fun _ _ z => nomatch z)
  q α _ v (Ext.set ha hn) (hm.set ha hn ⟨vs, upd_same, rs.ext (Ext.set ha hn)⟩) (r.ext (Ext.set ha hn))
theorem snd_lappend : MtR X "list.append" (mtD T .lappend) := by
  intro pins s σ H x vs v us Q I rx rv h
  obtain ⟨α, M, d, ds, hm, rd, rs, q⟩ := h
  simp only [bmD] at q
  split at q
  · rename_i e
    obtain ⟨y, ws, rfl, ry, r0⟩ := rs.inv_cons
    obtain rfl := r0.inv_nil
    obtain ⟨i, a, es, zs, rfl, ha, hM, hH, hr, q⟩ := refL_inv hm rd q
    split at q
    · rename_i hl
      exact mt_append pins s σ H _ _ v us Q I rx rv ⟨a, zs, y, rfl, rfl, hH, by rw [← hr.1, sizeLine_eq]; exact hl, PostE.put hm ha hH .non (hr.append (.cons ry .nil)) q⟩
    · exact q.elim
  · exact q.elim
theorem snd_lextend (hK : T.K = X.K) : MtR X "list.extend" (mtD T .lextend) := by
  intro pins s σ H x vs v us Q I rx rv h
  obtain ⟨α, M, d, ds, hm, rd, rs, q⟩ := h
  simp only [bmD] at q
  split at q
  · rename_i e
    obtain ⟨y, ws, rfl, ry, r0⟩ := rs.inv_cons
    obtain rfl := r0.inv_nil
    obtain ⟨i, a, es, zs, rfl, ha, hM, hH, hr, q⟩ := refL_inv hm rd q
    split at q
    · rename_i fs e1
      obtain ⟨b, ys, rfl, hb, hr2⟩ := der_lst hm ry e1
      split at q
      · rename_i hl
        exact mt_extend pins s σ H _ _ v us Q I rx rv ⟨a, b, zs, ys, rfl, rfl, hH, hb, szl (by rw [← hr.1, ← hr2.1]; exact hl), PostE.put hm ha hH .non (hr.append hr2) q⟩
      · exact q.elim
    · rename_i fs e1
      obtain ⟨b, ys, rfl, hb, hr2⟩ := der_tup hm ry e1
      split at q
      · rename_i hl
        exact mt_extendT pins s σ H _ _ v us Q I rx rv ⟨a, b, zs, ys, rfl, rfl, hH, hK ▸ hb.sq, szl (by rw [← hr.1, ← hr2.1]; exact hl), PostE.put hm ha hH .non (hr.append hr2) q⟩
      · exact q.elim
    · exact q.elim
  · exact q.elim
theorem snd_linsert : MtR X "list.insert" (mtD T .linsert) := by
  intro pins s σ H x vs v us Q I rx rv h
  obtain ⟨α, M, d, ds, hm, rd, rs, q⟩ := h
  simp only [bmD] at q
  split at q
  · rename_i k e
    obtain ⟨y, ws, rfl, ry, r0⟩ := rs.inv_cons
    obtain ⟨z, ws, rfl, rz, r0⟩ := r0.inv_cons
    obtain rfl := r0.inv_nil
    obtain rfl := ry.int_eq
    obtain ⟨i, a, es, zs, rfl, ha, hM, hH, hr, q⟩ := refL_inv hm rd q
    split at q
    · rename_i hl
      exact mt_insert pins s σ H _ _ v us Q I rx rv ⟨a, zs, k, z, rfl, rfl, hH, by rw [← hr.1, sizeLine_eq]; exact hl.1, hl.2.1, by omega, PostE.put hm ha hH .non (((hr.take _).append (.cons rz .nil)).append (hr.drop _)) q⟩
    · exact q.elim
  · exact q.elim
theorem Reps.dropLast {ds : List D} {vs : List V} (r : Reps T α H ds vs) : Reps T α H ds.dropLast vs.dropLast := by
  rw [List.dropLast_eq_take, List.dropLast_eq_take, ← r.1]
  exact r.take _
theorem snd_lpop : MtR X "list.pop" (mtD T .lpop) := by
  intro pins s σ H x vs v us Q I rx rv h
  obtain ⟨α, M, d, ds, hm, rd, rs, q⟩ := h
  simp only [bmD] at q
  split at q
  · obtain rfl := rs.inv_nil
    obtain ⟨i, a, es, zs, rfl, ha, hM, hH, hr, q⟩ := refL_inv hm rd q
    split at q
    · rename_i w hw
      obtain ⟨y, hy, ry⟩ := hr.get hw
      exact mt_pop pins s σ H _ _ v us Q I rx rv ⟨a, zs, y, rfl, rfl, hH, by rw [← hr.1]; exact hy, PostE.put hm ha hH ry hr.dropLast q⟩
    · exact q.elim
  · exact q.elim
theorem snd_lpopat : MtR X "list.pop" (mtD T .lpopat) := by
  intro pins s σ H x vs v us Q I rx rv h
  obtain ⟨α, M, d, ds, hm, rd, rs, q⟩ := h
  simp only [bmD] at q
  split at q
  · rename_i k
    obtain ⟨y, ws, rfl, ry, r0⟩ := rs.inv_cons
    obtain rfl := r0.inv_nil
    obtain rfl := ry.int_eq
    obtain ⟨i, a, es, zs, rfl, ha, hM, hH, hr, q⟩ := refL_inv hm rd q
    split at q
    · rename_i j hj
      split at q
      · rename_i w hw
        split at q
        · rename_i hl
          obtain ⟨y, hy, ry⟩ := hr.get hw
          obtain ⟨h1, h2, h3, h4⟩ := ixN_seq hj
          obtain ⟨hz, _⟩ := I.lstM hH
          rw [sizeLine_eq] at hz
          have := hr.1
          exact mt_popAt pins s σ H _ _ v us Q I rx rv ⟨a, zs, k, j, y, rfl, rfl, hH, by omega, by omega, by rw [← hr.1]; exact h1, hy, PostE.put hm ha hH ry (hr.eraseIdx j) q⟩
        · exact q.elim
      · exact q.elim
    · exact q.elim
  · exact q.elim
theorem snd_dget (hu : X.A.units + 1 < cLine) : MtR X "dict.get" (mtD T .dget) := by
  intro pins s σ H x vs v us Q I rx rv h
  obtain ⟨α, M, d, ds, hm, rd, rs, q⟩ := h
  simp only [bmD] at q
  split at q
  · rename_i k e
    obtain ⟨y, ws, rfl, ry, r0⟩ := rs.inv_cons
    obtain ⟨z, ws, rfl, rz, r0⟩ := r0.inv_cons
    obtain rfl := r0.inv_nil
    split at q
    · rename_i kvs e1
      obtain ⟨a, gs, rfl, t, r⟩ := der_dict hm rd e1
      cases rx
      obtain ⟨u1, u2, rfl, r1, r2⟩ := vals2 rv
      split at q
      · rename_i hk
        obtain ⟨k, rfl⟩ := isKey_of hk
        obtain rfl := rep_key ry
        have g : DGet H a (kV k) (valV gs k) := .inl ⟨gs, k, t, rfl, rfl⟩
        have q' : Q ((valV gs k).getD z) H := by
          rcases r.look k with ⟨h1, h2⟩ | ⟨d', v', h1, h2, h3⟩
          · rw [h1] at q; rw [h2]
            exact q.pure hm rz
          · rw [h1] at q; rw [h2]
            exact q.pure hm h3
        exact d_get2 hu I g r1 r2 fun w' s' I' rw' => ⟨_, H, I', rw', q'⟩
      · exact q.elim
    · exact q.elim
  · rename_i k e
    obtain ⟨y, ws, rfl, ry, r0⟩ := rs.inv_cons
    obtain rfl := r0.inv_nil
    split at q
    · rename_i kvs e1
      obtain ⟨a, gs, rfl, t, r⟩ := der_dict hm rd e1
      cases rx
      obtain ⟨u1, rfl, r1⟩ := vals1 rv
      split at q
      · rename_i hk
        obtain ⟨k, rfl⟩ := isKey_of hk
        obtain rfl := rep_key ry
        have g : DGet H a (kV k) (valV gs k) := .inl ⟨gs, k, t, rfl, rfl⟩
        have q' : Q ((valV gs k).getD .non) H := by
          rcases r.look k with ⟨h1, h2⟩ | ⟨d', v', h1, h2, h3⟩
          · rw [h1] at q; rw [h2]
            exact q.pure hm .non
          · rw [h1] at q; rw [h2]
            exact q.pure hm h3
        exact d_get1 hu I g r1 fun w' s' I' rw' => ⟨_, H, I', rw', q'⟩
      · exact q.elim
    · exact q.elim
  · exact q.elim
theorem RepK.drop : ∀ {kvs : List (D × D)} {ws : List (Key × V)}, RepK T α H kvs ws → ∀ k : Key, RepK T α H (dropD kvs (keyD k)) (dropK ws k)
  | [], ws, r, k => by rw [r.inv0]; exact .nil
  | p :: kvs, ws, r, k => by
    obtain ⟨q, us, rfl, h1, h2, h3⟩ := r.inv
    have ih := h3.drop k
    unfold dropD dropK at ih ⊢
    rw [List.filter_cons, List.filter_cons, h1, keyD_eqv]
    by_cases e : q.1 = k
    · simp only [e, decide_true, Bool.not_true, ne_eq, not_true_eq_false, decide_false, Bool.false_eq_true, if_false]
      exact ih
    · simp only [e, decide_false, Bool.not_false, ne_eq, not_false_eq_true, decide_true, if_true]
      exact .cons h1 h2 ih
theorem snd_dpop : MtR X "dict.pop" (mtD T .dpop) := by
  intro pins s σ H x vs v us Q I rx rv h
  obtain ⟨α, M, d, ds, hm, rd, rs, q⟩ := h
  simp only [bmD] at q
  split at q
  · rename_i k e
    obtain ⟨y, ws, rfl, ry, r0⟩ := rs.inv_cons
    obtain rfl := r0.inv_nil
    split at q
    · rename_i i
      split at q
      · rename_i kvs hM
        split at q
        · rename_i hk
          obtain ⟨kk, rfl⟩ := isKey_of hk
          obtain rfl := rep_key ry
          cases rd with
          | @ref _ a ha =>
            obtain ⟨gs, hH, r⟩ := hm.obj i _ _ hM ha
            cases rx
            obtain ⟨u1, rfl, r1⟩ := vals1 rv
            rcases r.look kk with ⟨h1, h2⟩ | ⟨d', v', h1, h2, h3⟩
            · rw [h1] at q; exact q.elim
            · rw [h1] at q
              refine d_pop I hH r1 h2 (.inl rfl) fun w' s' I' rw' => ⟨_, _, I', rw', ?_⟩
              have r2 := r.drop kk
              have hn : NoFr _ _ := NoFr.of hH (fun _ _ z => nomatch z)
              exact q α _ _ (Ext.set ha hn) (hm.set ha hn ⟨_, upd_same, r2.ext (Ext.set ha hn)⟩) (h3.ext (Ext.set ha hn))
        · exact q.elim
      · exact q.elim
    · exact q.elim
  · exact q.elim
theorem pys_get : ∀ (ds : List D) (i : Nat), (pys ds)[i]? = (ds[i]?).map D.py
  | ds, i => by rw [pys_map, List.getElem?_map]
theorem shaped_of {d : D} (p : d.plain = true) (hd : d.depth ≤ 64) (hc : d.py.canLay0 = true) : SeqAt.shaped d.py = true := by
  unfold SeqAt.shaped
  rw [hc, depth_py d p]
  simpa using hd
theorem snd_lindex (hK : T.K = X.K) (hu : X.A.units + 65 < cLine) : MtR X "list.index" (mtD T .lindex) := by
  intro pins s σ H x vs v us Q I rx rv h
  obtain ⟨α, M, d, ds, hm, rd, rs, q⟩ := h
  simp only [bmD] at q
  split at q
  · rename_i k
    obtain ⟨y, ws, rfl, ry, r0⟩ := rs.inv_cons
    obtain rfl := r0.inv_nil
    split at q
    · rename_i es e1
      split at q
      · rename_i hc
        obtain ⟨p1, p2, p3, p4⟩ := hc
        split at q
        · rename_i j hj
          obtain ⟨a, gs, rfl, t, r⟩ := der_lst hm rd e1
          obtain ⟨hjl, hj1, hj2⟩ := List.findIdx?_eq_some_iff_getElem.mp hj
          have hpl : (D.lst es).plain = true := by rw [D.plain]; exact p2
          have dp : Dp X.K H (V.ref a) (.list (pys es)) := hK ▸ .lst (SqL.of t) (r.dp p2)
          have sh : SeqAt.shaped (.list (pys es)) = true := by
            have := shaped_of (d := D.lst es) hpl (by rw [D.depth]; omega) (by rw [D.py, PyData.canLay0]; exact r.can p2)
            rw [D.py] at this; exact this
          have shk : SeqAt.shaped k.py = true := shaped_of p1 (by omega) (ry.can p1)
          refine mt_indexD hu pins s σ H _ _ v us Q I rx rv ⟨a, y, k.py, pys es, j, (es[j]).py, rfl, rfl, dp, hK ▸ ry.dp p1, sh, shk, ?_, ?_, fun m z' hm' hz' => ?_, q.pure hm (.int _)⟩
          · rw [pys_get, List.getElem?_eq_getElem hjl]; rfl
          · rw [eqv_py _ _ (plains_at p2 j _ (List.getElem?_eq_getElem hjl)) p1]; exact hj1
          · rw [pys_get] at hz'
            obtain ⟨z, hz, rfl⟩ := Option.map_eq_some_iff.mp hz'
            obtain ⟨hzl, rfl⟩ := List.getElem?_eq_some_iff.mp hz
            rw [eqv_py _ _ (plains_at p2 m _ hz) p1]
            simpa using hj2 m hm'
        · exact q.elim
      · exact q.elim
    · exact q.elim
  · exact q.elim
theorem strs_of : ∀ {ds : List D} {ys : List Str} {vs : List V}, strsOf ds = some ys → Reps T α H ds vs → vs = ys.map V.str ∧ ∀ y ∈ ys, StrOk y
  | [], ys, vs, h, r => by cases h; rw [r.inv_nil]; exact ⟨rfl, fun y hy => by simp at hy⟩
  | d :: ds, ys, vs, h, r => by
    obtain ⟨v, us, rfl, h1, h2⟩ := r.inv_cons
    cases d with
    | str x =>
      rw [strsOf] at h
      obtain ⟨zs, hz, rfl⟩ := Option.map_eq_some_iff.mp h
      obtain ⟨rfl, h3⟩ := strs_of hz h2
      obtain ⟨rfl, h4⟩ := h1.str_eq
      refine ⟨rfl, fun y hy => ?_⟩
      rcases List.mem_cons.mp hy with rfl | hy
      · exact h4
      · exact h3 y hy
    | _ => simp [strsOf] at h
theorem join_ok (a : Str) (ha : StrOk a) : ∀ ys : List Str, (∀ y ∈ ys, StrOk y) → (ys.map (·.length)).sum + ys.length * a.length ≤ 16777216 → StrOk (Str.join a ys) ∧ (Str.join a ys).length ≤ (ys.map (·.length)).sum + ys.length * a.length
  | [], _, _ => ⟨⟨by simp [Str.join, PyData.strOk, Str.empty], by simp only [Str.join]; decide⟩, by simp only [Str.join]; exact Nat.zero_le _⟩
  | [x], h, hl => ⟨h x (by simp), by simp [Str.join]⟩
  | x :: y :: r, h, hl => by
    have e : ((x :: y :: r).map (·.length)).sum + (x :: y :: r).length * a.length = x.length + a.length + (((y :: r).map (·.length)).sum + (y :: r).length * a.length) := by
      simp [Nat.add_mul]; omega
    rw [e] at hl ⊢
    obtain ⟨h1, h2⟩ := join_ok a ha (y :: r) (fun z hz => h z (List.mem_cons_of_mem _ hz)) (by omega)
    have lapp : ∀ u v : Str, (u ++ v).length = u.length + v.length := fun u v => by show (u.cps ++ v.cps).size = _; rw [Array.size_append]; rfl
    have hx := h x (by simp)
    have o1 := strOk_app hx ha (by omega)
    have o2 := strOk_app o1 h1 (by rw [lapp]; omega)
    exact ⟨o2, by show (x ++ a ++ Str.join a (y :: r)).length ≤ _; rw [lapp, lapp]; omega⟩
theorem snd_sjoin (hK : T.K = X.K) : MtR X "str.join" (mtD T .sjoin) := by
  intro pins s σ H x vs v us Q I rx rv h
  obtain ⟨α, M, d, ds, hm, rd, rs, q⟩ := h
  simp only [bmD] at q
  split at q
  · rename_i k e
    obtain ⟨y, ws, rfl, ry, r0⟩ := rs.inv_cons
    obtain rfl := r0.inv_nil
    split at q
    · rename_i a es e1 e2
      split at q
      · rename_i ys hy
        split at q
        · rename_i hl
          obtain ⟨rfl, ha⟩ := der_str rd hm e1
          obtain ⟨p, gs, rfl, t, r⟩ := der_lst hm ry e2
          obtain ⟨rfl, hys⟩ := strs_of hy r
          have q' : Q (.str (Txt.join a ys)) H := by rw [TL.join_eq]; exact q.pure hm (.str _ (join_ok a ha ys hys hl).1)
          exact mt_join pins s σ H _ _ v us Q I rx rv ⟨a, p, ys, rfl, rfl, .inl (SqL.of t), hl, q'⟩
        · exact q.elim
      · exact q.elim
    · exact q.elim
  · exact q.elim
theorem snd_sstarts : MtR X "str.startswith" (mtD T .sstarts) := by
  intro pins s σ H x vs v us Q I rx rv h
  obtain ⟨α, M, d, ds, hm, rd, rs, q⟩ := h
  simp only [bmD] at q
  split at q
  · rename_i k e
    obtain ⟨y, ws, rfl, ry, r0⟩ := rs.inv_cons
    obtain rfl := r0.inv_nil
    split at q
    · rename_i a b e1 e2
      obtain ⟨rfl, ha⟩ := der_str rd hm e1
      obtain ⟨rfl, hb⟩ := der_str ry hm e2
      exact mt_startswith pins s σ H _ _ v us Q I rx rv ⟨a, b, rfl, rfl, q.pure hm (.bl _)⟩
    · exact q.elim
  · exact q.elim
theorem strOk_key {y : Str} (h : keyOk (.str y) = true) : StrOk y := by
  simp only [keyOk, Bool.and_eq_true, decide_eq_true_eq] at h
  exact h
theorem reps_strs : ∀ ys : List Str, (∀ y ∈ ys, keyOk (.str y) = true) → Reps T α H (ys.map D.str) (ys.map V.str)
  | [], _ => .nil
  | y :: ys, h => .cons (.str y (strOk_key (h y (by simp)))) (reps_strs ys fun z hz => h z (List.mem_cons_of_mem _ hz))
theorem snd_lremove (hK : T.K = X.K) (hu : X.A.units + 65 < cLine) : MtM X "list.remove" (mtD T .lremove) := by
  intro pins s σ H x vs v us Q I rx rv h
  obtain ⟨α, M, d, ds, hm, rd, rs, q⟩ := h
  simp only [bmD] at q
  split at q
  · rename_i k
    obtain ⟨y, ws, rfl, ry, r0⟩ := rs.inv_cons
    obtain rfl := r0.inv_nil
    obtain ⟨i, a, es, gs, rfl, ha, hM, hH, r, q⟩ := refL_inv hm rd q
    split at q
    · rename_i hc
      obtain ⟨p1, p2, p3, p4⟩ := hc
      split at q
      · rename_i j hj
        obtain ⟨hjl, hj1, hj2⟩ := List.findIdx?_eq_some_iff_getElem.mp hj
        have hpl : (D.lst es).plain = true := by rw [D.plain]; exact p2
        have sh : SeqAt.shaped (.list (pys es)) = true := by
          have := shaped_of (d := D.lst es) hpl (by rw [D.depth]; omega) (by rw [D.py, PyData.canLay0]; exact r.can p2)
          rw [D.py] at this; exact this
        have shk : SeqAt.shaped k.py = true := shaped_of p1 (by omega) (ry.can p1)
        refine mt_removeD hu pins s σ H _ _ v us Q I rx rv ⟨a, gs, y, k.py, pys es, j, (es[j]).py, rfl, rfl, hH, hK ▸ r.dp p2, hK ▸ ry.dp p1, sh, shk, ?_, ?_, fun m z' hm' hz' => ?_, PostE.put hm ha hH .non (r.eraseIdx j) q⟩
        · rw [pys_get, List.getElem?_eq_getElem hjl]; rfl
        · rw [eqv_py _ _ (plains_at p2 j _ (List.getElem?_eq_getElem hjl)) p1]; exact hj1
        · rw [pys_get] at hz'
          obtain ⟨z, hz, rfl⟩ := Option.map_eq_some_iff.mp hz'
          obtain ⟨hzl, rfl⟩ := List.getElem?_eq_some_iff.mp hz
          rw [eqv_py _ _ (plains_at p2 m _ hz) p1]
          simpa using hj2 m hm'
      · exact q.elim
    · exact q.elim
  · exact q.elim
theorem count_py (k : D) (p1 : k.plain = true) : ∀ es : List D, plains es = true → (pys es).countP (fun z => PyData.eqv z k.py) = es.countP fun d => d.eqv k
  | [], _ => rfl
  | e :: es, h => by
    rw [plains, Bool.and_eq_true] at h
    rw [pys, List.countP_cons, List.countP_cons, count_py k p1 es h.2, eqv_py _ _ h.1 p1]
theorem snd_lcount (hK : T.K = X.K) (hu : X.A.units + 65 < cLine) : MtR X "list.count" (mtD T .lcount) := by
  intro pins s σ H x vs v us Q I rx rv h
  obtain ⟨α, M, d, ds, hm, rd, rs, q⟩ := h
  simp only [bmD] at q
  split at q
  · rename_i k
    obtain ⟨y, ws, rfl, ry, r0⟩ := rs.inv_cons
    obtain rfl := r0.inv_nil
    split at q
    · rename_i es e1
      split at q
      · rename_i hc
        obtain ⟨p1, p2, p3, p4⟩ := hc
        obtain ⟨a, gs, rfl, t, r⟩ := der_lst hm rd e1
        have hpl : (D.lst es).plain = true := by rw [D.plain]; exact p2
        have dp : Dp X.K H (V.ref a) (.list (pys es)) := hK ▸ .lst (SqL.of t) (r.dp p2)
        have sh : SeqAt.shaped (.list (pys es)) = true := by
          have := shaped_of (d := D.lst es) hpl (by rw [D.depth]; omega) (by rw [D.py, PyData.canLay0]; exact r.can p2)
          rw [D.py] at this; exact this
        have shk : SeqAt.shaped k.py = true := shaped_of p1 (by omega) (ry.can p1)
        refine mt_countD hu pins s σ H _ _ v us Q I rx rv ⟨a, y, k.py, pys es, rfl, rfl, dp, hK ▸ ry.dp p1, sh, shk, ?_⟩
        rw [count_py k p1 es p2]
        exact q.pure hm (.int _)
      · exact q.elim
    · exact q.elim
  · exact q.elim
theorem snd_supper : MtR X "str.upper" (mtD T .supper) := by
  intro pins s σ H x vs v us Q I rx rv h
  obtain ⟨α, M, d, ds, hm, rd, rs, q⟩ := h
  simp only [bmD] at q
  split at q
  · obtain rfl := rs.inv_nil
    split at q
    · rename_i a e1
      split at q
      · rename_i hc
        obtain ⟨rfl, ha⟩ := der_str rd hm e1
        exact mt_upper pins s σ H _ _ v us Q I rx rv ⟨a, rfl, rfl, hc.1, q.pure hm (.str _ (strOk_key hc.2))⟩
      · exact q.elim
    · exact q.elim
  · exact q.elim
theorem snd_scount : MtR X "str.count" (mtD T .scount) := by
  intro pins s σ H x vs v us Q I rx rv h
  obtain ⟨α, M, d, ds, hm, rd, rs, q⟩ := h
  simp only [bmD] at q
  split at q
  · rename_i k e
    obtain ⟨y, ws, rfl, ry, r0⟩ := rs.inv_cons
    obtain rfl := r0.inv_nil
    split at q
    · rename_i a b e1 e2
      obtain ⟨rfl, ha⟩ := der_str rd hm e1
      obtain ⟨rfl, hb⟩ := der_str ry hm e2
      exact mt_count pins s σ H _ _ v us Q I rx rv ⟨a, b, rfl, rfl, q.pure hm (.int _)⟩
    · exact q.elim
  · exact q.elim
theorem snd_sfind : MtR X "str.find" (mtD T .sfind) := by
  intro pins s σ H x vs v us Q I rx rv h
  obtain ⟨α, M, d, ds, hm, rd, rs, q⟩ := h
  simp only [bmD] at q
  split at q
  · rename_i k e
    obtain ⟨y, ws, rfl, ry, r0⟩ := rs.inv_cons
    obtain rfl := r0.inv_nil
    split at q
    · rename_i a b e1 e2
      obtain ⟨rfl, ha⟩ := der_str rd hm e1
      obtain ⟨rfl, hb⟩ := der_str ry hm e2
      exact mt_find pins s σ H _ _ v us Q I rx rv ⟨a, b, rfl, rfl, q.pure hm (.int _)⟩
    · exact q.elim
  · exact q.elim
theorem snd_sends : MtR X "str.endswith" (mtD T .sends) := by
  intro pins s σ H x vs v us Q I rx rv h
  obtain ⟨α, M, d, ds, hm, rd, rs, q⟩ := h
  simp only [bmD] at q
  split at q
  · rename_i k e
    obtain ⟨y, ws, rfl, ry, r0⟩ := rs.inv_cons
    obtain rfl := r0.inv_nil
    split at q
    · rename_i a b e1 e2
      obtain ⟨rfl, ha⟩ := der_str rd hm e1
      obtain ⟨rfl, hb⟩ := der_str ry hm e2
      exact mt_endswith pins s σ H _ _ v us Q I rx rv ⟨a, b, rfl, rfl, q.pure hm (.bl _)⟩
    · exact q.elim
  · exact q.elim
theorem snd_srfind : MtR X "str.rfind" (mtD T .srfind) := by
  intro pins s σ H x vs v us Q I rx rv h
  obtain ⟨α, M, d, ds, hm, rd, rs, q⟩ := h
  simp only [bmD] at q
  split at q
  · rename_i k i j
    obtain ⟨y, ws, rfl, ry, r0⟩ := rs.inv_cons
    obtain ⟨y1, ws, rfl, ry1, r0⟩ := r0.inv_cons
    obtain ⟨y2, ws, rfl, ry2, r0⟩ := r0.inv_cons
    obtain rfl := r0.inv_nil
    split at q
    · rename_i a b e1 e2
      obtain ⟨rfl, ha⟩ := der_str rd hm e1
      obtain ⟨rfl, hb⟩ := der_str ry hm e2
      cases ry1
      cases ry2
      exact mt_rfind4 pins s σ H _ _ v us Q I rx rv ⟨a, b, i, j, rfl, rfl, q.pure hm (.int _)⟩
    · exact q.elim
  · exact q.elim
theorem snd_ssplit (m : Bool) : MtR X "str.split" (mtD T (.ssplit m)) := by
  intro pins s σ H x vs v us Q I rx rv h
  obtain ⟨α, M, d, ds, hm, rd, rs, q⟩ := h
  simp only [bmD] at q
  split at q
  · rename_i k e
    obtain ⟨y, ws, rfl, ry, r0⟩ := rs.inv_cons
    obtain rfl := r0.inv_nil
    split at q
    · rename_i a b e1 e2
      split at q
      · rename_i hc
        obtain ⟨rfl, ha⟩ := der_str rd hm e1
        obtain ⟨rfl, hb⟩ := der_str ry hm e2
        exact mt_split pins s σ H _ _ v us Q I rx rv ⟨a, b, rfl, rfl, hc.1, szl hc.2.1, PostE.alloc hm (reps_strs _ hc.2.2) q⟩
      · exact q.elim
    · exact q.elim
  · exact q.elim
theorem snd_ssplitm (m : Bool) : MtR X "str.split" (mtD T (.ssplitm m)) := by
  intro pins s σ H x vs v us Q I rx rv h
  obtain ⟨α, M, d, ds, hm, rd, rs, q⟩ := h
  simp only [bmD] at q
  split at q
  · rename_i k kk
    obtain ⟨y, ws, rfl, ry, r0⟩ := rs.inv_cons
    obtain ⟨y1, ws, rfl, ry1, r0⟩ := r0.inv_cons
    obtain rfl := r0.inv_nil
    split at q
    · rename_i a b e1 e2
      split at q
      · rename_i hc
        obtain ⟨rfl, ha⟩ := der_str rd hm e1
        obtain ⟨rfl, hb⟩ := der_str ry hm e2
        cases ry1
        exact mt_splitMax pins s σ H _ _ v us Q I rx rv ⟨a, b, kk, rfl, rfl, hc.1, hc.2.2.1, hc.2.2.2.1, szl hc.2.1, PostE.alloc hm (reps_strs _ hc.2.2.2.2) q⟩
      · exact q.elim
    · exact q.elim
  · exact q.elim
theorem snd_bm (hK : T.K = X.K) (hu : X.A.units + 67 < cLine) : ∀ f : BM, MtR X (bmId f) (mtD T f)
  | .lappend => snd_lappend | .lextend => snd_lextend hK | .linsert => snd_linsert | .lpop => snd_lpop | .lpopat => snd_lpopat | .dget => snd_dget (by omega) | .dpop => snd_dpop | .lindex => snd_lindex hK (by omega) | .sjoin => snd_sjoin hK | .sstarts => snd_sstarts
  | .lremove => snd_lremove hK (by omega) | .lcount => snd_lcount hK (by omega) | .supper => snd_supper | .scount => snd_scount | .ssplit m => snd_ssplit m | .ssplitm m => snd_ssplitm m | .sfind => snd_sfind | .srfind => snd_srfind | .sends => snd_sends
/-- its type, ahead of the arguments -/
theorem bm_is (hK : T.K = X.K) {f : BM} {d : D} {x : V} (hm : RM T α M H) (r : Rep T α H d x) (h : bmTy f (der M d) = true) {pins : List (Addr × Obj)} {σ : St} {s : Shared} {v : Value} (I : Inv X pins σ H s) (rx : RelV x v) :
    s.TypeIs v (bmT f) ∧ ∀ a, v = .ref a → ∃ ob, s.heap.get? a = some ob ∧ ob.dict = none := by
  have lst : ∀ {ds}, der M d = .lst ds → s.TypeIs v "list" ∧ ∀ a, v = .ref a → ∃ ob, s.heap.get? a = some ob ∧ ob.dict = none := fun {ds} e => by
    obtain ⟨a, vs, rfl, t, _⟩ := der_lst hm r e
    exact tyV_is (T := "list") I rx (.inl ⟨rfl, vs, SqL.of t⟩)
  have dct : ∀ {kvs}, der M d = .dict kvs → s.TypeIs v "dict" ∧ ∀ a, v = .ref a → ∃ ob, s.heap.get? a = some ob ∧ ob.dict = none := fun {kvs} e => by
    obtain ⟨a, vs, rfl, t, _⟩ := der_dict hm r e
    cases rx
    obtain ⟨h1, h2, _⟩ := isD_at I (.inl ⟨vs, t⟩)
    exact ⟨h1, h2⟩
  have stx : ∀ {z}, der M d = .str z → s.TypeIs v "str" ∧ ∀ a, v = .ref a → ∃ ob, s.heap.get? a = some ob ∧ ob.dict = none := fun {z} e => by
    obtain ⟨rfl, _⟩ := der_str r hm e
    obtain ⟨t, rfl⟩ := rx
    exact ⟨typeIs_str _ _ _, fun a h => by cases h⟩
  cases e : der M d with
  | lst ds => rw [e] at h; cases f <;> first | exact lst e | exact absurd h (by simp [bmTy])
  | str z => rw [e] at h; cases f <;> first | exact stx e | exact absurd h (by simp [bmTy])
  | dict kvs => rw [e] at h; cases f <;> first | exact dct e | exact absurd h (by simp [bmTy])
  | _ => rw [e] at h; cases f <;> exact absurd h (by simp [bmTy])

/-! ### isinstance -/
inductive Kd where | non | bl | int | str | tup | lst | dict
def kdN : Kd → String
  | .non => "NoneType" | .bl => "bool" | .int => "int" | .str => "str" | .tup => "tuple" | .lst => "list" | .dict => "dict"
def tyN : Ty → String
  | .int => "int" | .str => "str" | .bool => "bool" | .tuple => "tuple" | .list => "list" | .dict => "dict"
def kdTy : Kd → Ty → Bool
  | .int, .int => true | .bl, .int => true | .bl, .bool => true | .str, .str => true | .tup, .tuple => true | .lst, .list => true | .dict, .dict => true
  | _, _ => false
theorem kd_kit (k : Kd) (t : Ty) : kitB (kdN k) (tyN t) = some (kdTy k t) := by cases k <;> cases t <;> decide +kernel
def kdOf : D → Option Kd
  | .non => some .non | .bl _ => some .bl | .int _ => some .int | .str _ => some .str | .tup _ => some .tup | .lst _ => some .lst | .dict _ => some .dict
  | _ => none
theorem kdOf_ty {d : D} {k : Kd} (h : kdOf d = some k) (t : Ty) : isTy d t = kdTy k t := by
  cases d <;> simp [kdOf] at h <;> subst h <;> cases t <;> rfl
theorem kdOf_ok {d : D} (h : tyOk d = true) : ∃ k, kdOf d = some k := by
  cases d <;> first | exact ⟨_, rfl⟩ | simp [tyOk] at h
theorem der_ty (hK : T.K = X.K) {d : D} {x : V} (hm : RM T α M H) (r : Rep T α H d x) {k : Kd} (h : kdOf (der M d) = some k) : TyX X.K H x (.type (kdN k)) := by
  cases e : der M d with
  | non => rw [e] at h; cases h; obtain rfl := der_non r hm e; exact .base .non
  | bl b => rw [e] at h; cases h; obtain rfl := der_bl r hm e; exact .base (.bl _)
  | int b => rw [e] at h; cases h; obtain rfl := der_int r hm e; exact .base (.int _)
  | str b => rw [e] at h; cases h; obtain ⟨rfl, _⟩ := der_str r hm e; exact .base (.str _)
  | tup ds =>
    rw [e] at h; cases h
    obtain ⟨a, vs, rfl, t, _⟩ := der_tup hm r e
    rcases t with ⟨⟨o, _, t⟩, _⟩ | ⟨o, its, n, hk, hc, _⟩
    · exact .fTuple t
    · exact .kTuple (hK ▸ hk) hc
  | lst ds =>
    rw [e] at h; cases h
    obtain ⟨a, vs, rfl, t, _⟩ := der_lst hm r e
    exact .base (.lst t)
  | dict ds =>
    rw [e] at h; cases h
    obtain ⟨a, vs, rfl, t, _⟩ := der_dict hm r e
    rcases t with t | ⟨o, t⟩
    · exact .base (.dK t)
    · exact .fDict t
  | _ => rw [e] at h; cases h
theorem kit_any (k : Kd) {K : PySem.W.Frag} : ∀ ts : List Ty, PySem.W.kitAny K (.type (kdN k)) (ts.map fun t => Value.type (tyN t)) = some (ts.any (kdTy k))
  | [] => rfl
  | t :: ts => by
    rw [List.map_cons, List.any_cons]
    refine kitAny_cons (b := kdTy k t) (kit_ty (kd_kit k t)) (fun e => ?_) (fun e => ?_)
    · rw [e, Bool.false_or]; exact kit_any k ts
    · rw [e, Bool.true_or]
end
end Mi
end
section
set_option Elab.async false
set_option linter.all false
set_option maxRecDepth 100000
/-! MiD: what a call hands back; a def's promise. -/
namespace Mi
open PySem PySem.Spec L2
section
variable {T : Tb} {α α' : Al} {H H' : Hp} {M M' : Hh} {X : Cx}
def Al.cutA (α : Al) (n : Nat) : Al := ⟨α.a.take n, α.z⟩
theorem out_cut {n : Nat} {a : Addr} (h : α.out a) : (α.cutA n).out a := ⟨fun z => h.1 (List.mem_of_mem_take z), h.2⟩
theorem frzDs_at {dr : Nat → Option D} {n : Nat} : ∀ {ds es : List D}, frzDs dr n ds = some es → ds.length = es.length ∧ ∀ (i : Nat) e, es[i]? = some e → ∃ d, ds[i]? = some d ∧ frzD dr n d = some e
  | [], es, h => by rw [frzDs] at h; cases h; exact ⟨rfl, fun i e he => by simp at he⟩
  | d :: ds, es, h => by
    rw [frzDs] at h
    split at h
    · rename_i e fs h1 h2
      cases h
      obtain ⟨hl, hi⟩ := frzDs_at h2
      refine ⟨by simp [hl], fun i e' he => ?_⟩
      cases i with
      | zero => simp at he; subst he; exact ⟨d, rfl, h1⟩
      | succ i => exact hi i e' (by simpa using he)
    · cases h
theorem frzKs_at {dr : Nat → Option D} {n : Nat} : ∀ {ds es : List (D × D)}, frzKs dr n ds = some es → ds.length = es.length ∧ ∀ (i : Nat) e, es[i]? = some e → ∃ d, ds[i]? = some d ∧ e.1 = d.1 ∧ frzD dr n d.2 = some e.2
  | [], es, h => by rw [frzKs] at h; cases h; exact ⟨rfl, fun i e he => by simp at he⟩
  | (k, d) :: ds, es, h => by
    rw [frzKs] at h
    split at h
    · rename_i e fs h1 h2
      cases h
      obtain ⟨hl, hi⟩ := frzKs_at h2
      refine ⟨by simp [hl], fun i e' he => ?_⟩
      cases i with
      | zero => simp at he; subst he; exact ⟨(k, d), rfl, rfl, h1⟩
      | succ i => exact hi i e' (by simpa using he)
    · cases h
theorem frzFs_at {dr : Nat → Option D} {n : Nat} : ∀ {ds es : List (Nat × D)}, frzFs dr n ds = some es → ds.length = es.length ∧ (∀ k, es.lookup k = none → ds.lookup k = none) ∧ ∀ k e, es.lookup k = some e → ∃ d, ds.lookup k = some d ∧ frzD dr n d = some e
  | [], es, h => by rw [frzFs] at h; cases h; exact ⟨rfl, fun _ h => h, fun i e he => by simp at he⟩
  | (k, d) :: ds, es, h => by
    rw [frzFs] at h
    split at h
    · rename_i e fs h1 h2
      cases h
      obtain ⟨hz, hl, hi⟩ := frzFs_at h2
      refine ⟨by simp [hz], fun j hj => ?_, fun j e' he => ?_⟩
      · rw [List.lookup_cons] at hj ⊢
        cases q : j == k with
        | true => rw [q] at hj; cases hj
        | false => rw [q] at hj; exact hl j hj
      · rw [List.lookup_cons] at he ⊢
        cases q : j == k with
        | true => rw [q] at he; cases he; exact ⟨d, rfl, h1⟩
        | false => rw [q] at he; exact hi j e' he
    · cases h
theorem get_of_len {β γ : Type} {xs : List β} {ys : List γ} (h : xs.length = ys.length) {i : Nat} {y : γ} (hy : ys[i]? = some y) : ∃ x, xs[i]? = some x := by
  have hi : i < ys.length := by
    by_cases q : i < ys.length
    · exact q
    · rw [List.getElem?_eq_none (by omega)] at hy; cases hy
  exact ⟨xs[i]'(by omega), List.getElem?_eq_getElem (by omega)⟩
/-- a value read off -/
theorem frzD_rep {dr : Nat → Option D} {n : Nat} (hdr : ∀ i a e, n ≤ i → α'.a[i]? = some a → dr i = some e → Rep T (α'.cutA n) H' e (.ref a)) {d : D} {v : V} (r : Rep T α' H' d v) :
    ∀ e, frzD dr n d = some e → Rep T (α'.cutA n) H' e v := by
  induction r with
  | non => intro e h; rw [frzD] at h; cases h; exact .non
  | bl b => intro e h; rw [frzD] at h; cases h; exact .bl b
  | int i => intro e h; rw [frzD] at h; cases h; exact .int i
  | str x hx => intro e h; rw [frzD] at h; cases h; exact .str x hx
  | fn hh nn => intro e h; rw [frzD] at h; cases h; exact .fn hh (out_cut nn)
  | tup h hl r ih =>
    intro e he
    rw [frzD] at he
    obtain ⟨es, h1, rfl⟩ := Option.map_eq_some_iff.mp he
    obtain ⟨el, ei⟩ := frzDs_at h1
    refine .tup (h.elim (fun h => .inl ⟨h.1, out_cut h.2⟩) .inr) (el.symm.trans hl) fun i d v h2 h3 => ?_
    obtain ⟨d', h4, h5⟩ := ei i d h2
    exact ih i d' v h4 h3 d h5
  | lst h nn hl r ih =>
    intro e he
    rw [frzD] at he
    obtain ⟨es, h1, rfl⟩ := Option.map_eq_some_iff.mp he
    obtain ⟨el, ei⟩ := frzDs_at h1
    refine .lst h (out_cut nn) (el.symm.trans hl) fun i d v h2 h3 => ?_
    obtain ⟨d', h4, h5⟩ := ei i d h2
    exact ih i d' v h4 h3 d h5
  | dict h nn hl hk r ih =>
    intro e he
    rw [frzD] at he
    obtain ⟨es, h1, rfl⟩ := Option.map_eq_some_iff.mp he
    obtain ⟨el, ei⟩ := frzKs_at h1
    refine .dict h (out_cut nn) (el.symm.trans hl) (fun i p q h2 h3 => ?_) fun i p q h2 h3 => ?_
    · obtain ⟨d', h4, h5, h6⟩ := ei i p h2
      rw [h5]; exact hk i d' q h4 h3
    · obtain ⟨d', h4, h5, h6⟩ := ei i p h2
      exact ih i d' q h4 h3 _ h6
  | inst g h nn hz hg hn r ih =>
    intro e he
    rw [frzD] at he
    obtain ⟨es, h1, rfl⟩ := Option.map_eq_some_iff.mp he
    obtain ⟨el, en, ei⟩ := frzFs_at h1
    refine .inst g h (out_cut nn) (by rw [← el]; exact hz) (fun k d h2 => ?_) (fun f hf => hn f fun k d hd => ?_) fun k d h2 => ?_
    · obtain ⟨d', h4, h5⟩ := ei k d h2
      exact hg k d' h4
    · cases q : es.lookup k with
      | none => rw [en k q] at hd; cases hd
      | some d2 => exact hf k d2 q
    · obtain ⟨d', h4, h5⟩ := ei k d h2
      exact ih k d' h4 _ h5
  | scr h => intro e he; rw [frzD] at he; cases he; exact .scr (h.elim (fun h => .inl ⟨h.1, out_cut h.2⟩) .inr)
  | @ref i a h =>
    intro e he
    rw [frzD] at he
    split at he
    · rename_i hi
      cases he
      refine .ref ?_
      show (α'.a.take n)[i]? = _
      rw [List.getElem?_take, if_pos hi]; exact h
    · rename_i hi
      exact hdr i a e (by omega) h he
theorem drf_rep (m : RM T α' M' H') {n : Nat} : ∀ k i a e, n ≤ i → α'.a[i]? = some a → drf M' n k i = some e → Rep T (α'.cutA n) H' e (.ref a)
  | 0, _, _, _, _, _, h => by rw [drf] at h; cases h
  | k + 1, i, a, e, hi, ha, h => by
    have out : (α'.cutA n).out a := by
      refine ⟨fun z => ?_, fun z => (m.zs a z).2 (List.mem_of_getElem? ha)⟩
      obtain ⟨j, hj, ej⟩ := List.getElem_of_mem z
      have hj : j < (α'.a.take n).length := hj
      have e2 : (α'.a.take n)[j]? = some a := by rw [List.getElem?_eq_getElem hj]; exact congrArg _ ej
      rw [List.getElem?_take] at e2
      split at e2
      · have := nodup_same m.nd e2 ha; omega
      · cases e2
    rw [drf] at h
    split at h
    · rename_i ds hM
      obtain ⟨es, h1, rfl⟩ := Option.map_eq_some_iff.mp h
      obtain ⟨vs, hv, r⟩ := m.obj i _ a hM ha
      obtain ⟨el, ei⟩ := frzDs_at h1
      refine .lst hv out (el.symm.trans r.1) fun j d v h2 h3 => ?_
      obtain ⟨d', h4, h5⟩ := ei j d h2
      exact frzD_rep (drf_rep m k) (r.2 j d' v h4 h3) d h5
    · rename_i ds hM
      obtain ⟨es, h1, rfl⟩ := Option.map_eq_some_iff.mp h
      obtain ⟨vs, hv, r⟩ := m.obj i _ a hM ha
      obtain ⟨el, ei⟩ := frzKs_at h1
      refine .dict (.inl hv) out (el.symm.trans r.1) (fun j p q h2 h3 => ?_) fun j p q h2 h3 => ?_
      · obtain ⟨d', h4, h5, h6⟩ := ei j p h2
        rw [h5]; exact r.2.1 j d' q h4 h3
      · obtain ⟨d', h4, h5, h6⟩ := ei j p h2
        exact frzD_rep (drf_rep m k) (r.2.2 j d' q h4 h3) _ h6
    · rename_i c ds hM
      obtain ⟨es, h1, rfl⟩ := Option.map_eq_some_iff.mp h
      obtain ⟨dx, gs, hv, hz, g, hg, hn, r⟩ := m.obj i _ a hM ha
      obtain ⟨el, en, ei⟩ := frzFs_at h1
      refine .inst g hv out (by rw [← el]; exact hz) (fun k' d h2 => ?_) (fun f hf => hn f fun k' d hd => ?_) fun k' d h2 => ?_
      · obtain ⟨d', h4, h5⟩ := ei k' d h2
        exact hg k' d' h4
      · cases q : es.lookup k' with
        | none => rw [en k' q] at hd; cases hd
        | some d2 => exact hf k' d2 q
      · obtain ⟨d', h4, h5⟩ := ei k' d h2
        exact frzD_rep (drf_rep m k) (r k' d' h4) _ h5
    · rename_i ds hM
      obtain ⟨es, h1, rfl⟩ := Option.map_eq_some_iff.mp h
      obtain ⟨vs, ⟨od, hv⟩, r⟩ := m.obj i _ a hM ha
      obtain ⟨el, ei⟩ := frzKs_at h1
      refine .dict (.inr ⟨od, hv⟩) out (el.symm.trans r.1) (fun j p q h2 h3 => ?_) fun j p q h2 h3 => ?_
      · obtain ⟨d', h4, h5, h6⟩ := ei j p h2
        rw [h5]; exact r.2.1 j d' q h4 h3
      · obtain ⟨d', h4, h5, h6⟩ := ei j p h2
        exact frzD_rep (drf_rep m k) (r.2.2 j d' q h4 h3) _ h6
    · cases h
/-- what speaks of old things alone -/
theorem refsLt_of {d : D} {v : V} (r : Rep T α H d v) : RefsLt α.a.length d := by
  induction r with
  | non => exact .non
  | bl b => exact .bl b
  | int i => exact .int i
  | str x h => exact .str x
  | fn h n => exact .fn _
  | tup h hl r ih =>
    refine .tup fun d hd => ?_
    obtain ⟨i, hi, e⟩ := List.getElem_of_mem hd
    obtain ⟨v, hv, rv⟩ := Reps.get ⟨hl, r⟩ (i := i) (d := d) (by rw [List.getElem?_eq_getElem hi, e])
    exact ih i d v (by rw [List.getElem?_eq_getElem hi, e]) hv
  | lst h n hl r ih =>
    refine .lst fun d hd => ?_
    obtain ⟨i, hi, e⟩ := List.getElem_of_mem hd
    obtain ⟨v, hv, rv⟩ := Reps.get ⟨hl, r⟩ (i := i) (d := d) (by rw [List.getElem?_eq_getElem hi, e])
    exact ih i d v (by rw [List.getElem?_eq_getElem hi, e]) hv
  | dict h n hl hk r ih =>
    refine .dict fun p hp => ?_
    obtain ⟨i, hi, e⟩ := List.getElem_of_mem hp
    have h1 := List.getElem?_eq_getElem hi
    rw [e] at h1
    obtain ⟨q, hq⟩ := get_of_len hl.symm h1
    exact ih i p q h1 hq
  | inst g h n hz hg hn r ih => exact .inst fun k d hd => ih k d hd
  | scr h => exact .scr _
  | ref h =>
    refine .ref ?_
    rename_i i a
    by_cases q : i < α.a.length
    · exact q
    · rw [List.getElem?_eq_none (by omega)] at h; cases h
theorem Rep.cutA {n : Nat} {d : D} {v : V} (r : Rep T α' H' d v) : RefsLt n d → Rep T (α'.cutA n) H' d v := by
  induction r with
  | non => intro _; exact .non
  | bl b => intro _; exact .bl b
  | int i => intro _; exact .int i
  | str x h => intro _; exact .str x h
  | fn hh nn => intro _; exact .fn hh (out_cut nn)
  | tup h hl r ih =>
    intro q
    cases q with
    | tup q => exact .tup (h.elim (fun h => .inl ⟨h.1, out_cut h.2⟩) .inr) hl fun i d v h1 h2 => ih i d v h1 h2 (q d (List.mem_of_getElem? h1))
  | lst h nn hl r ih =>
    intro q
    cases q with
    | lst q => exact .lst h (out_cut nn) hl fun i d v h1 h2 => ih i d v h1 h2 (q d (List.mem_of_getElem? h1))
  | dict h nn hl hk r ih =>
    intro q
    cases q with
    | dict q => exact .dict h (out_cut nn) hl hk fun i d v h1 h2 => ih i d v h1 h2 (q d (List.mem_of_getElem? h1))
  | inst g h nn hz hg hn r ih =>
    intro q
    cases q with
    | inst q => exact .inst g h (out_cut nn) hz hg hn fun k d h1 => ih k d h1 (q k d h1)
  | scr h => intro _; exact .scr (h.elim (fun h => .inl ⟨h.1, out_cut h.2⟩) .inr)
  | @ref i a h =>
    intro q
    cases q with
    | ref q =>
      refine .ref ?_
      show (α'.a.take n)[i]? = _
      rw [List.getElem?_take, if_pos q]; exact h
theorem refsLtO_of {a : Addr} {o : MO} (r : RObj T α H a o) : RefsLtO α.a.length o := by
  cases o with
  | lst ds =>
    obtain ⟨vs, _, r⟩ := r
    refine .lst fun d hd => ?_
    obtain ⟨i, hi, e⟩ := List.getElem_of_mem hd
    obtain ⟨v, hv, rv⟩ := r.get (i := i) (d := d) (by rw [List.getElem?_eq_getElem hi, e])
    exact refsLt_of rv
  | dict kvs =>
    obtain ⟨vs, _, r⟩ := r
    refine .dict fun p hp => ?_
    obtain ⟨i, hi, e⟩ := List.getElem_of_mem hp
    have h1 := List.getElem?_eq_getElem hi
    rw [e] at h1
    obtain ⟨q, hq⟩ := get_of_len r.1.symm h1
    exact refsLt_of (r.2.2 i p q h1 hq)
  | fz kvs =>
    obtain ⟨vs, _, r⟩ := r
    refine .fz fun p hp => ?_
    obtain ⟨i, hi, e⟩ := List.getElem_of_mem hp
    have h1 := List.getElem?_eq_getElem hi
    rw [e] at h1
    obtain ⟨q, hq⟩ := get_of_len r.1.symm h1
    exact refsLt_of (r.2.2 i p q h1 hq)
  | inst c fs =>
    obtain ⟨dx, gs, _, _, g, _, _, r⟩ := r
    exact .inst fun k d h => refsLt_of (r k d h)
theorem RObj.cutA {n : Nat} {a : Addr} {o : MO} (r : RObj T α' H' a o) (q : RefsLtO n o) : RObj T (α'.cutA n) H' a o := by
  cases o with
  | lst ds =>
    obtain ⟨vs, h, hl, r⟩ := r
    cases q with
    | lst q => exact ⟨vs, h, hl, fun i d v h1 h2 => (r i d v h1 h2).cutA (q d (List.mem_of_getElem? h1))⟩
  | dict kvs =>
    obtain ⟨vs, h, hl, hk, r⟩ := r
    cases q with
    | dict q => exact ⟨vs, h, hl, hk, fun i d v h1 h2 => (r i d v h1 h2).cutA (q d (List.mem_of_getElem? h1))⟩
  | fz kvs =>
    obtain ⟨vs, h, hl, hk, r⟩ := r
    cases q with
    | fz q => exact ⟨vs, h, hl, hk, fun i d v h1 h2 => (r i d v h1 h2).cutA (q d (List.mem_of_getElem? h1))⟩
  | inst c fs =>
    obtain ⟨dx, gs, h, hz, g, hg, hn, r⟩ := r
    cases q with
    | inst q => exact ⟨dx, gs, h, hz, g, hg, hn, fun k d h1 => (r k d h1).cutA (q k d h1)⟩
/-- the new things forgotten -/
theorem RM.cutA (m : RM T α M H) (e : Ext α α' H H') (m' : RM T α' M' H') (st : Stood M M') : RM T α (M'.take M.length) H' ∧ α'.cutA M.length = α := by
  obtain ⟨β, eβ⟩ := e.pre
  have ea : α'.cutA M.length = α := by
    unfold Al.cutA
    rw [eβ, e.zz, ← m.len, List.take_left]
  refine ⟨⟨by rw [List.length_take, m.len]; exact (Nat.min_eq_left st.1).symm, m.nd, fun i o a h1 h2 => ?_, fun z hz => ?_⟩, ea⟩
  · rw [List.getElem?_take] at h1
    split at h1
    · rename_i hi
      have ha := e.get h2
      have q : RefsLtO M.length o := by
        rcases st.2 i hi with h | ⟨o', h, hr⟩
        · rw [h] at h1
          rw [← m.len]; exact refsLtO_of (m.obj i o a h1 h2)
        · rw [h] at h1; cases h1; exact hr
      have r := (m'.obj i o a h1 ha).cutA q
      rw [ea] at r; exact r
    · cases h1
  · have := m'.zs z (by rw [e.zz]; exact hz)
    exact ⟨this.1, (m.zs z hz).2⟩
theorem Ext.cutA (e : Ext α α' H H') : Ext α α H H' := ⟨⟨[], by simp⟩, rfl, e.keep, e.same, fun a h n => absurd h n, e.hid, e.fr⟩
theorem back_post (m : RM T α M H) {keep : Bool} {Q : VK} : ∀ {r : R D}, PostE T α H Q (back keep M r) → PostE T α H Q r
  | .ok d M', h => by
    intro α' H' v e m' r
    simp only [back] at h
    split at h
    · exact h α' H' v e m' r
    · split at h
      · rename_i d' hd
        split at h
        · rename_i st
          obtain ⟨m2, ea⟩ := m.cutA e m' st
          refine h α H' v e.cutA m2 ?_
          have q := frzD_rep (drf_rep m' 8) r d' hd
          rw [ea] at q; exact q
        · exact h.elim
      · exact h.elim
  | .exc c M', h => by
    simp only [back] at h
    split at h
    · exact h
    · split at h
      · exact False.elim h
      · exact False.elim h
  | .bad, h => h
theorem back_postX (m : RM T α M H) {keep : Bool} {Q : VK} {E : XK} : ∀ {r : R D}, PostX T α H Q E (back keep M r) → PostX T α H Q E r
  | .ok d M', h => by
    have h2 : PostE T α H Q (back keep M (.ok d M')) := by
      cases hb : back keep M (.ok d M') with
      | ok e M2 => rw [hb] at h; exact h
      | exc c M2 =>
        simp only [back] at hb
        split at hb
        · cases hb
        · split at hb
          · split at hb <;> cases hb
          · cases hb
      | bad => rw [hb] at h; exact h
    exact back_post m h2
  | .exc c M', h => by
    intro α' H' e m'
    simp only [back] at h
    split at h
    · exact h α' H' e m'
    · split at h
      · rename_i st
        obtain ⟨m2, ea⟩ := m.cutA e m' st
        exact h α H' e.cutA m2
      · exact h.elim
  | .bad, h => h
end
end Mi
end
section
set_option Elab.async false
set_option linter.all false
set_option maxRecDepth 100000
/-! MiE: the shape of expressions; what is known where a def runs. -/
namespace Mi
open PySem PySem.Spec L2

/-! ### shapes -/
def okName (x : Str) : Bool := !(x == ("__debug__" : Str)) && !(x == ("__classdict__" : Str)) && !(x == ("__name__" : Str))
def visB (sc : Scope) (x : Str) : Bool := match sc.names.lookup x with | some .local => true | some .cell => true | some .free => true | _ => false
def locB (sc : Scope) (x : Str) : Bool := match sc.names.lookup x with | some .local => true | some .cell => true | _ => false
def glB (sc : Scope) (x : Str) : Bool := match sc.names.lookup x with | some .globalImplicit => true | _ => false
theorem visB_ok {sc : Scope} {x : Str} (h : visB sc x = true) : Vis sc x := by
  unfold visB at h
  split at h
  · rename_i e; exact .inl e
  · rename_i e; exact .inr (.inl e)
  · rename_i e; exact .inr (.inr e)
  · cases h
theorem locB_ok {sc : Scope} {x : Str} (h : locB sc x = true) : Loc sc x := by
  unfold locB at h
  split at h
  · rename_i e; exact .inl e
  · rename_i e; exact .inr e
  · cases h
theorem glB_ok {X : Cx} {x : Str} (h : glB X.env.scope x = true) : Gl X x := by
  unfold glB at h
  split at h
  · rename_i e; exact e
  · cases h
theorem okName_d {x : Str} (h : okName x = true) : (x == ("__debug__" : Str)) = false ∧ (x == ("__classdict__" : Str)) = false ∧ x ≠ "__name__" := by
  unfold okName at h
  simp only [Bool.and_eq_true, Bool.not_eq_true'] at h
  exact ⟨h.1.1, h.1.2, fun e => by subst e; simp at h⟩
def noStar : List Expr → Bool
  | [] => true
  | .Starred _ _ :: _ => false
  | _ :: r => noStar r
def notStar : Expr → Bool
  | .Starred _ _ => false
  | _ => true
def notSet : Expr → Bool
  | .Set _ _ _ => false
  | _ => true
def notSlice : Expr → Bool
  | .Slice _ _ _ _ => false
  | _ => true
def notComp : Expr → Bool
  | .ListComp _ _ _ _ => false | .SetComp _ _ _ _ => false | .DictComp _ _ _ _ _ => false
  | _ => true
def okBase : Expr → Bool
  | .Call (.Name id _) [] [] _ => !(id == ("super" : Str))
  | _ => true
def cEnd (a b : Pos) : Bool := a.endLine == b.line
theorem star_cons {e : Expr} {es : List Expr} {env : Env} (h : notStar e = true) : starEach (e :: es) env = (false, eval e env) :: starEach es env := by
  cases e <;> first | rfl | (simp [notStar] at h)
theorem noStar_cons {e : Expr} {es : List Expr} (h : noStar (e :: es) = true) : notStar e = true ∧ noStar es = true := by
  cases e <;> first | exact ⟨rfl, h⟩ | (simp [noStar] at h)
theorem star_none {env : Env} : ∀ {es : List Expr}, noStar es = true → ∀ p ∈ starEach es env, p.1 = false
  | [], _ => fun p hp => by simp [starEach] at hp
  | e :: es, h => fun p hp => by
    obtain ⟨h1, h2⟩ := noStar_cons h
    rw [star_cons h1] at hp
    rcases List.mem_cons.mp hp with rfl | hp
    · rfl
    · exact star_none h2 p hp
theorem star_back {env : Env} {pos : Pos} {es : List Expr} (h : noStar es = true) : (backTo pos (starEach es env)).any (·.1) = false := by
  rw [List.any_eq_false]
  intro p hp
  obtain ⟨q, hq, rfl⟩ := List.mem_map.mp hp
  have := star_none h q hq
  simp [this]
theorem star_few {env : Env} {pos : Pos} {es : List Expr} (h : noStar es = true) (hl : es.length < 30) :
    ((backTo pos (starEach es env)).all (fun x => !x.1) && (backToKw pos (keywordEach [] env)).all (fun x => x.1.isSome) && decide (es.length + ([] : List Keyword).length + (if ([] : List Keyword).isEmpty then 0 else 1) < 30)) = true := by
  have h1 : (backTo pos (starEach es env)).all (fun x => !x.1) = true := by
    rw [List.all_eq_true]
    intro p hp
    obtain ⟨q, hq, rfl⟩ := List.mem_map.mp hp
    have := star_none h q hq
    simp [this]
  rw [h1]
  simp [keywordEach, backToKw, hl]
theorem base_ok {o : Expr} (h : okBase o = true) (f : Str) (env : Env) (whole : Sem Value) : attributeBase o f env whole = whole := by
  unfold attributeBase
  split
  · rename_i id p pos
    have hn : (id != ("super" : Str)) = true := by
      have h' : (!(id == ("super" : Str))) = true := h
      exact h'
    rw [hn]
    rfl
  · rfl
theorem mark_ok {b : Expr} (h : notSet b = true) (op : CmpOp) : behindInMarks op b = false := by
  cases b <;> first | rfl | (simp [notSet] at h)
theorem slice_ok {b : Expr} (h : notSlice b = true) : PlainIx b := by
  intro o i
  cases b <;> first | rfl | (simp [notSlice] at h)
theorem fold_ok {b : Expr} (h : notSet b = true) (env : Env) (x : Value) : foldedSetIterable b env x = pure x := by
  cases b <;> first | rfl | (simp [notSet] at h)
theorem comp_ok {e : Expr} (h : notComp e = true) (t : Option Expr) (n : Nat) (env : Env) : swapsWith e t n env = pure false := by
  cases e <;> first | rfl | (simp [notComp] at h)
/-- the call of a method, as it is written on one row -/
theorem meth_form {o : Expr} {m : Str} {apos pos : Pos} {args : List Expr} {env : Env} (hb : okBase o = true) (hs : noStar args = true) (hl : args.length < 30) (he : cEnd apos pos = true) :
    eval (.Call (.Attribute o m apos) args [] pos) env = (do
      let ov ← eval o env
      standAt apos.atName
      let (f, first) ← holding [ov] (getMethod ov m (do return (← importBound o env).getD true))
      callWith pos f first (backTo pos (starEach args env)) (backToKw pos (keywordEach [] env))) := by
  have hf := star_few (env := env) (pos := pos) hs hl
  rw [arm_eval_Call, base_ok hb]
  have h1 : methodCallForm (args.length + ([] : List Keyword).length) (backTo pos (starEach args env)) (backToKw pos (keywordEach [] env)) = true := by
    unfold methodCallForm
    have e : (backToKw pos (keywordEach [] env)).isEmpty = true := by simp [keywordEach, backToKw]
    rw [e]
    simpa using hf
  have h2 : (apos.endLine == pos.line) = true := he
  unfold methodCall calleeOf methodCallPos
  simp only [h1, h2, if_true, Bool.or_true, Bool.not_true, Bool.false_or, pure_bind]
end Mi
end
section
set_option Elab.async false
set_option linter.all false
set_option maxRecDepth 100000
/-! MiF: what loops and comprehensions walk. -/
namespace PySem
set_option maxHeartbeats 1000000 in
theorem meets_enumerate_one {v : Value} {o : Obj} {H : Heap → Prop} (B : Begins v o H) :
    Meets (Builtin.«enumerate.__new__» ⟨[.type "enumerate", v], []⟩) (fun _ R s => H s.heap ∧
      R (.ok (.ret (.ref (s.heap.push o).objs.size))) { s with heap := (s.heap.push o).push { cls := .type "enumerate", data := .fields #[.none, .bool false, .ref s.heap.objs.size, rawInt 0, .none, .none] } }) :=
  .of_wp fun prog w A R s h => by
    obtain ⟨hp, g, d, tk, os⟩ := s; obtain ⟨h1, h⟩ := h
    have hsub := sub_enumerate
    have q1 : ∀ {A' : Around} {E : Value → Shared → Prop} {Q : Value → Shared → Prop}, Q (.ref hp.objs.size) ⟨hp.push o, g, d, tk, os⟩ → wpAny (model prog w) A' (pyIter v) Q E ⟨hp, g, d, tk, os⟩ :=
      fun q => B.iter prog w _ _ ⟨hp, g, d, tk, os⟩ _ h1 q
    wp_walk using q1
    refine wpAny_stack_any fun st => wpAny_pure ?_
    split
    · rename_i c _ _ _ _ _
      cases (c == Value.type "enumerate")
      · wp_walk using q1
        exact ⟨_, rfl, h⟩
      · wp_walk using q1
        exact ⟨_, rfl, h⟩
    · wp_walk using q1
      exact ⟨_, rfl, h⟩
section
variable {prog : Program} {w : World} {A : Around} {E : Value → Shared → Prop} {s : Shared}
theorem enum_begins_one {v : Value} {o : Obj} {H : Heap → Prop} {Q : Value → Shared → Prop} (B : Begins v o H) (h1 : H s.heap)
    (h : ∀ h', IsEnum h' (s.heap.objs.size + 1) s.heap.objs.size 0 .none → h'.get? s.heap.objs.size = some o → h'.objs.size = s.heap.objs.size + 2 →
      (∀ b o, s.heap.get? b = some o → h'.get? b = some o) → Q (.ref (s.heap.objs.size + 1)) { s with heap := h' }) :
    wpAny (model prog w) A (call (.type "enumerate") [v]) Q E s := by
  refine callType_new F.called_enumerate (by decide) (F.typeCall_enumerate_1 _) (F.newCall_enumerate_1 _) (fun obj => F.args_object_init_2 obj _) F.entry_enumerate_new
    (meets_enumerate_one B) ⟨h1, ?_⟩
  have hz : (s.heap.push o).objs.size = s.heap.objs.size + 1 := Heap.size_push ..
  show _ ∧ _
  rw [hz]
  have he : IsEnum ((s.heap.push o).push { cls := .type "enumerate", data := .fields #[.none, .bool false, .ref s.heap.objs.size, rawInt 0, .none, .none] }) (s.heap.objs.size + 1) s.heap.objs.size 0 .none := by
    have := Heap.get?_push_size (s.heap.push o) (o := { cls := .type "enumerate", data := .fields #[.none, .bool false, .ref s.heap.objs.size, rawInt 0, .none, .none] }) rfl
    rw [hz] at this; exact this
  refine ⟨⟨_, he, rfl⟩, h _ he (Heap.get?_push_of_some _ (Heap.get?_push_size _ B.free)) (by rw [Heap.size_push, hz]) fun b o x => Heap.get?_push_of_some _ (Heap.get?_push_of_some _ x)⟩
end
end PySem
namespace L2
open PySem PySem.Spec PyProof.Rows
/-! ### lists and tuples alike -/
def SqX (K : PySem.W.Frag) (b : Bool) (H : Hp) (a : Addr) (xs : List V) : Prop := match b with | true => SqT K H a xs | false => SqL K H a xs
def ItX (b : Bool) (h : Heap) (it a : Addr) (i : Nat) : Prop := match b with | true => h.IsTupleIter it a i | false => h.IsListIter it a i
def InX (b : Bool) (h : Heap) (a : Addr) (items : Array Value) : Prop := match b with | true => h.IsTuple a items | false => h.IsList a items
def obX (b : Bool) (a : Addr) : Obj := match b with | true => { cls := .type "tuple_iterator", data := .fields #[.ref a, .int 0 0] } | false => { cls := .type "list_iterator", data := .fields #[.ref a, .int 0 0] }
theorem drX {prog : Program} {w : World} {A : Around} (hh : A.handled = none) (it a : Addr) (hne : a ≠ it) (items : Array Value) : ∀ b : Bool, Draws prog w A it [it, a] items.size (fun i v => items[i]? = some v) (fun i h => ItX b h it a i ∧ InX b h a items)
  | true => Draws.tuple hh it a hne items
  | false => Draws.list hh it a hne items
theorem bgX (a : Addr) (items : Array Value) : ∀ b : Bool, Begins (.ref a) (obX b a) fun h => InX b h a items
  | true => begins_tuple a items
  | false => begins_list a items
theorem ItX.of {b : Bool} {h : Heap} {it a : Addr} (e : h.get? it = some (obX b a)) : ItX b h it a 0 := by
  cases b <;> exact ⟨_, e, rfl, rfl⟩
theorem ItX.obj {b : Bool} {h : Heap} {it a : Addr} {i : Nat} (st : ItX b h it a i) : ∃ o, h.get? it = some o ∧ ∀ v, o.data ≠ .cell v := by
  cases b with
  | true => obtain ⟨o, e, _, d⟩ := st; exact ⟨o, e, fun v z => by rw [d] at z; cases z⟩
  | false => obtain ⟨o, e, _, d⟩ := st; exact ⟨o, e, fun v z => by rw [d] at z; cases z⟩
theorem ItX.at {b : Bool} {h h' : Heap} {it a : Addr} {i : Nat} (st : ItX b h it a i) (k : ∀ o, h.get? it = some o → h'.get? it = some o) : ItX b h' it a i := by
  cases b with
  | true => obtain ⟨o, e, r⟩ := st; exact ⟨o, k o e, r⟩
  | false => obtain ⟨o, e, r⟩ := st; exact ⟨o, k o e, r⟩
section
variable {X : Cx} {pins : List (Addr × Obj)} {σ : St} {H : Hp} {s : Shared} {a : Addr} {xs ys : List V}
theorem sqX (I : Inv X pins σ H s) : ∀ {b : Bool}, SqX X.K b H a xs → ∃ its : List Value, Vals xs its ∧ InX b s.heap a its.toArray ∧ a < s.heap.objs.size
  | true, h => let ⟨its, r, p, _⟩ := I.tuple h; ⟨its, r, p, let ⟨_, e, _⟩ := p; Heap.lt_size e⟩
  | false, h => let ⟨its, r, p, _⟩ := I.list h; ⟨its, r, p.isList, p.lt⟩
theorem sqX_inj (I : Inv X pins σ H s) : ∀ {b : Bool}, SqX X.K b H a xs → SqX X.K b H a ys → xs = ys
  | true, h, h' => I.tuple_inj h h'
  | false, h, h' => I.list_inj h h'
end
theorem ne_hi {a n : Nat} (k : Nat) (h : a < n) : n + k ≠ a := by omega
theorem ne_hi' {a n : Nat} (k : Nat) (h : a < n) : a ≠ n + k := by omega
theorem mem_ins {z p q r t c : Addr} (h : c ∈ [z, q, r, t]) : c ∈ [z, p, q, r, t] := by
  simp only [List.mem_cons, List.not_mem_nil, or_false] at h ⊢
  rcases h with h | h | h | h
  · exact .inl h
  · exact .inr (.inr (.inl h))
  · exact .inr (.inr (.inr (.inl h)))
  · exact .inr (.inr (.inr (.inr h)))
/-! ### enumerate -/
def IteX (K : PySem.W.Frag) (b : Bool) (a : Addr) : It :=
  ⟨fun i H => ∃ (xs : List V) (x : V), SqX K b H a xs ∧ xs[i]? = some x, fun i H v H' => ∃ T x, v = .ref T ∧ H T = none ∧ H' = upd H T (.tup [.int (i : Nat), x]) ∧ ∀ xs, SqX K b H a xs → xs[i]? = some x, fun i H => ∃ xs : List V, SqX K b H a xs ∧ xs.length = i⟩
theorem turn_enumX {P : Program} {w : World} {K : PySem.W.Frag} {elts : List Expr} {kk : Nat} {tpos : Pos} {b : Bool} (a e it : Addr) (hei : e ≠ it) (hea : e ≠ a) (hai : a ≠ it) :
    Turn P w K (.Tuple elts kk tpos) (IteX K b a) [e, it] e (fun i h => (∃ old, IsEnum h e it ((i : Nat) : Int) old) ∧ ItX b h it a i) where
  mem := by simp
  obj := fun i h st c hc => by
    obtain ⟨⟨old, he⟩, hi⟩ := st
    have e' : c = e ∨ c = it := by simpa using hc
    rcases e' with z | z
    · rw [z]; exact ⟨_, he, fun v q => nomatch q⟩
    · rw [z]; exact hi.obj
  keep := fun i h h' st k => let ⟨⟨old, he⟩, hi⟩ := st; ⟨⟨old, k e (by simp) _ he⟩, hi.at fun o q => k it (by simp) o q⟩
  item := by
    intro X hP hw hK hc i pins s σ H E I hf st hg
    subst hP hw hK
    obtain ⟨⟨old, he⟩, hit⟩ := st
    obtain ⟨xs, x, hq, hx⟩ := hg
    obtain ⟨its, rv, p, _⟩ := sqX I hq
    obtain ⟨u, hu, ru⟩ := rv.get hx
    have hh : X.A.in1.handled = none := I.ok.hd hc
    have W := GoesN.enumFrom (elts := elts) (x1 := kk) (pos := tpos) 0 (drX (prog := X.prog) (w := X.w) hh it a hai its.toArray b) e hei (by simp [hei, hea]) (by simp)
    have hlt : i < its.toArray.size := by
      have := (List.getElem?_eq_some_iff.mp hu).1
      simpa using this
    refine thn (W.goes i s (fun v s2 => ∃ x H', Inv X pins σ H' s2 ∧ RelV x v ∧ (IteX X.K b a).yld i H x H' ∧ ((∃ old, IsEnum s2.heap e it ((i + 1 : Nat) : Int) old) ∧ ItX b s2.heap it a (i + 1)) ∧ ∀ c ∈ [e, it], H' c = none) E hlt ⟨⟨old, by rw [Int.zero_add]; exact he⟩, hit, p⟩ ?_) ?_
    · rintro v h' tk ⟨T, t, y, rfl, hT, hy, hTup⟩ ⟨⟨old', he'⟩, hit', _⟩ hk _
      rw [Int.zero_add] at hTup he'
      have ey : y = u := by
        rw [← List.getElem?_toArray] at hu
        rw [hu] at hy; cases hy; rfl
      subst ey
      have new : ObjOk X.prog X.w (upd H T (.tup [.int (i : Nat), x])) h' T (.tup [.int (i : Nat), x]) :=
        ⟨by show 2 ≤ sizeLine; decide, [.int i t, y], .cons ⟨_, rfl⟩ (.cons ru .nil), hTup⟩
      have I1 : Inv X pins σ (upd H T (.tup [.int (i : Nat), x])) { s with heap := h', toks := tk } := I.turnedNew (ch := [e, it]) hk hf hT new
      refine ⟨.ref T, _, I1, rfl, ⟨T, x, rfl, I.hok.fresh hT, rfl, fun ys hy => by rw [sqX_inj I hy hq]; exact hx⟩, ⟨⟨old', he'⟩, hit'⟩, fun c hc => ?_⟩
      have hcl : c < s.heap.objs.size := by
        have e' : c = e ∨ c = it := by simpa using hc
        rcases e' with z | z
        · rw [z]; exact Heap.lt_size he
        · rw [z]; obtain ⟨o, q, _⟩ := hit.obj; exact Heap.lt_size q
      rw [upd_ne (Nat.ne_of_lt (Nat.lt_of_lt_of_le hcl hT))]
      exact (hf c hc).1
    · rintro r s1 ⟨v, hr, h⟩
      exact ⟨v, hr, h⟩
  done := by
    intro X hP hw hK hc i pins s σ H E I hf st hg
    subst hP hw hK
    obtain ⟨⟨old, he⟩, hit⟩ := st
    obtain ⟨xs, hq, hx⟩ := hg
    obtain ⟨its, rv, p, _⟩ := sqX I hq
    have hh : X.A.in1.handled = none := I.ok.hd hc
    have hl := rv.length
    have W := GoesN.enumFrom (elts := elts) (x1 := kk) (pos := tpos) 0 (drX (prog := X.prog) (w := X.w) hh it a hai its.toArray b) e hei (by simp [hei, hea]) (by simp)
    have ei : its.toArray.size = i := by
      have : its.toArray.size = its.length := by simp
      omega
    refine W.stops s (fun s1 => Inv X pins σ H s1) E ?_ fun h' tk hk _ => I.turnedL (ch := [e, it]) hk hf
    rw [ei]
    exact ⟨⟨old, by rw [Int.zero_add]; exact he⟩, hit, p⟩
  self := fun A i s Q E st h => let ⟨⟨_, he⟩, _⟩ := st; wpAny_pyIter_enum he h
def iEnumX (K : PySem.W.Frag) (ta : TA) : TI := fun σ H R => ta σ H fun vs H1 => ∃ b a xs, vs = [.ref a] ∧ SqX K b H1 a xs ∧ R (IteX K b a) H1
theorem pi_enumX {X : Cx} {e : Expr} {ta : TA} {p pos tpos : Pos} {elts : List Expr} {kk : Nat} (hg : Gl X "enumerate") (hm : X.mg "enumerate" = none) (ha : PA X [e] ta) (hs : starEach [e] X.env = [(false, eval e X.env)]) :
    PI X (.Tuple elts kk tpos) (.Call (.Name "enumerate" p) [e] [] pos) (iEnumX X.K ta) := by
  refine ⟨fun pins s σ H R I h => ?_⟩
  refine Call_ (ld_blt I hg hm boot_enumerate (PyProof.Rows.callWith_type1 (thn (ha.run pos pins s σ H _ I h) fun us s1 ⟨vs, H1, I1, r1, q1⟩ => ?_) hs rfl))
  obtain ⟨b, a, xs, ex, hq, q⟩ := q1
  subst ex
  cases r1 with
  | cons r rr =>
    cases rr
    cases r
    obtain ⟨its, rv, p', hlt⟩ := sqX I1 hq
    refine enum_begins_one (bgX a its.toArray b) p' fun h' he hit hsz hk => wpAny_pyIter_enum he ?_
    have I2 : Inv X pins σ H1 { s1 with heap := h' } := I1.kept (t' := s1.toks) hk
    refine ⟨s1.heap.objs.size + 1, [s1.heap.objs.size + 1, s1.heap.objs.size], _, _, H1, rfl, I2, turn_enumX a (s1.heap.objs.size + 1) s1.heap.objs.size (Nat.succ_ne_self _) (ne_hi 1 hlt) (ne_hi' 0 hlt), ⟨⟨.none, he⟩, ItX.of hit⟩, fun b hb => ?_, q⟩
    have e' : b = s1.heap.objs.size + 1 ∨ b = s1.heap.objs.size := by simpa using hb
    have hle : s1.heap.objs.size ≤ b := by
      rcases e' with z | z <;> rw [z]
      · exact Nat.le_add_right _ _
      · exact Nat.le_refl _
    exact I1.fpOk hle (I1.hok.fresh hle)
/-! ### zip of two -/
def ItzX (K : PySem.W.Frag) (b1 b2 : Bool) (a1 a2 : Addr) : It :=
  ⟨fun i H => ∃ (xs ys : List V) (x y : V), SqX K b1 H a1 xs ∧ SqX K b2 H a2 ys ∧ xs[i]? = some x ∧ ys[i]? = some y,
    fun i H v H' => ∃ T x y, v = .ref T ∧ H T = none ∧ H' = upd H T (.tup [x, y]) ∧ (∀ xs, SqX K b1 H a1 xs → xs[i]? = some x) ∧ ∀ ys, SqX K b2 H a2 ys → ys[i]? = some y,
    fun i H => ∃ xs ys : List V, SqX K b1 H a1 xs ∧ SqX K b2 H a2 ys ∧ min xs.length ys.length = i⟩
theorem turn_zipX {P : Program} {w : World} {K : PySem.W.Frag} {elts : List Expr} {kk : Nat} {tpos : Pos} {b1 b2 : Bool} {a1 a2 z TI TO i1 i2 : Addr} (D : ZipSep2 z TI TO i1 i2 [i1, a1] [i2, a2]) (n1 : a1 ≠ i1) (n2 : a2 ≠ i2) :
    Turn P w K (.Tuple elts kk tpos) (ItzX K b1 b2 a1 a2) [z, TI, TO, i1, i2] z (fun i h => IsZip h z TI TO .none ∧ IsTupOf2 h TI (.ref i1) (.ref i2) ∧ (∃ x y, IsTupOf2 h TO x y) ∧ ItX b1 h i1 a1 i ∧ ItX b2 h i2 a2 i) where
  mem := by simp
  obj := fun i h st c hc => by
    obtain ⟨hz, hTI, ⟨x, y, hTO⟩, h1, h2⟩ := st
    have e' : c = z ∨ c = TI ∨ c = TO ∨ c = i1 ∨ c = i2 := by simpa using hc
    rcases e' with q | q | q | q | q
    · rw [q]; exact ⟨_, hz, fun v q => nomatch q⟩
    · rw [q]; exact ⟨_, hTI, fun v q => nomatch q⟩
    · rw [q]; exact ⟨_, hTO, fun v q => nomatch q⟩
    · rw [q]; exact h1.obj
    · rw [q]; exact h2.obj
  keep := fun i h h' st k => by
    obtain ⟨hz, hTI, ⟨x, y, hTO⟩, h1, h2⟩ := st
    exact ⟨k z (by simp) _ hz, k TI (by simp) _ hTI, ⟨x, y, k TO (by simp) _ hTO⟩, h1.at fun o q => k i1 (by simp) o q, h2.at fun o q => k i2 (by simp) o q⟩
  item := by
    intro X hP hw hK hc i pins s σ H E I hf st hg
    subst hP hw hK
    obtain ⟨hz, hTI, ⟨x0, y0, hTO⟩, h1, h2⟩ := st
    obtain ⟨xs, ys, x, y, hqx, hqy, hx, hy⟩ := hg
    obtain ⟨its, rv, p, _⟩ := sqX I hqx
    obtain ⟨its2, rv2, p2, _⟩ := sqX I hqy
    obtain ⟨u, hu, ru⟩ := rv.get hx
    obtain ⟨u2, hu2, ru2⟩ := rv2.get hy
    have hh : X.A.in1.handled = none := I.ok.hd hc
    have W := GoesN.zip2 (elts := elts) (x1 := kk) (pos := tpos) D (drX (prog := X.prog) (w := X.w) hh i1 a1 n1 its.toArray b1) (drX (prog := X.prog) (w := X.w) hh i2 a2 n2 its2.toArray b2)
    have hlt : i < min its.toArray.size its2.toArray.size := by
      have q1 := (List.getElem?_eq_some_iff.mp hu).1
      have q2 := (List.getElem?_eq_some_iff.mp hu2).1
      simp only [List.size_toArray]
      omega
    refine thn (W.goes i s (fun v s2 => ∃ x H', Inv X pins σ H' s2 ∧ RelV x v ∧ (ItzX X.K b1 b2 a1 a2).yld i H x H' ∧ (IsZip s2.heap z TI TO .none ∧ IsTupOf2 s2.heap TI (.ref i1) (.ref i2) ∧ (∃ x y, IsTupOf2 s2.heap TO x y) ∧ ItX b1 s2.heap i1 a1 (i + 1) ∧ ItX b2 s2.heap i2 a2 (i + 1)) ∧ ∀ c ∈ [z, TI, TO, i1, i2], H' c = none) E hlt ⟨hz, hTI, ⟨x0, y0, hTO⟩, ⟨h1, p⟩, h2, p2⟩ ?_) ?_
    · rintro v h' tk ⟨T, w1, w2, rfl, hT, hw1, hw2, hTup⟩ ⟨hz', hTI', hTO', ⟨h1', _⟩, h2', _⟩ hk _
      have e1 : w1 = u := by
        rw [← List.getElem?_toArray] at hu
        rw [hu] at hw1; cases hw1; rfl
      have e2 : w2 = u2 := by
        rw [← List.getElem?_toArray] at hu2
        rw [hu2] at hw2; cases hw2; rfl
      subst e1 e2
      have new : ObjOk X.prog X.w (upd H T (.tup [x, y])) h' T (.tup [x, y]) :=
        ⟨by show 2 ≤ sizeLine; decide, [w1, w2], .cons ru (.cons ru2 .nil), hTup⟩
      have I1 : Inv X pins σ (upd H T (.tup [x, y])) { s with heap := h', toks := tk } := I.turnedNew (ch := [z, TI, TO, i1, i2]) (fun c o hb q => hk c o (fun m => hb (mem_ins m)) q) hf hT new
      refine ⟨.ref T, _, I1, rfl, ⟨T, x, y, rfl, I.hok.fresh hT, rfl, fun l hl => by rw [sqX_inj I hl hqx]; exact hx, fun l hl => by rw [sqX_inj I hl hqy]; exact hy⟩, ⟨hz', hTI', hTO', h1', h2'⟩, fun c hcm => ?_⟩
      have hcl : c < s.heap.objs.size := by
        have e' : c = z ∨ c = TI ∨ c = TO ∨ c = i1 ∨ c = i2 := by simpa using hcm
        rcases e' with q | q | q | q | q
        · rw [q]; exact Heap.lt_size hz
        · rw [q]; exact Heap.lt_size hTI
        · rw [q]; exact Heap.lt_size hTO
        · rw [q]; obtain ⟨o, q, _⟩ := h1.obj; exact Heap.lt_size q
        · rw [q]; obtain ⟨o, q, _⟩ := h2.obj; exact Heap.lt_size q
      rw [upd_ne (Nat.ne_of_lt (Nat.lt_of_lt_of_le hcl hT))]
      exact (hf c hcm).1
    · rintro r s1 ⟨v, hr, h⟩
      exact ⟨v, hr, h⟩
  done := by
    intro X hP hw hK hc i pins s σ H E I hf st hg
    subst hP hw hK
    obtain ⟨hz, hTI, hTO, h1, h2⟩ := st
    obtain ⟨xs, ys, hqx, hqy, he⟩ := hg
    obtain ⟨its, rv, p, _⟩ := sqX I hqx
    obtain ⟨its2, rv2, p2, _⟩ := sqX I hqy
    have hh : X.A.in1.handled = none := I.ok.hd hc
    have l1 := rv.length
    have l2 := rv2.length
    have W := GoesN.zip2 (elts := elts) (x1 := kk) (pos := tpos) D (drX (prog := X.prog) (w := X.w) hh i1 a1 n1 its.toArray b1) (drX (prog := X.prog) (w := X.w) hh i2 a2 n2 its2.toArray b2)
    have ei : min its.toArray.size its2.toArray.size = i := by
      simp only [List.size_toArray]
      omega
    refine W.stops s (fun s1 => Inv X pins σ H s1) E ?_ fun h' tk hk _ => I.turnedL (ch := [z, TI, TO, i1, i2]) (fun c o hb q => hk c o (fun m => hb (mem_ins m)) q) hf
    rw [ei]
    exact ⟨hz, hTI, hTO, ⟨h1, p⟩, h2, p2⟩
  self := fun A i s Q E st h => wpAny_pyIter_zip st.1 h
def iZipX (K : PySem.W.Frag) (ta : TA) : TI := fun σ H R => ta σ H fun vs H1 => ∃ b1 b2 a1 a2 xs ys, vs = [.ref a1, .ref a2] ∧ SqX K b1 H1 a1 xs ∧ SqX K b2 H1 a2 ys ∧ R (ItzX K b1 b2 a1 a2) H1
theorem pi_zipX {X : Cx} {e e2 : Expr} {ta : TA} {p pos tpos : Pos} {elts : List Expr} {kk : Nat} (hg : Gl X "zip") (hm : X.mg "zip" = none) (ha : PA X [e, e2] ta)
    (hs : starEach [e, e2] X.env = (false, eval e X.env) :: starEach [e2] X.env) (hpl : (backTo pos (starEach [e2] X.env)).any (·.1) = false) :
    PI X (.Tuple elts kk tpos) (.Call (.Name "zip" p) [e, e2] [] pos) (iZipX X.K ta) := by
  refine ⟨fun pins s σ H R I h => ?_⟩
  refine Call_ (ld_blt I hg hm PyProof.Rows.boot_zip (PyProof.Rows.callWith_type1 (thn (ha.run pos pins s σ H _ I h) fun us s1 ⟨vs, H1, I1, r1, q1⟩ => ?_) hs hpl))
  obtain ⟨b1, b2, a, b, xs, ys, ex, hqx, hqy, q⟩ := q1
  subst ex
  cases r1 with
  | cons r rr =>
    cases rr with
    | cons r' rr =>
      cases rr
      cases r
      cases r'
      obtain ⟨its, rv, p1, la⟩ := sqX I1 hqx
      obtain ⟨its2, rv2, p2, lb⟩ := sqX I1 hqy
      refine zip_begins2 (bgX a its.toArray b1) (bgX b its2.toArray b2) p1 p2 fun h' hz hTI hTO h1 h2 hsz hk => wpAny_pyIter_zip hz ?_
      have I2 : Inv X pins σ H1 { s1 with heap := h' } := I1.kept (t' := s1.toks) hk
      have D : ZipSep2 (s1.heap.objs.size + 4) (s1.heap.objs.size + 2) (s1.heap.objs.size + 3) s1.heap.objs.size (s1.heap.objs.size + 1) [s1.heap.objs.size, a] [s1.heap.objs.size + 1, b] := by
        have la : (a : Nat) < (s1.heap.objs.size : Nat) := la
        have lb : (b : Nat) < (s1.heap.objs.size : Nat) := lb
        generalize s1.heap.objs.size = n at la lb
        constructor <;> simp [ne_hi, Nat.ne_of_gt la, Nat.ne_of_gt lb, Nat.ne_of_lt lb, ne_hi 4 la, ne_hi 3 la, ne_hi' 1 la, ne_hi 1 la, ne_hi 4 lb, ne_hi 3 lb]
      refine ⟨s1.heap.objs.size + 4, [s1.heap.objs.size + 4, s1.heap.objs.size + 2, s1.heap.objs.size + 3, s1.heap.objs.size, s1.heap.objs.size + 1], _, _, H1, rfl, I2, turn_zipX D (ne_hi' 0 la) (ne_hi' 1 lb), ⟨hz, hTI, ⟨_, _, hTO⟩, ItX.of h1, ItX.of h2⟩, fun c hcm => ?_, q⟩
      have e' : c = s1.heap.objs.size + 4 ∨ c = s1.heap.objs.size + 2 ∨ c = s1.heap.objs.size + 3 ∨ c = s1.heap.objs.size ∨ c = s1.heap.objs.size + 1 := by simpa using hcm
      have hle : s1.heap.objs.size ≤ c := by
        rcases e' with z | z | z | z | z <;> rw [z] <;> first | exact Nat.le_add_right _ _ | exact Nat.le_refl _
      exact I1.fpOk hle (I1.hok.fresh hle)
/-! ### the iterators of values -/
section
variable {X : Cx} {tg : Expr} {pins : List (Addr × Obj)} {σ : St} {H : Hp} {s : Shared} {R : It → Hp → Prop} {a : Addr} {xs : List V} {E : Value → Shared → Prop}
theorem it_list (I : Inv X pins σ H s) (hq : SqL X.K H a xs) (q : R (Itl X.K a) H) : wpAny (model X.prog X.w) X.A (pyIter (.ref a)) (PIE X pins σ tg R) E s := by
  obtain ⟨its, rv, p, hz⟩ := I.list hq
  refine wpAny_pyIter_list p.isList ?_
  refine ⟨s.heap.objs.size, [s.heap.objs.size], _, _, H, rfl, I.kept (t' := s.toks) fun b o e => Heap.get?_push_of_some _ e, turn_list a _, ⟨_, Heap.get?_push_size _ rfl, rfl, rfl⟩, fun b hb => ?_, q⟩
  have e : b = s.heap.objs.size := by simpa using hb
  subst e
  exact I.fpOk (Nat.le_refl _) (I.hok.fresh (Nat.le_refl _))
theorem it_tup (I : Inv X pins σ H s) (hq : SqT X.K H a xs) (q : R (Itt X.K a) H) : wpAny (model X.prog X.w) X.A (pyIter (.ref a)) (PIE X pins σ tg R) E s := by
  obtain ⟨its, rv, p, hz⟩ := I.tuple hq
  refine wpAny_pyIter_tuple (show s.heap.IsTuple a its.toArray from p) ?_
  refine ⟨s.heap.objs.size, [s.heap.objs.size], _, _, H, rfl, I.kept (t' := s.toks) fun b o e => Heap.get?_push_of_some _ e, turn_tuple a _, ⟨_, Heap.get?_push_size _ rfl, rfl, rfl⟩, fun b hb => ?_, q⟩
  have e : b = s.heap.objs.size := by simpa using hb
  subst e
  exact I.fpOk (Nat.le_refl _) (I.hok.fresh (Nat.le_refl _))
theorem it_str {x : Str} {u : Value} (I : Inv X pins σ H s) (r : RelV (.str x) u) (q : R (Its x) H) : wpAny (model X.prog X.w) X.A (pyIter u) (PIE X pins σ tg R) E s := by
  obtain ⟨t, rfl⟩ := r
  cases ha : x.cps.all (· < 128)
  · exact wpAny_pyIter_wide ha (pi_one (tk := s.toks) I _ (turn_str _ x t "str_iterator" (.inr rfl)) ⟨_, Heap.get?_push_size _ rfl, rfl, rfl⟩ q)
  · exact wpAny_pyIter_ascii ha (pi_one (tk := s.toks) I _ (turn_str _ x t "str_ascii_iterator" (.inl rfl)) ⟨_, Heap.get?_push_size _ rfl, rfl, rfl⟩ q)
theorem it_keys {o : Obj} {kvs : List (Key × V)} (I : Inv X pins σ H s) (hd : H a = some (.frz o (.dK kvs))) (q : R (Itk a o kvs) H) : wpAny (model X.prog X.w) X.A (pyIter (.ref a)) (PIE X pins σ tg R) E s := by
  obtain ⟨hs, hgd, hx, es, ep, vs, hdt, hsz, kv, hm⟩ := I.frzK hd
  refine iter_keys hs hgd hx hdt (pi_one (tk := s.toks) I _ (turn_keys _ hdt) ⟨_, Heap.get?_push_size _ rfl, rfl, ?_⟩ q)
  rw [hsz] <;> rfl
end
end L2
end
section
set_option Elab.async false
set_option linter.all false
set_option maxRecDepth 100000
/-! MiG: an iterator gives the items that the evaluator holds. -/
namespace Mi
open PySem PySem.Spec L2
section
variable {T : Tb} {α α' α2 : Al} {H H' H2 : Hp} {M M' : Hh} {X : Cx}

/-- what stood stands on -/
def Lat (T : Tb) (α : Al) (H : Hp) (α' : Al) (H' : Hp) : Prop :=
  (∀ d v, Rep T α H d v → Rep T α' H' d v) ∧ (∀ a o u, α.out a → H a = some (.frz o u) → H' a = some (.frz o u) ∧ α'.out a) ∧ ∀ a o u, a ∈ α.a → H a = some (.frz o u) → H' a = some (.frz o u) ∧ a ∈ α'.a
theorem Lat.refl : Lat T α H α H := ⟨fun _ _ r => r, fun _ _ _ n h => ⟨h, n⟩, fun _ _ _ n h => ⟨h, n⟩⟩
theorem Lat.trans (a : Lat T α H α' H') (b : Lat T α' H' α2 H2) : Lat T α H α2 H2 :=
  ⟨fun d v r => b.1 d v (a.1 d v r), fun x o u n h => let ⟨h1, n1⟩ := a.2.1 x o u n h; b.2.1 x o u n1 h1, fun x o u n h => let ⟨h1, n1⟩ := a.2.2 x o u n h; b.2.2 x o u n1 h1⟩
theorem Ext.lat (e : Ext α α' H H') : Lat T α H α' H' := ⟨fun d v r => r.ext e, fun a o u n h => ⟨e.same a _ n.1 h (fun kvs z => nomatch z), e.out n (.inl h)⟩, fun a o u n h => ⟨e.fr a o u n h, by obtain ⟨β, eβ⟩ := e.pre; rw [eβ]; exact List.mem_append_left _ n⟩⟩
theorem Lat.hide {p : Addr} {o : HO} (hp : H p = none) : Lat T α H (α.hide p) (upd H p o) :=
  ⟨fun d v r => r.hide hp, fun a o' u n h => by
    have ne : a ≠ p := fun z => by subst z; rw [hp] at h; cases h
    exact ⟨by rw [upd_ne ne]; exact h, n.1, fun z => (List.mem_cons.mp z).elim ne n.2⟩, fun a o' u n h => ⟨by rw [upd_ne (ne_of_none h hp)]; exact h, n⟩⟩
theorem Lat.over {p : Addr} {o : HO} (hz : p ∈ α.z) (hna : p ∉ α.a) : Lat T α H α (upd H p o) :=
  ⟨fun d v r => r.over hz, fun a o' u n h => by
    have ne : a ≠ p := fun z => by subst z; exact n.2 hz
    exact ⟨by rw [upd_ne ne]; exact h, n⟩, fun a o' u n h => ⟨by rw [upd_ne fun z => by subst z; exact hna n]; exact h, n⟩⟩
theorem Lat.rl (l : Lat T α H α' H') {σ : Lo} {τ : St} (r : RL T α H σ τ) : RL T α' H' σ τ := ⟨r.1, fun i d h => let ⟨v, h1, h2⟩ := r.2 i d h; ⟨v, h1, l.1 _ _ h2⟩⟩

/-- a thing, or (wk) a tuple of which no more is known than its items -/
def RepY (T : Tb) (α : Al) (H : Hp) (wk : Bool) (d : D) (v : V) : Prop := Rep T α H d v ∨ (wk = true ∧ ∃ ds a vs, d = .tup ds ∧ v = .ref a ∧ Rd H a (.tup vs) ∧ Reps T α H ds vs)
structure Src (T : Tb) (α : Al) (H : Hp) (xs : List D) (lk : List (Nat × List D)) (J : L2.It) (wk : Bool := false) : Prop where
  go : ∀ (i : Nat) α' M' H', Lat T α H α' H' → RM T α' M' H' → Locked lk M' → i < xs.length → J.go i H'
  yld : ∀ (i : Nat) d α' M' H' x H'', Lat T α H α' H' → RM T α' M' H' → Locked lk M' → xs[i]? = some d → J.yld i H' x H'' → Ext α' α' H' H'' ∧ RM T α' M' H'' ∧ RepY T α' H'' wk d x
  stop : ∀ (i : Nat) α' M' H', Lat T α H α' H' → RM T α' M' H' → Locked lk M' → xs.length = i → J.stop i H'
/-- a list (tuple) at a that stays -/
def AtX (T : Tb) (b : Bool) (α : Al) (H : Hp) (a : Addr) (ds : List D) (lk : List (Nat × List D)) : Prop :=
  ∀ α' M' H', Lat T α H α' H' → RM T α' M' H' → Locked lk M' → ∃ vs, SqX T.K b H' a vs ∧ Reps T α' H' ds vs
theorem AtX.more {b : Bool} {a : Addr} {ds : List D} {lk lk2 : List (Nat × List D)} (h : AtX T b α H a ds lk) (hs : ∀ M, Locked lk2 M → Locked lk M) : AtX T b α H a ds lk2 := fun α' M' H' l m k => h α' M' H' l m (hs _ k)
theorem AtX.lst {ds : List D} {a : Addr} (r : Rep T α H (.lst ds) (.ref a)) : AtX T false α H a ds [] := fun α' M' H' l m _ => by
  have q := l.1 _ _ r
  cases q with
  | lst h n hl r => exact ⟨_, SqL.of h, hl, r⟩
theorem AtX.tup {ds : List D} {a : Addr} (r : Rep T α H (.tup ds) (.ref a)) : AtX T true α H a ds [] := fun α' M' H' l m _ => by
  have q := l.1 _ _ r
  cases q with
  | tup h hl r => exact ⟨_, h.sq, hl, r⟩
theorem reps_int {T : Tb} {α : Al} {H : Hp} : ∀ ns : List Int, Reps T α H (ns.map D.int) (ns.map V.int)
  | [] => Reps.nil
  | n :: ns => .cons (.int n) (reps_int ns)
theorem AtX.scr {ns : List Int} {a : Addr} (r : Rep T α H (.scr ns) (.ref a)) : AtX T false α H a (ns.map D.int) [] := fun α' M' H' l m _ => by
  have q := l.1 _ _ r
  cases q with
  | scr h => exact ⟨_, h.sq, reps_int ns⟩
theorem AtX.ref {i : Nat} {ds : List D} {a : Addr} (r : Rep T α H (.ref i) (.ref a)) : AtX T false α H a ds [(i, ds)] := fun α' M' H' l m k => by
  have q := l.1 _ _ r
  cases q with
  | ref h =>
    obtain ⟨vs, h1, h2⟩ := m.obj i _ a (k (i, ds) (by simp)) h
    exact ⟨vs, SqL.of h1, h2⟩
theorem Src.list {a : Addr} {ds : List D} {lk : List (Nat × List D)} (h : AtX T false α H a ds lk) : Src T α H ds lk (Itl T.K a) where
  go := fun i α' M' H' l m k hi => by
    obtain ⟨vs, q, r⟩ := h α' M' H' l m k
    exact ⟨vs, vs[i]'(by rw [← r.1]; exact hi), q, List.getElem?_eq_getElem _⟩
  yld := fun i d α' M' H' x H'' l m k hd hy => by
    obtain ⟨vs, q, r⟩ := h α' M' H' l m k
    obtain ⟨rfl, hy⟩ := hy
    exact ⟨Ext.refl, m, .inl (r.2 i d x hd (hy vs q))⟩
  stop := fun i α' M' H' l m k hi => by
    obtain ⟨vs, q, r⟩ := h α' M' H' l m k
    exact ⟨vs, q, by rw [← r.1, hi]; exact Nat.le_refl _⟩
theorem Src.tuple {a : Addr} {ds : List D} {lk : List (Nat × List D)} (h : AtX T true α H a ds lk) : Src T α H ds lk (Itt T.K a) where
  go := fun i α' M' H' l m k hi => by
    obtain ⟨vs, q, r⟩ := h α' M' H' l m k
    exact ⟨vs, vs[i]'(by rw [← r.1]; exact hi), q, List.getElem?_eq_getElem _⟩
  yld := fun i d α' M' H' x H'' l m k hd hy => by
    obtain ⟨vs, q, r⟩ := h α' M' H' l m k
    obtain ⟨rfl, hy⟩ := hy
    exact ⟨Ext.refl, m, .inl (r.2 i d x hd (hy vs q))⟩
  stop := fun i α' M' H' l m k hi => by
    obtain ⟨vs, q, r⟩ := h α' M' H' l m k
    exact ⟨vs, q, by rw [← r.1, hi]; exact Nat.le_refl _⟩
theorem new_tup (m : RM T α M H) {p : Addr} {ds : List D} {vs : List V} (hp : H p = none) (r : Reps T α H ds vs) : Ext α α H (upd H p (.tup vs)) ∧ RM T α M (upd H p (.tup vs)) ∧ RepY T α (upd H p (.tup vs)) true (.tup ds) (.ref p) :=
  ⟨Ext.laid hp, m.laid hp, .inr ⟨rfl, ds, p, vs, rfl, rfl, .inl upd_same, r.ext (Ext.laid hp)⟩⟩
theorem enumL_len : ∀ (ds : List D) (k : Nat), (enumL k ds).length = ds.length
  | [], _ => rfl
  | d :: ds, k => by rw [enumL, List.length_cons, List.length_cons, enumL_len ds]
theorem enumL_get : ∀ (ds : List D) (k i : Nat) (e : D), (enumL k ds)[i]? = some e → ∃ d, ds[i]? = some d ∧ e = .tup [.int ((k + i : Nat) : Int), d]
  | [], k, i, e, h => by simp [enumL] at h
  | d :: ds, k, 0, e, h => by simp [enumL] at h; exact ⟨d, rfl, by rw [← h]; simp⟩
  | d :: ds, k, i + 1, e, h => by
    have h : (enumL (k + 1) ds)[i]? = some e := by simpa [enumL] using h
    obtain ⟨d', h1, h2⟩ := enumL_get ds (k + 1) i e h
    exact ⟨d', by simpa using h1, by rw [h2]; congr 3; congr 1; omega⟩
theorem Src.enum {b : Bool} {a : Addr} {ds : List D} {lk : List (Nat × List D)} (h : AtX T b α H a ds lk) : Src T α H (enumL 0 ds) lk (IteX T.K b a) true where
  go := fun i α' M' H' l m k hi => by
    rw [enumL_len] at hi
    obtain ⟨vs, q, r⟩ := h α' M' H' l m k
    exact ⟨vs, vs[i]'(by rw [← r.1]; exact hi), q, List.getElem?_eq_getElem _⟩
  yld := fun i e α' M' H' x H'' l m k hd hy => by
    obtain ⟨vs, q, r⟩ := h α' M' H' l m k
    obtain ⟨d, hd2, rfl⟩ := enumL_get ds 0 i e hd
    obtain ⟨p, y, rfl, hp, rfl, hy⟩ := hy
    have := new_tup m hp (.cons (.int (i : Nat)) (.cons (r.2 i d y hd2 (hy vs q)) .nil))
    rw [Nat.zero_add]; exact this
  stop := fun i α' M' H' l m k hi => by
    rw [enumL_len] at hi
    obtain ⟨vs, q, r⟩ := h α' M' H' l m k
    exact ⟨vs, q, by rw [← r.1, hi]⟩
theorem Src.zip {b1 b2 : Bool} {a1 a2 : Addr} {ds es : List D} {lk : List (Nat × List D)} (h : AtX T b1 α H a1 ds lk) (h2 : AtX T b2 α H a2 es lk) : Src T α H ((ds.zip es).map fun r => .tup [r.1, r.2]) lk (ItzX T.K b1 b2 a1 a2) true where
  go := fun i α' M' H' l m k hi => by
    rw [List.length_map, List.length_zip] at hi
    obtain ⟨vs, q, r⟩ := h α' M' H' l m k
    obtain ⟨us, q2, r2⟩ := h2 α' M' H' l m k
    exact ⟨vs, us, vs[i]'(by rw [← r.1]; omega), us[i]'(by rw [← r2.1]; omega), q, q2, List.getElem?_eq_getElem _, List.getElem?_eq_getElem _⟩
  yld := fun i e α' M' H' x H'' l m k hd hy => by
    obtain ⟨vs, q, r⟩ := h α' M' H' l m k
    obtain ⟨us, q2, r2⟩ := h2 α' M' H' l m k
    rw [List.getElem?_map] at hd
    obtain ⟨⟨d1, d2⟩, hz, rfl⟩ := Option.map_eq_some_iff.mp hd
    rw [List.getElem?_zip_eq_some] at hz
    obtain ⟨p, y, y2, rfl, hp, rfl, hy, hy2⟩ := hy
    exact new_tup m hp (.cons (r.2 i d1 y hz.1 (hy vs q)) (.cons (r2.2 i d2 y2 hz.2 (hy2 us q2)) .nil))
  stop := fun i α' M' H' l m k hi => by
    rw [List.length_map, List.length_zip] at hi
    obtain ⟨vs, q, r⟩ := h α' M' H' l m k
    obtain ⟨us, q2, r2⟩ := h2 α' M' H' l m k
    exact ⟨vs, us, q, q2, by rw [← r.1, ← r2.1, hi]⟩
theorem signs_len (x : Str) : (signs x).length = x.cps.size := by simp [signs]
theorem Src.str {x : Str} (o : StrOk x) : Src T α H (signs x) [] (Its x) where
  go := fun i α' M' H' l m k hi => by rw [signs_len] at hi; exact hi
  yld := fun i d α' M' H' v H'' l m k hd hy => by
    obtain ⟨rfl, c, hc, rfl⟩ := hy
    unfold signs at hd
    rw [List.getElem?_map, Array.getElem?_toList, hc] at hd
    cases hd
    exact ⟨Ext.refl, m, .inl (.str _ (strOk_sign o (Array.mem_of_getElem? hc)))⟩
  stop := fun i α' M' H' l m k hi => by rw [signs_len] at hi; exact Nat.le_of_eq hi
theorem rangeL_len : ∀ (n : Nat) (lo : Int), (rangeL lo n).length = n
  | 0, _ => rfl
  | n + 1, lo => by rw [rangeL, List.length_cons, rangeL_len n]
theorem rangeL_get : ∀ (n : Nat) (lo : Int) (i : Nat) (e : D), (rangeL lo n)[i]? = some e → e = .int (lo + i)
  | 0, lo, i, e, h => by simp [rangeL] at h
  | n + 1, lo, 0, e, h => by simp [rangeL] at h; simp [← h]
  | n + 1, lo, i + 1, e, h => by
    have h : (rangeL (lo + 1) n)[i]? = some e := by simpa [rangeL] using h
    rw [rangeL_get n (lo + 1) i e h]; congr 1; omega
theorem Src.range {lo : Int} {n : Nat} : Src T α H (rangeL lo n) [] (Itr lo n) where
  go := fun i α' M' H' l m k hi => by rw [rangeL_len] at hi; exact hi
  yld := fun i d α' M' H' v H'' l m k hd hy => by
    obtain ⟨rfl, rfl⟩ := hy
    rw [rangeL_get n lo i d hd]
    exact ⟨Ext.refl, m, .inl (.int _)⟩
  stop := fun i α' M' H' l m k hi => by rw [rangeL_len] at hi; exact Nat.le_of_eq hi

theorem rangeN_len : ∀ (n : Nat) (lo : Int), (rangeN lo n).length = n
  | 0, _ => rfl
  | n + 1, lo => by rw [rangeN, List.length_cons, rangeN_len n]
theorem rangeN_get : ∀ (n : Nat) (lo : Int) (i : Nat) (e : D), (rangeN lo n)[i]? = some e → e = .int (lo + (i : Nat) * (-1))
  | 0, lo, i, e, h => by simp [rangeN] at h
  | n + 1, lo, 0, e, h => by simp [rangeN] at h; simp [← h]
  | n + 1, lo, i + 1, e, h => by
    have h : (rangeN (lo - 1) n)[i]? = some e := by simpa [rangeN] using h
    rw [rangeN_get n (lo - 1) i e h]; congr 1; omega
theorem Src.rangeN {lo : Int} {n : Nat} : Src T α H (rangeN lo n) [] (Itc lo (-1) n) where
  go := fun i α' M' H' l m k hi => by rw [rangeN_len] at hi; exact hi
  yld := fun i d α' M' H' v H'' l m k hd hy => by
    obtain ⟨rfl, rfl⟩ := hy
    rw [rangeN_get n lo i d hd]
    exact ⟨Ext.refl, m, .inl (.int _)⟩
  stop := fun i α' M' H' l m k hi => by rw [rangeN_len] at hi; exact Nat.le_of_eq hi
theorem Src.keys {a : Addr} {od : Obj} {kvs : List (D × D)} {ws : List (Key × V)} (h : H a = some (.frz od (.dK ws))) (n : α.out a) (hl : kvs.length = ws.length) (hk : ∀ (i : Nat) p q, kvs[i]? = some p → ws[i]? = some q → p.1 = keyD q.1)
    (ok : kvs.all (fun p => keyOk p.1) = true) : Src T α H (kvs.map (·.1)) [] (Itk a od ws) where
  go := fun i α' M' H' l m k hi => by
    rw [List.length_map, hl] at hi
    exact ⟨(l.2.1 a _ _ n h).1, hi⟩
  yld := fun i d α' M' H' x H'' l m k hd hy => by
    obtain ⟨rfl, ky, v, hw, rfl⟩ := hy
    rw [List.getElem?_map] at hd
    obtain ⟨p, hp, rfl⟩ := Option.map_eq_some_iff.mp hd
    exact ⟨Ext.refl, m, .inl (keyOk_rep (List.all_eq_true.mp ok p (List.mem_of_getElem? hp)) (hk i p (ky, v) hp hw))⟩
  stop := fun i α' M' H' l m k hi => by
    rw [List.length_map, hl] at hi
    exact ⟨(l.2.1 a _ _ n h).1, Nat.le_of_eq hi⟩
theorem Src.keysR {i : Nat} {a : Addr} {od : Obj} {kvs : List (D × D)} {ws : List (Key × V)} (hi : α.a[i]? = some a) (h : H a = some (.frz od (.dK ws))) (hl : kvs.length = ws.length) (hk : ∀ (i : Nat) p q, kvs[i]? = some p → ws[i]? = some q → p.1 = keyD q.1)
    (ok : kvs.all (fun p => keyOk p.1) = true) : Src T α H (kvs.map (·.1)) [] (Itk a od ws) where
  go := fun i α' M' H' l m k hi2 => by
    rw [List.length_map, hl] at hi2
    exact ⟨(l.2.2 a _ _ (List.mem_of_getElem? hi) h).1, hi2⟩
  yld := fun i d α' M' H' x H'' l m k hd hy => by
    obtain ⟨rfl, ky, v, hw, rfl⟩ := hy
    rw [List.getElem?_map] at hd
    obtain ⟨p, hp, rfl⟩ := Option.map_eq_some_iff.mp hd
    exact ⟨Ext.refl, m, .inl (keyOk_rep (List.all_eq_true.mp ok p (List.mem_of_getElem? hp)) (hk i p (ky, v) hp hw))⟩
  stop := fun i α' M' H' l m k hi2 => by
    rw [List.length_map, hl] at hi2
    exact ⟨(l.2.2 a _ _ (List.mem_of_getElem? hi) h).1, Nat.le_of_eq hi2⟩
theorem Src.vals {a : Addr} {od : Obj} {kvs : List (D × D)} {ws : List (Key × V)} (h : H a = some (.frz od (.dK ws))) (n : α.out a) (hl : kvs.length = ws.length) (hr : ∀ (i : Nat) p q, kvs[i]? = some p → ws[i]? = some q → Rep T α H p.2 q.2) : Src T α H (kvs.map (·.2)) [] (Itd a od ws) where
  go := fun i α' M' H' l m k hi => by
    rw [List.length_map, hl] at hi
    exact ⟨(l.2.1 a _ _ n h).1, hi⟩
  yld := fun i d α' M' H' x H'' l m k hd hy => by
    obtain ⟨rfl, ky, hw⟩ := hy
    rw [List.getElem?_map] at hd
    obtain ⟨p, hp, rfl⟩ := Option.map_eq_some_iff.mp hd
    exact ⟨Ext.refl, m, .inl (l.1 _ _ (hr i p (ky, x) hp hw))⟩
  stop := fun i α' M' H' l m k hi => by
    rw [List.length_map, hl] at hi
    exact ⟨(l.2.1 a _ _ n h).1, Nat.le_of_eq hi⟩
theorem Ext.lock {a : Addr} {od : Obj} {ws : List (Key × V)} (h : H a = some (.dK ws)) (n : α.out a) : Ext α α H (upd H a (.frz od (.dK ws))) := by
  refine ⟨⟨[], by simp⟩, rfl, fun b u n r => ?_, fun b o n r hd => ?_, fun b hb n => absurd hb n, fun z hz _ _ => upd_ne fun e => by subst e; exact n.2 hz, fun b od' u hb hf => by rw [upd_ne fun e => by subst e; exact n.1 hb]; exact hf⟩
  · by_cases e : b = a
    · subst e
      rcases r with r | ⟨x, r⟩
      · rw [h] at r; cases r; exact .inr ⟨od, upd_same⟩
      · rw [h] at r; cases r
    · rcases r with r | ⟨x, r⟩
      · exact .inl (by rw [upd_ne e]; exact r)
      · exact .inr ⟨x, by rw [upd_ne e]; exact r⟩
  · by_cases e : b = a
    · subst e
      rw [h] at r; cases r; exact absurd rfl (hd ws)
    · rw [upd_ne e]; exact r
theorem RM.lock (m : RM T α M H) {a : Addr} {od : Obj} {ws : List (Key × V)} (h : H a = some (.dK ws)) (n : α.out a) : RM T α M (upd H a (.frz od (.dK ws))) :=
  ⟨m.len, m.nd, fun i x b h1 h2 => (m.obj i x b h1 h2).step (Ext.lock h n) (upd_ne fun z => by subst z; exact n.1 (List.mem_of_getElem? h2)), fun z hz => ⟨upd_some (m.zs z hz).1, (m.zs z hz).2⟩⟩

/-! ### what is wanted of an iterator -/
def PostI (T : Tb) (α : Al) (H : Hp) (Q : L2.It → Hp → Prop) (wk : Bool) : R (List D × List (Nat × List D)) → Prop
  | .ok p M' => ∀ α' H' J, Ext α α' H H' → RM T α' M' H' → Src T α' H' p.1 p.2 J wk → Q J H'
  | .exc _ _ => False
  | .bad => False
theorem PostI.ext (e : Ext α α' H H') {Q : L2.It → Hp → Prop} {wk : Bool} : ∀ {r : R (List D × List (Nat × List D))}, PostI T α H Q wk r → PostI T α' H' Q wk r
  | .ok d M', h => fun a2 h2 J e2 m s => h a2 h2 J (e.trans e2) m s
  | .exc _ _, h => h
  | .bad, h => h
theorem PostE.bindI {Q : L2.It → Hp → Prop} {wk : Bool} {f : D → Hh → R (List D × List (Nat × List D))} : ∀ {r : R D}, PostI T α H Q wk (r.bind f) → PostE T α H (fun v H1 => ∃ α1 M1 d, Ext α α1 H H1 ∧ RM T α1 M1 H1 ∧ Rep T α1 H1 d v ∧ PostI T α1 H1 Q wk (f d M1)) r
  | .ok d M', h => fun a1 h1 v e m r => ⟨a1, M', d, e, m, r, PostI.ext e h⟩
  | .exc _ _, h => h
  | .bad, h => h
/-- the items of a thing, and the iterator over it -/
theorem items_it {tg : Expr} {pins : List (Addr × Obj)} {σ : St} {s : Shared} {E : Value → Shared → Prop} {R : L2.It → Hp → Prop} (hK : T.K = X.K) (I : Inv X pins σ H s) (m : RM T α M H) {d : D} {v : V} (r : Rep T α H d v) {u : Value} (ru : RelV v u)
    (h : PostI T α H R false (match itemsOf (lockM d M) d with | some p => .ok p (lockM d M) | none => .bad)) : wpAny (model X.prog X.w) X.A (pyIter u) (PIE X pins σ tg R) E s := by
  cases r with
  | lst h1 n hl r =>
    cases ru
    have r0 : Rep T α H (.lst _) (.ref _) := .lst h1 n hl r
    have s0 := Src.list (AtX.lst r0)
    rw [hK] at s0
    exact it_list I (.of h1) (h α H _ Ext.refl m s0)
  | tup h1 hl r =>
    cases ru
    have r0 : Rep T α H (.tup _) (.ref _) := .tup h1 hl r
    have s0 := Src.tuple (AtX.tup r0)
    rw [hK] at s0
    exact it_tup I (by rw [← hK]; exact h1.sq) (h α H _ Ext.refl m s0)
  | str x hx => exact it_str I ru (h α H _ Ext.refl m (Src.str hx))
  | scr h1 =>
    cases ru
    have r0 : Rep T α H (.scr _) (.ref _) := .scr h1
    have s0 := Src.list (AtX.scr r0)
    rw [hK] at s0
    exact it_list I (by rw [← hK]; exact h1.sq) (h α H _ Ext.refl m s0)
  | @ref i a h1 =>
    cases ru
    cases q : M[i]? with
    | none =>
      have e : lockM (.ref i) M = M := by unfold lockM; simp only [q]
      rw [e, itemsOf, q] at h; exact h.elim
    | some o =>
      cases o with
      | lst ds =>
        have e : lockM (.ref i) M = M := by unfold lockM; simp only [q]
        rw [e, itemsOf, q] at h
        have r0 : Rep T α H (.ref i) (.ref a) := .ref h1
        obtain ⟨vs, hv, _⟩ := m.obj i _ a q h1
        have s0 := Src.list (AtX.ref (ds := ds) r0)
        rw [hK] at s0
        exact it_list I (.of hv) (h α H _ Ext.refl m s0)
      | dict kvs =>
        have e : lockM (.ref i) M = M.set i (.fz kvs) := by unfold lockM; simp only [q]
        have q2 : (M.set i (.fz kvs))[i]? = some (.fz kvs) := List.getElem?_set_self (List.getElem?_eq_some_iff.mp q).1
        rw [e, itemsOf, q2] at h
        simp only at h
        by_cases ok : kvs.all (fun p => keyOk p.1) = true
        · rw [if_pos ok] at h
          obtain ⟨ws, hv, rk⟩ := m.obj i _ a q h1
          obtain ⟨od, I2⟩ := I.lock hv True.intro
          have e4 : Ext α α H (upd H a (.frz od (.dK ws))) := Ext.set h1 (NoFr.of hv (fun _ _ z => nomatch z))
          exact it_keys I2 upd_same (h α _ _ e4 (m.set h1 (NoFr.of hv (fun _ _ z => nomatch z)) ⟨ws, ⟨od, upd_same⟩, rk.ext e4⟩) (Src.keysR h1 upd_same rk.1 rk.2.1 ok))
        · rw [if_neg ok] at h; exact h.elim
      | fz kvs =>
        have e : lockM (.ref i) M = M := by unfold lockM; simp only [q]
        rw [e, itemsOf, q] at h
        simp only at h
        by_cases ok : kvs.all (fun p => keyOk p.1) = true
        · rw [if_pos ok] at h
          obtain ⟨ws, ⟨od, hv⟩, rk⟩ := m.obj i _ a q h1
          exact it_keys I hv (h α _ _ Ext.refl m (Src.keysR h1 hv rk.1 rk.2.1 ok))
        · rw [if_neg ok] at h; exact h.elim
      | inst c fs =>
        have e : lockM (.ref i) M = M := by unfold lockM; simp only [q]
        rw [e, itemsOf, q] at h; exact h.elim
  | @dict kvs a ws h1 n hl hk r =>
    cases ru
    have h : PostI T α H R false (match itemsOf M (.dict kvs) with | some p => .ok p M | none => .bad) := h
    rw [itemsOf] at h
    by_cases ok : kvs.all (fun p => keyOk p.1) = true
    · rw [if_pos ok] at h
      rcases h1 with h1 | ⟨od, h1⟩
      · obtain ⟨od, I2⟩ := I.lock h1 True.intro
        exact it_keys I2 upd_same (h α _ _ (Ext.lock h1 n) (m.lock h1 n) (Src.keys upd_same n hl hk ok))
      · exact it_keys I h1 (h α _ _ Ext.refl m (Src.keys h1 n hl hk ok))
    · rw [if_neg ok] at h; exact h.elim
  | _ => exact h.elim
/-- .. where lists and tuples alone will do -/
theorem items_at (m : RM T α M H) {d : D} {v : V} (r : Rep T α H d v) {p : List D × List (Nat × List D)} (h : itemsL M d = some p) : Locked p.2 M ∧ ∃ b a, v = .ref a ∧ AtX T b α H a p.1 p.2 ∧ (∃ vs, SqX T.K b H a vs) := by
  have fin : ∀ {b : Bool} {a : Addr}, AtX T b α H a p.1 p.2 → Locked p.2 M → ∃ vs, SqX T.K b H a vs := fun {b a} q lk => by
    obtain ⟨vs, h1, _⟩ := q α M H Lat.refl m lk
    exact ⟨vs, h1⟩
  cases r with
  | lst h1 n hl r =>
    cases h
    have q := AtX.lst (.lst h1 n hl r : Rep T α H (.lst _) (.ref _))
    exact ⟨fun z hz => by simp at hz, false, _, rfl, q, fin q fun z hz => by simp at hz⟩
  | tup h1 hl r =>
    cases h
    have q := AtX.tup (.tup h1 hl r : Rep T α H (.tup _) (.ref _))
    exact ⟨fun z hz => by simp at hz, true, _, rfl, q, fin q fun z hz => by simp at hz⟩
  | scr h1 =>
    cases h
    have q := AtX.scr (.scr h1 : Rep T α H (.scr _) (.ref _))
    exact ⟨fun z hz => by simp at hz, false, _, rfl, q, fin q fun z hz => by simp at hz⟩
  | @ref i a h1 =>
    have h : (match M[i]? with | some (.lst ds) => some (ds, [(i, ds)]) | _ => none) = some p := h
    cases q : M[i]? with
    | none => rw [q] at h; cases h
    | some o =>
      rw [q] at h
      cases o with
      | lst ds =>
        cases h
        have q2 := AtX.ref (ds := ds) (.ref h1 : Rep T α H (.ref i) (.ref a))
        exact ⟨fun z hz => by simp at hz; subst hz; exact q, false, _, rfl, q2, fin q2 fun z hz => by simp at hz; subst hz; exact q⟩
      | dict kvs => cases h
      | fz kvs => cases h
      | inst c fs => cases h
  | _ => cases h
end
end Mi
end
section
set_option Elab.async false
set_option linter.all false
set_option maxRecDepth 100000
/-! MiH: readings by the evaluator; each rule by the readings of its parts. -/
namespace Mi
open PySem PySem.Spec L2
section
variable {T : Tb} {α α' α2 : Al} {H H' H2 : Hp} {M M' : Hh} {X : Cx} {G : Sg} {σ : Lo} {τ : St}
theorem PostE.mono {Q Q' : VK} (h : ∀ v H, Q v H → Q' v H) : ∀ {r : R D}, PostE T α H Q r → PostE T α H Q' r
  | .ok d M', q => fun a2 h2 v e m r => h _ _ (q a2 h2 v e m r)
  | .exc _ _, q => q
  | .bad, q => q
theorem PostB.mono {Q Q' : Bool → Hp → Prop} (h : ∀ v H, Q v H → Q' v H) : ∀ {r : R Bool}, PostB T α H Q r → PostB T α H Q' r
  | .ok d M', q => fun a2 h2 e m => h _ _ (q a2 h2 e m)
  | .exc _ _, q => q
  | .bad, q => q
theorem PostEs.mono {Q Q' : List V → Hp → Prop} (h : ∀ v H, Q v H → Q' v H) : ∀ {r : R (List D)}, PostEs T α H Q r → PostEs T α H Q' r
  | .ok d M', q => fun a2 h2 v e m r => h _ _ (q a2 h2 v e m r)
  | .exc _ _, q => q
  | .bad, q => q
def tE (T : Tb) (G : Sg) (e : E) : TE := fun τ H Q => ∃ α M σ, RM T α M H ∧ RL T α H σ τ ∧ PostE T α H Q (evE G e σ M)
def tT (T : Tb) (G : Sg) (e : E) : TT := fun τ H Q => ∃ α M σ, RM T α M H ∧ RL T α H σ τ ∧ PostB T α H Q ((evE G e σ M).bind asBool)
def tEs (T : Tb) (G : Sg) (es : Es) : TA := fun τ H Q => ∃ α M σ, RM T α M H ∧ RL T α H σ τ ∧ PostEs T α H Q (evEs G es σ M)
def tCs (T : Tb) (G : Sg) (c : Es) : TT := fun τ H Q => ∃ α M σ, RM T α M H ∧ RL T α H σ τ ∧ PostB T α H Q (evC G c σ M)
def weakIt : It → Bool
  | .enum _ => true | .zip2 _ _ => true | .zip3 _ _ _ => true
  | _ => false
def tI (T : Tb) (G : Sg) (it : It) : TI := fun τ H Q => ∃ α M σ, RM T α M H ∧ RL T α H σ τ ∧ PostI T α H Q (weakIt it) (evIt G it σ M)
theorem _root_.L2.PE.imp {X : Cx} {e : Expr} {t t' : TE} (h : PE X e t) (w : ∀ τ H Q, t' τ H Q → t τ H Q) : PE X e t' := ⟨fun pins s σ H Q I q => h.run pins s σ H Q I (w _ _ _ q)⟩
theorem _root_.L2.PT.imp {X : Cx} {e : Expr} {t t' : TT} (h : PT X e t) (w : ∀ τ H Q, t' τ H Q → t τ H Q) : PT X e t' := ⟨fun pins s σ H Q I q => h.run pins s σ H Q I (w _ _ _ q)⟩
theorem _root_.L2.PTs.imp {X : Cx} {e : List Expr} {t t' : TT} (h : PTs X e t) (w : ∀ τ H Q, t' τ H Q → t τ H Q) : PTs X e t' := ⟨fun pins s σ H Q I q => h.run pins s σ H Q I (w _ _ _ q)⟩
theorem _root_.L2.PA.imp {X : Cx} {e : List Expr} {t t' : TA} (h : PA X e t) (w : ∀ τ H Q, t' τ H Q → t τ H Q) : PA X e t' := ⟨fun pos pins s σ H Q I q => h.run pos pins s σ H Q I (w _ _ _ q)⟩
theorem _root_.L2.PI.imp {X : Cx} {tg e : Expr} {t t' : TI} (h : PI X tg e t) (w : ∀ τ H Q, t' τ H Q → t τ H Q) : PI X tg e t' := ⟨fun pins s σ H Q I q => h.run pins s σ H Q I (w _ _ _ q)⟩
theorem _root_.L2.PS.imp {X : Cx} {e : Stmt} {t t' : TS} (h : PS X e t) (w : ∀ D τ H, t' D τ H → t D τ H) : PS X e t' := ⟨fun pins s σ H D I q => h.run pins s σ H D I (w _ _ _ q)⟩
theorem _root_.L2.PSs.imp {X : Cx} {e : List Stmt} {t t' : TS} (h : PSs X e t) (w : ∀ D τ H, t' D τ H → t D τ H) : PSs X e t' := ⟨fun pins s σ H D I q => h.run pins s σ H D I (w _ _ _ q)⟩

/-! ### one ahead of the other -/
theorem one (m : RM T α M H) (rl : RL T α H σ τ) {a : E} {Q : VK} {f : D → Hh → R D} (h : PostE T α H Q ((evE G a σ M).bind f)) :
    tE T G a τ H (fun v H1 => ∃ α1 M1 d, Ext α α1 H H1 ∧ RM T α1 M1 H1 ∧ RL T α1 H1 σ τ ∧ Rep T α1 H1 d v ∧ PostE T α1 H1 Q (f d M1)) :=
  ⟨α, M, σ, m, rl, (PostE.bind h).mono fun v H1 ⟨α1, M1, d, e, m1, r, q⟩ => ⟨α1, M1, d, e, m1, rl.ext e, r, q⟩⟩
theorem oneB (m : RM T α M H) (rl : RL T α H σ τ) {a : E} {Q : Bool → Hp → Prop} {f : D → Hh → R Bool} (h : PostB T α H Q ((evE G a σ M).bind f)) :
    tE T G a τ H (fun v H1 => ∃ α1 M1 d, Ext α α1 H H1 ∧ RM T α1 M1 H1 ∧ RL T α1 H1 σ τ ∧ Rep T α1 H1 d v ∧ PostB T α1 H1 Q (f d M1)) :=
  ⟨α, M, σ, m, rl, (PostE.bindB h).mono fun v H1 ⟨α1, M1, d, e, m1, r, q⟩ => ⟨α1, M1, d, e, m1, rl.ext e, r, q⟩⟩
theorem oneEs (m : RM T α M H) (rl : RL T α H σ τ) {a : E} {Q : List V → Hp → Prop} {f : D → Hh → R (List D)} (h : PostEs T α H Q ((evE G a σ M).bind f)) :
    tE T G a τ H (fun v H1 => ∃ α1 M1 d, Ext α α1 H H1 ∧ RM T α1 M1 H1 ∧ RL T α1 H1 σ τ ∧ Rep T α1 H1 d v ∧ PostEs T α1 H1 Q (f d M1)) :=
  ⟨α, M, σ, m, rl, (PostE.bindEs h).mono fun v H1 ⟨α1, M1, d, e, m1, r, q⟩ => ⟨α1, M1, d, e, m1, rl.ext e, r, q⟩⟩
theorem oneI {wk : Bool} (m : RM T α M H) (rl : RL T α H σ τ) {a : E} {Q : L2.It → Hp → Prop} {f : D → Hh → R (List D × List (Nat × List D))} (h : PostI T α H Q wk ((evE G a σ M).bind f)) :
    tE T G a τ H (fun v H1 => ∃ α1 M1 d, Ext α α1 H H1 ∧ RM T α1 M1 H1 ∧ RL T α1 H1 σ τ ∧ Rep T α1 H1 d v ∧ PostI T α1 H1 Q wk (f d M1)) :=
  ⟨α, M, σ, m, rl, (PostE.bindI h).mono fun v H1 ⟨α1, M1, d, e, m1, r, q⟩ => ⟨α1, M1, d, e, m1, rl.ext e, r, q⟩⟩
theorem many (m : RM T α M H) (rl : RL T α H σ τ) {a : Es} {Q : VK} {f : List D → Hh → R D} (h : PostE T α H Q ((evEs G a σ M).bind f)) :
    tEs T G a τ H (fun v H1 => ∃ α1 M1 d, Ext α α1 H H1 ∧ RM T α1 M1 H1 ∧ RL T α1 H1 σ τ ∧ Reps T α1 H1 d v ∧ PostE T α1 H1 Q (f d M1)) :=
  ⟨α, M, σ, m, rl, (PostEs.bind h).mono fun v H1 ⟨α1, M1, d, e, m1, r, q⟩ => ⟨α1, M1, d, e, m1, rl.ext e, r, q⟩⟩
/-- two expressions in a row -/
theorem two (m : RM T α M H) (rl : RL T α H σ τ) {a b : E} {Q : VK} {f : D → D → Hh → R D} (h : PostE T α H Q ((evE G a σ M).bind fun x M1 => (evE G b σ M1).bind fun y M2 => f x y M2)) :
    tE T G a τ H fun x H1 => tE T G b τ H1 fun y H2 => ∃ α2 M2 d e, RM T α2 M2 H2 ∧ RL T α2 H2 σ τ ∧ Rep T α2 H2 d x ∧ Rep T α2 H2 e y ∧ PostE T α2 H2 Q (f d e M2) := by
  obtain ⟨α', M', σ', m', rl', q⟩ := one m rl h
  refine ⟨α', M', σ', m', rl', q.mono fun x H1 ⟨α1, M1, d, e, m1, rl1, r, q1⟩ => ?_⟩
  obtain ⟨α', M', σ', m', rl', q⟩ := one m1 rl1 q1
  exact ⟨α', M', σ', m', rl', q.mono fun y H2 ⟨α2, M2, d2, e2, m2, rl2, r2, q2⟩ => ⟨α2, M2, d, d2, m2, rl2, r.ext e2, r2, q2⟩⟩
/-- a test's reading, of the value's -/
theorem asB {r : R D} {Q : Bool → Hp → Prop} (h : PostB T α H Q (r.bind asBool)) : PostE T α H (fun v H1 => ∃ c, v = .bl c ∧ Q c H1) r := by
  cases r with
  | ok d M1 =>
    intro α1 H1 v e m1 rd
    cases d with
    | bl c => cases rd; exact ⟨c, rfl, h α1 H1 e m1⟩
    | _ => exact h.elim
  | exc c M => exact h.elim
  | bad => exact h.elim
theorem asB2 {r : R D} {Q : VK} {f : Bool → Hh → R D} (h : PostE T α H Q (r.bind fun d M1 => (asBool d M1).bind f)) :
    PostB T α H (fun c H1 => ∃ α1 M1, Ext α α1 H H1 ∧ RM T α1 M1 H1 ∧ PostE T α1 H1 Q (f c M1)) (r.bind asBool) := by
  cases r with
  | ok d M1 =>
    cases d with
    | bl c => exact fun α1 H1 e m1 => ⟨α1, M1, e, m1, PostE.ext e h⟩
    | _ => exact h.elim
  | exc c M => exact h.elim
  | bad => exact h.elim
theorem asB3 {r : R D} {Q : Bool → Hp → Prop} {f : Bool → Hh → R D} (h : PostB T α H Q ((r.bind fun d M1 => (asBool d M1).bind f).bind asBool)) :
    PostB T α H (fun c H1 => ∃ α1 M1, Ext α α1 H H1 ∧ RM T α1 M1 H1 ∧ PostB T α1 H1 Q ((f c M1).bind asBool)) (r.bind asBool) := by
  cases r with
  | ok d M1 =>
    cases d with
    | bl c => exact fun α1 H1 e m1 => ⟨α1, M1, e, m1, PostB.ext e h⟩
    | _ => exact h.elim
  | exc c M => exact h.elim
  | bad => exact h.elim
theorem testE (m : RM T α M H) (rl : RL T α H σ τ) {a : E} {Q : VK} {f : Bool → Hh → R D} (h : PostE T α H Q ((evE G a σ M).bind fun d M1 => (asBool d M1).bind f)) :
    tT T G a τ H (fun c H1 => ∃ α1 M1, RM T α1 M1 H1 ∧ RL T α1 H1 σ τ ∧ PostE T α1 H1 Q (f c M1)) := ⟨α, M, σ, m, rl, (asB2 h).mono fun c H1 ⟨α1, M1, e, m1, q⟩ => ⟨α1, M1, m1, rl.ext e, q⟩⟩
theorem testB (m : RM T α M H) (rl : RL T α H σ τ) {a : E} {Q : Bool → Hp → Prop} {f : Bool → Hh → R D} (h : PostB T α H Q (((evE G a σ M).bind fun d M1 => (asBool d M1).bind f).bind asBool)) :
    tT T G a τ H (fun c H1 => ∃ α1 M1, RM T α1 M1 H1 ∧ RL T α1 H1 σ τ ∧ PostB T α1 H1 Q ((f c M1).bind asBool)) := ⟨α, M, σ, m, rl, (asB3 h).mono fun c H1 ⟨α1, M1, e, m1, q⟩ => ⟨α1, M1, m1, rl.ext e, q⟩⟩
/-- .. by the value -/
theorem valE (m : RM T α M H) (rl : RL T α H σ τ) {a : E} {Q : VK} {f : Bool → Hh → R D} (h : PostE T α H Q ((evE G a σ M).bind fun d M1 => (asBool d M1).bind f)) :
    tE T G a τ H (fun x H1 => ∃ c, x = .bl c ∧ ∃ α1 M1, RM T α1 M1 H1 ∧ RL T α1 H1 σ τ ∧ PostE T α1 H1 Q (f c M1)) := by
  obtain ⟨α', M', σ', m', rl', q⟩ := testE m rl h
  exact ⟨α', M', σ', m', rl', asB q⟩
/-- a test of an expression that is no test by its form -/
def plainT : Expr → Bool
  | .UnaryOp .Not _ _ => false | .BoolOp _ _ _ => false | .IfExp _ _ _ _ => false | .Compare _ _ _ _ => false
  | _ => true
theorem pt_plain {e : E} {a : Expr} (h : PE X a (tE T G e)) (hp : plainT a = true) : PT X a (tT T G e) := by
  refine (pt_val h fun whole => ?_).imp fun τ H Q ⟨α, M, σ, m, rl, q⟩ => ⟨α, M, σ, m, rl, asB q⟩
  cases a with
  | UnaryOp op x p => cases op <;> first | rfl | (simp [plainT] at hp)
  | BoolOp op vs p => simp [plainT] at hp
  | IfExp a b c p => simp [plainT] at hp
  | Compare a b c p => simp [plainT] at hp
  | _ => rfl
theorem pw_bool {op : BoolOp} {vs : List Expr} {pos : Pos} {t : TT} (h : PT X (.BoolOp op vs pos) t) : PW X (.BoolOp op vs pos) t := ⟨fun wh pins s σ H Q I q => h.run pins s σ H Q I q⟩
theorem pt_ifExp {c a b : Expr} {pos : Pos} {tc ta tb : TT} (hc : PT X c tc) (ha : PT X a ta) (hb : PT X b tb) : PT X (.IfExp c a b pos) (fun σ H Q => tc σ H fun k H1 => if k = true then ta σ H1 Q else tb σ H1 Q) := by
  refine ⟨fun pins s σ H Q I h => ?_⟩
  refine PyProof.Rows.isTrue_IfExp (thn (hc.run pins s σ H _ I h) fun d s1 ⟨H1, I1, q1⟩ => ?_)
  cases d with
  | true => exact ha.run pins s1 σ H1 Q I1 q1
  | false => exact hb.run pins s1 σ H1 Q I1 q1

/-! ### one construct after another -/
section
variable {a b c : E} {x y z : Expr} {pos p : Pos} {i : Nat}
theorem e_var {n : Str} (hN : X.N[i]? = some n) (hv : visB X.env.scope n = true) (hn : okName n = true) : PE X (.Name n pos) (tE T G (.var i)) := by
  obtain ⟨h1, h2, _⟩ := okName_d hn
  refine (pe_var hN (visB_ok hv) h1 h2).imp fun τ H Q ⟨α, M, σ, m, rl, q⟩ => ?_
  rw [evE] at q
  cases h : σ[i]? with
  | none => rw [h] at q; exact q.elim
  | some o =>
    cases o with
    | none => rw [h] at q; exact q.elim
    | some d =>
      rw [h] at q
      obtain ⟨v, e, r⟩ := rl.2 i d h
      exact ⟨v, e, PostE.pure m r q⟩
theorem e_int {n : Int} {j : Nat} : PE X (.Constant (.int n) j pos) (tE T G (.int n)) := pe_int.imp fun τ H Q ⟨α, M, σ, m, rl, q⟩ => by rw [evE] at q; exact PostE.pure m (.int n) q
theorem e_bl {n : Bool} {j : Nat} : PE X (.Constant (.bool n) j pos) (tE T G (.bl n)) := pe_bl.imp fun τ H Q ⟨α, M, σ, m, rl, q⟩ => by rw [evE] at q; exact PostE.pure m (.bl n) q
theorem e_non {j : Nat} : PE X (.Constant .none j pos) (tE T G .non) := pe_non.imp fun τ H Q ⟨α, M, σ, m, rl, q⟩ => by rw [evE] at q; exact PostE.pure m .non q
theorem e_str {n : Str} {j : Nat} (h : StrOk n) : PE X (.Constant (.str n) j pos) (tE T G (.str n)) := pe_str.imp fun τ H Q ⟨α, M, σ, m, rl, q⟩ => by rw [evE] at q; exact PostE.pure m (.str n h) q
theorem e_con {n : Str} {g : Nat} {v : V} {u : Value} (hg : glB X.env.scope n = true) (hn : okName n = true) (hm : X.mg n = some u) (r : RelV v u) (rep : ∀ α H, Rep T α H (G.con g) v) : PE X (.Name n pos) (tE T G (.con g)) :=
  (pe_glob (glB_ok hg) hm r (okName_d hn).1).imp fun τ H Q ⟨α, M, σ, m, rl, q⟩ => by rw [evE] at q; exact PostE.pure m (rep α H) q
def esLen : Es → Nat
  | .nil => 0
  | .cons _ r => esLen r + 1
theorem a_nil : PA X [] (tEs T G .nil) := pa_nil.imp fun τ H Q ⟨α, M, σ, m, rl, q⟩ => by rw [evEs] at q; exact q α H [] Ext.refl m .nil
theorem a_cons {es : Es} {ys : List Expr} (ha : PE X x (tE T G a)) (hr : PA X ys (tEs T G es)) (hs : notStar x = true) : PA X (x :: ys) (tEs T G (.cons a es)) := by
  refine (pa_cons ha hr (star_cons hs)).imp fun τ H Q ⟨α, M, σ, m, rl, q⟩ => ?_
  rw [evEs] at q
  obtain ⟨α', M', σ', m', rl', q⟩ := oneEs m rl q
  refine ⟨α', M', σ', m', rl', q.mono fun v H1 ⟨α1, M1, d, e, m1, rl1, r, q1⟩ => ?_⟩
  refine ⟨α1, M1, σ, m1, rl1, ?_⟩
  cases h : evEs G es σ M1 with
  | ok ds M2 =>
    rw [h] at q1
    exact fun α2 H2 vs e2 m2 r2 => q1 α2 H2 (v :: vs) e2 m2 (.cons (r.ext e2) r2)
  | exc c M => rw [h] at q1; exact q1.elim
  | bad => rw [h] at q1; exact q1.elim
theorem evEs_len : ∀ (es : Es) (σ : Lo) (M : Hh) (ds : List D) (M' : Hh), evEs G es σ M = .ok ds M' → ds.length = esLen es
  | .nil, σ, M, ds, M', h => by rw [evEs] at h; cases h; rfl
  | .cons e es, σ, M, ds, M', h => by
    rw [evEs] at h
    cases h1 : evE G e σ M with
    | ok d M1 =>
      rw [h1, R.bind_ok] at h
      cases h2 : evEs G es σ M1 with
      | ok ds2 M2 =>
        rw [h2, R.bind_ok] at h
        cases h
        rw [List.length_cons, esLen, evEs_len es σ M1 ds2 _ h2]
      | exc c M => rw [h2] at h; cases h
      | bad => rw [h2] at h; cases h
    | exc c M => rw [h1] at h; cases h
    | bad => rw [h1] at h; cases h
theorem PostEs.len {Q : VK} {f : List D → Hh → R D} {es : Es} (h : PostE T α H Q ((evEs G es σ M).bind f)) :
    PostEs T α H (fun v H1 => v.length = esLen es ∧ ∃ α1 M1 d, Ext α α1 H H1 ∧ RM T α1 M1 H1 ∧ Reps T α1 H1 d v ∧ PostE T α1 H1 Q (f d M1)) (evEs G es σ M) := by
  have q := PostEs.bind h
  cases e : evEs G es σ M with
  | ok ds M1 =>
    rw [e] at q
    exact fun α1 H1 vs e1 m r => ⟨by rw [← r.1]; exact evEs_len es σ M ds M1 e, q α1 H1 vs e1 m r⟩
  | exc c M => rw [e] at q; exact q
  | bad => rw [e] at q; exact q
theorem e_tup {es : Es} {ys : List Expr} {k : Nat} (h : PA X ys (tEs T G es)) (hl : esLen es ≤ 1000) : PE X (.Tuple ys k pos) (tE T G (.tup es)) := by
  refine (pe_tupK h).imp fun τ H Q ⟨α, M, σ, m, rl, q⟩ => ?_
  rw [evE] at q
  refine ⟨α, M, σ, m, rl, (PostEs.len q).mono fun vs H1 ⟨l, α1, M1, ds, e, m1, r, q1⟩ => ⟨?_, PostE.tupN m1 r q1⟩⟩
  rw [l]; exact szl (by omega)
theorem e_lst {mm : Bool} {es : Es} {ys : List Expr} (h : PA X ys (tEs T G es)) (hl : esLen es ≤ 1000) : PE X (.List ys pos) (tE T G (.lst mm es)) := by
  refine (L2.pe_lst h).imp fun τ H Q ⟨α, M, σ, m, rl, q⟩ => ?_
  rw [evE] at q
  refine ⟨α, M, σ, m, rl, (PostEs.len q).mono fun vs H1 ⟨l, α1, M1, ds, e, m1, r, q1⟩ => ⟨?_, PostE.alloc m1 r q1⟩⟩
  rw [l]; exact szl (by omega)
theorem e_dct {mm : Bool} : PE X (.Dict [] [] pos) (tE T G (.dct mm .nil)) := by
  refine pe_dnewK.imp fun τ H Q ⟨α, M, σ, m, rl, q⟩ p hp => ?_
  rw [evE, evEs, R.bind_ok] at q
  exact PostE.allocD m .nil q p hp
theorem e_not (ha : PE X x (tE T G a)) : PE X (.UnaryOp .Not x pos) (tE T G (.not a)) :=
  (L2.pe_not ha).imp fun τ H Q ⟨α, M, σ, m, rl, q⟩ => by
    rw [evE] at q
    obtain ⟨α', M', σ', m', rl', q⟩ := valE m rl q
    exact ⟨α', M', σ', m', rl', q.mono fun v H1 ⟨c, e, α1, M1, m1, rl1, q1⟩ => ⟨c, e, PostE.pure m1 (.bl _) q1⟩⟩
theorem t_not (ha : PT X x (tT T G a)) : PT X (.UnaryOp .Not x pos) (tT T G (.not a)) :=
  (L2.pt_not ha).imp fun τ H Q ⟨α, M, σ, m, rl, q⟩ => by
    rw [evE] at q
    obtain ⟨α', M', σ', m', rl', q⟩ := testB m rl q
    exact ⟨α', M', σ', m', rl', q.mono fun c H1 ⟨α1, M1, m1, rl1, q1⟩ => q1 α1 H1 Ext.refl m1⟩
theorem e_and {r : List Expr} (ha : PE X x (tE T G a)) (hb : PE X (.BoolOp .And (y :: r) p) (tE T G b)) : PE X (.BoolOp .And (x :: y :: r) p) (tE T G (.and a b)) :=
  (L2.pe_and ha hb).imp fun τ H Q ⟨α, M, σ, m, rl, q⟩ => by
    rw [evE] at q
    obtain ⟨α', M', σ', m', rl', q⟩ := valE m rl q
    refine ⟨α', M', σ', m', rl', q.mono fun v H1 ⟨c, e, α1, M1, m1, rl1, q1⟩ => ⟨c, e, ?_⟩⟩
    cases c with
    | true => exact ⟨α1, M1, _, m1, rl1, q1⟩
    | false => exact PostE.pure m1 (.bl _) q1
theorem e_or {r : List Expr} (ha : PE X x (tE T G a)) (hb : PE X (.BoolOp .Or (y :: r) p) (tE T G b)) : PE X (.BoolOp .Or (x :: y :: r) p) (tE T G (.or a b)) :=
  (L2.pe_or ha hb).imp fun τ H Q ⟨α, M, σ, m, rl, q⟩ => by
    rw [evE] at q
    obtain ⟨α', M', σ', m', rl', q⟩ := valE m rl q
    refine ⟨α', M', σ', m', rl', q.mono fun v H1 ⟨c, e, α1, M1, m1, rl1, q1⟩ => ⟨c, e, ?_⟩⟩
    cases c with
    | true => exact PostE.pure m1 (.bl _) q1
    | false => exact ⟨α1, M1, _, m1, rl1, q1⟩
theorem t_and {r : List Expr} (ha : PT X x (tT T G a)) (hb : PT X (.BoolOp .And (y :: r) p) (tT T G b)) : PT X (.BoolOp .And (x :: y :: r) p) (tT T G (.and a b)) :=
  (pw_and ha (pw_bool hb)).pt.imp fun τ H Q ⟨α, M, σ, m, rl, q⟩ => by
    rw [evE] at q
    obtain ⟨α', M', σ', m', rl', q⟩ := testB m rl q
    refine ⟨α', M', σ', m', rl', q.mono fun c H1 ⟨α1, M1, m1, rl1, q1⟩ => ?_⟩
    cases c with
    | true => exact ⟨α1, M1, _, m1, rl1, q1⟩
    | false => exact q1 α1 H1 Ext.refl m1
theorem t_or {r : List Expr} (ha : PT X x (tT T G a)) (hb : PT X (.BoolOp .Or (y :: r) p) (tT T G b)) : PT X (.BoolOp .Or (x :: y :: r) p) (tT T G (.or a b)) :=
  (pw_or ha (pw_bool hb)).pt.imp fun τ H Q ⟨α, M, σ, m, rl, q⟩ => by
    rw [evE] at q
    obtain ⟨α', M', σ', m', rl', q⟩ := testB m rl q
    refine ⟨α', M', σ', m', rl', q.mono fun c H1 ⟨α1, M1, m1, rl1, q1⟩ => ?_⟩
    cases c with
    | true => exact q1 α1 H1 Ext.refl m1
    | false => exact ⟨α1, M1, _, m1, rl1, q1⟩
theorem e_ite (hc : PT X z (tT T G c)) (ha : PE X x (tE T G a)) (hb : PE X y (tE T G b)) : PE X (.IfExp z x y pos) (tE T G (.ite c a b)) :=
  (pe_ifExp hc ha hb).imp fun τ H Q ⟨α, M, σ, m, rl, q⟩ => by
    rw [evE] at q
    obtain ⟨α', M', σ', m', rl', q⟩ := testE m rl q
    refine ⟨α', M', σ', m', rl', q.mono fun k H1 ⟨α1, M1, m1, rl1, q1⟩ => ?_⟩
    cases k with
    | true => exact ⟨α1, M1, _, m1, rl1, q1⟩
    | false => exact ⟨α1, M1, _, m1, rl1, q1⟩
theorem t_ite (hc : PT X z (tT T G c)) (ha : PT X x (tT T G a)) (hb : PT X y (tT T G b)) : PT X (.IfExp z x y pos) (tT T G (.ite c a b)) :=
  (pt_ifExp hc ha hb).imp fun τ H Q ⟨α, M, σ, m, rl, q⟩ => by
    rw [evE] at q
    obtain ⟨α', M', σ', m', rl', q⟩ := testB m rl q
    refine ⟨α', M', σ', m', rl', q.mono fun k H1 ⟨α1, M1, m1, rl1, q1⟩ => ?_⟩
    cases k with
    | true => exact ⟨α1, M1, _, m1, rl1, q1⟩
    | false => exact ⟨α1, M1, _, m1, rl1, q1⟩
theorem e_neg (ha : PE X x (tE T G a)) : PE X (.UnaryOp .USub x pos) (tE T G (.neg a)) :=
  (pe_un un_neg ha).imp fun τ H Q ⟨α, M, σ, m, rl, q⟩ => by
    rw [evE] at q
    obtain ⟨α', M', σ', m', rl', q⟩ := one m rl q
    refine ⟨α', M', σ', m', rl', q.mono fun v H1 ⟨α1, M1, d, e, m1, rl1, r, q1⟩ => ?_⟩
    cases d with
    | int i =>
      cases r
      exact ⟨i, rfl, PostE.pure m1 (.int _) q1⟩
    | _ => exact q1.elim
theorem e_bin (hK : T.K = X.K) {mm : Bool} {o : Op} (ha : PE X x (tE T G a)) (hb : PE X y (tE T G b)) : PE X (.BinOp x (opA o) y pos) (tE T G (.bin mm o a b)) :=
  (pe_op (snd_op hK (m := mm) o) ha hb).imp fun τ H Q ⟨α, M, σ, m, rl, q⟩ => by
    rw [evE] at q
    obtain ⟨α', M', σ', m', rl', q⟩ := two m rl q
    refine ⟨α', M', σ', m', rl', q.mono fun v H1 ⟨α1, M1, σ1, m1, rl1, q1⟩ => ?_⟩
    exact ⟨α1, M1, σ1, m1, rl1, q1.mono fun w H2 ⟨α2, M2, d, e, m2, _, r1, r2, q2⟩ => ⟨α2, M2, d, e, m2, r1, r2, q2⟩⟩
theorem w_cmp {o : Cm} {Q : VK} (m : RM T α M H) (rl : RL T α H σ τ) (q : PostE T α H Q (evE G (.cmp o a b) σ M)) : tOp (rD T (cmpD o)) (tE T G a) (tE T G b) τ H Q := by
  rw [evE] at q
  obtain ⟨α', M', σ', m', rl', q⟩ := two m rl q
  refine ⟨α', M', σ', m', rl', q.mono fun v H1 ⟨α1, M1, σ1, m1, rl1, q1⟩ => ?_⟩
  exact ⟨α1, M1, σ1, m1, rl1, q1.mono fun w H2 ⟨α2, M2, d, e, m2, _, r1, r2, q2⟩ => ⟨α2, M2, d, e, m2, r1, r2, q2⟩⟩
theorem e_cmp (hK : T.K = X.K) (hu : X.A.units + 66 < cLine) {o : Cm} (ha : PE X x (tE T G a)) (hb : PE X y (tE T G b)) (hs : notSet y = true) : PE X (.Compare x [cmA o] [y] pos) (tE T G (.cmp o a b)) :=
  (pe_cmpR (snd_cm hK hu o) ha hb (mark_ok hs _)).imp fun τ H Q ⟨α, M, σ, m, rl, q⟩ => w_cmp m rl q
theorem t_cmp (hK : T.K = X.K) (hu : X.A.units + 66 < cLine) {o : Cm} (ha : PE X x (tE T G a)) (hb : PE X y (tE T G b)) (hs : notSet y = true) : PT X (.Compare x [cmA o] [y] pos) (tT T G (.cmp o a b)) :=
  (pt_cmpR (snd_cm hK hu o) ha hb (mark_ok hs _)).imp fun τ H Q ⟨α, M, σ, m, rl, q⟩ => w_cmp m rl (asB q)
theorem w_chain {o1 o2 : Cm} {Q : VK} (m : RM T α M H) (rl : RL T α H σ τ) (q : PostE T α H Q (evE G (.chain o1 o2 a b c) σ M)) : tChain (rD T (cmpD o1)) (rD T (cmpD o2)) (tE T G a) (tE T G b) (tE T G c) τ H Q := by
  rw [evE] at q
  obtain ⟨α', M', σ', m', rl', q⟩ := two m rl q
  refine ⟨α', M', σ', m', rl', q.mono fun v H1 ⟨α1, M1, σ1, m1, rl1, q1⟩ => ?_⟩
  refine ⟨α1, M1, σ1, m1, rl1, q1.mono fun w H2 ⟨α2, M2, d, e, m2, rl2, r1, r2, q2⟩ => ?_⟩
  refine ⟨α2, M2, d, e, m2, r1, r2, ?_⟩
  cases h : cmpD o1 d e M2 with
  | ok r M3 =>
    rw [h] at q2
    intro α3 H3 u e3 m3 r3
    cases r with
    | bl k =>
      cases r3
      refine ⟨k, rfl, ?_⟩
      have q3 := PostE.ext e3 q2
      cases k with
      | true =>
        obtain ⟨α', M', σ', m', rl', q⟩ := one m3 (rl2.ext e3) (a := c) (Q := Q) q3
        exact ⟨α', M', σ', m', rl', q.mono fun v H4 ⟨α4, M4, d4, e4, m4, _, r4, q4⟩ => ⟨α4, M4, e, d4, m4, (r2.ext e3).ext e4, r4, q4⟩⟩
      | false => exact PostE.pure m3 (.bl _) q3
    | _ => exact q2.elim
  | exc c M => rw [h] at q2; exact q2.elim
  | bad => rw [h] at q2; exact q2.elim
theorem e_chain (hK : T.K = X.K) (hu : X.A.units + 66 < cLine) {o1 o2 : Cm} (ha : PE X x (tE T G a)) (hb : PE X y (tE T G b)) (hc : PE X z (tE T G c)) (hm : lastMarks [cmA o1, cmA o2] [y, z] = false) : PE X (.Compare x [cmA o1, cmA o2] [y, z] pos) (tE T G (.chain o1 o2 a b c)) :=
  (pe_chain (snd_cm hK hu o1) (snd_cm hK hu o2) ha hb hc hm).imp fun τ H Q ⟨α, M, σ, m, rl, q⟩ => w_chain m rl q
theorem t_chain (hK : T.K = X.K) (hu : X.A.units + 66 < cLine) {o1 o2 : Cm} (ha : PE X x (tE T G a)) (hb : PE X y (tE T G b)) (hc : PE X z (tE T G c)) (hm : lastMarks [cmA o1, cmA o2] [y, z] = false) : PT X (.Compare x [cmA o1, cmA o2] [y, z] pos) (tT T G (.chain o1 o2 a b c)) :=
  (pt_chain (snd_cm hK hu o1) (snd_cm hK hu o2) ha hb hc hm).imp fun τ H Q ⟨α, M, σ, m, rl, q⟩ => w_chain m rl (asB q)
end
end
end Mi
end
section
set_option Elab.async false
set_option linter.all false
set_option maxRecDepth 100000
/-! MiI: built-ins, calls, attributes, methods. -/
namespace Mi
open PySem PySem.Spec L2
section
variable {T : Tb} {α α' α2 : Al} {H H' H2 : Hp} {M M' : Hh} {X : Cx} {G : Sg} {σ : Lo} {τ : St}
theorem rep_non {d : D} {v : V} (r : Rep T α H d v) : isN d = decide (v = .non) := by cases r <;> simp [isN]
section
variable {a b c : E} {x y z : Expr} {pos p apos : Pos} {i : Nat}
theorem e_isnon {j : Nat} {p2 : Pos} (ha : PE X x (tE T G a)) : PE X (.Compare x [.Is] [.Constant .none j p2] pos) (tE T G (.isnon a)) :=
  (pe_cmpR op_isN ha pe_non (mark_ok rfl _)).imp fun τ H Q ⟨α, M, σ, m, rl, q⟩ => by
    rw [evE] at q
    obtain ⟨α', M', σ', m', rl', q⟩ := one m rl q
    refine ⟨α', M', σ', m', rl', q.mono fun v H1 ⟨α1, M1, d, e, m1, rl1, r, q1⟩ => ⟨rfl, ?_⟩⟩
    rw [← rep_non r]
    exact PostE.pure m1 (.bl _) q1
theorem e_notnon {j : Nat} {p2 : Pos} (ha : PE X x (tE T G a)) : PE X (.Compare x [.IsNot] [.Constant .none j p2] pos) (tE T G (.notnon a)) :=
  (pe_cmpR op_notN ha pe_non (mark_ok rfl _)).imp fun τ H Q ⟨α, M, σ, m, rl, q⟩ => by
    rw [evE] at q
    obtain ⟨α', M', σ', m', rl', q⟩ := one m rl q
    refine ⟨α', M', σ', m', rl', q.mono fun v H1 ⟨α1, M1, d, e, m1, rl1, r, q1⟩ => ⟨rfl, ?_⟩⟩
    rw [← rep_non r]
    exact PostE.pure m1 (.bl _) q1
theorem t_isnon {j : Nat} {p2 : Pos} (ha : PE X x (tE T G a)) : PT X (.Compare x [.Is] [.Constant .none j p2] pos) (tT T G (.isnon a)) :=
  (pt_cmpR op_isN ha pe_non (mark_ok rfl _)).imp fun τ H Q ⟨α, M, σ, m, rl, q⟩ => by
    have q := asB q
    rw [evE] at q
    obtain ⟨α', M', σ', m', rl', q⟩ := one m rl q
    refine ⟨α', M', σ', m', rl', q.mono fun v H1 ⟨α1, M1, d, e, m1, rl1, r, q1⟩ => ⟨rfl, ?_⟩⟩
    rw [← rep_non r]
    exact PostE.pure m1 (.bl _) q1
theorem t_notnon {j : Nat} {p2 : Pos} (ha : PE X x (tE T G a)) : PT X (.Compare x [.IsNot] [.Constant .none j p2] pos) (tT T G (.notnon a)) :=
  (pt_cmpR op_notN ha pe_non (mark_ok rfl _)).imp fun τ H Q ⟨α, M, σ, m, rl, q⟩ => by
    have q := asB q
    rw [evE] at q
    obtain ⟨α', M', σ', m', rl', q⟩ := one m rl q
    refine ⟨α', M', σ', m', rl', q.mono fun v H1 ⟨α1, M1, d, e, m1, rl1, r, q1⟩ => ⟨rfl, ?_⟩⟩
    rw [← rep_non r]
    exact PostE.pure m1 (.bl _) q1
theorem isbl_q {neg k : Bool} {d : D} {v : V} (m : RM T α M H) (r : Rep T α H d v) {Q : VK} (q : PostE T α H Q (isblD neg k d M)) : ∃ b : Bool, v = .bl b ∧ Q (.bl (if neg then !decide (b = k) else decide (b = k))) H := by
  cases r with
  | bl b => exact ⟨b, rfl, q.pure m (.bl _)⟩
  | _ => exact q.elim
theorem e_isbl {j : Nat} {p2 : Pos} {k : Bool} (ha : PE X x (tE T G a)) : PE X (.Compare x [.Is] [.Constant (.bool k) j p2] pos) (tE T G (.isbl false k a)) :=
  (pe_cmpR op_isBl ha pe_bl (mark_ok rfl _)).imp fun τ H Q ⟨α, M, σ, m, rl, q⟩ => by
    rw [evE] at q
    obtain ⟨α', M', σ', m', rl', q⟩ := one m rl q
    refine ⟨α', M', σ', m', rl', q.mono fun v H1 ⟨α1, M1, d, e, m1, rl1, r, q1⟩ => ?_⟩
    obtain ⟨b, hb, hq⟩ := isbl_q m1 r q1
    exact ⟨b, k, hb, rfl, hq⟩
theorem e_notbl {j : Nat} {p2 : Pos} {k : Bool} (ha : PE X x (tE T G a)) : PE X (.Compare x [.IsNot] [.Constant (.bool k) j p2] pos) (tE T G (.isbl true k a)) :=
  (pe_cmpR op_notBl ha pe_bl (mark_ok rfl _)).imp fun τ H Q ⟨α, M, σ, m, rl, q⟩ => by
    rw [evE] at q
    obtain ⟨α', M', σ', m', rl', q⟩ := one m rl q
    refine ⟨α', M', σ', m', rl', q.mono fun v H1 ⟨α1, M1, d, e, m1, rl1, r, q1⟩ => ?_⟩
    obtain ⟨b, hb, hq⟩ := isbl_q m1 r q1
    exact ⟨b, k, hb, rfl, hq⟩
theorem t_isbl {j : Nat} {p2 : Pos} {k : Bool} (ha : PE X x (tE T G a)) : PT X (.Compare x [.Is] [.Constant (.bool k) j p2] pos) (tT T G (.isbl false k a)) :=
  (pt_cmpR op_isBl ha pe_bl (mark_ok rfl _)).imp fun τ H Q ⟨α, M, σ, m, rl, q⟩ => by
    have q := asB q
    rw [evE] at q
    obtain ⟨α', M', σ', m', rl', q⟩ := one m rl q
    refine ⟨α', M', σ', m', rl', q.mono fun v H1 ⟨α1, M1, d, e, m1, rl1, r, q1⟩ => ?_⟩
    obtain ⟨b, hb, hq⟩ := isbl_q m1 r q1
    exact ⟨b, k, hb, rfl, hq⟩
theorem t_notbl {j : Nat} {p2 : Pos} {k : Bool} (ha : PE X x (tE T G a)) : PT X (.Compare x [.IsNot] [.Constant (.bool k) j p2] pos) (tT T G (.isbl true k a)) :=
  (pt_cmpR op_notBl ha pe_bl (mark_ok rfl _)).imp fun τ H Q ⟨α, M, σ, m, rl, q⟩ => by
    have q := asB q
    rw [evE] at q
    obtain ⟨α', M', σ', m', rl', q⟩ := one m rl q
    refine ⟨α', M', σ', m', rl', q.mono fun v H1 ⟨α1, M1, d, e, m1, rl1, r, q1⟩ => ?_⟩
    obtain ⟨b, hb, hq⟩ := isbl_q m1 r q1
    exact ⟨b, k, hb, rfl, hq⟩
/-! ### built-ins -/
def b1N : B1 → Option (Str × Bool × String)
  | .len => some ("len", false, "len") | .tuple => some ("tuple", true, "tuple") | .list => some ("list", true, "list") | .sorted => some ("sorted", false, "sorted") | .any => some ("any", false, "any")
  | .all => some ("all", false, "all") | .int => some ("int", true, "int") | .str => some ("str", true, "str") | .abs => some ("abs", false, "abs") | .repr => some ("repr", false, "repr") | .dict => some ("dict", true, "dict") | .min1 => some ("min", false, "min")
  | _ => none
def vBT (ty : Bool) (id : String) : Value := if ty then .type id else .builtin id
theorem b1_ok (hK : T.K = X.K) (hc : X.calm = true) (hu : X.A.units + 67 < cLine) (hg : X.A.guards = some []) {mm : Bool} : ∀ {f : B1} {n : Str} {ty : Bool} {id : String}, b1N f = some (n, ty, id) → CallR X (vBT ty id) (cD T (c1D (b1D mm f))) ∧ bootBuiltins n = some (vBT ty id) ∧ okName n = true
  | .len, _, _, _, e => by cases e; exact ⟨snd_len hK, by kernel_rfl, by kernel_rfl⟩
  | .tuple, _, _, _, e => by cases e; exact ⟨snd_tuple hK, by kernel_rfl, by kernel_rfl⟩
  | .list, _, _, _, e => by cases e; exact ⟨snd_list hK hc, by kernel_rfl, by kernel_rfl⟩
  | .sorted, _, _, _, e => by cases e; exact ⟨snd_sorted hK hc hu, by kernel_rfl, by kernel_rfl⟩
  | .any, _, _, _, e => by cases e; exact ⟨snd_any hK hc, by kernel_rfl, by kernel_rfl⟩
  | .all, _, _, _, e => by cases e; exact ⟨snd_all hK hc, by kernel_rfl, by kernel_rfl⟩
  | .int, _, _, _, e => by cases e; exact ⟨snd_int, by kernel_rfl, by kernel_rfl⟩
  | .str, _, _, _, e => by cases e; exact ⟨snd_str, by kernel_rfl, by kernel_rfl⟩
  | .abs, _, _, _, e => by cases e; exact ⟨snd_abs, by kernel_rfl, by kernel_rfl⟩
  | .repr, _, _, _, e => by cases e; exact ⟨snd_repr hK hg hu, by kernel_rfl, by kernel_rfl⟩
  | .min1, _, _, _, e => by cases e; exact ⟨snd_min1 hK hc hu, by kernel_rfl, by kernel_rfl⟩
  | .max1, _, _, _, e => by cases e
  | .sortset, _, _, _, e => by cases e
  | .sum, _, _, _, e => by cases e
  | .dict, _, _, _, e => by cases e; exact ⟨snd_dict hK hc, by kernel_rfl, by kernel_rfl⟩
  | .set, _, _, _, e => by cases e
theorem pe_callV {v : Bool} {id : String} {n : Str} {e : Expr} {es : List Expr} {t : TA} {r : List V → Hp → VK → Prop} (hc : CallR X (vBT v id) r) (hg : Gl X n) (hm : X.mg n = none) (hv : bootBuiltins n = some (vBT v id)) (ha : PA X (e :: es) t) (hn : okName n = true)
    (he : starEach (e :: es) X.env = (false, eval e X.env) :: starEach es X.env) (hpl : (backTo pos (starEach es X.env)).any (·.1) = false) : PE X (.Call (.Name n p) (e :: es) [] pos) (tCB r t) := by
  obtain ⟨h1, _, h3⟩ := okName_d hn
  cases v with
  | true => exact pe_callTy hc hg hm hv ha h3 h1 he hpl
  | false => exact pe_callB hc hg hm hv ha h3 h1 he hpl
theorem e_b1 (hK : T.K = X.K) (hc : X.calm = true) (hu : X.A.units + 67 < cLine) (hgd : X.A.guards = some []) {mm : Bool} {f : B1} {n : Str} {ty : Bool} {id : String} (e : b1N f = some (n, ty, id)) (hg : glB X.env.scope n = true) (hm : X.mg n = none) (ha : PE X x (tE T G a)) (hs : notStar x = true) :
    PE X (.Call (.Name n p) [x] [] pos) (tE T G (.b1 mm f a)) := by
  obtain ⟨h1, h2, h3⟩ := b1_ok (mm := mm) hK hc hu hgd e
  refine (pe_callV h1 (glB_ok hg) hm h2 (pa_cons ha pa_nil (star_cons hs)) h3 (star_cons hs) rfl).imp fun τ H Q ⟨α, M, σ, m, rl, q⟩ => ?_
  rw [evE] at q
  obtain ⟨α', M', σ', m', rl', q⟩ := one m rl q
  exact ⟨α', M', σ', m', rl', q.mono fun v H1 ⟨α1, M1, d, e, m1, rl1, r, q1⟩ => ⟨α1, M1, [d], m1, .cons r .nil, q1⟩⟩
def b2N : B2 → Str
  | .min2 => "min" | .max2 => "max"
theorem e_b2 (hc : X.calm = true) {f : B2} (hg : glB X.env.scope (b2N f) = true) (hm : X.mg (b2N f) = none) (ha : PE X x (tE T G a)) (hb : PE X y (tE T G b)) (hs : notStar x = true) (hs2 : notStar y = true) :
    PE X (.Call (.Name (b2N f) p) [x, y] [] pos) (tE T G (.b2 f a b)) := by
  have w : ∀ τ H Q, tE T G (.b2 f a b) τ H Q → tCB (cD T (c2D (b2D f))) (tCons (tE T G a) (tCons (tE T G b) tNil)) τ H Q := fun τ H Q ⟨α, M, σ, m, rl, q⟩ => by
    rw [evE] at q
    obtain ⟨α', M', σ', m', rl', q⟩ := two m rl q
    refine ⟨α', M', σ', m', rl', q.mono fun v H1 ⟨α1, M1, σ1, m1, rl1, q1⟩ => ?_⟩
    exact ⟨α1, M1, σ1, m1, rl1, q1.mono fun w H2 ⟨α2, M2, d, e, m2, _, r1, r2, q2⟩ => ⟨α2, M2, [d, e], m2, .cons r1 (.cons r2 .nil), q2⟩⟩
  have pa := pa_cons ha (pa_cons hb pa_nil (star_cons hs2)) (star_cons hs)
  have hpl : (backTo pos (starEach [y] X.env)).any (·.1) = false := star_back (by cases y <;> first | rfl | (simp [notStar] at hs2))
  cases f with
  | min2 => exact (pe_callB (snd_min2 hc) (glB_ok hg) hm (by kernel_rfl) pa (by decide) (by decide) (star_cons hs) hpl).imp w
  | max2 => exact (pe_callB (snd_max2 hc) (glB_ok hg) hm (by kernel_rfl) pa (by decide) (by decide) (star_cons hs) hpl).imp w
/-! ### isinstance -/
def tyS : Ty → Str
  | .int => "int" | .str => "str" | .bool => "bool" | .tuple => "tuple" | .list => "list" | .dict => "dict"
theorem ty_boot : ∀ t : Ty, bootBuiltins (tyS t) = some (.type (tyN t))
  | .int => by kernel_rfl | .str => by kernel_rfl | .bool => by kernel_rfl | .tuple => by kernel_rfl | .list => by kernel_rfl | .dict => by kernel_rfl
theorem ty_ok (t : Ty) : okName (tyS t) = true := by cases t <;> kernel_rfl
theorem pe_ty {t : Ty} (hg : glB X.env.scope (tyS t) = true) (hm : X.mg (tyS t) = none) : PE X (.Name (tyS t) pos) (L2.tC (.ty (tyN t))) :=
  pe_bltn (glB_ok hg) hm (ty_boot t) rfl (okName_d (ty_ok t)).2.2 (okName_d (ty_ok t)).1
theorem isi_kind {d : D} {ts : List Ty} {Q : VK} (q : PostE T α H Q (if tyOk (der M d) then .ok (.bl (ts.any (isTy (der M d)))) M else .bad)) (hK : T.K = X.K) (m : RM T α M H) {v : V} (r : Rep T α H d v) :
    ∃ k, TyX X.K H v (.type (kdN k)) ∧ Q (.bl (ts.any (kdTy k))) H := by
  by_cases h : tyOk (der M d) = true
  · rw [if_pos h] at q
    obtain ⟨k, hk⟩ := kdOf_ok h
    refine ⟨k, der_ty hK m r hk, ?_⟩
    have e : ts.any (isTy (der M d)) = ts.any (kdTy k) := by
      congr 1; funext t; exact kdOf_ty hk t
    rw [e] at q
    exact PostE.pure m (.bl _) q
  · rw [if_neg h] at q; exact q.elim
theorem kit_one1 (k : Kd) (t : Ty) {K : PySem.W.Frag} : PySem.W.kitOne K (.type (kdN k)) (.type (tyN t)) = some (kdTy k t) := kit_ty (kd_kit k t)
theorem e_isi1 (hK : T.K = X.K) {t : Ty} (hg : glB X.env.scope "isinstance" = true) (hm : X.mg "isinstance" = none) (hg2 : glB X.env.scope (tyS t) = true) (hm2 : X.mg (tyS t) = none) (ha : PE X x (tE T G a)) (hs : notStar x = true) :
    PE X (.Call (.Name "isinstance" p) [x, .Name (tyS t) apos] [] pos) (tE T G (.isi a [t])) := by
  refine (pe_callB call_isi (glB_ok hg) hm (by kernel_rfl) (pa_cons ha (pa_cons (pe_ty hg2 hm2) pa_nil (star_cons rfl)) (star_cons hs)) (by decide) (by decide) (star_cons hs) rfl).imp fun τ H Q ⟨α, M, σ, m, rl, q⟩ => ?_
  rw [evE] at q
  obtain ⟨α', M', σ', m', rl', q⟩ := one m rl q
  refine ⟨α', M', σ', m', rl', q.mono fun v H1 ⟨α1, M1, d, e, m1, rl1, r, q1⟩ => ?_⟩
  obtain ⟨k, ty, q2⟩ := isi_kind q1 hK m1 r
  refine ⟨v, .ty (tyN t), .type (kdN k), .type (tyN t), kdTy k t, rfl, .ty _, ty, kit_one1 k t, ?_⟩
  simpa using q2
/-- the types in a tuple -/
def tTys (ts : List Ty) : TA := fun _ H Q => Q (ts.map fun t => V.ty (tyN t)) H
theorem pa_tys {ys : List Expr} {ts : List Ty} : (ys.length = ts.length) → (∀ (i : Nat) (e : Expr) (t : Ty), ys[i]? = some e → ts[i]? = some t → ∃ q, e = .Name (tyS t) q) → (∀ t ∈ ts, glB X.env.scope (tyS t) = true ∧ X.mg (tyS t) = none) → PA X ys (tTys ts) := by
  induction ts generalizing ys with
  | nil =>
    intro hl _ _
    have : ys = [] := List.eq_nil_of_length_eq_zero (by simpa using hl)
    subst this
    exact pa_nil
  | cons t ts ih =>
    intro hl hn hg
    cases ys with
    | nil => simp at hl
    | cons y ys =>
      obtain ⟨q, rfl⟩ := hn 0 y t rfl rfl
      have h0 := hg t (by simp)
      exact pa_cons (pe_ty h0.1 h0.2) (ih (by simpa using hl) (fun i e t h1 h2 => hn (i + 1) e t (by simpa using h1) (by simpa using h2)) fun t ht => hg t (by simp [ht])) (star_cons rfl)
theorem cls_all : ∀ ts : List Ty, Paired ClsV (ts.map fun t => V.ty (tyN t)) (ts.map fun t => Value.type (tyN t))
  | [] => .nil
  | t :: ts => .cons (.ty _) (cls_all ts)
theorem e_isiT (hK : T.K = X.K) {ts : List Ty} {ys : List Expr} {kk : Nat} (hg : glB X.env.scope "isinstance" = true) (hm : X.mg "isinstance" = none) (hy : PA X ys (tTys ts)) (hl : ts.length ≤ 1000) (ha : PE X x (tE T G a)) (hs : notStar x = true) :
    PE X (.Call (.Name "isinstance" p) [x, .Tuple ys kk apos] [] pos) (tE T G (.isi a ts)) := by
  refine (pe_callB call_isiT (glB_ok hg) hm (by kernel_rfl) (pa_cons ha (pa_cons (L2.pe_tup hy) pa_nil (star_cons rfl)) (star_cons hs)) (by decide) (by decide) (star_cons hs) rfl).imp fun τ H Q ⟨α, M, σ, m, rl, q⟩ => ?_
  rw [evE] at q
  obtain ⟨α', M', σ', m', rl', q⟩ := one m rl q
  refine ⟨α', M', σ', m', rl', q.mono fun v H1 ⟨α1, M1, d, e, m1, rl1, r, q1⟩ => ?_⟩
  refine ⟨by rw [List.length_map]; exact szl (by omega), fun p hp => ?_⟩
  obtain ⟨k, ty, q2⟩ := isi_kind (PostE.ext (Ext.laid (o := .tup (ts.map fun t => V.ty (tyN t))) hp) q1) hK (m1.laid hp) (r.ext (Ext.laid hp))
  exact ⟨v, p, _, .type (kdN k), _, ts.any (kdTy k), rfl, upd_same, cls_all ts, ty, kit_any k ts, q2⟩
/-! ### subscripts, slices -/
theorem e_ix (hK : T.K = X.K) (hu : X.A.units + 1 < cLine) (ha : PE X x (tE T G a)) (hb : PE X y (tE T G b)) (hs : notSlice y = true) : PE X (.Subscript x y pos) (tE T G (.ix a b)) :=
  (pe_ix (snd_ix hK hu) ha hb (slice_ok hs)).imp fun τ H Q ⟨α, M, σ, m, rl, q⟩ => by
    rw [evE] at q
    obtain ⟨α', M', σ', m', rl', q⟩ := two m rl q
    refine ⟨α', M', σ', m', rl', q.mono fun v H1 ⟨α1, M1, σ1, m1, rl1, q1⟩ => ?_⟩
    exact ⟨α1, M1, σ1, m1, rl1, q1.mono fun w H2 ⟨α2, M2, d, e, m2, _, r1, r2, q2⟩ => ⟨α2, M2, d, e, m2, r1, r2, q2⟩⟩
theorem e_kd {n : Str} {g : Nat} {ad : Addr} (hg : glB X.env.scope n = true) (hn : okName n = true) (hm : X.mg n = some (.ref ad)) (hd : ∀ z d, (G.kd g).lookup z = some d → ∃ v, KDct X.K X.w ad z v ∧ ∀ α H, Rep T α H d v) (hb : PE X y (tE T G b)) (hs : notSlice y = true) :
    PE X (.Subscript (.Name n p) y pos) (tE T G (.kd g b)) :=
  (pe_ix ix_kdict (pe_glob (v := .ref ad) (glB_ok hg) hm rfl (okName_d hn).1) hb (slice_ok hs)).imp fun τ H Q ⟨α, M, σ, m, rl, q⟩ => by
    rw [evE] at q
    obtain ⟨α', M', σ', m', rl', q⟩ := one m rl q
    refine ⟨α', M', σ', m', rl', q.mono fun v H1 ⟨α1, M1, d, e, m1, _, r, q1⟩ => ?_⟩
    cases d with
    | str x =>
      cases r
      simp only at q1
      cases h : (G.kd g).lookup x with
      | none => rw [h] at q1; exact q1.elim
      | some d2 =>
        rw [h] at q1
        obtain ⟨v, hk, rep⟩ := hd x d2 h
        exact ⟨ad, x, v, rfl, rfl, hk, PostE.pure m1 (rep α1 H1) q1⟩
    | _ => exact q1.elim
/-- a slice's part -/
def tOs (T : Tb) (G : Sg) (es : Es) : TO := fun τ H Q => ∃ α M σ, RM T α M H ∧ RL T α H σ τ ∧ match evEs G es σ M with
  | .ok ds M1 => ∃ o, optInt ds = some o ∧ ∀ α1 H1, Ext α α1 H H1 → RM T α1 M1 H1 → Q o H1
  | _ => False
theorem o_none : PO X none (tOs T G .nil) := by
  refine ⟨fun pins s τ H Q I ⟨α, M, σ, m, rl, q⟩ => po_none.run pins s τ H Q I ?_⟩
  rw [evEs] at q
  obtain ⟨o, e, q⟩ := q
  cases e
  exact q α H Ext.refl m
theorem o_some (ha : PE X x (tE T G a)) : PO X (some x) (tOs T G (.cons a .nil)) := by
  refine ⟨fun pins s τ H Q I ⟨α, M, σ, m, rl, q⟩ => (po_some ha).run pins s τ H Q I ?_⟩
  rw [evEs] at q
  refine ⟨α, M, σ, m, rl, ?_⟩
  cases e : evE G a σ M with
  | ok d M1 =>
    rw [e, R.bind_ok, evEs, R.bind_ok] at q
    obtain ⟨o, e2, q⟩ := q
    intro α1 H1 v e1 m1 r
    cases d with
    | int i => cases e2; cases r; exact ⟨i, rfl, q α1 H1 e1 m1⟩
    | _ => cases e2
  | exc c M => rw [e] at q; exact q.elim
  | bad => rw [e] at q; exact q.elim
theorem e_slice (hK : T.K = X.K) {mm : Bool} {lo hi : Es} {lo' hi' : Option Expr} (ha : PE X x (tE T G a)) (hl : PO X lo' (tOs T G lo)) (hh : PO X hi' (tOs T G hi)) : PE X (.Subscript x (.Slice lo' hi' none p) pos) (tE T G (.slice mm a lo hi)) :=
  (pe_slice (snd_slice hK (m := mm)) ha hl hh).imp fun τ H Q ⟨α, M, σ, m, rl, q⟩ => by
    rw [evE] at q
    obtain ⟨α', M', σ', m', rl', q⟩ := one m rl q
    refine ⟨α', M', σ', m', rl', q.mono fun v H1 ⟨α1, M1, d, e, m1, rl1, r, q1⟩ => ?_⟩
    refine ⟨α1, M1, σ, m1, rl1, ?_⟩
    cases h1 : evEs G lo σ M1 with
    | ok l M2 =>
      rw [h1, R.bind_ok] at q1
      cases h2 : evEs G hi σ M2 with
      | ok h M3 =>
        rw [h2, R.bind_ok] at q1
        cases o1 : optInt l with
        | none => rw [o1] at q1; exact q1.elim
        | some o1' =>
          cases o2 : optInt h with
          | none => rw [o1, o2] at q1; exact q1.elim
          | some o2' =>
            rw [o1, o2] at q1
            refine ⟨o1', o1, fun α2 H2 e2 m2 => ⟨α2, M2, σ, m2, rl1.ext e2, ?_⟩⟩
            rw [h2]
            refine ⟨o2', o2, fun α3 H3 e3 m3 => ⟨α3, M3, d, m3, (r.ext e2).ext e3, PostE.ext e3 (PostE.ext e2 q1)⟩⟩
      | exc c M => rw [h2] at q1; exact q1.elim
      | bad => rw [h2] at q1; exact q1.elim
    | exc c M => rw [h1] at q1; exact q1.elim
    | bad => rw [h1] at q1; exact q1.elim
theorem Reps.reverse {ds : List D} {vs : List V} (r : Reps T α H ds vs) : Reps T α H ds.reverse vs.reverse := by
  refine ⟨by simp [r.1], fun i d v h1 h2 => ?_⟩
  have hi : i < ds.length := by
    have := (List.getElem?_eq_some_iff.mp h1).1
    simpa using this
  rw [List.getElem?_reverse hi] at h1
  rw [List.getElem?_reverse (by rw [← r.1]; exact hi), ← r.1] at h2
  exact r.2 _ d v h1 h2
theorem Vals.rev : ∀ {xs : List V} {us : List Value}, Vals xs us → Vals xs.reverse us.reverse
  | [], [], _ => .nil
  | x :: xs, u :: us, h => by
    cases h with
    | cons r rr =>
      rw [List.reverse_cons, List.reverse_cons]
      exact (Vals.rev rr).append (.cons r .nil)
theorem e_rev (hK : T.K = X.K) {mm : Bool} {j : Nat} {p3 p4 : Pos} (ha : PE X x (tE T G a)) : PE X (.Subscript x (.Slice none none (some (.UnaryOp .USub (.Constant (.int 1) j p3) p4)) p) pos) (tE T G (.rev mm a)) := by
  refine ⟨fun pins s τ H Q I ⟨α, M, σ, m, rl, q⟩ => ?_⟩
  rw [evE] at q
  refine PyProof.Rows.Subscript_ (thn (ha.run pins s τ H _ I (one m rl q)) fun v s1 ⟨xv, H1, I1, r1, α1, M1, d, e1, m1, rl1, rd, q1⟩ => ?_)
  refine wpAny_Slice ?_
  rw [evalPart_none]
  refine wpAny_pure ?_
  refine wpAny_pure ?_
  rw [evalPart_some]
  refine thn ((pe_un un_neg (pe_int (i := 1) (j := j) (pos := p3))).run pins s1 τ H1 (fun y H2 => y = .int (-1) ∧ H2 = H1) I1 ⟨1, rfl, rfl, rfl⟩) fun u s2 ⟨y, H2, I2, r2, hy, hH⟩ => ?_
  subst hy hH
  obtain ⟨t, rfl⟩ := r2
  cases hd : der M1 d with
  | lst ds =>
    rw [hd] at q1
    obtain ⟨ad, vs, rfl, hl, rs⟩ := der_lst m1 rd hd
    cases r1
    have I4 : Inv X pins τ H2 { s2 with heap := s2.heap.push { cls := .type "slice", data := .fields #[.none, .none, .int (-1) t] } } := I2.kept (t' := s2.toks) fun b ob q => Heap.get?_push_of_some _ q
    obtain ⟨its, r, ht, hz⟩ := I4.list (SqL.of hl)
    have hlen := r.length
    refine PyProof.Rows.tail_any (ops := [.ref ad, .ref s2.heap.objs.size]) ht.isList.typeIs slot_list_getitem.lookup ?_ (by with_unfolding_all rfl)
    refine wpAny_getItem_list_slice ht.isList (Heap.IsSliceOf.new ..) .none .none (.int (-1) t) (by decide) ?_ (by rw [List.size_toArray] <;> omega)
    rw [PySem.W.krv_pick]
    have hf := I4.hok.fresh (Nat.le_refl _)
    refine ⟨.ref _, _, I4.laid (t' := s2.toks) (o := .lst vs.reverse) (fun b ob q => Heap.get?_push_of_some _ q) (Nat.le_refl _) ?_, rfl, PostE.alloc m1 rs.reverse q1 _ hf⟩
    exact ⟨by rw [List.length_reverse]; exact hz, its.reverse, 0, Vals.rev r, Heap.get?_push_size _ rfl⟩
  | str z =>
    rw [hd] at q1
    obtain ⟨rfl, o⟩ := der_str rd m1 hd
    obtain ⟨tz, rfl⟩ := r1
    have I4 : Inv X pins τ H2 { s2 with heap := s2.heap.push { cls := .type "slice", data := .fields #[.none, .none, .int (-1) t] } } := I2.kept (t' := s2.toks) fun b ob q => Heap.get?_push_of_some _ q
    refine PyProof.Rows.tail_any (ops := [.str z tz, .ref s2.heap.objs.size]) (typeIs_str _ z tz) F.slot_str_getitem.lookup ?_ (by with_unfolding_all rfl)
    refine wpAny_getItem_str_slice (l := none) (u := none) (st := some (-1, t)) ⟨_, Heap.get?_push_size _ rfl, rfl, rfl⟩ rfl ?_
    have hp : slicePicked z none none (some (-1, t)) = (List.range z.length).reverse := by
      have e : slicePicked z none none (some (-1, t)) = sliceRange ((z.length : Int) - 1) (-1) (-1) := rfl
      rw [e, PySem.W.krv_sliceRange, PySem.W.krv_range]
    have ht : (slicePicked z none none (some (-1, t))).filterMap (z.cps[·]?) = z.cps.toList.reverse := by
      rw [hp, List.filterMap_reverse]
      exact congrArg List.reverse (PySem.W.krv_all z.cps)
    have hm : sliceMade z tz none none (some (-1, t)) = .str ⟨z.cps.toList.reverse.toArray⟩ := by
      show Made.str ⟨((slicePicked z none none (some (-1, t))).filterMap (z.cps[·]?)).toArray⟩ = _
      rw [ht]
    rw [hm]
    have hl : (⟨z.cps.toList.reverse.toArray⟩ : Str).length ≤ z.length := by
      show z.cps.toList.reverse.toArray.size ≤ z.cps.size
      simp
    refine ⟨Nat.le_trans hl o.2, .str _, _, I4.tok _, ⟨_, rfl⟩, q1.pure m1 (.str _ (strOk_sub (fun c hc => ?_) hl o))⟩
    simpa using hc
  | _ => rw [hd] at q1; exact q1.elim
end
end
end Mi
end
section
set_option Elab.async false
set_option linter.all false
set_option maxRecDepth 100000
/-! MiRm: the promise of a def where it is known that no text of a thing is under way. -/
namespace Mi
open PySem PySem.Spec PyProof.Rows L2
/-- room, and no repr under way -/
structure Rm (k : Nat) (A : Around) : Prop where
  ro : Room k A
  gd : A.guards = some []
theorem Rm.mono {j k : Nat} {A : Around} (r : Rm k A) (h : j ≤ k) : Rm j A := ⟨r.ro.mono h, r.gd⟩
theorem Rm.deep {k : Nat} {A : Around} (r : Rm (k + 1) A) (e : Env) : Rm k (A.deeper e) := ⟨r.ro.deeper e, r.gd⟩
theorem Rm.made {k : Nat} {A : Around} (r : Rm (k + 1) A) (c : Addr) (us : List Value) (kw : List (Str × Value)) :
    Rm k (A.under (.builtin "type.__call__" ⟨.ref c :: us, kw⟩)) := by
  refine ⟨r.ro.make c us kw, ?_⟩
  have h : (Code.builtin "type.__call__" ⟨.ref c :: us, kw⟩).guards = [] := by
    unfold Code.guards
    rw [if_neg]
    simp [Code.isGuard, guardIds]
  show pushGuards (Code.builtin "type.__call__" ⟨.ref c :: us, kw⟩).guards A.guards = _
  rw [h]
  exact r.gd
/-- what a def promises so -/
structure FnG (P : Program) (w : World) (K : PySem.W.Frag) (mg : Str → Option Value) (b : Heap)
    (k : Nat) (f : Addr) (fd : FuncData) (ps : List Str) (sp : Sp) : Prop where
  len : ∀ zs H Q E, sp zs H Q E → zs.length = ps.length
  go : ∀ (A : Around) (out : List Env) (s : Shared) (H : Hp) (g : Args) (vw : List Value) (zs : List V) (Q : VK) (E : XK),
    Rm k A → Env0 P w K mg b A out s H → BindsTo s fd g (ps.zip vw) → Vals zs vw → sp zs H Q E →
    codeAny (model P w) A (.call (.ref f) g) (CR (L2.CX P w) out P w H s Q E) s
/-- no exception where none is wished for -/
theorem cx0 {P : Program} {w : World} {out : List Env} {H : Hp} {s t : Shared} {e : Value} (h : L2.CX P w out H s E0 e t) : False := by
  obtain ⟨_, _, _, _, _, _, _, _, _, _, _, _, h⟩ := h
  exact h
section
variable {X : Cx} {k : Nat} {f C : Addr} {fd : FuncData} {ps : List Str} {sp : Sp}
/-- a call of it -/
theorem FnG.call {pins : List (Addr × Obj)} {σ : L2.St} {H : Hp} {s : Shared} {Q : VK} {vw : List Value} {zs : List V}
    (F : FnG X.prog X.w X.K X.mg X.base k f fd ps sp) (r : Rm k X.A) (hb : Binds X.K fd ps []) (I : Inv X pins σ H s)
    (rv : Vals zs vw) (h : sp zs H Q E0) : wpAny (model X.prog X.w) X.A (PySem.call (.ref f) vw) (EP X pins σ Q) X.xe s := by
  have e : (vw ++ ([] : List Value)).length = ps.length := by
    rw [List.append_nil, ← rv.length]
    exact F.len _ _ _ _ h
  have b := hb s vw I.kIn e
  rw [List.append_nil] at b
  refine wpAny_call (codeAny_mono (F.go X.A X.stack s H ⟨vw, []⟩ vw zs Q E0 r I.env0 b rv h) ?_)
  intro res t hq
  rcases res with er | fl
  · exact (cx0 hq).elim
  · cases fl
    case ret u => exact I.after hq
    all_goals exact hq.elim
/-- .. that may raise -/
theorem FnG.callX {pins : List (Addr × Obj)} {σ : L2.St} {H : Hp} {s : Shared} {Q : VK} {W : WX} {vw : List Value} {zs : List V} (tk : Takes X W)
    (F : FnG X.prog X.w X.K X.mg X.base k f fd ps sp) (r : Rm k X.A) (hb : Binds X.K fd ps []) (I : Inv X pins σ H s)
    (rv : Vals zs vw) (h : sp zs H Q fun cls d H' => W cls d σ H') : wpAny (model X.prog X.w) X.A (PySem.call (.ref f) vw) (EP X pins σ Q) X.xe s := by
  have e : (vw ++ ([] : List Value)).length = ps.length := by
    rw [List.append_nil, ← rv.length]
    exact F.len _ _ _ _ h
  have b := hb s vw I.kIn e
  rw [List.append_nil] at b
  refine wpAny_call (codeAny_mono (F.go X.A X.stack s H ⟨vw, []⟩ vw zs Q _ r I.env0 b rv h) ?_)
  intro res t hq
  rcases res with er | fl
  · exact tk er t (XE.of_call I (fun _ _ _ h => h) hq)
  · cases fl
    case ret u => exact I.after hq
    all_goals exact hq.elim
/-- an instance made by it -/
theorem FnG.make {pins : List (Addr × Obj)} {σ : L2.St} {H : Hp} {s : Shared} {Q : VK} {vw : List Value} {zs : List V} (M : Mk X.K C f)
    (F : FnG X.prog X.w X.K X.mg X.base k f fd ps sp) (r : Rm (k + 1) X.A) (hb : Binds X.K fd ps []) (I : Inv X pins σ H s) (rv : Vals zs vw)
    (h : ∀ x dx, H x = none → H dx = none → dx ≠ x →
      sp (.ref x :: zs) (upd (upd H dx (.own x)) x (.ins C dx [])) (fun v H2 => v = .non ∧ Q (.ref x) H2) E0) :
    wpAny (model X.prog X.w) X.A (PySem.call (.ref C) vw) (EP X pins σ Q) X.xe s := by
  have free : ∀ n, s.heap.objs.size ≤ n → H n = none := fun n hn => I.hok.fresh hn
  have q := h _ _ (free (s.heap.objs.size + 1) (Nat.le_succ _)) (free s.heap.objs.size (Nat.le_refl _)) (Nat.ne_of_lt (Nat.lt_succ_self _))
  have J := Inv.made (C := C) I
  have rw2 : Vals (V.ref (s.heap.objs.size + 1) :: zs) (Value.ref (s.heap.objs.size + 1) :: vw) := .cons rfl rv
  have e : ((Value.ref (s.heap.objs.size + 1) :: vw) ++ ([] : List Value)).length = ps.length := by
    rw [List.append_nil, ← rw2.length]
    exact F.len _ _ _ _ q
  have b := hb _ (Value.ref (s.heap.objs.size + 1) :: vw) J.kIn e
  rw [List.append_nil] at b
  have g := F.go _ X.stack _ _ ⟨Value.ref (s.heap.objs.size + 1) :: vw, []⟩ _ _ _ E0 (r.made C vw []) (J.env0.make C vw []) b rw2 q
  refine wpAny_call (make_map (f := f) I.kIn M.makes M.init (beq_iff_eq.mp M.fn) (codeAny_mono g ?_))
  intro res t hq
  rcases res with er | fl
  · exact (cx0 hq).elim
  · cases fl
    case ret u =>
      obtain ⟨v, H2, I2, rx, ev, q2⟩ := J.after hq
      cases ev
      exact ⟨rx, .ref _, H2, I2, rfl, q2⟩
    all_goals exact hq.elim
end
section
variable {P : Program} {w : World} {K : PySem.W.Frag} {mg : Str → Option Value} {b : Heap}
/-- a def by its body -/
theorem fnG_of {x qual : Str} {params : Arguments} {body : List Stmt} {scope : Scope} {f : Addr} {fd : FuncData} {N ps : List Str} {k : Nat} {sp : Sp}
    (D : FunD K x qual params body scope [] [] f fd) (S : FnScope N ps scope) (len : ∀ zs H Q E, sp zs H Q E → zs.length = ps.length)
    (hB : ∀ (cd : Value) (A : Around) (out : List Env) (s : Shared) (H : Hp) (zs : List V) (Q : VK) (E : XK),
      Rm k (A.deeper (envOfC qual scope s.heap.objs.size f cd)) → sp zs H Q E →
      ∃ t, PSs (cxOf (L2.CX P w) P w K mg b N qual scope f cd A out s H E) body t ∧ t { nx := fun _ H' => Q .non H', rt := Q } (L2.start N zs) H) :
    FnG P w K mg b (k + 1) f fd ps sp := by
  obtain ⟨oc, od, dV, kV, doc, pm, an, cd, ct, sl, rfl, lk, hcd, _, _⟩ := D.ex
  refine ⟨len, ?_⟩
  intro A out s H g vw zs Q E r e0 hb rv h
  have kept : ∀ c o, b.get? c = some o → s.heap.get? c = some o := fun c o e => (e0.bs c o e).1
  have kin : K.In s.heap := e0.mod.kin.keeps kept
  have lim := e0.mod.nolimit.keeps kept
  have par : ∀ y ∈ ps.zip vw, scope.names.lookup y.1 = some .local ∨
      (scope.names.lookup y.1 = some .cell ∧ ((cellsFrom (s.heap.objs.size + 1) scope.names []).lookup y.1).isSome = true) := by
    rintro ⟨n, v⟩ hy
    exact (S.par n (List.of_mem_zip hy).1).imp id fun q => ⟨q, PySem.W.cellsFrom_some _ _ _ (.inl q)⟩
  refine codeAny_call_function r.ro.depth (kin _ _ lk) rfl S.co S.gen rfl (PySem.W.codeRec_of kin hcd) (hb _ _ _ _ ?_)
  refine wpAny_newFunctionEnv_cells S.kind par ?_
  rintro env rfl s1 hx
  refine ⟨lim.keeps hx.toInCall.keep, codeAny_func ?_⟩
  obtain ⟨t, ht, hq⟩ := hB cd A out s H zs Q E (r.deep _) h
  have I := inv_start (CX := L2.CX P w) (P := P) (w := w) (E := E) (f := f) (cd := cd) (qual := qual) S r.ro.hd e0 (len _ _ _ _ h) rv hx
  refine wpAny_mono (ht.run [] s1 _ H _ I hq) ?_ fun _ _ z => z
  intro fl s' hs
  cases fl
  case ret u => exact let ⟨v, _, H', J, rx, q⟩ := hs; ⟨v, H', J.os, J.bare, J.base, J.hok, rx, q⟩
  case next => exact let ⟨_, H', J, q⟩ := hs; ⟨V.non, H', J.os, J.bare, J.base, J.hok, rfl, q⟩
  all_goals exact let ⟨_, _, _, q⟩ := hs; q.elim
end
/-! ### the end -/
/-- the script alone is held, where it isn't a thing of the module -/
def scrH (K : PySem.W.Frag) (a : Addr) (vs : List Value) (ns : List Int) : Hp := fun c =>
  if c = a ∧ K.lookup a = none then some (.frz { cls := .type "list", data := .seq vs.toArray } (.lst (ns.map V.int))) else none
theorem scrH_some {K : PySem.W.Frag} {a c : Addr} {vs : List Value} {ns : List Int} {o : HO} (h : scrH K a vs ns c = some o) :
    c = a ∧ K.lookup a = none ∧ o = .frz { cls := .type "list", data := .seq vs.toArray } (.lst (ns.map V.int)) := by
  unfold scrH at h
  split at h
  · rename_i q
    exact ⟨q.1, q.2, (Option.some.inj h).symm⟩
  · cases h
theorem callG {P : Program} {w : World} {K : PySem.W.Frag} {mg mb : Str → Option Value} {k : Nat} {fa a : Addr} {fd : FuncData} {x : Str} {sp : Sp}
    {s : Shared} {vs : List Value} {ns : List Int} (kin : K.In s.heap) (glo : s.heap.Ns mainGlobals mg) (bl : s.heap.Ns builtinsNs mb)
    (bb : ∀ x : Str, x ≠ "__name__" → mb x = bootBuiltins x) (lim : s.heap.NoLimit) (gen : s.gens = #[])
    (at_a : s.heap.get? a = some { cls := .type "list", data := .seq vs.toArray }) (hi : IntsAre vs ns) (short : ns.length ≤ sizeLine) (r : Rm k callerA)
    (F : ∀ b : Heap, K.In b → b.Ns mainGlobals mg → FnG P w K mg b k fa fd [x] sp)
    (bind : ∀ (s : Shared) (u : Value), BindsTo s fd ⟨[u], []⟩ [(x, u)])
    (hsp : ∀ H : Hp, Only H → SqL K H a (ns.map V.int) → sp [.ref a] H (fun v _ => v = .bl true) fun _ _ _ => False) :
    codeAny (model P w) callerA (.call (.ref fa) ⟨[.ref a], []⟩)
      (fun r s' => r = .ok (.ret (.bool true)) ∧ OldK s.heap s'.heap ∧ s'.os = s.os ∧ AllBare s'.gens) s := by
  have rv := vals_ints hi
  generalize hH : scrH K a vs ns = H
  have one : ∀ {c : Addr} {o : HO}, H c = some o → c = a ∧ K.lookup a = none ∧ o = .frz { cls := .type "list", data := .seq vs.toArray } (.lst (ns.map V.int)) := fun h => scrH_some (by rw [hH]; exact h)
  have only : Only H := fun c => by
    cases h : H c with
    | none => exact .inl rfl
    | some o => exact .inr ⟨_, _, by rw [(one h).2.2]⟩
  have sq : SqL K H a (ns.map V.int) := by
    cases h : K.lookup a with
    | none => exact .inl (.inr ⟨_, by rw [← hH]; exact if_pos ⟨rfl, h⟩⟩)
    | some o =>
      have e := (kin a o h).symm.trans at_a
      cases e
      exact .inr ⟨_, vs.toArray, _, h, rfl, rfl, rfl, by rw [List.size_toArray, hi.length]; exact short, by simpa using rv⟩
  have ok : HOk P w H s.heap := fun c o h => by
    obtain ⟨rfl, _, rfl⟩ := one h
    exact ⟨at_a, by rw [List.length_map]; exact short, vs, _, rv, at_a⟩
  have un : ∀ {c : Addr} {o : Obj}, s.heap.get? c = some o → (∀ l n, o.data ≠ .seq l n) → H c = none := fun {c o} e h => by
    cases q : H c with
    | none => rfl
    | some u =>
      obtain ⟨rfl, _, _⟩ := one q
      have z := e.symm.trans at_a
      cases z
      exact (h _ _ rfl).elim
  have nsb : ∀ {c : Addr} {m : Str → Option Value}, s.heap.Ns c m → (hidT s.heap H).Ns c m := by
    rintro c m ⟨o, es, n, e, d, q⟩
    exact ⟨o, es, n, hidT_get e (un e fun l n z => by rw [d] at z; cases z), d, q⟩
  have kb : K.In (hidT s.heap H) := fun c o e => by
    refine hidT_get (kin c o e) ?_
    cases q : H c with
    | none => rfl
    | some u =>
      obtain ⟨rfl, z, _⟩ := one q
      rw [z] at e
      cases e
  have env : Env0 P w K mg (hidT s.heap H) callerA [] s H :=
    ⟨rfl, ⟨kb, nsb glo, ⟨mb, nsb bl, bb⟩, lim.elim fun m q => ⟨m, nsb q.1, q.2⟩⟩, fun c o e => of_hidT e, Nat.le_of_eq (hidT_size _ _), trivial, (fun c hc => by cases hc), ok, .of_eq gen⟩
  refine codeAny_mono ((F _ kb (nsb glo)).go callerA [] s H _ [.ref a] [.ref a] _ _ r env (bind s _) (.cons rfl .nil) (hsp H only sq)) ?_
  intro res t h
  rcases res with er | fl
  · exact (cx0 h).elim
  cases fl
  case ret u =>
    obtain ⟨v, H2, os, bare, un2, ok2, ru, q⟩ := h
    cases (q : v = .bl true)
    cases (ru : u = Value.bool true)
    refine ⟨rfl, OldK.of_keep fun c o e => ?_, os, bare⟩
    cases h1 : H c with
    | none => exact un2.keep c o e h1 (fun z => by cases z) (fun z => by cases z)
    | some o2 =>
      obtain ⟨rfl, _, rfl⟩ := one h1
      have e1 := (ok2 _ _ (un2.frzs _ _ _ h1)).1
      rw [at_a] at e
      cases e
      exact e1
  all_goals exact h.elim
theorem walkG {l : PySem.W.OpenLaw} {n k : Nat} {q : Program} {loose : List Str} {XP : (Str → Option Value) → Heap → Prop} {YP : World → Heap → Prop}
    {d : DefRec} {x : Str} (h1 : l.most = some n) (h2 : n ≤ sizeLine) (h3 : d.params.defaults = []) (r : Rm k callerA)
    (F : ∀ (w : World) (mg : Str → Option Value) (fa : Addr) (h : Heap), YP w h → h.Ns mainGlobals mg → mg d.name = some (.ref fa) →
      ∃ (K : PySem.W.Frag) (fd : FuncData) (sp : Sp), K.In h ∧ (∀ (s : Shared) (u : Value), BindsTo s fd ⟨[u], []⟩ [(x, u)]) ∧
        (∀ (H : Hp) (a : Addr) (ns : List Int), ns.length ≤ n → Only H → SqL K H a (ns.map V.int) → sp [.ref a] H (fun v _ => v = .bl true) fun _ _ _ => False) ∧
        ∀ b : Heap, K.In b → b.Ns mainGlobals mg → FnG l.prog w K mg b k fa fd [x] sp) :
    PySem.W.WalkO q loose XP YP l.row.toRowW d [] (fun f vs => PySem.call f vs) := by
  refine Att.attach_call h1 h3 ?_
  intro w _ s mg mb fa o pm cd doc a vs ns G Y _ _ _ hm ho hi hl hg
  obtain ⟨K, fd, sp, kx, bnd, hs, hF⟩ := F w mg fa _ Y G.T.g hm
  exact callG kx G.T.g G.T.b G.T.builtins G.T.nolimit hg ho hi (Nat.le_trans hl h2) r hF bnd fun H hO hS => hs H a ns hl hO hS
end Mi
end
section
set_option Elab.async false
set_option linter.all false
set_option maxRecDepth 100000
/-! MiJ: calls, attributes, methods, comprehensions. -/
namespace Mi
open PySem PySem.Spec L2
/-- what a function of the IR promises -/
def spF (P : Pg) (T : Tb) (n f : Nat) : Sp := fun vs H Q E => ∃ α M ds, RM T α M H ∧ Reps T α H ds vs ∧ PostX T α H Q E (callF P n f ds M)
/-- it stands as it should -/
def FnAt (P : Pg) (T : Tb) (X : Cx) (k f : Nat) (a : Addr) : Prop := ∃ fd ps, Binds X.K fd ps [] ∧ FnG X.prog X.w X.K X.mg X.base k a fd ps (spF P T k f)
section
variable {P : Pg} {T : Tb} {α α' α2 : Al} {H H' H2 : Hp} {M M' : Hh} {X : Cx} {G : Sg} {σ : Lo} {τ : St} {k : Nat}
variable {a b c : E} {x y z : Expr} {pos p apos : Pos} {i : Nat}
theorem PostEs.bk {keep : Bool} {es : Es} {Q : VK} {f : List D → Hh → R D} (m : RM T α M H) (rl : RL T α H σ τ) (q : PostE T α H Q ((evEs G es σ M).bind fun ds M1 => back keep M1 (f ds M1))) :
    tEs T G es τ H (fun v H1 => ∃ α1 M1 d, RM T α1 M1 H1 ∧ Reps T α1 H1 d v ∧ PostE T α1 H1 Q (f d M1)) := by
  obtain ⟨α', M', σ', m', rl', q⟩ := many m rl q
  exact ⟨α', M', σ', m', rl', q.mono fun v H1 ⟨α1, M1, d, e, m1, rl1, r, q1⟩ => ⟨α1, M1, d, m1, r, back_post m1 q1⟩⟩
/-- no argument: the reading of an empty list -/
theorem evEs_nil {es : Es} (h : PA X [] (tEs T G es)) : True := trivial
theorem e_call {keep : Bool} {f : Nat} {n : Str} {es : Es} {ys : List Expr} (hF : FnAt P T X k f (T.fa f)) (hr : Rm k X.A) (hg : glB X.env.scope n = true) (hn : okName n = true) (hm : X.mg n = some (.ref (T.fa f))) (hk : PySem.W.keepIn X.K (.ref (T.fa f)) = true)
    (ha : PA X ys (tEs T (sig P k) es)) (hs : noStar ys = true) (hz : ys = [] → es = .nil) : PE X (.Call (.Name n p) ys [] pos) (tE T (sig P k) (.call f keep es)) := by
  obtain ⟨fd, ps, hb, F⟩ := hF
  have h1 := (okName_d hn).1
  cases ys with
  | nil =>
    obtain rfl := hz rfl
    refine ⟨fun pins s τ H Q I ⟨α, M, σ, m, rl, q⟩ => ?_⟩
    rw [evE, evEs, R.bind_ok] at q
    exact wpAny_Call_Name_kw (ld_glob I (glB_ok hg) hm (PySem.W.callWith_K0 I.kIn hk (F.call (vw := []) hr hb I .nil ⟨α, M, [], m, .nil, (back_post m q).toX⟩)) h1)
  | cons y ys =>
    obtain ⟨s1, s2⟩ := noStar_cons hs
    refine ⟨fun pins s τ H Q I ⟨α, M, σ, m, rl, q⟩ => ?_⟩
    rw [evE] at q
    refine wpAny_Call_Name_kw (ld_glob I (glB_ok hg) hm ?_ h1)
    refine PySem.W.callWith_K (h₀ := X.base) I.ok.mod.kin hk (thn (ha.run pos pins s τ H _ I (PostEs.bk m rl q)) ?_) (star_cons s1) (star_back s2)
    intro vw t ⟨zs, H1, I1, rv, α1, M1, d, m1, r, q1⟩
    exact ⟨I1.kIn, F.call hr hb I1 rv ⟨α1, M1, d, m1, r, q1.toX⟩⟩
/-- a class of the IR stands as it should -/
def ClAt (P : Pg) (T : Tb) (X : Cx) (k c : Nat) : Prop := ∃ j f fd ps, k = j + 1 ∧ Mk X.K (T.ca c) f ∧ Binds X.K fd ps [] ∧ FnG X.prog X.w X.K X.mg X.base j f fd ps (spF P T j (P.init c))
theorem make_post {f : List D → Hh → R D} {init cc j : Nat} {Q : VK} {ds : List D} {vs : List V} (m : RM T α M H) (r : Reps T α H ds vs) (q : PostE T α H Q (mkF (callF P j) init cc ds M)) {xa dx : Addr} (h1 : H xa = none) (h2 : H dx = none) (ne : dx ≠ xa) :
    spF P T j init (.ref xa :: vs) (upd (upd H dx (.own xa)) xa (.ins (T.ca cc) dx [])) (fun v H2 => v = .non ∧ Q (.ref xa) H2) E0 := by
  have h3 : upd H dx (.own xa) xa = none := by rw [upd_ne (Ne.symm ne)]; exact h1
  have e1 : Ext α α H (upd H dx (.own xa)) := Ext.laid h2
  have e2 : Ext α (α.add xa) (upd H dx (.own xa)) (upd (upd H dx (.own xa)) xa (.ins (T.ca cc) dx [])) := Ext.grown h3
  have ref : Rep T (α.add xa) (upd (upd H dx (.own xa)) xa (.ins (T.ca cc) dx [])) (.ref M.length) (.ref xa) := .ref (by rw [← m.len]; simp [Al.add])
  have rf : RepF T (α.add xa) (upd (upd H dx (.own xa)) xa (.ins (T.ca cc) dx [])) [] [] := ⟨Nat.le_refl _, fun _ => .non, fun k d h => by simp at h, fun f h => rfl, fun k d h => by simp at h⟩
  have ro : RObj T (α.add xa) (upd (upd H dx (.own xa)) xa (.ins (T.ca cc) dx [])) xa (.inst cc []) := ⟨dx, [], upd_same, rf⟩
  refine ⟨α.add xa, M ++ [.inst cc []], .ref M.length :: ds, (m.laid h2).grown h3 ro, .cons ref ((r.ext e1).ext e2), ?_⟩
  unfold mkF at q
  cases h : callF P j init (.ref M.length :: ds) (M ++ [.inst cc []]) with
  | ok d M1 =>
    rw [h, R.bind_ok] at q
    intro α1 H1 v e m1 rd
    cases d with
    | non =>
      cases rd
      exact ⟨rfl, q α1 H1 _ ((e1.trans e2).trans e) m1 (ref.ext e)⟩
    | _ => exact q.elim
  | exc c M => rw [h] at q; exact q.elim
  | bad => rw [h] at q; exact q.elim
theorem e_mk {keep : Bool} {cc : Nat} {n : Str} {es : Es} {ys : List Expr} (hC : ClAt P T X k cc) (hr : Rm k X.A) (hg : glB X.env.scope n = true) (hn : okName n = true) (hm : X.mg n = some (.ref (T.ca cc)))
    (ha : PA X ys (tEs T (sig P k) es)) (hs : noStar ys = true) (hz : ys = [] → es = .nil) : PE X (.Call (.Name n p) ys [] pos) (tE T (sig P k) (.mk cc keep es)) := by
  obtain ⟨j, f, fd, ps, rfl, hM, hb, F⟩ := hC
  have h1 := (okName_d hn).1
  have nw : ∀ {Q : VK} {ds : List D} {M : Hh} {α : Al} {H : Hp}, PostE T α H Q ((sig P (j + 1)).new cc ds M) → PostE T α H Q (mkF (callF P j) (P.init cc) cc ds M) := fun {Q ds M α H} q => by
    have q : PostE T α H Q (if P.hc cc = true then mkF (callF P j) (P.init cc) cc ds M else .bad) := q
    split at q
    · exact q
    · exact q.elim
  cases ys with
  | nil =>
    obtain rfl := hz rfl
    refine ⟨fun pins s τ H Q I ⟨α, M, σ, m, rl, q⟩ => ?_⟩
    rw [evE, evEs, R.bind_ok] at q
    refine wpAny_Call_Name_kw (ld_glob I (glB_ok hg) hm (PySem.W.callWith_K0 I.kIn hM.kp (F.make (vw := []) hM hr hb I .nil ?_)) h1)
    intro xa dx h2 h3 ne
    exact make_post (f := fun _ _ => .bad) m .nil (nw (back_post m q)) h2 h3 ne
  | cons y ys =>
    obtain ⟨s1, s2⟩ := noStar_cons hs
    refine ⟨fun pins s τ H Q I ⟨α, M, σ, m, rl, q⟩ => ?_⟩
    rw [evE] at q
    refine wpAny_Call_Name_kw (ld_glob I (glB_ok hg) hm ?_ h1)
    refine PySem.W.callWith_K (h₀ := X.base) I.ok.mod.kin hM.kp (thn (ha.run pos pins s τ H _ I (PostEs.bk m rl q)) ?_) (star_cons s1) (star_back s2)
    intro vw t ⟨zs, H1, I1, rv, α1, M1, d, m1, r, q1⟩
    refine ⟨I1.kIn, F.make hM hr hb I1 rv ?_⟩
    intro xa dx h2 h3 ne
    exact make_post (f := fun _ _ => .bad) m1 r (nw q1) h2 h3 ne
/-- a method of the IR stands as it should -/
def MeAt (P : Pg) (T : Tb) (X : Cx) (k : Nat) (m : Str) (c f : Nat) : Prop := Cls X.K (T.ca c) ∧ Meth X.K (T.ca c) m (T.fa f) ∧ FnAt P T X k f (T.fa f)
theorem RepF.no {fs : List (Nat × D)} {gs : List (Str × V)} (r : RepF T α H fs gs) {m : Str} (h : ∀ k, T.an k ≠ m) : gs.lookup m = none := by
  obtain ⟨_, g, _, hn, _⟩ := r
  exact hn m fun k d _ => h k
theorem e_meth {keep : Bool} {mk : Nat} {m : Str} {o : Expr} {oe : E} {es : Es} {ys : List Expr} (hW : ∀ c f, P.meth c mk = some f → MeAt P T X k m c f) (hmn : ∀ j, T.an j ≠ m) (hr : Rm k X.A)
    (ho : PE X o (tE T (sig P k) oe)) (hbs : okBase o = true) (he : cEnd apos pos = true) (hl : ys.length < 30)
    (ha : PA X ys (tEs T (sig P k) es)) (hs : noStar ys = true) (hz : ys = [] → es = .nil) : PE X (.Call (.Attribute o m apos) ys [] pos) (tE T (sig P k) (.meth mk keep oe es)) := by
  refine ⟨fun pins s τ H Q I ⟨α, M, σ, m0, rl, q⟩ => ?_⟩
  rw [evE] at q
  refine PySem.W.methodCall_KW (thn (ho.run pins s τ H _ I (one m0 rl q)) fun u s1 ⟨xv, H1, I1, rx, α1, M1, d, e1, m1, rl1, rd, q1⟩ => ?_) (meth_form hbs hs hl he)
  cases hd : der M1 d with
  | inst c fs =>
    rw [hd] at q1
    simp only at q1
    cases hf : (sig P k).meth c mk with
    | none => rw [hf] at q1; exact q1.elim
    | some f =>
      rw [hf] at q1
      simp only at q1
      obtain ⟨cl, me, fd, ps, hb, F⟩ := hW c f hf
      obtain ⟨ad, dx, gs, rfl, ea, rF⟩ := der_inst m1 rd hd
      cases rx
      refine getmeth_ok I1 ea cl me (rF.no hmn) ?_
      cases ys with
      | nil =>
        obtain rfl := hz rfl
        rw [evEs, R.bind_ok] at q1
        exact PySem.W.callWith_K0 (first := [.ref ad]) I1.kIn me.kp (F.call (vw := [.ref ad]) (zs := [.ref ad]) hr hb I1 (.cons rfl .nil) ⟨α1, M1, [d], m1, .cons rd .nil, (back_post m1 q1).toX⟩)
      | cons y ys =>
        obtain ⟨s1', s2'⟩ := noStar_cons hs
        obtain ⟨α', M', σ', m', rl', q2⟩ := many m1 rl1 q1
        refine PySem.W.callWith_K (first := [.ref ad]) (h₀ := X.base) I.ok.mod.kin me.kp (thn (ha.run pos pins s1 τ H1 _ I1 ⟨α', M', σ', m', rl', q2⟩) fun us s2 ⟨vs, H2, I2, r, α2, M2, ds, e2, m2, _, rs, q3⟩ => ⟨I2.kIn, ?_⟩) (star_cons s1') (star_back s2')
        have r2 : Reps T α2 H2 (d :: ds) (.ref ad :: vs) := .cons (rd.ext e2) rs
        exact F.call (vw := .ref ad :: us) (zs := .ref ad :: vs) hr hb I2 (.cons rfl r) ⟨α2, M2, d :: ds, m2, r2, (back_post m2 q3).toX⟩
  | _ => rw [hd] at q1; exact q1.elim
theorem e_attr {kk : Nat} {f : Str} (hC : ∀ c, G.hc c = true → Cls X.K (T.ca c) ∧ NoAttr X.K (T.ca c) f) (hf : T.an kk = f) (ha : PE X x (tE T G a)) (hb : okBase x = true) : PE X (.Attribute x f pos) (tE T G (.attr a kk)) :=
  (pe_fld ha (base_ok hb f _ _)).imp fun τ H Q ⟨α, M, σ, m, rl, q⟩ => by
    rw [evE] at q
    obtain ⟨α', M', σ', m', rl', q⟩ := one m rl q
    refine ⟨α', M', σ', m', rl', q.mono fun v H1 ⟨α1, M1, d, e, m1, rl1, r, q1⟩ => ?_⟩
    cases hd : der M1 d with
    | inst c fs =>
      rw [hd] at q1
      simp only at q1
      split at q1
      · rename_i hc
        cases hl : fs.lookup kk with
        | none => rw [hl] at q1; exact q1.elim
        | some w =>
          rw [hl] at q1
          obtain ⟨ad, dx, gs, rfl, ea, _, g, hg, _, rg⟩ := der_inst m1 r hd
          have := hC c hc
          exact ⟨ad, T.ca c, dx, gs, g kk, rfl, ea, this.1, this.2, by rw [← hf]; exact hg kk w hl, PostE.pure m1 (rg kk w hl) q1⟩
      · exact q1.elim
    | _ => rw [hd] at q1; exact q1.elim
theorem e_bm (hK : T.K = X.K) (hu : X.A.units + 67 < cLine) {f : BM} {o : Expr} {oe : E} {es : Es} {ys : List Expr} (ho : PE X o (tE T G oe)) (hbs : okBase o = true) (he : cEnd apos pos = true) (hl : ys.length < 30)
    (ha : PA X ys (tEs T G es)) (hs : noStar ys = true) (hz : ys = [] → es = .nil) : PE X (.Call (.Attribute o (bmNm f) apos) ys [] pos) (tE T G (.bm f oe es)) := by
  refine ⟨fun pins s τ H Q I ⟨α, M, σ, m0, rl, q⟩ => ?_⟩
  rw [evE] at q
  refine wpAny_Call_method_late (base_ok hbs _ _ _) (star_few hs hl) he rfl (thn (ho.run pins s τ H _ I (one m0 rl q)) fun u s1 ⟨xv, H1, I1, rx, α1, M1, d, e1, m1, rl1, rd, q1⟩ => ?_)
  split at q1
  · rename_i hty
    obtain ⟨h1, h2⟩ := bm_is hK m1 rd hty I1 rx
    refine ⟨bmT f, bmId f, bm_plain f, bm_slot f, bm_type f, h1, h2, ?_⟩
    cases ys with
    | nil =>
      obtain rfl := hz rfl
      rw [evEs, R.bind_ok] at q1
      exact Calls.callWith_builtin rfl (PySem.evalArgs_none (snd_bm hK hu f pins s1 τ H1 xv [] u [] Q I1 rx .nil ⟨α1, M1, d, [], m1, rd, .nil, q1⟩))
    | cons y ys =>
      obtain ⟨s1', s2'⟩ := noStar_cons hs
      obtain ⟨α', M', σ', m', rl', q2⟩ := many m1 rl1 q1
      have hA := ha.run pos pins s1 τ H1 _ I1 ⟨α', M', σ', m', rl', q2⟩
      rw [star_cons s1'] at hA ⊢
      refine Calls.callWith_builtin (by show (false || (backTo pos (starEach ys X.env)).any (·.1)) = false; rw [star_back s2'] <;> rfl) (Calls.evalArgs_plain ?_)
      exact thn hA fun us s2 ⟨vs, H2, I2, r2, α2, M2, ds, e2, m2, _, rs, q3⟩ => snd_bm hK hu f pins s2 τ H2 xv vs u us Q I2 rx r2 ⟨α2, M2, d, ds, m2, rd.ext e2, rs, q3⟩
  · exact q1.elim
end
end Mi
end
section
set_option Elab.async false
set_option linter.all false
set_option maxRecDepth 100000
/-! MiK: targets, iterators, comprehensions. -/
namespace Mi
open PySem PySem.Spec L2
section
variable {P : Pg} {T : Tb} {α α' α2 : Al} {H H' H2 : Hp} {M M' : Hh} {X : Cx} {G : Sg} {σ : Lo} {τ : St} {k : Nat}
variable {a b c : E} {x y z : Expr} {pos p apos : Pos} {i : Nat}
/-! ### iterators -/
theorem i_val (hK : T.K = X.K) {tg : Expr} (ha : PE X x (tE T G a)) : PI X tg x (tI T G (.val a)) := by
  refine ⟨fun pins s τ H R I ⟨α, M, σ, m, rl, q⟩ => ?_⟩
  rw [evIt] at q
  exact thn (ha.run pins s τ H _ I (oneI m rl q)) fun v s1 ⟨xv, H1, I1, r1, α1, M1, d, e, m1, rl1, rd, q1⟩ => items_it hK I1 m1 rd r1 q1
theorem i_values (hK : T.K = X.K) {tg : Expr} (ha : PE X x (tE T G a)) (hb0 : attributeBase x "values" X.env (eval x X.env) = eval x X.env) (hl0 : (apos.endLine == pos.line) = true) : PI X tg (.Call (.Attribute x "values" apos) [] [] pos) (tI T G (.values a)) := by
  refine ⟨fun pins s τ H R I ⟨α, M, σ, m, rl, q⟩ => ?_⟩
  rw [evIt] at q
  refine wpAny_Call_method (T := "dict") (id := "dict.values") hb0 rfl hl0 F.plainAttrs_dict F.slot_dict_values F.type_dict_values (thn (ha.run pins s τ H _ I (oneI m rl q)) fun u s1 ⟨xv, H1, I1, rx, α1, M1, d, e, m1, rl1, rd, q1⟩ => ?_)
  cases rd with
  | @dict kvs a0 ws h1 n hl hk r =>
    obtain rfl : u = Value.ref a0 := rx
    suffices main : ∃ (H2 : Hp) (od : Obj), L2.Inv X pins τ H2 s1 ∧ H2 a0 = some (.frz od (.dK ws)) ∧ Ext α1 α1 H1 H2 ∧ RM T α1 M1 H2 by
      obtain ⟨H2, od, I2, hd, e2, m2⟩ := main
      obtain ⟨zs0, zg, zx, es, zep, vs, zdt, zsz, zkv, zmap⟩ := I2.frzK hd
      have hl2 : ws.length = vs.length := Paired.length zkv
      have q := q1 α1 H2 _ e2 m2 (Src.vals hd (e2.out n h1) hl fun i p w h3 h4 => (r i p w h3 h4).ext e2)
      refine ⟨zmap.dictOf.typeIs, zmap.dictOf.mapOf.noDict, ?_⟩
      have Inew : L2.Inv X pins τ H2 { s1 with heap := s1.heap.push { cls := .type "dict_values", data := .fields #[.ref a0] } } := I2.kept (t' := s1.toks) fun b ob q => Heap.get?_push_of_some _ q
      have walkIt : wpAny (model X.prog X.w) X.A (pyIter (.ref s1.heap.objs.size)) (PIE X pins τ tg R) X.xe { s1 with heap := s1.heap.push { cls := .type "dict_values", data := .fields #[.ref a0] } } := by
        refine wpAny_pyIter_values (d := a0) (knd := mixKind X.prog X.w) ⟨_, Heap.get?_push_size _ rfl, rfl, rfl⟩ (zmap.push _) (pi_one (tk := s1.toks) Inew _ (turn_vals _ zdt) ⟨_, Heap.get?_push_size _ rfl, rfl, ?_⟩ q)
        rw [hl2] <;> rfl
      show wpAny _ _ (callWith pos (.builtin "dict.values") [.ref a0] [] []) _ X.xe s1
      exact method_meetsIn F.slot_dict_values F.entry_dict_values rfl (PySem.evalArgs_none ⟨rfl, zmap.dictOf.typeIs, F.args_dict_values_1 _, _, meets_dict_values (mixKind X.prog X.w) a0 zs0, ⟨vs, zmap.dictOf⟩, walkIt⟩)
    rcases h1 with h1 | ⟨od, h1⟩
    · obtain ⟨od, I2⟩ := I1.lock h1 True.intro
      exact ⟨_, od, I2, upd_same, Ext.lock h1 n, m1.lock h1 n⟩
    · exact ⟨_, od, I1, h1, Ext.refl, m1⟩
  | _ => exact q1.elim
theorem i_range1 {tg : Expr} (hg : glB X.env.scope "range" = true) (hm : X.mg "range" = none) (ha : PE X x (tE T G a)) (hs : notStar x = true) : PI X tg (.Call (.Name "range" p) [x] [] pos) (tI T G (.range1 a)) :=
  (pi_range1 (glB_ok hg) hm (pa_cons ha pa_nil (star_cons hs)) (star_cons hs)).imp fun τ H R ⟨α, M, σ, m, rl, q⟩ => by
    rw [evIt] at q
    obtain ⟨α', M', σ', m', rl', q⟩ := oneI m rl q
    refine ⟨α', M', σ', m', rl', q.mono fun v H1 ⟨α1, M1, d, e, m1, rl1, r, q1⟩ => ?_⟩
    cases d with
    | int n =>
      cases r
      simp only at q1
      split at q1
      · rename_i h
        unfold rOk at h
        rw [Bool.and_eq_true, decide_eq_true_eq, decide_eq_true_eq] at h
        exact ⟨n, rfl, h.1, h.2, q1 α1 H1 _ Ext.refl m1 Src.range⟩
      · exact q1.elim
    | _ => exact q1.elim
theorem twoI {wk : Bool} (m : RM T α M H) (rl : RL T α H σ τ) {Q : L2.It → Hp → Prop} {f : D → D → Hh → R (List D × List (Nat × List D))} (h : PostI T α H Q wk ((evE G a σ M).bind fun x M1 => (evE G b σ M1).bind fun y M2 => f x y M2)) :
    tE T G a τ H fun x H1 => tE T G b τ H1 fun y H2 => ∃ α2 M2 d e, RM T α2 M2 H2 ∧ RL T α2 H2 σ τ ∧ Rep T α2 H2 d x ∧ Rep T α2 H2 e y ∧ PostI T α2 H2 Q wk (f d e M2) := by
  obtain ⟨α', M', σ', m', rl', q⟩ := oneI m rl h
  refine ⟨α', M', σ', m', rl', q.mono fun x H1 ⟨α1, M1, d, e, m1, rl1, r, q1⟩ => ?_⟩
  obtain ⟨α', M', σ', m', rl', q⟩ := oneI m1 rl1 q1
  exact ⟨α', M', σ', m', rl', q.mono fun y H2 ⟨α2, M2, d2, e2, m2, rl2, r2, q2⟩ => ⟨α2, M2, d, d2, m2, rl2, r.ext e2, r2, q2⟩⟩
theorem i_range2 {tg : Expr} (hg : glB X.env.scope "range" = true) (hm : X.mg "range" = none) (ha : PE X x (tE T G a)) (hb : PE X y (tE T G b)) (hs : notStar x = true) (hs2 : notStar y = true) : PI X tg (.Call (.Name "range" p) [x, y] [] pos) (tI T G (.range2 a b)) :=
  (pi_range2 (glB_ok hg) hm (pa_cons ha (pa_cons hb pa_nil (star_cons hs2)) (star_cons hs)) (by rw [star_cons hs, star_cons hs2] <;> rfl) (star_cons hs2)).imp fun τ H R ⟨α, M, σ, m, rl, q⟩ => by
    rw [evIt] at q
    obtain ⟨α', M', σ', m', rl', q⟩ := twoI m rl q
    refine ⟨α', M', σ', m', rl', q.mono fun v H1 ⟨α1, M1, σ1, m1, rl1, q1⟩ => ?_⟩
    refine ⟨α1, M1, σ1, m1, rl1, q1.mono fun w H2 ⟨α2, M2, d, e, m2, _, r1, r2, q2⟩ => ?_⟩
    cases d with
    | int i =>
      cases e with
      | int j =>
        cases r1
        cases r2
        simp only at q2
        split at q2
        · rename_i h
          unfold rOk at h
          simp only [Bool.and_eq_true, decide_eq_true_eq] at h
          exact ⟨i, j, rfl, ⟨h.1.1, h.1.2, h.2.1, h.2.2⟩, q2 α2 H2 _ Ext.refl m2 Src.range⟩
        · exact q2.elim
      | _ => exact q2.elim
    | _ => exact q2.elim
theorem threeI {wk : Bool} (m : RM T α M H) (rl : RL T α H σ τ) {Q : L2.It → Hp → Prop} {f : D → D → D → Hh → R (List D × List (Nat × List D))} (h : PostI T α H Q wk ((evE G a σ M).bind fun x M1 => (evE G b σ M1).bind fun y M2 => (evE G c σ M2).bind fun z M3 => f x y z M3)) :
    tE T G a τ H fun x H1 => tE T G b τ H1 fun y H2 => tE T G c τ H2 fun z H3 => ∃ α3 M3 d e g, RM T α3 M3 H3 ∧ Rep T α3 H3 d x ∧ Rep T α3 H3 e y ∧ Rep T α3 H3 g z ∧ PostI T α3 H3 Q wk (f d e g M3) := by
  obtain ⟨α', M', σ', m', rl', q⟩ := oneI m rl h
  refine ⟨α', M', σ', m', rl', q.mono fun x H1 ⟨α1, M1, d, e, m1, rl1, r, q1⟩ => ?_⟩
  obtain ⟨α', M', σ', m', rl', q⟩ := oneI m1 rl1 q1
  refine ⟨α', M', σ', m', rl', q.mono fun y H2 ⟨α2, M2, d2, e2, m2, rl2, r2, q2⟩ => ?_⟩
  obtain ⟨α', M', σ', m', rl', q⟩ := oneI m2 rl2 q2
  exact ⟨α', M', σ', m', rl', q.mono fun z H3 ⟨α3, M3, d3, e3, m3, rl3, r3, q3⟩ => ⟨α3, M3, d, d2, d3, m3, (r.ext e2).ext e3, r2.ext e3, r3, q3⟩⟩
theorem i_range3 {tg : Expr} (hg : glB X.env.scope "range" = true) (hm : X.mg "range" = none) (ha : PE X x (tE T G a)) (hb : PE X y (tE T G b)) (hc : PE X z (tE T G c)) (hs : notStar x = true) (hs2 : notStar y = true) (hs3 : notStar z = true) : PI X tg (.Call (.Name "range" p) [x, y, z] [] pos) (tI T G (.range3 a b c)) := by
  have hpl : (backTo pos (starEach [y, z] X.env)).any (·.1) = false := by
    rw [star_cons hs2, star_cons hs3]; rfl
  refine (pi_range3 (glB_ok hg) hm (pa_cons ha (pa_cons hb (pa_cons hc pa_nil (star_cons hs3)) (star_cons hs2)) (star_cons hs)) (star_cons hs) hpl).imp fun τ H R ⟨α, M, σ, m, rl, q⟩ => ?_
  rw [evIt] at q
  obtain ⟨α', M', σ', m', rl', q⟩ := threeI m rl q
  refine ⟨α', M', σ', m', rl', q.mono fun v H1 ⟨α1, M1, σ1, m1, rl1, q1⟩ => ?_⟩
  refine ⟨α1, M1, σ1, m1, rl1, q1.mono fun w H2 ⟨α2, M2, σ2, m2, rl2, q2⟩ => ?_⟩
  refine ⟨α2, M2, σ2, m2, rl2, q2.mono fun u H3 ⟨α3, M3, d, e, g, m3, r1, r2, r3, q3⟩ => ?_⟩
  cases d with
  | int i =>
    cases e with
    | int j =>
      cases g with
      | int k =>
        cases r1
        cases r2
        cases r3
        simp only at q3
        split at q3
        · rename_i h
          unfold rOk at h
          simp only [Bool.and_eq_true, decide_eq_true_eq] at h
          obtain ⟨⟨⟨h1, h2⟩, h3, h4⟩, rfl⟩ := h
          exact ⟨i, j, -1, _, rfl, RgC.neg h1 h2 h3 h4, q3 α3 H3 _ Ext.refl m3 Src.rangeN⟩
        · exact q3.elim
      | _ => exact q3.elim
    | _ => exact q3.elim
  | _ => exact q3.elim
theorem i_enum (hK : T.K = X.K) {elts : List Expr} {kk : Nat} {tpos : Pos} (hg : glB X.env.scope "enumerate" = true) (hm : X.mg "enumerate" = none) (ha : PE X x (tE T G a)) (hs : notStar x = true) : PI X (.Tuple elts kk tpos) (.Call (.Name "enumerate" p) [x] [] pos) (tI T G (.enum a)) :=
  (pi_enumX (glB_ok hg) hm (pa_cons ha pa_nil (star_cons hs)) (star_cons hs)).imp fun τ H R ⟨α, M, σ, m, rl, q⟩ => by
    rw [evIt] at q
    obtain ⟨α', M', σ', m', rl', q⟩ := oneI m rl q
    refine ⟨α', M', σ', m', rl', q.mono fun v H1 ⟨α1, M1, d, e, m1, rl1, r, q1⟩ => ?_⟩
    cases h : itemsL M1 d with
    | none => rw [h] at q1; exact q1.elim
    | some p =>
      rw [h] at q1
      obtain ⟨lk, b, ad, rfl, at_, vs, sq⟩ := items_at m1 r h
      rw [← hK]
      exact ⟨b, ad, vs, rfl, sq, q1 α1 H1 _ Ext.refl m1 (Src.enum at_)⟩
theorem locked_l {l1 l2 : List (Nat × List D)} {M : Hh} (h : Locked (l1 ++ l2) M) : Locked l1 M := fun p hp => h p (List.mem_append_left _ hp)
theorem locked_r {l1 l2 : List (Nat × List D)} {M : Hh} (h : Locked (l1 ++ l2) M) : Locked l2 M := fun p hp => h p (List.mem_append_right _ hp)
theorem i_zip2 (hK : T.K = X.K) {elts : List Expr} {kk : Nat} {tpos : Pos} (hg : glB X.env.scope "zip" = true) (hm : X.mg "zip" = none) (ha : PE X x (tE T G a)) (hb : PE X y (tE T G b)) (hs : notStar x = true) (hs2 : notStar y = true) :
    PI X (.Tuple elts kk tpos) (.Call (.Name "zip" p) [x, y] [] pos) (tI T G (.zip2 a b)) := by
  have hpl : (backTo pos (starEach [y] X.env)).any (·.1) = false := star_back (by cases y <;> first | rfl | (simp [notStar] at hs2))
  refine (pi_zipX (glB_ok hg) hm (pa_cons ha (pa_cons hb pa_nil (star_cons hs2)) (star_cons hs)) (star_cons hs) hpl).imp fun τ H R ⟨α, M, σ, m, rl, q⟩ => ?_
  rw [evIt] at q
  obtain ⟨α', M', σ', m', rl', q⟩ := twoI m rl q
  refine ⟨α', M', σ', m', rl', q.mono fun v H1 ⟨α1, M1, σ1, m1, rl1, q1⟩ => ?_⟩
  refine ⟨α1, M1, σ1, m1, rl1, q1.mono fun w H2 ⟨α2, M2, d, e, m2, _, r1, r2, q2⟩ => ?_⟩
  cases h : itemsL M2 d with
  | none => rw [h] at q2; exact q2.elim
  | some p =>
    cases h2 : itemsL M2 e with
    | none => rw [h, h2] at q2; exact q2.elim
    | some p2 =>
      rw [h, h2] at q2
      obtain ⟨lk, b1, a1, rfl, at1, vs, sq⟩ := items_at m2 r1 h
      obtain ⟨lk2, b2, a2, rfl, at2, vs2, sq2⟩ := items_at m2 r2 h2
      rw [← hK]
      exact ⟨b1, b2, a1, a2, vs, vs2, rfl, sq, sq2, q2 α2 H2 _ Ext.refl m2 (Src.zip (at1.more fun M l => locked_l l) (at2.more fun M l => locked_r l))⟩

/-! ### targets -/
def gNames : List Nat → TGs
  | [] => gNil
  | i :: is => gCons (gName i) (gNames is)
def gSub (K : PySem.W.Frag) : List (Sum Nat (List Nat)) → TGs
  | [] => gNil
  | .inl i :: ts => gCons (gName i) (gSub K ts)
  | .inr is :: ts => gCons (gTup K is.length (gNames is)) (gSub K ts)
def gT (K : PySem.W.Frag) : Mi.T → TG
  | .name i => gName i
  | .tup is => gTup K is.length (gNames is)
  | .tt ts => gTup K ts.length (gSub K ts)
def slotsS : List (Sum Nat (List Nat)) → List Nat
  | [] => []
  | .inl i :: ts => i :: slotsS ts
  | .inr is :: ts => is ++ slotsS ts
def slots : Mi.T → List Nat
  | .name i => [i]
  | .tup is => is
  | .tt ts => slotsS ts
/-- more than one name -/
def manyT : Mi.T → Bool
  | .name _ => false
  | _ => true
theorem RL.set (rl : RL T α H σ τ) {i : Nat} {d : D} {v : V} (r : Rep T α H d v) : RL T α H (σ.set i (some d)) (τ.set i (some v)) := by
  refine ⟨by simp [rl.1], fun j e h => ?_⟩
  by_cases hj : i = j
  · subst hj
    by_cases hi : i < σ.length
    · rw [List.getElem?_set_self hi] at h
      cases h
      exact ⟨v, by rw [List.getElem?_set_self (by rw [← rl.1]; exact hi)], r⟩
    · rw [List.getElem?_eq_none (by simpa using hi)] at h; cases h
  · rw [List.getElem?_set_ne hj] at h ⊢
    exact rl.2 j e h
theorem RL.unset (rl : RL T α H σ τ) {i : Nat} : RL T α H (σ.set i none) (τ.set i none) := by
  refine ⟨by simp [rl.1], fun j e h => ?_⟩
  by_cases hj : i = j
  · subst hj
    by_cases hi : i < σ.length
    · rw [List.getElem?_set_self hi] at h; cases h
    · rw [List.getElem?_eq_none (by simpa using hi)] at h; cases h
  · rw [List.getElem?_set_ne hj] at h ⊢
    exact rl.2 j e h
theorem RL.wipe (rl : RL T α H σ τ) : ∀ vs : List Nat, RL T α H (Mi.wipe σ vs) (L2.wipe τ vs)
  | [] => rl
  | v :: vs => (RL.wipe rl vs).unset
theorem wipe_get (τ : St) : ∀ (vs : List Nat) (j : Nat), (L2.wipe τ vs)[j]? = if j ∈ vs ∧ j < τ.length then some none else τ[j]?
  | [], j => by simp [L2.wipe]
  | v :: vs, j => by
    unfold L2.wipe
    by_cases hj : v = j
    · subst hj
      by_cases hi : v < τ.length
      · rw [List.getElem?_set_self (by rw [wipe_length]; exact hi)]; simp [hi]
      · rw [List.getElem?_eq_none (by simp [wipe_length]; omega)]
        simp [hi]
    · rw [List.getElem?_set_ne hj, wipe_get τ vs j]
      simp [Ne.symm hj]
theorem wipe_set {τ : St} {vs : List Nat} {i : Nat} {o : Option V} (h : i ∈ vs) : L2.wipe (τ.set i o) vs = L2.wipe τ vs := by
  apply List.ext_getElem?
  intro j
  rw [wipe_get, wipe_get]
  by_cases hj : j ∈ vs ∧ j < τ.length
  · rw [if_pos hj, if_pos (by simpa using hj)]
  · rw [if_neg hj, if_neg (by simpa using hj)]
    by_cases e : i = j
    · subst e
      have hl : ¬ i < τ.length := fun z => hj ⟨h, z⟩
      rw [List.getElem?_eq_none (by simp; omega), List.getElem?_eq_none (by omega)]
    · rw [List.getElem?_set_ne e]
theorem wipe_wipe (τ : St) (vs : List Nat) : L2.wipe (L2.wipe τ vs) vs = L2.wipe τ vs := by
  apply List.ext_getElem?
  intro j
  rw [wipe_get, wipe_get, wipe_length]
  by_cases hj : j ∈ vs ∧ j < τ.length
  · rw [if_pos hj, if_pos hj]
  · rw [if_neg hj]
theorem names_of {vs : List Nat} {Q : St → Hp → Prop} : ∀ (is : List Nat) (ds : List D) (xs : List V) (σ σ1 : Lo) (τ : St), setAll is ds σ = some σ1 → Reps T α H ds xs → RL T α H σ τ → (∀ i ∈ is, i ∈ vs) →
    (∀ τ1, RL T α H σ1 τ1 → L2.wipe τ1 vs = L2.wipe τ vs → Q τ1 H) → xs.length = is.length ∧ gNames is xs τ H Q
  | [], [], xs, σ, σ1, τ, h, rs, rl, _, q => by
    cases h
    rw [rs.inv_nil]
    exact ⟨rfl, rfl, q τ rl rfl⟩
  | i :: is, d :: ds, xs, σ, σ1, τ, h, rs, rl, hv, q => by
    obtain ⟨v, us, rfl, r, rs⟩ := rs.inv_cons
    have := names_of is ds us (σ.set i (some d)) σ1 (τ.set i (some v)) h rs (rl.set r) (fun j hj => hv j (by simp [hj])) fun τ1 r1 w => q τ1 r1 (w.trans (wipe_set (hv i (by simp))))
    exact ⟨by simp [this.1], v, us, rfl, this.2⟩
  | [], d :: ds, xs, σ, σ1, τ, h, rs, rl, _, q => by cases h
  | i :: is, [], xs, σ, σ1, τ, h, rs, rl, _, q => by cases h
theorem subs_of {K : PySem.W.Frag} (hK : T.K = K) {vs : List Nat} {Q : St → Hp → Prop} : ∀ (ts : List (Sum Nat (List Nat))) (ds : List D) (xs : List V) (σ σ1 : Lo) (τ : St), setSub ts ds σ = some σ1 → Reps T α H ds xs → RL T α H σ τ → (∀ i ∈ slotsS ts, i ∈ vs) →
    (∀ τ1, RL T α H σ1 τ1 → L2.wipe τ1 vs = L2.wipe τ vs → Q τ1 H) → xs.length = ts.length ∧ gSub K ts xs τ H Q
  | [], [], xs, σ, σ1, τ, h, rs, rl, _, q => by
    cases h
    rw [rs.inv_nil]
    exact ⟨rfl, rfl, q τ rl rfl⟩
  | .inl i :: ts, d :: ds, xs, σ, σ1, τ, h, rs, rl, hv, q => by
    obtain ⟨v, us, rfl, r, rs⟩ := rs.inv_cons
    have := subs_of hK ts ds us (σ.set i (some d)) σ1 (τ.set i (some v)) h rs (rl.set r) (fun j hj => hv j (by simp [slotsS, hj])) fun τ1 r1 w => q τ1 r1 (w.trans (wipe_set (hv i (by simp [slotsS]))))
    exact ⟨by simp [this.1], v, us, rfl, this.2⟩
  | .inr is :: ts, d :: ds, xs, σ, σ1, τ, h, rs, rl, hv, q => by
    cases d with
    | tup es =>
      obtain ⟨v, us, rfl, r, rs2⟩ := rs.inv_cons
      cases hs : setAll is es σ with
      | none => rw [setSub, hs] at h; cases h
      | some σ2 =>
        rw [setSub, hs, Option.bind_some] at h
        have hlen : us.length = ts.length := by
          have : ∀ (ts : List (Sum Nat (List Nat))) (ds : List D) (σ σ1 : Lo), setSub ts ds σ = some σ1 → ds.length = ts.length := by
            intro ts
            induction ts with
            | nil => intro ds σ σ1 h; cases ds with | nil => rfl | cons _ _ => cases h
            | cons t ts ih =>
              intro ds σ σ1 h
              cases ds with
              | nil => cases t <;> cases h
              | cons d ds =>
                cases t with
                | inl i => simp [ih ds _ _ h]
                | inr js =>
                  cases d with
                  | tup gs =>
                    rw [setSub] at h
                    cases hq : setAll js gs σ with
                    | none => rw [hq] at h; cases h
                    | some σ3 => rw [hq] at h; simp [ih ds _ _ h]
                  | _ => cases h
          rw [← rs2.1]; exact this ts ds σ2 σ1 h
        cases r with
        | tup h1 hl rs1 =>
          have := names_of (vs := vs) (Q := fun τ1 H => gSub K ts us τ1 H Q) is es _ σ σ2 τ hs ⟨hl, rs1⟩ rl (fun j hj => hv j (by simp [slotsS, hj])) fun τ1 r1 w =>
            (subs_of hK ts ds us σ2 σ1 τ1 h rs2 r1 (fun j hj => hv j (by simp [slotsS, hj])) fun τ2 r2 w2 => q τ2 r2 (w2.trans w)).2
          exact ⟨by simp [hlen], _, us, rfl, _, _, rfl, hK ▸ h1.sq, this.1, this.2⟩
    | _ => simp [setSub] at h
  | [], _ :: _, xs, σ, σ1, τ, h, rs, rl, _, q => by cases h
  | .inl _ :: _, [], xs, σ, σ1, τ, h, rs, rl, _, q => by cases h
  | .inr _ :: _, [], xs, σ, σ1, τ, h, rs, rl, _, q => by cases h
theorem gT_of {K : PySem.W.Frag} (hK : T.K = K) {t : Mi.T} {d : D} {v : V} {σ1 : Lo} {vs : List Nat} {Q : St → Hp → Prop} (h : t.bind d σ = some σ1) (r : Rep T α H d v) (rl : RL T α H σ τ) (hv : ∀ i ∈ slots t, i ∈ vs)
    (q : ∀ τ1, RL T α H σ1 τ1 → L2.wipe τ1 vs = L2.wipe τ vs → Q τ1 H) : gT K t v τ H Q := by
  cases t with
  | name i =>
    cases h
    exact q _ (rl.set r) (wipe_set (hv i (by simp [slots])))
  | tup is =>
    cases d with
    | tup ds =>
      cases r with
      | tup h1 hl rs =>
        have := names_of is ds _ σ σ1 τ h ⟨hl, rs⟩ rl hv q
        exact ⟨_, _, rfl, hK ▸ h1.sq, this.1, this.2⟩
    | _ => cases h
  | tt ts =>
    cases d with
    | tup ds =>
      cases r with
      | tup h1 hl rs =>
        have := subs_of hK ts ds _ σ σ1 τ h ⟨hl, rs⟩ rl hv q
        exact ⟨_, _, rfl, hK ▸ h1.sq, this.1, this.2⟩
    | _ => cases h
theorem gT_ofY {K : PySem.W.Frag} (hK : T.K = K) {t : Mi.T} {d : D} {v : V} {σ1 : Lo} {vs : List Nat} {Q : St → Hp → Prop} {wk : Bool} (hw : wk = true → manyT t = true) (h : t.bind d σ = some σ1) (r : RepY T α H wk d v) (rl : RL T α H σ τ) (hv : ∀ i ∈ slots t, i ∈ vs)
    (q : ∀ τ1, RL T α H σ1 τ1 → L2.wipe τ1 vs = L2.wipe τ vs → Q τ1 H) : gT K t v τ H Q := by
  rcases r with r | ⟨hk, ds, a, xs, rfl, rfl, h1, rs⟩
  · exact gT_of hK h r rl hv q
  · have hm := hw hk
    cases t with
    | name i => cases hm
    | tup is =>
      have := names_of is ds xs σ σ1 τ h rs rl hv q
      exact ⟨_, _, rfl, .inl h1, this.1, this.2⟩
    | tt ts =>
      have := subs_of hK ts ds xs σ σ1 τ h rs rl hv q
      exact ⟨_, _, rfl, .inl h1, this.1, this.2⟩
/-- a target of the text -/
def chkNs (N : List Str) (sc : Scope) (fnb : Str → Bool) : List Nat → List Expr → Bool
  | [], [] => true
  | i :: is, .Name x _ :: es => (N[i]? == some x) && locB sc x && (fnb x || sc.names.lookup x == some .local) && chkNs N sc fnb is es
  | _, _ => false
def chkSub (N : List Str) (sc : Scope) (fnb : Str → Bool) : List (Sum Nat (List Nat)) → List Expr → Bool
  | [], [] => true
  | .inl i :: ts, .Name x _ :: es => (N[i]? == some x) && locB sc x && (fnb x || sc.names.lookup x == some .local) && chkSub N sc fnb ts es
  | .inr is :: ts, .Tuple gs _ _ :: es => chkNs N sc fnb is gs && chkSub N sc fnb ts es
  | _, _ => false
def chkTg (N : List Str) (sc : Scope) (fnb : Str → Bool) : Mi.T → Expr → Bool
  | .tt ts, .Tuple es _ _ => chkSub N sc fnb ts es
  | .name i, .Name x _ => (N[i]? == some x) && locB sc x && (fnb x || sc.names.lookup x == some .local)
  | .tup is, .Tuple es _ _ => chkNs N sc fnb is es
  | _, _ => false
theorem loc_or {sc : Scope} {x : Str} {bb : Bool} (h : (bb || sc.names.lookup x == some .local) = true) : bb = true ∨ sc.names.lookup x = some .local := by
  rw [Bool.or_eq_true] at h
  exact h.imp id fun h => by simpa using h
theorem pgs_of {fnb : Str → Bool} (hN : X.N.Nodup) (hf : ∀ x, X.fn x = fnb x) : ∀ (is : List Nat) (es : List Expr), chkNs X.N X.env.scope fnb is es = true → (assignEach es X.env).length = is.length ∧ (assignEach es X.env).findIdx? (·.1) = none ∧ PGs X es (gNames is)
  | [], [], _ => ⟨rfl, rfl, pgs_nil⟩
  | [], _ :: _, h => by simp [chkNs] at h
  | _ :: _, [], h => by simp [chkNs] at h
  | i :: is, e :: es, h => by
    cases e with
    | Name x p =>
      unfold chkNs at h
      simp only [Bool.and_eq_true] at h
      obtain ⟨⟨⟨h1, h2⟩, h3⟩, h4⟩ := h
      obtain ⟨l, f, g⟩ := pgs_of hN hf is es h4
      have hn : X.N[i]? = some x := by simpa using h1
      have e0 : assignEach (.Name x p :: es) X.env = (false, assign (.Name x p) X.env) :: assignEach es X.env := rfl
      refine ⟨by rw [e0]; simp [l], by rw [e0, List.findIdx?_cons]; simp [f], pgs_cons (pg_name hN hn (locB_ok h2) (by rw [hf]; exact loc_or h3)) g⟩
    | _ => simp [chkNs] at h
theorem pgs_sub {fnb : Str → Bool} (hc : X.calm = true) (hN : X.N.Nodup) (hf : ∀ x, X.fn x = fnb x) : ∀ (ts : List (Sum Nat (List Nat))) (es : List Expr), chkSub X.N X.env.scope fnb ts es = true → (assignEach es X.env).length = ts.length ∧ (assignEach es X.env).findIdx? (·.1) = none ∧ PGs X es (gSub X.K ts)
  | [], [], _ => ⟨rfl, rfl, pgs_nil⟩
  | [], _ :: _, h => by simp [chkSub] at h
  | _ :: _, [], h => by simp [chkSub] at h
  | .inl i :: ts, e :: es, h => by
    cases e with
    | Name x p =>
      unfold chkSub at h
      simp only [Bool.and_eq_true] at h
      obtain ⟨⟨⟨h1, h2⟩, h3⟩, h4⟩ := h
      obtain ⟨l, f, g⟩ := pgs_sub hc hN hf ts es h4
      have hn : X.N[i]? = some x := by simpa using h1
      have e0 : assignEach (.Name x p :: es) X.env = (false, assign (.Name x p) X.env) :: assignEach es X.env := rfl
      refine ⟨by rw [e0]; simp [l], by rw [e0, List.findIdx?_cons]; simp [f], pgs_cons (pg_name hN hn (locB_ok h2) (by rw [hf]; exact loc_or h3)) g⟩
    | _ => simp [chkSub] at h
  | .inr is :: ts, e :: es, h => by
    cases e with
    | Tuple gs k p =>
      unfold chkSub at h
      simp only [Bool.and_eq_true] at h
      obtain ⟨h1, h4⟩ := h
      obtain ⟨l, f, g⟩ := pgs_sub hc hN hf ts es h4
      obtain ⟨l1, f1, g1⟩ := pgs_of hN hf is gs h1
      have e0 : assignEach (.Tuple gs k p :: es) X.env = (false, assign (.Tuple gs k p) X.env) :: assignEach es X.env := rfl
      refine ⟨by rw [e0]; simp [l], by rw [e0, List.findIdx?_cons]; simp [f], pgs_cons (pg_tup hc g1 l1 f1) g⟩
    | _ => simp [chkSub] at h
theorem pg_of {fnb : Str → Bool} (hc : X.calm = true) (hN : X.N.Nodup) (hf : ∀ x, X.fn x = fnb x) {t : Mi.T} {e : Expr} (h : chkTg X.N X.env.scope fnb t e = true) : PG X e (gT X.K t) := by
  unfold chkTg at h
  split at h
  · obtain ⟨l, f, g⟩ := pgs_sub hc hN hf _ _ h
    exact pg_tup hc g l f
  · simp only [Bool.and_eq_true] at h
    obtain ⟨⟨h1, h2⟩, h3⟩ := h
    exact pg_name hN (by simpa using h1) (locB_ok h2) (by rw [hf]; exact loc_or h3)
  · obtain ⟨l, f, g⟩ := pgs_of hN hf _ _ h
    exact pg_tup hc g l f
  · cases h
end
end Mi
end
section
set_option Elab.async false
set_option linter.all false
set_option maxRecDepth 100000
/-! MiL: list comprehensions. -/
namespace Mi
open PySem PySem.Spec L2
section
variable {P : Pg} {T : Tb} {α α' α2 : Al} {H H' H2 : Hp} {M M' : Hh} {X : Cx} {G : Sg} {σ : Lo} {τ : St} {k : Nat}
/-! ### the new list comes to light -/
theorem Rep.adopt {p : Addr} {d : D} {v : V} (r : Rep T (α.hide p) H d v) : Rep T (α.add p) H d v := by
  have ou : ∀ {a}, (α.hide p).out a → (α.add p).out a := fun {a} n => by
    refine ⟨fun z => ?_, fun z => n.2 (List.mem_cons_of_mem _ z)⟩
    have z : a ∈ α.a ++ [p] := z
    rcases List.mem_append.mp z with z | z
    · exact n.1 z
    · exact n.2 (by rw [List.mem_singleton.mp z]; exact List.mem_cons_self ..)
  induction r with
  | non => exact .non
  | bl b => exact .bl b
  | int i => exact .int i
  | str x h => exact .str x h
  | fn h n => exact .fn h (ou n)
  | tup h hl _ ih => exact .tup (h.elim (fun h => .inl ⟨h.1, ou h.2⟩) .inr) hl ih
  | lst h n hl _ ih => exact .lst h (ou n) hl ih
  | scr h => exact .scr (h.elim (fun h => .inl ⟨h.1, ou h.2⟩) .inr)
  | dict h n hl hk _ ih => exact .dict h (ou n) hl hk ih
  | inst g h n hz hg hn _ ih => exact .inst g h (ou n) hz hg hn ih
  | @ref i a h =>
    refine .ref ?_
    have h : α.a[i]? = some a := h
    show (α.a ++ [p])[i]? = some a
    rw [List.getElem?_append_left (List.getElem?_eq_some_iff.mp h).1]; exact h
theorem Reps.adopt {p : Addr} {ds : List D} {vs : List V} (r : Reps T (α.hide p) H ds vs) : Reps T (α.add p) H ds vs := ⟨r.1, fun i d v h1 h2 => (r.2 i d v h1 h2).adopt⟩
theorem RM.adopt {p : Addr} (m : RM T (α.hide p) M H) (nz : p ∉ α.z) {x : MO} (r : RObj T (α.add p) H p x) : RM T (α.add p) (M ++ [x]) H := by
  have hp := m.zs p (List.mem_cons_self ..)
  have hpa : p ∉ α.a := hp.2
  have hl : α.a.length = M.length := m.len
  refine ⟨by simp [Al.add, hl], ?_, fun i y a h1 h2 => ?_, fun z hz => ⟨(m.zs z (List.mem_cons_of_mem _ hz)).1, fun hm => ?_⟩⟩
  · show (α.a ++ [p]).Nodup
    rw [List.nodup_append]
    refine ⟨m.nd, by simp, fun a ha b hb => ?_⟩
    rw [List.mem_singleton.mp hb]
    intro e; subst e; exact hpa ha
  · have h2 : (α.a ++ [p])[i]? = some a := h2
    by_cases hi : i < α.a.length
    · rw [List.getElem?_append_left hi] at h2
      rw [List.getElem?_append_left (by rw [← hl]; exact hi)] at h1
      exact (m.obj i y a h1 h2).map (fun d v r => r.adopt) rfl
    · have e1 : i = α.a.length := by
        have := (List.getElem?_eq_some_iff.mp h2).1
        rw [List.length_append, List.length_singleton] at this
        omega
      subst e1
      rw [List.getElem?_append_right (Nat.le_refl _)] at h2
      rw [List.getElem?_append_right (by rw [hl]; exact Nat.le_refl _)] at h1
      rw [hl] at h1
      simp at h1 h2
      rw [← h1, ← h2]; exact r
  · have hm : z ∈ α.a ++ [p] := hm
    rcases List.mem_append.mp hm with q | q
    · exact (m.zs z (List.mem_cons_of_mem _ hz)).2 q
    · rw [List.mem_singleton.mp q] at hz
      exact nz hz
theorem Rep.show' {p : Addr} {β : Al} (hb : β = α.hide p) {d : D} {v : V} (r : Rep T β H d v) : Rep T α H d v := by subst hb; exact r.show

/-! ### a step whose end is seen from elsewhere -/
theorem farB {α0 : Al} {H0 : Hp} {Q : VK} {f : Bool → Hh → R D} {r : R Bool} (h : PostE T α0 H0 Q (r.bind f)) : PostB T α H (fun b H3 => ∃ α3 M3, Ext α α3 H H3 ∧ RM T α3 M3 H3 ∧ PostE T α0 H0 Q (f b M3)) r := by
  cases r with
  | ok b M => exact fun α1 H1 e m => ⟨α1, M, e, m, h⟩
  | exc c M => exact h.elim
  | bad => exact h.elim
theorem farE {α0 : Al} {H0 : Hp} {Q : VK} {f : D → Hh → R D} {r : R D} (h : PostE T α0 H0 Q (r.bind f)) : PostE T α H (fun v H3 => ∃ α3 M3 d, Ext α α3 H H3 ∧ RM T α3 M3 H3 ∧ Rep T α3 H3 d v ∧ PostE T α0 H0 Q (f d M3)) r := by
  cases r with
  | ok d M => exact fun α1 H1 v e m rd => ⟨α1, M, d, e, m, rd, h⟩
  | exc c M => exact h.elim
  | bad => exact h.elim
theorem R.bind_assoc {β γ δ : Type} (r : R β) (f : β → Hh → R γ) (g : γ → Hh → R δ) : (r.bind f).bind g = r.bind fun a M => (f a M).bind g := by cases r <;> rfl
def Al.unz (α : Al) (z : List Addr) : Al := ⟨α.a, z⟩
theorem Ext.unz {z : List Addr} (hz : ∀ x ∈ z, x ∈ α.z) (e : Ext α α' H H') : Ext (α.unz z) (α'.unz z) H H' := ⟨e.pre, rfl, e.keep, e.same, e.new, fun x hx => e.hid x (hz x hx), e.fr⟩

/-- where a comprehension stands ahead of its i-th turn -/
structure LcAt (T : Tb) (α1 : Al) (H1 : Hp) (p : Addr) (own : List Nat) (σ : Lo) (τ : St) (i : Nat) (acc : List D) (us : List V) (α2 : Al) (M2 : Hh) (H2 : Hp) : Prop where
  lat : Lat T α1 H1 α2 H2
  ext : Ext α1 (α2.unz α1.z) H1 H2
  z : α2.z = p :: α1.z
  m : RM T α2 M2 H2
  rl : RL T α2 H2 (Mi.wipe σ own) (L2.wipe τ own)
  at_ : H2 p = some (.lst us)
  reps : Reps T α2 H2 acc us
  few : acc.length ≤ i
theorem w_lc {mm : Bool} {t : Mi.T} {it : It} {c : Es} {elt : E} {own : List Nat} {Q : VK} (hK : T.K = X.K) (hsl : ∀ i ∈ slots t, i ∈ own) (hwk : weakIt it = true → manyT t = true) (h : tE T G (.lc mm own t it c elt) τ H Q) :
    tLc (tI T G it) (gT X.K t) (tCs T G c) (tE T G elt) own τ H Q := by
  obtain ⟨α, M, σ, m, rl, q⟩ := h
  rw [evE] at q
  refine ⟨α, M, σ, m, rl, ?_⟩
  cases hi : evIt G it σ M with
  | exc c M => rw [hi] at q; exact q.elim
  | bad => rw [hi] at q; exact q.elim
  | ok p M1 =>
    rw [hi, R.bind_ok] at q
    intro α1 H1 J e1 m1 src dp hdp
    have q := PostE.ext e1 q
    have rl1 := rl.ext e1
    have hsz : p.1.length ≤ 16777216 := by
      by_cases z : p.1.length ≤ 16777216
      · exact z
      · rw [if_neg z] at q; exact q.elim
    rw [if_pos hsz] at q
    have ndp := m1.fresh hdp
    refine ⟨fun i n H2 => n = p.1.length - i ∧ i ≤ p.1.length ∧ ∃ acc us α2 M2, LcAt T α1 H1 dp own σ τ i acc us α2 M2 H2 ∧
      PostE T α1 H1 Q ((lcL p.2 (fun x => t.bind x (Mi.wipe σ own)) (fun σ1 M2 => evC G c σ1 M2) (fun σ1 M2 => evE G elt σ1 M2) (p.1.drop i) M2).bind fun ys M2 => alloc mm (acc ++ ys) M2),
      ⟨p.1.length, ?_⟩, ?_⟩
    · refine ⟨rfl, Nat.zero_le _, [], [], α1.hide dp, M1, ?_, ?_⟩
      · exact ⟨Lat.hide hdp, Ext.hide_upd (Ext.refl) hdp ndp.1, rfl, m1.hide hdp, ((Lat.hide hdp).rl rl1).wipe own, upd_same, .nil, Nat.le_refl _⟩
      · simpa using q
    rintro i n H2 ⟨rfl, hle, acc, us, α2, M2, L, q2⟩
    have hlk : Locked p.2 M2 := by
      by_cases z : Locked p.2 M2
      · exact z
      · cases hd : p.1.drop i with
        | nil => rw [hd, lcL, if_neg z] at q2; exact q2.elim
        | cons x xs => rw [hd, lcL, if_neg z] at q2; exact q2.elim
    by_cases hlt : i < p.1.length
    · refine .inr ⟨src.go i α2 M2 H2 L.lat L.m hlk hlt, _, fun H' h => h, fun x H3 hy => ?_⟩
      have hx : p.1[i]? = some p.1[i] := List.getElem?_eq_getElem hlt
      obtain ⟨e3, m3, r3⟩ := src.yld i _ α2 M2 H2 x H3 L.lat L.m hlk hx hy
      rw [List.drop_eq_getElem_cons hlt, lcL, if_pos hlk] at q2
      cases hb : t.bind p.1[i] (Mi.wipe σ own) with
      | none => rw [hb] at q2; exact q2.elim
      | some σ1 =>
        rw [hb] at q2
        simp only at q2
        refine gT_ofY hK hwk hb r3 (L.rl.ext e3) hsl fun τ1 rl3 hw => ⟨hw.trans (wipe_wipe τ own), ?_⟩
        rw [R.bind_assoc] at q2
        refine ⟨α2, M2, σ1, m3, rl3, (farB q2).mono fun b H4 ⟨α4, M4, e4, m4, q4⟩ => ?_⟩
        have hp2 : dp ∉ α2.a := (L.m.zs dp (by rw [L.z]; exact List.mem_cons_self ..)).2
        -- the turn's end without an item, with one
        have keep : ∀ {α5 : Al} {H5 : Hp}, Ext α2 α5 H2 H5 → H5 dp = some (.lst us) := fun {α5 H5} e => e.same dp _ hp2 L.at_ (fun _ z => nomatch z)
        have e24 := e3.trans e4
        cases b with
        | false =>
          simp only [Bool.false_eq_true, if_false] at q4 ⊢
          refine ⟨_, by omega, rfl, by omega, acc, us, α4, M4, ⟨L.lat.trans e24.lat, L.ext.trans (e24.unz fun x hx => by rw [L.z]; exact List.mem_cons_of_mem _ hx), by rw [e24.zz, L.z], m4, L.rl.ext e24, keep e24, L.reps.ext e24, by have := L.few; omega⟩, q4⟩
        | true =>
          simp only [if_true] at q4 ⊢
          rw [R.bind_assoc] at q4
          refine ⟨α4, M4, σ1, m4, rl3.ext e4, (farE q4).mono fun y H5 ⟨α5, M5, d, e5, m5, r5, q5⟩ => ?_⟩
          have e25 := e24.trans e5
          have at5 := keep e25
          have z5 : dp ∈ α5.z := by rw [e25.zz, L.z]; exact List.mem_cons_self ..
          have r5s := L.reps.ext e25
          refine ⟨us, at5, ?_, ?_⟩
          · rw [← r5s.1, sizeLine_eq]
            have := L.few
            omega
          · refine ⟨_, by omega, rfl, by omega, acc ++ [d], us ++ [y], α5, M5, ⟨(L.lat.trans e25.lat).trans (Lat.over z5 (m5.zs dp z5).2), ?_, by rw [e25.zz, L.z], m5.over z5, (Lat.over z5 (m5.zs dp z5).2).rl (L.rl.ext e25), upd_same, ?_, by have := L.few; simp; omega⟩, ?_⟩
            · refine Ext.hide_upd (L.ext.trans (e25.unz fun x hx => by rw [L.z]; exact List.mem_cons_of_mem _ hx)) hdp ?_
              exact (m5.zs dp z5).2
            · exact (r5s.append (.cons r5 .nil)).over z5
            · rw [R.bind_assoc] at q5
              simpa using q5
    · have ei : i = p.1.length := by omega
      refine .inl ⟨src.stop i α2 M2 H2 L.lat L.m hlk ei.symm, ?_⟩
      rw [ei, List.drop_length, lcL, if_pos hlk, R.bind_ok, List.append_nil] at q2
      have hu : α2 = (α2.unz α1.z).hide dp := by
        obtain ⟨a2, z2⟩ := α2
        have : z2 = dp :: α1.z := L.z
        subst this; rfl
      generalize hβ : α2.unz α1.z = β at hu
      have Le := L.ext
      rw [hβ] at Le
      have Lm := L.m
      have Lr := L.reps
      rw [hu] at Lm Lr
      have nz : dp ∉ β.z := by rw [← hβ]; exact ndp.2
      have na : dp ∉ β.a := (Lm.zs dp (List.mem_cons_self ..)).2
      unfold Mi.alloc at q2
      cases mm with
      | false =>
        simp only [Bool.false_eq_true, if_false] at q2
        exact q2 β H2 _ Le Lm.show (.lst L.at_ ⟨na, nz⟩ Lr.1 fun i d v h1 h2 => (Lr.2 i d v h1 h2).show)
      | true =>
        simp only [if_true] at q2
        have ro : RObj T (β.add dp) H2 dp (.lst acc) := ⟨us, L.at_, Lr.adopt⟩
        have Le2 : Ext α1 (β.add dp) H1 H2 := by
          obtain ⟨γ, hγ⟩ := Le.pre
          refine ⟨⟨γ ++ [dp], by show β.a ++ [dp] = _; rw [hγ, List.append_assoc]⟩, Le.zz, Le.keep, Le.same, fun a h n => ?_, Le.hid, Le.fr⟩
          have h : a ∈ β.a ++ [dp] := h
          rcases List.mem_append.mp h with h | h
          · exact Le.new a h n
          · rw [List.mem_singleton.mp h]; exact hdp
        refine q2 (β.add dp) H2 _ Le2 (Lm.adopt nz ro) (.ref ?_)
        have hl : β.a.length = M2.length := Lm.len
        rw [← hl]; simp [Al.add]
theorem c_nil : PTs X [] (tCs T G .nil) := pts_nil.imp fun τ H Q ⟨α, M, σ, m, rl, q⟩ => by
  rw [evC] at q
  exact q α H Ext.refl m
theorem c_one {x : Expr} {a : E} (h : PT X x (tT T G a)) : PTs X [x] (tCs T G (.cons a .nil)) := (pts_one h).imp fun τ H Q ⟨α, M, σ, m, rl, q⟩ => ⟨α, M, σ, m, rl, by rw [evC] at q; exact q⟩
end
end Mi
end
section
set_option Elab.async false
set_option linter.all false
set_option maxRecDepth 100000
/-! MiL2: dict displays. -/
namespace Mi
open PySem PySem.Spec L2
section
variable {T : Tb} {α α' α2 : Al} {H H' H2 : Hp} {M M' : Hh} {X : Cx} {G : Sg} {σ : Lo} {τ : St}
def trsOf (T : Tb) (G : Sg) : Es → List (TE × TE)
  | .cons k (.cons v r) => (tE T G k, tE T G v) :: trsOf T G r
  | _ => []
inductive RepP (T : Tb) (α : Al) (H : Hp) : List D → List (V × V) → Prop
  | nil : RepP T α H [] []
  | cons {k v : D} {x y : V} {ds : List D} {ps : List (V × V)} (h1 : Rep T α H k x) (h2 : Rep T α H v y) (r : RepP T α H ds ps) : RepP T α H (k :: v :: ds) ((x, y) :: ps)
theorem RepP.map {α β : Al} {H H' : Hp} (hd : ∀ d v, Rep T α H d v → Rep T β H' d v) {ds : List D} {ps : List (V × V)} (r : RepP T α H ds ps) : RepP T β H' ds ps := by
  induction r with
  | nil => exact .nil
  | cons h1 h2 _ ih => exact .cons (hd _ _ h1) (hd _ _ h2) ih
def evenEs : Es → Bool
  | .nil => true
  | .cons _ .nil => false
  | .cons _ (.cons _ r) => evenEs r
theorem tPairs_mono {τ : St} : ∀ (trs : List (TE × TE)) (H : Hp) (Q Q' : List (V × V) → Hp → Prop), (∀ p ∈ trs, (∀ τ H (Q Q' : VK), (∀ v H, Q v H → Q' v H) → p.1 τ H Q → p.1 τ H Q') ∧ (∀ τ H (Q Q' : VK), (∀ v H, Q v H → Q' v H) → p.2 τ H Q → p.2 τ H Q')) → (∀ ps H, Q ps H → Q' ps H) → tPairs trs τ H Q → tPairs trs τ H Q'
  | [], H, Q, Q', _, h, q => h _ _ q
  | (tk, tv) :: r, H, Q, Q', hm, h, q => (hm _ List.mem_cons_self).1 _ _ _ _ (fun x H1 q1 => (hm _ List.mem_cons_self).2 _ _ _ _ (fun y H2 q2 => tPairs_mono r H2 _ _ (fun p hp => hm p (List.mem_cons_of_mem _ hp)) (fun ps H3 q3 => h _ _ q3) q2) q1) q
theorem tE_mono {e : E} : ∀ τ H (Q Q' : VK), (∀ v H, Q v H → Q' v H) → tE T G e τ H Q → tE T G e τ H Q' := fun τ H Q Q' h ⟨α, M, σ, m, rl, q⟩ => ⟨α, M, σ, m, rl, q.mono h⟩
theorem trs_mono : ∀ (es : Es), ∀ p ∈ trsOf T G es, (∀ τ H (Q Q' : VK), (∀ v H, Q v H → Q' v H) → p.1 τ H Q → p.1 τ H Q') ∧ (∀ τ H (Q Q' : VK), (∀ v H, Q v H → Q' v H) → p.2 τ H Q → p.2 τ H Q')
  | .nil, p, h => by simp [trsOf] at h
  | .cons k .nil, p, h => by simp [trsOf] at h
  | .cons k (.cons v r), p, h => by
    rw [trsOf] at h
    rcases List.mem_cons.mp h with rfl | h
    · exact ⟨tE_mono, tE_mono⟩
    · exact trs_mono r p h
theorem w_pairs : ∀ (es : Es) (α : Al) (M M1 : Hh) (ds : List D) (H : Hp), evenEs es = true → RM T α M H → RL T α H σ τ → evEs G es σ M = .ok ds M1 →
    tPairs (trsOf T G es) τ H fun ps H1 => ∃ α1, Ext α α1 H H1 ∧ RM T α1 M1 H1 ∧ RepP T α1 H1 ds ps
  | .nil, α, M, M1, ds, H, _, m, rl, he => by
    rw [evEs] at he
    cases he
    exact ⟨α, Ext.refl, m, .nil⟩
  | .cons k .nil, α, M, M1, ds, H, hev, m, rl, he => by simp [evenEs] at hev
  | .cons k (.cons v r), α, M, M1, ds, H, hev, m, rl, he => by
    rw [evEs] at he
    cases hk : evE G k σ M with
    | exc c M => rw [hk] at he; cases he
    | bad => rw [hk] at he; cases he
    | ok dk Mk =>
      rw [hk, R.bind_ok, evEs] at he
      cases hv : evE G v σ Mk with
      | exc c M => rw [hv] at he; cases he
      | bad => rw [hv] at he; cases he
      | ok dv Mv =>
        rw [hv, R.bind_ok] at he
        cases hr : evEs G r σ Mv with
        | exc c M => rw [hr] at he; cases he
        | bad => rw [hr] at he; cases he
        | ok dr Mr =>
          rw [hr] at he
          simp only [R.bind_ok] at he
          cases he
          refine ⟨α, M, σ, m, rl, ?_⟩
          rw [hk]
          intro α1 H1 x e1 m1 r1
          refine ⟨α1, Mk, σ, m1, rl.ext e1, ?_⟩
          rw [hv]
          intro α2 H2 y e2 m2 r2
          have ih := w_pairs r α2 Mv M1 dr H2 (by simpa [evenEs] using hev) m2 ((rl.ext e1).ext e2) hr
          refine tPairs_mono _ _ _ _ (trs_mono r) (fun ps H3 ⟨α3, e3, m3, r3⟩ => ?_) ih
          exact ⟨α3, (e1.trans e2).trans e3, m3, .cons ((r1.ext e2).ext e3) (r2.ext e3) r3⟩
theorem pairs_go : ∀ {ds : List D} {ps : List (V × V)} {acc kvs : List (D × D)} {us : List (Key × V)}, RepP T α H ds ps → RepK T α H acc us → pairsGo ds acc = some kvs →
    ∃ ws : List (Key × V), ps = ws.map (fun kv => (kV kv.1, kv.2)) ∧ RepK T α H kvs (mergeK us ws)
  | _, _, acc, kvs, us, .nil, ra, h => by
    rw [pairsGo] at h
    cases h
    exact ⟨[], rfl, ra⟩
  | _, _, acc, kvs, us, .cons (k := k) (v := v) (x := x) (y := y) h1 h2 r, ra, h => by
    rw [pairsGo] at h
    split at h
    · rename_i hk
      obtain ⟨kk, rfl⟩ := isKey_of hk
      obtain rfl := rep_key h1
      obtain ⟨ws, rfl, rk⟩ := pairs_go r (ra.put kk h2) h
      exact ⟨(kk, y) :: ws, rfl, rk⟩
    · cases h
theorem RepP.len {ds : List D} {ps : List (V × V)} (r : RepP T α H ds ps) : ds.length = 2 * ps.length := by
  induction r with
  | nil => rfl
  | cons _ _ _ ih => simp [ih]; omega
theorem e_dsp {mm : Bool} {es : Es} {keys : List (Option Expr)} {values : List Expr} {pos : Pos} (h : PPs X pos keys values (trsOf T G es)) (hall : keys.all (·.isSome) = true) (hl : keys.length = values.length) (h0 : keys ≠ []) (h15 : keys.length ≤ 15) (hev : evenEs es = true) (hel : esLen es ≤ 30) :
    PE X (.Dict keys values pos) (tE T G (.dct mm es)) := by
  refine (pe_disp h hall hl h0 h15).imp fun τ H Q ⟨α, M, σ, m, rl, q⟩ p hp => ?_
  rw [evE] at q
  cases he : evEs G es σ M with
  | exc c M => rw [he] at q; exact q.elim
  | bad => rw [he] at q; exact q.elim
  | ok ds M1 =>
    rw [he, R.bind_ok] at q
    have hdl := evEs_len es σ M ds M1 he
    cases hp2 : pairsOf ds with
    | none => rw [hp2] at q; exact q.elim
    | some kvs =>
      rw [hp2] at q
      dsimp only at q
      have ndp := m.fresh hp
      refine tPairs_mono _ _ _ _ (trs_mono es) (fun ps H2 ⟨α2, e2, m2, r2⟩ => ?_) (w_pairs es (α.hide p) M M1 ds _ hev (m.hide hp) ((Lat.hide hp).rl rl) he)
      have hz2 : α2.z = p :: α.z := e2.zz
      have at2 : H2 p = some (.dK []) := by rw [e2.hid p (List.mem_cons_self ..) ndp.1 (by rw [upd_same]; simp), upd_same]
      have z2 : p ∈ α2.z := by rw [hz2]; exact List.mem_cons_self ..
      refine ⟨at2, ?_⟩
      obtain ⟨ws, rfl, rk⟩ := pairs_go r2 (acc := []) (us := []) .nil hp2
      refine ⟨ws, rfl, ?_, ?_⟩
      · have := r2.len
        rw [List.length_map] at this
        omega
      · -- what stands then
        have rk2 : RepK T α2 (upd H2 p (.dK (mergeK [] ws))) kvs (mergeK [] ws) := ⟨rk.1, rk.2.1, fun i a b h1 h2 => (rk.2.2 i a b h1 h2).over z2⟩
        have m3 := m2.over (o := .dK (mergeK [] ws)) z2
        have hpa : p ∉ α2.a := (m2.zs p z2).2
        have Le : Ext α (α2.unz α.z) H (upd H2 p (.dK (mergeK [] ws))) := by
          have e3 := Ext.unz (z := α.z) (fun x hx => (show x ∈ p :: α.z from List.mem_cons_of_mem _ hx)) e2
          have e3 : Ext α (α2.unz α.z) (upd H p (.dK [])) H2 := e3
          exact ((Ext.laid hp).trans e3).hide_upd hp hpa
        have hu : α2 = (α2.unz α.z).hide p := by
          obtain ⟨a2, z3⟩ := α2
          have : z3 = p :: α.z := hz2
          subst this; rfl
        generalize hβ : α2.unz α.z = β at hu Le
        rw [hu] at m3 rk2
        have na : p ∉ β.a := by rw [← hβ]; exact hpa
        have nz : p ∉ β.z := by rw [← hβ]; exact ndp.2
        unfold Mi.allocD at q
        cases mm with
        | false =>
          simp only [Bool.false_eq_true, if_false] at q
          exact q β _ _ Le m3.show (.dict (.inl upd_same) ⟨na, nz⟩ rk2.1 rk2.2.1 fun i a b h1 h2 => (rk2.2.2 i a b h1 h2).show)
        | true =>
          simp only [if_true] at q
          have ro : RObj T (β.add p) (upd H2 p (.dK (mergeK [] ws))) p (.dict kvs) := ⟨_, upd_same, rk2.1, rk2.2.1, fun i a b h1 h2 => (rk2.2.2 i a b h1 h2).adopt⟩
          have Le2 : Ext α (β.add p) H (upd H2 p (.dK (mergeK [] ws))) := by
            obtain ⟨γ, hγ⟩ := Le.pre
            refine ⟨⟨γ ++ [p], by show β.a ++ [p] = _; rw [hγ, List.append_assoc]⟩, Le.zz, Le.keep, Le.same, fun a h n => ?_, Le.hid, Le.fr⟩
            have h : a ∈ β.a ++ [p] := h
            rcases List.mem_append.mp h with h | h
            · exact Le.new a h n
            · rw [List.mem_singleton.mp h]; exact hp
          refine q (β.add p) _ _ Le2 (m3.adopt nz ro) (.ref ?_)
          have hl : β.a.length = M1.length := m3.len
          rw [← hl]; simp [Al.add]
end
end Mi
end
section
set_option Elab.async false
set_option linter.all false
set_option maxRecDepth 100000
/-! MiL3: sorted(set(xs)). -/
namespace Mi
open PySem PySem.Spec L2
section
variable {T : Tb} {α α' α2 : Al} {H H' H2 : Hp} {M M' : Hh} {X : Cx} {G : Sg} {σ : Lo} {τ : St}
def KOk (k : Key) : Prop := ∀ x, k = .inr x → StrOk x
theorem keys_inv : ∀ {ks : List Key} {vs : List V}, Reps T α H (ks.map keyD) vs → vs = ks.map kV ∧ ∀ k ∈ ks, KOk k
  | [], vs, r => by rw [r.inv_nil]; exact ⟨rfl, fun k h => by simp at h⟩
  | k :: ks, vs, r => by
    obtain ⟨v, us, rfl, h1, h2⟩ := r.inv_cons
    obtain ⟨rfl, h3⟩ := keys_inv h2
    have h4 := rep_key h1
    subst h4
    refine ⟨rfl, fun j hj => ?_⟩
    rcases List.mem_cons.mp hj with rfl | hj
    · intro x e; subst e; exact h1.str_eq.2
    · exact h3 j hj
theorem keys_reps : ∀ {ks : List Key}, (∀ k ∈ ks, KOk k) → Reps T α H (ks.map keyD) (ks.map kV)
  | [], _ => .nil
  | k :: ks, h => by
    refine .cons ?_ (keys_reps fun j hj => h j (List.mem_cons_of_mem _ hj))
    cases k with
    | inl i => exact .int i
    | inr x => exact .str x (h _ List.mem_cons_self x rfl)
theorem ded_small {ks : List Key} (h : (dedupS (ks.map keyD) []).length ≤ 4000) : (ded [] ks).length ≤ 4000 := by
  obtain ⟨dk, h1, h2, h3⟩ := dedupS_keys ks [] List.nodup_nil
  have h1' : dedupS (ks.map keyD) [] = dk.map keyD := h1
  rw [h1', List.length_map] at h
  have nd : ∀ (ks acc : List Key), acc.Nodup → (ded acc ks).Nodup := by
    intro ks
    induction ks with
    | nil => intro acc h; exact h
    | cons k ks ih =>
      intro acc h
      rw [ded]
      refine ih _ ?_
      split
      · exact h
      · rename_i hk
        rw [List.nodup_append]
        exact ⟨h, by simp, fun a ha b hb => by simp at hb; subst hb; exact fun e => hk (e ▸ ha)⟩
  have := nodup_len (ded [] ks) dk (nd ks [] List.nodup_nil) fun k hk => (h3 k).mpr (by
    have := (ded_mem ks [] k).1 hk
    simpa using this)
  omega
theorem e_sortset (hK : T.K = X.K) (hc : X.calm = true) (hu : X.A.units + 20 < cLine) {mm : Bool} {a : E} {x : Expr} {p p2 pos q : Pos} (hg : glB X.env.scope "sorted" = true) (hm : X.mg "sorted" = none) (hg2 : glB X.env.scope "set" = true) (hm2 : X.mg "set" = none) (ha : PE X x (tE T G a)) (hs : notStar x = true) :
    PE X (.Call (.Name "sorted" p) [.Call (.Name "set" p2) [x] [] q] [] pos) (tE T G (.b1 mm .sortset a)) := by
  refine (pe_sortSet hc hu (glB_ok hg) hm (glB_ok hg2) hm2 ha (star_cons hs)).imp fun τ H Q ⟨α, M, σ, m, rl, q⟩ => ?_
  rw [evE] at q
  obtain ⟨α', M', σ', m', rl', q⟩ := one m rl q
  refine ⟨α', M', σ', m', rl', q.mono fun v H1 ⟨α1, M1, d, e, m1, rl1, r, q1⟩ => ?_⟩
  unfold b1D at q1
  cases ed : der M1 d with
  | lst ds =>
    rw [ed] at q1
    have q1 : PostE T α1 H1 Q (if (strsB ds = true ∨ intsOf ds = true) ∧ (dedupS ds []).length ≤ 4000 then alloc mm (sortD (dedupS ds [])) M1 else .bad) := q1
    split at q1
    · rename_i hcond
      obtain ⟨hk0, hl⟩ := hcond
      obtain ⟨ks, rfl, hk⟩ := oneKind_of hk0
      obtain ⟨b, vs, rfl, t, rr⟩ := der_lst m1 r ed
      obtain ⟨rfl, hok⟩ := keys_inv rr
      refine ⟨b, ks, rfl, SqL.of t, ded_small hl, hk, fun bs p nd mem hp => ?_⟩
      rw [← sortset_eq hk nd mem] at q1
      refine PostE.alloc m1 (keys_reps fun k hk => hok k ?_) q1 p hp
      exact (mem k).1 ((List.mergeSort_perm bs _).mem_iff.1 hk)
    · exact q1.elim
  | _ => rw [ed] at q1; exact q1.elim
end
end Mi
end
section
set_option Elab.async false
set_option linter.all false
set_option maxRecDepth 100000
/-! MiEx: exceptions: classes, isinstance, calls that may raise, raise, try. -/
namespace Mi
open PySem PySem.Spec L2
section
variable {P : Pg} {T : Tb} {α α' α2 : Al} {H H' H2 : Hp} {M M' : Hh} {X : Cx} {G : Sg} {σ : Lo} {τ : St} {k : Nat}
variable {a b c : E} {x y z : Expr} {pos p apos : Pos} {i : Nat}
/-! ### isinstance of an exception that was caught -/
theorem exA_get {pins : List (Addr × Obj)} {s : Shared} {a D : Addr} (I : Inv X pins τ H s) (h : H a = some (ExA (.ref D) a)) : ∃ oe, PySem.W.InstAt s.heap a oe D none := by
  obtain ⟨⟨oe, vs, he, h1, h2, h3⟩, _⟩ := I.hok a _ h
  obtain ⟨oc, od, oda, osl⟩ := oe
  dsimp only at h1 h2 h3
  subst h1 h2 h3
  exact ⟨_, he, rfl, rfl, trivial⟩
def rIsx (K : PySem.W.Frag) : List V → Hp → VK → Prop := fun xs H Q => ∃ (a D : Addr) (cv : V) (u : Value) (b : Bool), xs = [.ref a, cv] ∧ H a = some (ExA (.ref D) a) ∧ ExcC K D ∧ ClsV cv u ∧ PySem.W.kitOne K (.ref D) u = some b ∧ Q (.bl b) H
def rIsxT (K : PySem.W.Frag) : List V → Hp → VK → Prop := fun xs H Q => ∃ (a D tp : Addr) (cs : List V) (us : List Value) (b : Bool), xs = [.ref a, .ref tp] ∧ H a = some (ExA (.ref D) a) ∧ ExcC K D ∧ H tp = some (.tup cs) ∧ Paired ClsV cs us ∧ PySem.W.kitAny K (.ref D) us = some b ∧ Q (.bl b) H
theorem call_isx : CallR X (.builtin "isinstance") (rIsx X.K) := by
  intro pins s σ H xs us Q I r h
  obtain ⟨a, D, cv, u, b, rfl, ha, C, k, e, q⟩ := h
  obtain ⟨u1, u2, rfl, r1, r2⟩ := vals2 r
  have e2 := k.eq r2
  subst e2
  cases (show u1 = Value.ref a from r1)
  obtain ⟨oe, J⟩ := exA_get I ha
  exact PySem.W.kia_one (PySem.W.handS_kitx_exc C.hg C.hk C.hs C.hd C.ha C.hn C.ht C.hm) I.kIn J e (fun z => nomatch z) fun tk => ⟨.bl b, H, I.tok tk, rfl, q⟩
theorem call_isxT : CallR X (.builtin "isinstance") (rIsxT X.K) := by
  intro pins s σ H xs us Q I r h
  obtain ⟨a, D, tp, cs, ws, b, rfl, ha, C, hT, k, e, q⟩ := h
  obtain ⟨u1, u2, rfl, r1, r2⟩ := vals2 r
  cases (show u1 = Value.ref a from r1)
  cases (show u2 = Value.ref tp from r2)
  obtain ⟨oe, J⟩ := exA_get I ha
  obtain ⟨_, its, rv, o, h1, h2, n, h3⟩ := (show ObjOk X.prog X.w H s.heap tp (.tup cs) from I.hok tp _ hT)
  have e3 := ClsV.all k rv
  subst e3
  obtain ⟨oc, od, dt, sl⟩ := o
  simp only at h2 h3
  subst h2 h3
  exact PySem.W.kia_tup (PySem.W.handS_kitx_exc C.hg C.hk C.hs C.hd C.ha C.hn C.ht C.hm) I.kIn J h1 e (fun z => nomatch z) fun tk => ⟨.bl b, H, I.tok tk, rfl, q⟩
/-- what the classes of exceptions say -/
structure XkAt (P : Pg) (T : Tb) (K : PySem.W.Frag) (xc : List (Str × Nat)) : Prop where
  ec : ∀ c, (P.xs c).contains c = true → ExcC K (T.ca c)
  ve : ∀ c, (P.xs c).contains c = true → PySem.W.kitOne K (.ref (T.ca c)) (.type "ValueError") = some true
  kit : ∀ c x d, (P.xs c).contains c = true → xc.lookup x = some d → PySem.W.kitOne K (.ref (T.ca c)) (.ref (T.ca d)) = some ((P.xs c).contains d)
  exm : ∀ c x d, (P.xs c).contains c = true → xc.lookup x = some d → PySem.W.exmOne K (.ref (T.ca c)) (.ref (T.ca d)) = some ((P.xs c).contains d)
/-- a class of exceptions by its name -/
structure XcAt (T : Tb) (K : PySem.W.Frag) (mg : Str → Option Value) (x : Str) (c : Nat) : Prop where
  mg : mg x = some (.ref (T.ca c))
  kp : PySem.W.keepIn K (.ref (T.ca c)) = true
  ex : PySem.W.excIn K (T.ca c) [.type "ValueError", .type "Exception", .type "BaseException", .type "object"] "ValueError.__new__" = true
  r1 : PySem.W.subIn K (.ref (T.ca c)) (.type "BaseException") = some true
  r2 : PySem.W.typeIn K (.ref (T.ca c)) = some (.type "type")
def xIs (P : Pg) (c : Nat) : Option Nat → Bool
  | none => true
  | some k => (P.xs c).contains k
def xV (T : Tb) : Option Nat → V
  | none => .ty "ValueError"
  | some k => .ref (T.ca k)
def xU (T : Tb) : Option Nat → Value
  | none => .type "ValueError"
  | some k => .ref (T.ca k)
theorem xV_cls (o : Option Nat) : ClsV (xV T o) (xU T o) := by cases o <;> constructor
/-- the name of a class in an isinstance -/
def XnOk (T : Tb) (X : Cx) (xc : List (Str × Nat)) (o : Option Nat) (m : Str) : Prop := glB X.env.scope m = true ∧ okName m = true ∧ match o with
  | none => m = "ValueError" ∧ X.mg m = none
  | some c => X.mg m = some (.ref (T.ca c)) ∧ xc.lookup m = some c
theorem pe_x {xc : List (Str × Nat)} {o : Option Nat} {m : Str} (h : XnOk T X xc o m) : PE X (.Name m pos) (L2.tC (xV T o)) := by
  obtain ⟨hg, hn, h⟩ := h
  cases o with
  | none =>
    obtain ⟨rfl, hm⟩ := h
    exact pe_bltn (glB_ok hg) hm (by kernel_rfl) rfl (okName_d hn).2.2 (okName_d hn).1
  | some c => exact pe_glob (v := .ref (T.ca c)) (glB_ok hg) h.1 rfl (okName_d hn).1
theorem x_kit {xc : List (Str × Nat)} (K : XkAt P T X.K xc) {c : Nat} (hc : (P.xs c).contains c = true) {o : Option Nat} {m : Str} (h : XnOk T X xc o m) : PySem.W.kitOne X.K (.ref (T.ca c)) (xU T o) = some (xIs P c o) := by
  obtain ⟨_, _, h⟩ := h
  cases o with
  | none => exact K.ve c hc
  | some d => exact K.kit c m d hc h.2
theorem isx_w {cs : List (Option Nat)} {d : D} {v : V} {Q : VK} (hX : G.xs = P.xs) (m : RM T α M H) (q : PostE T α H Q (match d with | .fn c => if (G.xs c).contains c then .ok (.bl (cs.any fun o => match o with | none => true | some k => (G.xs c).contains k)) M else .bad | _ => .bad)) (r : Rep T α H d v) :
    ∃ c ad, (P.xs c).contains c = true ∧ v = .ref ad ∧ H ad = some (ExA (.ref (T.ca c)) ad) ∧ Q (.bl (cs.any (xIs P c))) H := by
  cases d with
  | fn c =>
    cases r with
    | fn h n =>
      dsimp only at q
      rw [hX] at q
      split at q
      · rename_i hc
        refine ⟨c, _, hc, rfl, h, ?_⟩
        have e : (cs.any fun o => match o with | none => true | some k => (P.xs c).contains k) = cs.any (xIs P c) := by
          first | rfl | (congr 1; funext o; cases o <;> rfl)
        rw [e] at q
        exact PostE.pure m (.bl _) q
      · exact q.elim
  | _ => exact q.elim
theorem e_isx1 (hX : G.xs = P.xs) {xc : List (Str × Nat)} (K : XkAt P T X.K xc) {o : Option Nat} {n : Str} (hg : glB X.env.scope "isinstance" = true) (hm : X.mg "isinstance" = none) (hn : XnOk T X xc o n) (ha : PE X x (tE T G a)) (hs : notStar x = true) :
    PE X (.Call (.Name "isinstance" p) [x, .Name n apos] [] pos) (tE T G (.isx a [o])) := by
  refine (pe_callB call_isx (glB_ok hg) hm (by kernel_rfl) (pa_cons ha (pa_cons (pe_x hn) pa_nil (star_cons rfl)) (star_cons hs)) (by decide) (by decide) (star_cons hs) rfl).imp fun τ H Q ⟨α, M, σ, m, rl, q⟩ => ?_
  rw [evE] at q
  obtain ⟨α', M', σ', m', rl', q⟩ := one m rl q
  refine ⟨α', M', σ', m', rl', q.mono fun v H1 ⟨α1, M1, d, e, m1, rl1, r, q1⟩ => ?_⟩
  obtain ⟨c, ad, hc, rfl, h1, q2⟩ := isx_w hX m1 q1 r
  refine ⟨ad, T.ca c, _, _, _, rfl, h1, K.ec c hc, xV_cls o, x_kit K hc hn, ?_⟩
  simpa using q2
def tXs (T : Tb) (cs : List (Option Nat)) : TA := fun _ H Q => Q (cs.map (xV T)) H
inductive XnAll (T : Tb) (X : Cx) (xc : List (Str × Nat)) : List (Option Nat) → List Expr → Prop
  | nil : XnAll T X xc [] []
  | cons {o : Option Nat} {m : Str} {q : Pos} {os : List (Option Nat)} {ys : List Expr} (h : XnOk T X xc o m) (t : XnAll T X xc os ys) : XnAll T X xc (o :: os) (.Name m q :: ys)
theorem pa_xs {xc : List (Str × Nat)} {cs : List (Option Nat)} {ys : List Expr} (h : XnAll T X xc cs ys) : PA X ys (tXs T cs) := by
  induction h with
  | nil => exact pa_nil
  | cons h _ ih => exact pa_cons (pe_x h) ih (star_cons rfl)
theorem xs_cls : ∀ cs : List (Option Nat), Paired ClsV (cs.map (xV T)) (cs.map (xU T))
  | [] => .nil
  | o :: cs => .cons (xV_cls o) (xs_cls cs)
theorem xs_kit {xc : List (Str × Nat)} (K : XkAt P T X.K xc) {c : Nat} (hc : (P.xs c).contains c = true) {cs : List (Option Nat)} {ys : List Expr} (h : XnAll T X xc cs ys) : PySem.W.kitAny X.K (.ref (T.ca c)) (cs.map (xU T)) = some (cs.any (xIs P c)) := by
  induction h with
  | nil => rfl
  | @cons o m q os ys h _ ih =>
    refine kitAny_cons (x_kit K hc h) (fun e => ?_) fun e => ?_
    · rw [ih, List.any_cons, e, Bool.false_or]
    · rw [List.any_cons, e, Bool.true_or]
theorem e_isxT (hX : G.xs = P.xs) {xc : List (Str × Nat)} (K : XkAt P T X.K xc) {cs : List (Option Nat)} {ys : List Expr} {kk : Nat} (hg : glB X.env.scope "isinstance" = true) (hm : X.mg "isinstance" = none) (hy : XnAll T X xc cs ys) (hl : cs.length ≤ 1000) (ha : PE X x (tE T G a)) (hs : notStar x = true) :
    PE X (.Call (.Name "isinstance" p) [x, .Tuple ys kk apos] [] pos) (tE T G (.isx a cs)) := by
  refine (pe_callB call_isxT (glB_ok hg) hm (by kernel_rfl) (pa_cons ha (pa_cons (L2.pe_tup (pa_xs hy)) pa_nil (star_cons rfl)) (star_cons hs)) (by decide) (by decide) (star_cons hs) rfl).imp fun τ H Q ⟨α, M, σ, m, rl, q⟩ => ?_
  rw [evE] at q
  obtain ⟨α', M', σ', m', rl', q⟩ := one m rl q
  refine ⟨α', M', σ', m', rl', q.mono fun v H1 ⟨α1, M1, d, e, m1, rl1, r, q1⟩ => ?_⟩
  refine ⟨by rw [List.length_map]; exact szl (by omega), fun p hp => ?_⟩
  have q2 := PostE.ext (Ext.laid (o := .tup (cs.map (xV T))) hp) q1
  obtain ⟨c, ad, hc, rfl, h1, q3⟩ := isx_w hX (m1.laid hp) q2 (r.ext (Ext.laid hp))
  exact ⟨ad, T.ca c, p, _, _, _, rfl, h1, K.ec c hc, upd_same, xs_cls cs, xs_kit K hc hy, q3⟩
/-! ### calls that may raise -/
def tX (T : Tb) (G : Sg) (W : WX) (a : E) : TE := fun τ H Q => ∃ α M σ, RM T α M H ∧ RL T α H σ τ ∧ PostX T α H Q (fun cls d H' => W cls d τ H') (evX G a σ M)
theorem PostX.bno {f : List D → Hh → R D} {Q : VK} {E : XK} : ∀ {r : R (List D)}, PostX T α H Q E (r.bno f) → PostEs T α H (fun v H1 => ∃ α1 M1 d, Ext α α1 H H1 ∧ RM T α1 M1 H1 ∧ Reps T α1 H1 d v ∧ PostX T α1 H1 Q E (f d M1)) r
  | .ok d M', h => fun a1 h1 v e m r => ⟨a1, M', d, e, m, r, PostX.ext e h⟩
  | .exc _ _, h => h
  | .bad, h => h
theorem PostX.bnoE {f : D → Hh → R D} {Q : VK} {E : XK} : ∀ {r : R D}, PostX T α H Q E (r.bno f) → PostE T α H (fun v H1 => ∃ α1 M1 d, Ext α α1 H H1 ∧ RM T α1 M1 H1 ∧ Rep T α1 H1 d v ∧ PostX T α1 H1 Q E (f d M1)) r
  | .ok d M', h => fun a1 h1 v e m r => ⟨a1, M', d, e, m, r, PostX.ext e h⟩
  | .exc _ _, h => h
  | .bad, h => h
theorem PostEs.monoX {Q Q' : List V → Hp → Prop} (h : ∀ v H, Q v H → Q' v H) : ∀ {r : R (List D)}, PostEs T α H Q r → PostEs T α H Q' r
  | .ok d M', q => fun a1 h1 v e m r => h _ _ (q a1 h1 v e m r)
  | .exc _ _, q => q
  | .bad, q => q
theorem e_callX {W : WX} {keep : Bool} {f : Nat} {n : Str} {es : Es} {ys : List Expr} (tk : Takes X W) (hF : FnAt P T X k f (T.fa f)) (hr : Rm k X.A) (hg : glB X.env.scope n = true) (hn : okName n = true) (hm : X.mg n = some (.ref (T.fa f))) (hk : PySem.W.keepIn X.K (.ref (T.fa f)) = true)
    (ha : PA X ys (tEs T (sig P k) es)) (hs : noStar ys = true) (hz : ys = [] → es = .nil) : PE X (.Call (.Name n p) ys [] pos) (tX T (sig P k) W (.call f keep es)) := by
  obtain ⟨fd, ps, hb, F⟩ := hF
  have h1 := (okName_d hn).1
  cases ys with
  | nil =>
    obtain rfl := hz rfl
    refine ⟨fun pins s τ H Q I ⟨α, M, σ, m, rl, q⟩ => ?_⟩
    rw [evX, evEs, R.bno_ok] at q
    exact wpAny_Call_Name_kw (ld_glob I (glB_ok hg) hm (PySem.W.callWith_K0 I.kIn hk (F.callX (vw := []) tk hr hb I .nil ⟨α, M, [], m, .nil, back_postX m q⟩)) h1)
  | cons y ys =>
    obtain ⟨s1, s2⟩ := noStar_cons hs
    refine ⟨fun pins s τ H Q I ⟨α, M, σ, m, rl, q⟩ => ?_⟩
    rw [evX] at q
    refine wpAny_Call_Name_kw (ld_glob I (glB_ok hg) hm ?_ h1)
    refine PySem.W.callWith_K (h₀ := X.base) I.ok.mod.kin hk (thn (ha.run pos pins s τ H (fun vs H1 => ∃ α1 M1 ds, RM T α1 M1 H1 ∧ Reps T α1 H1 ds vs ∧ PostX T α1 H1 Q (fun cls d H' => W cls d τ H') ((sig P k).call f ds M1)) I ⟨α, M, σ, m, rl, ?_⟩) ?_) (star_cons s1) (star_back s2)
    · exact PostEs.monoX (fun v H1 ⟨α1, M1, d, e, m1, r, q1⟩ => ⟨α1, M1, d, m1, r, back_postX m1 q1⟩) (PostX.bno q)
    · intro vw t ⟨zs, H1, I1, rv, α1, M1, d, m1, r, q1⟩
      exact ⟨I1.kIn, F.callX tk hr hb I1 rv ⟨α1, M1, d, m1, r, q1⟩⟩
theorem e_methX {W : WX} {keep : Bool} {mk : Nat} {m : Str} {o : Expr} {oe : E} {es : Es} {ys : List Expr} (tk : Takes X W) (hW : ∀ c f, P.meth c mk = some f → MeAt P T X k m c f) (hmn : ∀ j, T.an j ≠ m) (hr : Rm k X.A)
    (ho : PE X o (tE T (sig P k) oe)) (hbs : okBase o = true) (he : cEnd apos pos = true) (hl : ys.length < 30)
    (ha : PA X ys (tEs T (sig P k) es)) (hs : noStar ys = true) (hz : ys = [] → es = .nil) : PE X (.Call (.Attribute o m apos) ys [] pos) (tX T (sig P k) W (.meth mk keep oe es)) := by
  refine ⟨fun pins s τ H Q I ⟨α, M, σ, m0, rl, q⟩ => ?_⟩
  rw [evX] at q
  have q := PostX.bnoE q
  refine PySem.W.methodCall_KW (thn (ho.run pins s τ H _ I ⟨α, M, σ, m0, rl, q⟩) fun u s1 ⟨xv, H1, I1, rx, α1, M1, d, e1, m1, rd, q1⟩ => ?_) (meth_form hbs hs hl he)
  have rl1 := rl.ext e1
  cases hd : der M1 d with
  | inst c fs =>
    rw [hd] at q1
    simp only at q1
    cases hf : (sig P k).meth c mk with
    | none => rw [hf] at q1; exact q1.elim
    | some f =>
      rw [hf] at q1
      simp only at q1
      obtain ⟨cl, me, fd, ps, hb, F⟩ := hW c f hf
      obtain ⟨ad, dx, gs, rfl, ea, rF⟩ := der_inst m1 rd hd
      cases rx
      refine getmeth_ok I1 ea cl me (rF.no hmn) ?_
      cases ys with
      | nil =>
        obtain rfl := hz rfl
        rw [evEs, R.bno_ok] at q1
        exact PySem.W.callWith_K0 (first := [.ref ad]) I1.kIn me.kp (F.callX (vw := [.ref ad]) (zs := [.ref ad]) tk hr hb I1 (.cons rfl .nil) ⟨α1, M1, [d], m1, .cons rd .nil, back_postX m1 q1⟩)
      | cons y ys =>
        obtain ⟨s1', s2'⟩ := noStar_cons hs
        refine PySem.W.callWith_K (first := [.ref ad]) (h₀ := X.base) I.ok.mod.kin me.kp (thn (ha.run pos pins s1 τ H1 _ I1 ⟨α1, M1, σ, m1, rl1, PostX.bno q1⟩) fun us s2 ⟨vs, H2, I2, r, α2, M2, ds, e2, m2, rs, q3⟩ => ⟨I2.kIn, ?_⟩) (star_cons s1') (star_back s2')
        have r2 : Reps T α2 H2 (d :: ds) (.ref ad :: vs) := .cons (rd.ext e2) rs
        exact F.callX (vw := .ref ad :: us) (zs := .ref ad :: vs) tk hr hb I2 (.cons rfl r) ⟨α2, M2, d :: ds, m2, r2, back_postX m2 q3⟩
  | _ => rw [hd] at q1; exact q1.elim
end
/-! ### a caught exception is held -/
section
variable {X : Cx} {pins : List (Addr × Obj)} {σ : St} {H : Hp} {s : Shared}
theorem Inv.track {a : Addr} {o : HO} (I : Inv X pins σ H s) (h0 : X.s_0.heap.get? a = none) (hn : H a = none) (nL : a ≠ X.env.locals) (nC : ∀ x c, X.env.cells.lookup x = some c → c ≠ a) (nP : ∀ p ∈ X.pn ++ pins, p.1 ≠ a)
    (new : ObjOk X.prog X.w (upd H a o) s.heap a o) : Inv X pins σ (upd H a o) s := by
  have ne0 : ∀ b o, X.s_0.heap.get? b = some o → b ≠ a := fun b o e z => by rw [z, h0] at e; cases e
  refine ⟨I.ok, I.os, I.bare, ⟨I.base.keep, I.base.slot, fun b o e n hq => ?_, I.base.there, fun b xs e => ?_, fun b u xs e => ?_, fun b ps e => ?_⟩, I.loc, I.cell, ?_, fun x c e => ?_, fun p hp => ?_, fun b u e => ?_, I.len⟩
  · rw [upd_ne (ne0 b o e)]
    exact I.base.free b o e n hq
  · have q := I.base.tups b xs e
    rw [upd_ne (ne_of_none q hn)]; exact q
  · have q := I.base.frzs b u xs e
    rw [upd_ne (ne_of_none q hn)]; exact q
  · obtain ⟨m, q⟩ := I.base.tbls b ps e
    exact ⟨m, by rw [upd_ne (ne_of_none q hn)]; exact q⟩
  · rw [upd_ne (Ne.symm nL)]; exact I.free
  · rw [upd_ne (nC x c e)]; exact I.freeC x c e
  · obtain ⟨e, n, ne, nf, d⟩ := I.pin p hp
    exact ⟨e, by rw [upd_ne (nP p hp)]; exact n, ne, nf, d⟩
  · by_cases hb : b = a
    · subst hb
      rw [upd_same] at e
      cases e
      exact new
    · rw [upd_ne hb] at e
      exact (I.hok b u e).stay (fun c v _ q => q) (fun c q => by rw [upd_ne (ne_of_none q hn)]; exact q) fun c xs q => by rw [upd_ne (ne_of_none q hn)]; exact q
end
/-- what the clause 'except x as n: y = n' wishes of an exception of the body -/
def wKept (K : PySem.W.Frag) (c : Value) (i j : Nat) (Wout : WX) (D : Ends) : WX := fun cls d σ H =>
  ∃ b, PySem.W.exmOne K cls c = some b ∧ (b = true → d = none ∧ ∀ a, H a = none → D.nx (((σ.set i (some (.ref a))).set j (some (.ref a))).set i none) (upd H a (ExA cls a))) ∧ (b = false → Wout cls d σ H)
section
variable {X : Cx} {x n m : Str} {c : Value} {i j : Nat} {body : List Stmt} {np pos pos' p1 p2 p3 : Pos} {tb : WX → TS} {Wout : WX}
theorem ps_try_kept (hs : X.stack = X.env :: X.outer) (hex : X.ex = []) (hf : X.env.frame = some X.env.locals) (hN : X.N.Nodup) (hi : X.N[i]? = some n) (hln : X.env.kindOf n = some .local) (hj : X.N[j]? = some m) (hlm : X.env.kindOf m = some .local) (hij : i ≠ j) (hc : Names X x c) (tk : Takes X Wout)
    (hb : ∀ (W : WX) (pn : List (Addr × Obj)) (xe : Value → Shared → Prop), Takes (X.tr pn xe) W → PassesOwn (model X.prog X.w) X.A X.env xe → PSs (X.tr pn xe) body (tb W))
    (hsu : ∀ (a : Addr) (pn : List (Addr × Obj)), PS (X.suite a pn) (.Assign [.Name m p1] (.Name n p2) p3) (fun D σ H => σ[i]? = some (some (.ref a)) ∧ D.nx (σ.set j (some (.ref a))) H)) :
    PS X (.Try body [.ExceptHandler (some (.Name x np)) (some n) [.Assign [.Name m p1] (.Name n p2) p3] pos'] [] [] pos) (fun D σ H => tb (wKept X.K c i j Wout D) D σ H) := by
  refine ⟨fun pins s σ H D I h => ?_⟩
  have ok := I.ok
  have hfr : X.A.frames = some (X.env :: X.outer) := by rw [ok.frames, hs]
  have hloc : Loc X.env.scope n := .inl hln
  refine wpAny_Try_except ?_
  refine wpAny_mono ((hb (wKept X.K c i j Wout D) (X.pn ++ pins) (fun e s₁ => wpAny (model X.prog X.w) X.A (noteFrame e X.env) (fun _ s₂ => wpAny (model X.prog X.w) X.A (setFlight e none) (fun _ s₃ =>
    wpAny (model X.prog X.w) X.A (handleBy e X.env [.ExceptHandler (some (.Name x np)) (some n) [.Assign [.Name m p1] (.Name n p2) p3] pos']) (SP X pins D) X.xe s₃) X.xe s₂) X.xe s₁) (fun u s' xx => ?_) PassesOwn.looking).run [] s σ H D (I.toTry _) h) (fun f s1 hsp => ?_) (fun e s1 he => he)
  · -- the catch
    obtain ⟨a, B, sI, pins', σ', H', cls, d, rfl, J', nb, up, sky, na, os, ag, b, hb1, hyes, hno⟩ := xx
    have J : Inv X pins σ' H' sI := J'.ofTry ok
    have sky' : Sky B (X.env :: X.outer) a (Zc cls d) X.env.locals s'.heap := by rw [← hs]; exact sky
    show wpAny (model X.prog X.w) X.A (noteFrame (.ref a) X.env) _ _ _
    refine Sky.land Zc.steady hfr hf sky' fun h3 fl3 up3 => ?_
    have J3 : Inv X pins σ' H' { s' with heap := h3 } := J.landed nb fl3.1 (up.trans up3) os ag
    obtain ⟨oe3, vs3, he3, hz3, hd3⟩ := fl3.there
    have notFr : ∀ {h : Heap} {o : Obj} {vs : Array Value}, h.FunFrames B (X.env :: X.outer) → h.get? a = some o → o.data = .fields vs → a ∉ frs (X.env :: X.outer) := fun {h o vs} ff e dd hm => by
      obtain ⟨_, o', e', hnf⟩ := ff.mem hm
      rw [e] at e'; cases e'
      exact hnf _ dd
    have nfr := notFr fl3.2.2.1 he3 hd3
    have nL : a ≠ X.env.locals := fun z => nfr (List.mem_filterMap.mpr ⟨X.env, List.mem_cons_self, by rw [hf, z]⟩)
    have nF : a ∉ X.fs := fun hm => by
      obtain ⟨e, he, q⟩ := List.mem_filterMap.mp hm
      exact nfr (List.mem_filterMap.mpr ⟨e, List.mem_cons_of_mem _ he, q⟩)
    -- nothing of ours stands where it stands
    have nI : sI.heap.get? a = none := by
      cases e : sI.heap.get? a with
      | none => rfl
      | some o =>
        have z := nb a o e (by rw [hs]; exact nfr)
        rw [fl3.2.1] at z; cases z
    have n0 : X.s_0.heap.get? a = none := by
      cases e : X.s_0.heap.get? a with
      | none => rfl
      | some o =>
        obtain ⟨o', z⟩ := J.base.there a o e (by rw [hex]; exact fun z => nomatch z)
        rw [nI] at z; cases z
    have nC : ∀ y cc, X.env.cells.lookup y = some cc → cc ≠ a := fun y cc e z => by
      obtain ⟨v, o, ho, _⟩ := J.cell y cc e
      rw [z, nI] at ho; cases ho
    have nP : ∀ p ∈ X.pn ++ pins, p.1 ≠ a := fun p hp z => by
      obtain ⟨e, _⟩ := J.pin p hp
      rw [z, nI] at e; cases e
    have S3 := J3.suite he3 hd3 na nL nF
    refine wpAny_handleBy_cons (codeAny_handlers_test ?_) (by intro q; cases q)
    have LT : PySem.W.Looks (model X.prog X.w) h3 (typeOf (.ref a)) cls := fun A Q E s k q => wpAny_typeOf_ref (k _ _ he3) (by rw [hz3.1]; exact q)
    have LM := PySem.W.exm_one (M := model X.prog X.w) (J3.kIn) LT hb1
    have test : ∀ {Q : Value → Shared → Prop} {E : Value → Shared → Prop}, Q c { s' with heap := h3 } → wpAny (model X.prog X.w) (X.A.mark (some (.ref a))) (eval (.Name x np) X.env) Q E { s' with heap := h3 } := fun {Q E} q => by
      obtain ⟨hg, hdbg, hm | ⟨hm, hv, hnn⟩⟩ := hc
      · exact ld_glob (X := X.suite a ((a, oe3) :: (X.pn ++ pins))) S3 hg hm q hdbg
      · exact ld_blt (X := X.suite a ((a, oe3) :: (X.pn ++ pins))) S3 hg hm hv q hnn hdbg
    refine test (LM.here ?_)
    cases b with
    | true =>
      obtain ⟨dn, hyes⟩ := hyes rfl
      refine codeAny_handlers_suite_as ?_
      refine HandSPX.lands_againZ fl3 fun h4 fl4 up4 => ?_
      have J4 : Inv X pins σ' H' { s' with heap := h4 } := J.landed nb fl4.1 ((up.trans up3).trans up4) os ag
      obtain ⟨oe4, vs4, he4, hz4, hd4⟩ := fl4.there
      have S4 := J4.suite he4 hd4 na nL nF
      refine store_ok (X := X.suite a ((a, oe4) :: (X.pn ++ pins))) (v := .ref a) S4 hN hi hloc rfl (fun s5 S5 => ?_) (.inr hln)
      have hl5 : i < σ'.length := by
        have := J.len
        have hiN : i < X.N.length := (List.getElem?_eq_some_iff.mp hi).1
        omega
      refine wpAny_mono (((pss_one (hsu a ((a, oe4) :: (X.pn ++ pins)))).run [] s5 _ H' { nx := fun σ6 H6 => H6 = H' ∧ σ6 = (σ'.set i (some (.ref a))).set j (some (.ref a)), rt := fun _ _ => False } S5 ⟨by rw [List.getElem?_set_self hl5], rfl, rfl⟩)) (fun f s6 hsp => ?_) (fun _ _ z => False.elim z)
      cases f with
      | next =>
        obtain ⟨σ6, H6, S6, eH, eσ⟩ := hsp
        rw [eH, eσ] at S6
        obtain ⟨e6, _⟩ := S6.pin (a, oe4) (List.mem_append_left _ List.mem_cons_self)
        have new : ObjOk X.prog X.w (upd H' a (ExA cls a)) s6.heap a (ExA cls a) := ⟨⟨oe4, vs4, e6, hz4.1, hz4.2.trans dn, hd4⟩, ⟨oe4, e6⟩, fun _ _ ⟨o, v, q, r⟩ k => ⟨o, v, k o q, r⟩⟩
        exact gone_ok (Inv.track (S6.unsuite ok) n0 na nL nC nP new) hN hi hln fun s7 J7 => ⟨_, _, J7, hyes a na⟩
      | brk =>
        obtain ⟨_, _, _, q6⟩ := hsp
        exact q6.elim
      | cont =>
        obtain ⟨_, _, _, q6⟩ := hsp
        exact q6.elim
      | ret u =>
        obtain ⟨_, _, _, _, _, q6⟩ := hsp
        exact q6.elim
    | false =>
      show wpAny _ X.A (handleBy (.ref a) X.env []) _ _ _
      refine wpAny_handleBy_nil ?_
      obtain ⟨k1, k2, k3, oe, vs, T, oT, ts', he, hz, hd, h1, hr⟩ := id fl3
      unfold PySem.passOn
      refine wpAny_bind (wpAny_field he hd h1 ?_)
      rw [if_neg (show ¬ ((Value.ref T == Value.none) = true) from by simp)]
      have fin : wpAny (model X.prog X.w) X.A (setFlight (.ref a) X.env.frame) (fun _ s4 => wpAny (model X.prog X.w) X.A (throw (.ref a) : Sem Flow) (SP X pins D) X.xe s4) X.xe { s' with heap := h3 } := by
        rw [hf]
        refine HandSPX.setFlight_upZ fl3 fun h4 hh4 up4 => wpAny_throw (tk _ _ ?_)
        exact ⟨a, B, sI, pins, σ', H', cls, d, rfl, J, nb, (up.trans up3).trans up4, .inr (.inr (by rw [hs]; exact hh4)), na, os, ag, hno rfl⟩
      first
        | exact wpAny_bind (wpAny_pure (wpAny_bind fin))
        | exact wpAny_bind fin
  · cases f with
    | next =>
      obtain ⟨σ', H', J', q⟩ := hsp
      exact wpAny_execs_nil ⟨σ', H', J'.ofTry ok, q⟩
    | brk =>
      obtain ⟨σ', H', J', q⟩ := hsp
      exact ⟨σ', H', J'.ofTry ok, q⟩
    | cont =>
      obtain ⟨σ', H', J', q⟩ := hsp
      exact ⟨σ', H', J'.ofTry ok, q⟩
    | ret u =>
      obtain ⟨v, σ', H', J', r, q⟩ := hsp
      exact ⟨v, σ', H', J'.ofTry ok, r, q⟩
end
end Mi
end
section
set_option Elab.async false
set_option linter.all false
set_option maxRecDepth 100000
/-! MiM: the text against the IR; expressions. -/
namespace Mi
open PySem PySem.Spec L2
/-- what the names of a text mean -/
structure Cs where
  fn : List (Str × Nat)
  cl : List (Str × Nat)
  con : List (Str × Nat)
  kd : List (Str × Nat)
  ats : List (Str × Nat)
  me : List (Str × Nat)
  xc : List (Str × Nat)
/-- the built-in names that the rules use -/
def btNames : List Str := ["len", "tuple", "list", "sorted", "any", "all", "int", "str", "abs", "min", "max", "isinstance", "range", "enumerate", "zip", "bool", "dict", "set", "repr", "ValueError"]
/-- what stands behind the names, where a def (a block) runs -/
structure Wld (P : Pg) (T : Tb) (cs : Cs) (k : Nat) (X : Cx) : Prop where
  hK : T.K = X.K
  room : Rm k X.A
  calm : X.calm = true
  nd : X.N.Nodup
  bt : ∀ x ∈ btNames, X.mg x = none
  con : ∀ x g, cs.con.lookup x = some g → ∃ v u, X.mg x = some u ∧ RelV v u ∧ ∀ α H, Rep T α H (P.con g) v
  kd : ∀ x g, cs.kd.lookup x = some g → ∃ ad, X.mg x = some (.ref ad) ∧ ∀ z d, (P.kd g).lookup z = some d → ∃ v, KDct X.K X.w ad z v ∧ ∀ α H, Rep T α H d v
  fn : ∀ x f, cs.fn.lookup x = some f → X.mg x = some (.ref (T.fa f)) ∧ PySem.W.keepIn X.K (.ref (T.fa f)) = true ∧ FnAt P T X k f (T.fa f)
  cl : ∀ x c, cs.cl.lookup x = some c → X.mg x = some (.ref (T.ca c)) ∧ (k ≠ 0 → ClAt P T X k c)
  at_ : ∀ f j, cs.ats.lookup f = some j → T.an j = f ∧ ∀ c, P.hc c = true → Cls X.K (T.ca c) ∧ NoAttr X.K (T.ca c) f
  me : ∀ m j, cs.me.lookup m = some j → (∀ i, T.an i ≠ m) ∧ ∀ c f, P.meth c j = some f → MeAt P T X k m c f
  xc : ∀ x c, cs.xc.lookup x = some c → XcAt T X.K X.mg x c
  xk : XkAt P T X.K cs.xc
theorem Wld.blk {P : Pg} {T : Tb} {cs : Cs} {k : Nat} {X : Cx} (w : Wld P T cs k X) (s : Shared) (H : Hp) (scope : Scope) (cenv : Env) (fp : List Addr) : Wld P T cs k (X.blk s H scope cenv fp) :=
  ⟨w.hK, w.room, w.calm, w.nd, w.bt, w.con, w.kd, w.fn, w.cl, w.at_, w.me, w.xc, w.xk⟩
theorem Wld.tr {P : Pg} {T : Tb} {cs : Cs} {k : Nat} {X : Cx} (w : Wld P T cs k X) (pn : List (Addr × Obj)) (xe : Value → Shared → Prop) : Wld P T cs k (X.tr pn xe) :=
  ⟨w.hK, w.room, w.calm, w.nd, w.bt, w.con, w.kd, w.fn, w.cl, w.at_, w.me, w.xc, w.xk⟩
theorem Wld.u67 {P : Pg} {T : Tb} {cs : Cs} {k : Nat} {X : Cx} (w : Wld P T cs k X) : X.A.units + 67 < cLine := by have := w.room.ro.un; omega

/-! ### the check -/
def opIs : Op → Operator → Bool
  | .add, .Add => true | .sub, .Sub => true | .mul, .Mult => true | .fdiv, .FloorDiv => true | .mod, .Mod => true | .pow, .Pow => true
  | _, _ => false
theorem opIs_eq {o : Op} {p : Operator} (h : opIs o p = true) : p = opA o := by cases o <;> cases p <;> first | rfl | (simp [opIs] at h)
def cmIs : Cm → CmpOp → Bool
  | .eq, .Eq => true | .ne, .NotEq => true | .lt, .Lt => true | .le, .LtE => true | .gt, .Gt => true | .ge, .GtE => true | .isin, .In => true | .notin, .NotIn => true
  | _, _ => false
theorem cmIs_eq {o : Cm} {p : CmpOp} (h : cmIs o p = true) : p = cmA o := by cases o <;> cases p <;> first | rfl | (simp [cmIs] at h)
def chkTys (sc : Scope) : List Ty → List Expr → Bool
  | [], [] => true
  | t :: ts, .Name n _ :: ys => (n == tyS t) && glB sc n && chkTys sc ts ys
  | _, _ => false
/-- classes of exceptions in an isinstance -/
def chkXn (cs : Cs) (sc : Scope) (o : Option Nat) (m : Str) : Bool := glB sc m && okName m && (match o with | none => m == "ValueError" | some c => cs.xc.lookup m == some c)
def chkXs (cs : Cs) (sc : Scope) : List (Option Nat) → List Expr → Bool
  | [], ys => match ys with | [] => true | _ => false
  | o :: os, ys => match ys with | .Name m _ :: r => chkXn cs sc o m && chkXs cs sc os r | _ => false
/-- the block of a comprehension -/
def blkB (N : List Str) (sc scope : Scope) (own : List Nat) : Bool :=
  (match scope.kind with | .function => true | _ => false) &&
  scope.names.all (fun y => scope.names.lookup y.1 == some y.2) &&
  own.all (fun i => decide (i < N.length)) &&
  scope.names.all (fun y => !(y.2 == .free) || sc.names.lookup y.1 == some .cell || sc.names.lookup y.1 == some .free) &&
  scope.names.all (fun y => !(y.2 == .local || y.2 == .cell) || own.any (fun i => N[i]? == some y.1) || !(N.contains y.1))
def ownOf (N : List Str) (own : List Nat) : List (Str × Nat) := own.map fun i => (N.getD i "", i)
theorem own_snd (N : List Str) (own : List Nat) : (ownOf N own).map (·.2) = own := by
  unfold ownOf
  rw [List.map_map]
  exact List.map_id _
theorem blk_ok {N : List Str} {sc scope : Scope} {own : List Nat} (h : blkB N sc scope own = true) : BlkOk N sc scope (ownOf N own) := by
  unfold blkB at h
  simp only [Bool.and_eq_true, List.all_eq_true] at h
  obtain ⟨⟨⟨⟨h1, h2⟩, h3⟩, h4⟩, h5⟩ := h
  refine ⟨?_, fun y hy => by simpa using h2 y hy, fun p hp => ?_, fun y hy e => ?_, fun y hy e => ?_⟩
  · cases q : scope.kind <;> rw [q] at h1 <;> first | rfl | cases h1
  · obtain ⟨i, hi, rfl⟩ := List.mem_map.mp hp
    have := h3 i hi
    rw [decide_eq_true_eq] at this
    simp [List.getElem?_eq_getElem this]
  · have := h4 y hy
    rw [e] at this
    simpa using this
  · have := h5 y hy
    have e' : (y.2 == .local || y.2 == .cell) = true := by rcases e with e | e <;> rw [e] <;> rfl
    rw [e'] at this
    simp only [Bool.not_true, Bool.false_or, Bool.or_eq_true, List.any_eq_true, Bool.not_eq_true'] at this
    rcases this with ⟨i, hi, e2⟩ | e2
    · refine .inl (List.mem_map.mpr ⟨(N.getD i "", i), List.mem_map.mpr ⟨i, hi, rfl⟩, ?_⟩)
      have e2 : N[i]? = some y.1 := by simpa using e2
      show N.getD i "" = y.1
      rw [List.getD_eq_getElem?_getD, e2]; rfl
    · refine .inr fun hm => ?_
      rw [List.contains_iff_mem.mpr hm] at e2
      cases e2
def fnC (scope : Scope) (x : Str) : Bool := scope.names.lookup x == some .cell
mutual
def chkE (cs : Cs) (N : List Str) (sc : Scope) : E → Expr → Bool
  | .var i, a => match a with | .Name x _ => okName x && visB sc x && (N[i]? == some x) | _ => false
  | .int n, a => match a with | .Constant (.int j) _ _ => n == j | _ => false
  | .str x, a => match a with | .Constant (.str y) _ _ => x == y && (PyData.strOk x && decide (x.length ≤ sizeLine)) | _ => false
  | .bl b, a => match a with | .Constant (.bool c) _ _ => b == c | _ => false
  | .non, a => match a with | .Constant .none _ _ => true | _ => false
  | .con g, a => match a with | .Name x _ => okName x && glB sc x && (cs.con.lookup x == some g) | _ => false
  | .kd g e, a => match a with | .Subscript (.Name x _) y _ => okName x && glB sc x && (cs.kd.lookup x == some g) && notSlice y && chkE cs N sc e y | _ => false
  | .tup es, a => match a with | .Tuple ys _ _ => decide (esLen es ≤ 1000) && chkEs cs N sc es ys | _ => false
  | .lst _ es, a => match a with | .List ys _ => decide (esLen es ≤ 1000) && chkEs cs N sc es ys | _ => false
  | .dct _ es, a => match a with
    | .Dict [] [] _ => (match es with | .nil => true | _ => false)
    | .Dict (k :: ks) vs _ => decide ((k :: ks).length ≤ 15) && decide ((k :: ks).length = vs.length) && chkPs cs N sc es (k :: ks) vs
    | _ => false
  | .not a, e => match e with | .UnaryOp .Not x _ => chkE cs N sc a x | _ => false
  | .and a b, e => match e with | .BoolOp .And (x :: y :: r) p => chkE cs N sc a x && (match r with | [] => chkE cs N sc b y | z :: r => chkE cs N sc b (.BoolOp .And (y :: z :: r) p)) | _ => false
  | .or a b, e => match e with | .BoolOp .Or (x :: y :: r) p => chkE cs N sc a x && (match r with | [] => chkE cs N sc b y | z :: r => chkE cs N sc b (.BoolOp .Or (y :: z :: r) p)) | _ => false
  | .ite c a b, e => match e with | .IfExp z x y _ => chkE cs N sc c z && chkE cs N sc a x && chkE cs N sc b y | _ => false
  | .neg a, e => match e with | .UnaryOp .USub x _ => chkE cs N sc a x | _ => false
  | .bin _ o a b, e => match e with | .BinOp x p y _ => opIs o p && chkE cs N sc a x && chkE cs N sc b y | _ => false
  | .cmp o a b, e => match e with | .Compare x [p] [y] _ => cmIs o p && notSet y && chkE cs N sc a x && chkE cs N sc b y | _ => false
  | .chain o1 o2 a b c, e => match e with | .Compare x [p1, p2] [y, z] _ => cmIs o1 p1 && cmIs o2 p2 && !(lastMarks [p1, p2] [y, z]) && chkE cs N sc a x && chkE cs N sc b y && chkE cs N sc c z | _ => false
  | .isnon a, e => match e with | .Compare x [.Is] [.Constant .none _ _] _ => chkE cs N sc a x | _ => false
  | .notnon a, e => match e with | .Compare x [.IsNot] [.Constant .none _ _] _ => chkE cs N sc a x | _ => false
  | .isbl false k a, e => match e with | .Compare x [.Is] [.Constant (.bool k2) _ _] _ => (k2 == k) && chkE cs N sc a x | _ => false
  | .isbl true k a, e => match e with | .Compare x [.IsNot] [.Constant (.bool k2) _ _] _ => (k2 == k) && chkE cs N sc a x | _ => false
  | .b1 _ f a, e => match e with
    | .Call (.Name n _) [.Call (.Name n2 p2) [x] [] q2] [] _ => (match b1N f with
      | some q => (n == q.1) && btNames.contains n && glB sc n && notStar (.Call (.Name n2 p2) [x] [] q2) && chkE cs N sc a (.Call (.Name n2 p2) [x] [] q2)
      | none => (match f with | .sortset => (n == "sorted") && (n2 == "set") && glB sc n && glB sc n2 && notStar x && chkE cs N sc a x | _ => false))
    | .Call (.Name n _) [x] [] _ => (match b1N f with | some q => (n == q.1) && btNames.contains n && glB sc n && notStar x && chkE cs N sc a x | none => false)
    | _ => false
  | .b2 f a b, e => match e with | .Call (.Name n _) [x, y] [] _ => (n == b2N f) && glB sc n && notStar x && notStar y && chkE cs N sc a x && chkE cs N sc b y | _ => false
  | .isi a ts, e => match e with
    | .Call (.Name n _) [x, t] [] _ => (n == "isinstance") && glB sc n && notStar x && chkE cs N sc a x && (match t with
      | .Name m _ => (match ts with | [t] => (m == tyS t) && glB sc m | _ => false)
      | .Tuple ys _ _ => decide (ts.length ≤ 1000) && chkTys sc ts ys
      | _ => false)
    | _ => false
  | .ix a b, e => match e with | .Subscript x y _ => notSlice y && chkE cs N sc a x && chkE cs N sc b y | _ => false
  | .slice _ a lo hi, e => match e with | .Subscript x (.Slice l h none _) _ => chkE cs N sc a x && chkO cs N sc lo l && chkO cs N sc hi h | _ => false
  | .lc _ own t it c elt, e => match e with
    | .ListComp x [⟨tg, iter, ifs, as_⟩] scope _ => (as_ == 0) && blkB N sc scope own && notSet iter && chkIt cs N sc tg it iter && (slots t).all (own.contains ·) && chkTg N (relS scope sc) (fnC scope) t tg &&
        (match ifs with | [] => (match c with | .nil => true | _ => false) | [y] => chkC cs N (relS scope sc) c y | _ => false) && chkE cs N (relS scope sc) elt x
    | _ => false
  | .call f _ es, e => match e with | .Call (.Name n _) ys [] _ => okName n && glB sc n && (cs.fn.lookup n == some f) && noStar ys && chkEs cs N sc es ys | _ => false
  | .mk c _ es, e => match e with | .Call (.Name n _) ys [] _ => okName n && glB sc n && (cs.cl.lookup n == some c) && noStar ys && chkEs cs N sc es ys | _ => false
  | .meth j _ o es, e => match e with
    | .Call (.Attribute x m apos) ys [] pos => okBase x && cEnd apos pos && (cs.me.lookup m == some j) && decide (ys.length < 30) && noStar ys && chkE cs N sc o x && chkEs cs N sc es ys
    | _ => false
  | .attr a j, e => match e with | .Attribute x f _ => okBase x && (cs.ats.lookup f == some j) && chkE cs N sc a x | _ => false
  | .rev _ a, e => match e with | .Subscript x (.Slice none none (some (.UnaryOp .USub (.Constant (.int k) _ _) _)) _) _ => decide (k = 1) && chkE cs N sc a x | _ => false
  | .isx a os, e => match e with
    | .Call (.Name n _) [x, t] [] _ => (n == "isinstance") && glB sc n && notStar x && chkE cs N sc a x && (match t with
      | .Name m _ => (match os with | [o] => chkXn cs sc o m | _ => false)
      | .Tuple ys _ _ => decide (os.length ≤ 1000) && chkXs cs sc os ys
      | _ => false)
    | _ => false
  | .bm f o es, e => match e with
    | .Call (.Attribute x m apos) ys [] pos => (m == bmNm f) && okBase x && cEnd apos pos && decide (ys.length < 30) && noStar ys && chkE cs N sc o x && chkEs cs N sc es ys
    | _ => false
def chkEs (cs : Cs) (N : List Str) (sc : Scope) : Es → List Expr → Bool
  | .nil, ys => match ys with | [] => true | _ => false
  | .cons e es, ys => match ys with | y :: r => notStar y && chkE cs N sc e y && chkEs cs N sc es r | [] => false
def chkPs (cs : Cs) (N : List Str) (sc : Scope) : Es → List (Option Expr) → List Expr → Bool
  | .nil, ks, vs => match ks, vs with | [], [] => true | _, _ => false
  | .cons k es, ks, vs => match es with
    | .nil => false
    | .cons v r => (match ks, vs with | some x :: ks, y :: vs => chkE cs N sc k x && chkE cs N sc v y && chkPs cs N sc r ks vs | _, _ => false)
def chkO (cs : Cs) (N : List Str) (sc : Scope) : Es → Option Expr → Bool
  | .nil, o => match o with | none => true | _ => false
  | .cons e es, o => match o with | some y => (match es with | .nil => true | _ => false) && chkE cs N sc e y | none => false
def chkC (cs : Cs) (N : List Str) (sc : Scope) : Es → Expr → Bool
  | .nil, _ => false
  | .cons e es, y => (match es with | .nil => true | _ => false) && chkE cs N sc e y
def chkIt (cs : Cs) (N : List Str) (sc : Scope) (tg : Expr) : It → Expr → Bool
  | .val e, a => chkE cs N sc e a
  | .range1 a, e => match e with | .Call (.Name n _) [x] [] _ => (n == "range") && glB sc n && notStar x && chkE cs N sc a x | _ => false
  | .range2 a b, e => match e with | .Call (.Name n _) [x, y] [] _ => (n == "range") && glB sc n && notStar x && notStar y && chkE cs N sc a x && chkE cs N sc b y | _ => false
  | .range3 a b c, e => match e with | .Call (.Name n _) [x, y, z] [] _ => (n == "range") && glB sc n && notStar x && notStar y && notStar z && chkE cs N sc a x && chkE cs N sc b y && chkE cs N sc c z | _ => false
  | .enum a, e => (match tg with | .Tuple _ _ _ => true | _ => false) && match e with | .Call (.Name n _) [x] [] _ => (n == "enumerate") && glB sc n && notStar x && chkE cs N sc a x | _ => false
  | .zip2 a b, e => (match tg with | .Tuple _ _ _ => true | _ => false) && match e with | .Call (.Name n _) [x, y] [] _ => (n == "zip") && glB sc n && notStar x && notStar y && chkE cs N sc a x && chkE cs N sc b y | _ => false
  | .zip3 _ _ _, _ => false
  | .values e, a => match a with | .Call (.Attribute x m apos) [] [] pos => (m == "values") && okBase x && cEnd apos pos && chkE cs N sc e x | _ => false
end
def isTupE : Expr → Bool
  | .Tuple _ _ _ => true
  | _ => false
theorem tup_tg {N2 : List Str} {sc2 : Scope} {tg : Expr} {t : Mi.T} {fnb : Str → Bool} (h0 : isTupE tg = true) (h2 : chkTg N2 sc2 fnb t tg = true) : manyT t = true := by
  cases t with
  | tup is => rfl
  | tt ts => rfl
  | name i => cases tg <;> first | (cases h0; done) | (exact absurd h2 (by unfold chkTg; exact Bool.false_ne_true))
theorem weak_tg {cs : Cs} {N N2 : List Str} {sc sc2 : Scope} {tg a : Expr} {t : Mi.T} {fnb : Str → Bool} {it : It} (h : chkIt cs N sc tg it a = true) (h2 : chkTg N2 sc2 fnb t tg = true) : weakIt it = true → manyT t = true := by
  intro hw
  refine tup_tg ?_ h2
  cases it with
  | enum e => unfold chkIt at h; rw [Bool.and_eq_true] at h; exact h.1
  | zip2 a b => unfold chkIt at h; rw [Bool.and_eq_true] at h; exact h.1
  | zip3 a b c => unfold chkIt at h; cases h
  | _ => cases hw
end Mi
end
section
set_option Elab.async false
set_option linter.all false
set_option maxRecDepth 100000
/-! MiN: the evaluator's word for expressions. -/
namespace Mi
open PySem PySem.Spec L2
theorem tys_in (t : Ty) : tyS t ∈ btNames := by cases t <;> decide
theorem bt_isi : ("isinstance" : Str) ∈ btNames := by decide
theorem bt_range : ("range" : Str) ∈ btNames := by decide
theorem bt_enum : ("enumerate" : Str) ∈ btNames := by decide
theorem bt_sorted : ("sorted" : Str) ∈ btNames := by decide
theorem bt_set : ("set" : Str) ∈ btNames := by decide
theorem bt_zip : ("zip" : Str) ∈ btNames := by decide
theorem bt_b2 (f : B2) : b2N f ∈ btNames := by cases f <;> decide
theorem tys_pa {X : Cx} (hb : ∀ x ∈ btNames, X.mg x = none) : ∀ {ts : List Ty} {ys : List Expr}, chkTys X.env.scope ts ys = true → PA X ys (tTys ts)
  | [], [], _ => pa_nil
  | [], _ :: _, h => by simp [chkTys] at h
  | _ :: _, [], h => by simp [chkTys] at h
  | t :: ts, y :: ys, h => by
    cases y with
    | Name n p =>
      unfold chkTys at h
      simp only [Bool.and_eq_true] at h
      obtain ⟨⟨h1, h2⟩, h3⟩ := h
      obtain rfl : n = tyS t := by simpa using h1
      exact pa_cons (pe_ty h2 (hb _ (tys_in t))) (tys_pa hb h3) (star_cons rfl)
    | _ => simp [chkTys] at h
theorem es_nil {cs : Cs} {N : List Str} {sc : Scope} {es : Es} {ys : List Expr} (h : chkEs cs N sc es ys = true) (e : ys = []) : es = .nil := by
  subst e
  cases es with
  | nil => rfl
  | cons _ _ => simp [chkEs] at h
variable {P : Pg} {T : Tb} {cs : Cs} {k : Nat}
theorem both {X : Cx} {G : Sg} {e : E} {a : Expr} (h : PE X a (tE T G e)) (hp : plainT a = true) : PE X a (tE T G e) ∧ PT X a (tT T G e) := ⟨h, pt_plain h hp⟩
theorem e_mk0 {X : Cx} {c : Nat} {keep : Bool} {es : Es} {a : Expr} (hk : k = 0) : PE X a (tE T (sig P k) (.mk c keep es)) := by
  refine ⟨fun pins s τ H Q I ⟨α, M, σ, m, rl, q⟩ => ?_⟩
  subst hk
  rw [evE] at q
  cases h : evEs (sig P 0) es σ M with
  | ok ds M1 => rw [h, R.bind_ok] at q; exact (back_post m (keep := true) (r := .bad) (by cases keep <;> exact q)).elim
  | exc c M => rw [h] at q; exact q.elim
  | bad => rw [h] at q; exact q.elim
theorem xn_ok {X : Cx} (W : Wld P T cs k X) {o : Option Nat} {m : Str} (h : chkXn cs X.env.scope o m = true) : XnOk T X cs.xc o m := by
  unfold chkXn at h
  simp only [Bool.and_eq_true] at h
  obtain ⟨⟨h1, h2⟩, h3⟩ := h
  refine ⟨h1, h2, ?_⟩
  cases o with
  | none =>
    have h3 : m = "ValueError" := by simpa using h3
    exact ⟨h3, by rw [h3]; exact W.bt _ (by decide)⟩
  | some c =>
    have h3 : cs.xc.lookup m = some c := by simpa using h3
    exact ⟨(W.xc _ _ h3).mg, h3⟩
theorem xs_ok {X : Cx} (W : Wld P T cs k X) : ∀ (os : List (Option Nat)) (ys : List Expr), chkXs cs X.env.scope os ys = true → XnAll T X cs.xc os ys
  | [], ys, h => by
    unfold chkXs at h; split at h
    · exact .nil
    · cases h
  | o :: os, ys, h => by
    unfold chkXs at h; split at h
    · rw [Bool.and_eq_true] at h
      exact .cons (xn_ok W h.1) (xs_ok W os _ h.2)
    · cases h
mutual
theorem sndE : ∀ (e : E) (X : Cx) (a : Expr), Wld P T cs k X → chkE cs X.N X.env.scope e a = true → PE X a (tE T (sig P k) e) ∧ PT X a (tT T (sig P k) e)
  | .var i, X, a, W, h => by
    unfold chkE at h; split at h
    · simp only [Bool.and_eq_true] at h
      exact both (e_var (T := T) (G := sig P k) (by simpa using h.2) h.1.2 h.1.1) rfl
    · cases h
  | .int n, X, a, W, h => by
    unfold chkE at h; split at h
    · obtain rfl : n = _ := by simpa using h
      exact ⟨e_int, pt_plain e_int rfl⟩
    · cases h
  | .str x, X, a, W, h => by
    unfold chkE at h; split at h
    · simp only [Bool.and_eq_true, decide_eq_true_eq] at h
      obtain rfl : x = _ := by simpa using h.1
      exact ⟨e_str h.2, pt_plain (e_str h.2) rfl⟩
    · cases h
  | .bl b, X, a, W, h => by
    unfold chkE at h; split at h
    · obtain rfl : b = _ := by simpa using h
      exact ⟨e_bl, pt_plain e_bl rfl⟩
    · cases h
  | .non, X, a, W, h => by
    unfold chkE at h; split at h
    · exact ⟨e_non, pt_plain e_non rfl⟩
    · cases h
  | .con g, X, a, W, h => by
    unfold chkE at h; split at h
    · simp only [Bool.and_eq_true] at h
      obtain ⟨v, u, hm, r, rep⟩ := W.con _ g (by simpa using h.2)
      exact both (e_con (T := T) (G := sig P k) h.1.2 h.1.1 hm r rep) rfl
    · cases h
  | .kd g b, X, a, W, h => by
    unfold chkE at h; split at h
    · simp only [Bool.and_eq_true] at h
      obtain ⟨⟨⟨⟨h1, h2⟩, h3⟩, h4⟩, h5⟩ := h
      obtain ⟨ad, hm, hd⟩ := W.kd _ g (by simpa using h3)
      exact both (e_kd (T := T) (G := sig P k) h2 h1 hm hd (sndE b X _ W h5).1 h4) rfl
    · cases h
  | .tup es, X, a, W, h => by
    unfold chkE at h; split at h
    · simp only [Bool.and_eq_true, decide_eq_true_eq] at h
      exact both (e_tup (T := T) (G := sig P k) (sndEs es X _ W h.2) h.1) rfl
    · cases h
  | .lst mm es, X, a, W, h => by
    unfold chkE at h; split at h
    · simp only [Bool.and_eq_true, decide_eq_true_eq] at h
      exact both (e_lst (T := T) (G := sig P k) (mm := mm) (sndEs es X _ W h.2) h.1) rfl
    · cases h
  | .dct mm es, X, a, W, h => by
    unfold chkE at h; split at h
    · split at h
      · exact ⟨e_dct, pt_plain e_dct rfl⟩
      · cases h
    · rename_i k ks vs pos
      simp only [Bool.and_eq_true, decide_eq_true_eq] at h
      obtain ⟨⟨h1, h2⟩, h3⟩ := h
      obtain ⟨hp, ha, hl, hev⟩ := sndPs es X pos _ _ W h3
      have := e_dsp (mm := mm) hp ha h2 (by simp) h1 hev (by rw [hl]; omega)
      exact ⟨this, pt_plain this rfl⟩
    · cases h
  | .not a, X, e, W, h => by
    unfold chkE at h; split at h
    · have := sndE a X _ W h
      exact ⟨e_not this.1, t_not this.2⟩
    · cases h
  | .and a b, X, e, W, h => by
    unfold chkE at h; split at h
    · rename_i x y r p
      simp only [Bool.and_eq_true] at h
      have ha := sndE a X _ W h.1
      have hb : PE X (.BoolOp .And (y :: r) p) (tE T (sig P k) b) ∧ PT X (.BoolOp .And (y :: r) p) (tT T (sig P k) b) := by
        have h2 := h.2
        cases r with
        | nil =>
          have := sndE b X _ W h2
          exact ⟨pe_one this.1, (pw_and1 this.2).pt⟩
        | cons z r => exact sndE b X _ W h2
      exact ⟨e_and ha.1 hb.1, t_and ha.2 hb.2⟩
    · cases h
  | .or a b, X, e, W, h => by
    unfold chkE at h; split at h
    · rename_i x y r p
      simp only [Bool.and_eq_true] at h
      have ha := sndE a X _ W h.1
      have hb : PE X (.BoolOp .Or (y :: r) p) (tE T (sig P k) b) ∧ PT X (.BoolOp .Or (y :: r) p) (tT T (sig P k) b) := by
        have h2 := h.2
        cases r with
        | nil =>
          have := sndE b X _ W h2
          exact ⟨pe_one this.1, (pw_or1 this.2).pt⟩
        | cons z r => exact sndE b X _ W h2
      exact ⟨e_or ha.1 hb.1, t_or ha.2 hb.2⟩
    · cases h
  | .ite c a b, X, e, W, h => by
    unfold chkE at h; split at h
    · simp only [Bool.and_eq_true] at h
      have hc := sndE c X _ W h.1.1
      have ha := sndE a X _ W h.1.2
      have hb := sndE b X _ W h.2
      exact ⟨e_ite hc.2 ha.1 hb.1, t_ite hc.2 ha.2 hb.2⟩
    · cases h
  | .neg a, X, e, W, h => by
    unfold chkE at h; split at h
    · exact both (e_neg (sndE a X _ W h).1) rfl
    · cases h
  | .bin mm o a b, X, e, W, h => by
    unfold chkE at h; split at h
    · simp only [Bool.and_eq_true] at h
      rw [opIs_eq h.1.1]
      exact both (e_bin W.hK (mm := mm) (o := o) (sndE a X _ W h.1.2).1 (sndE b X _ W h.2).1) rfl
    · cases h
  | .cmp o a b, X, e, W, h => by
    unfold chkE at h; split at h
    · simp only [Bool.and_eq_true] at h
      rw [cmIs_eq h.1.1.1]
      have hu : X.A.units + 66 < cLine := by have := W.u67; omega
      have ha := (sndE a X _ W h.1.2).1
      have hb := (sndE b X _ W h.2).1
      exact ⟨e_cmp W.hK hu ha hb h.1.1.2, t_cmp W.hK hu ha hb h.1.1.2⟩
    · cases h
  | .chain o1 o2 a b c, X, e, W, h => by
    unfold chkE at h; split at h
    · simp only [Bool.and_eq_true, Bool.not_eq_true'] at h
      obtain ⟨⟨⟨⟨⟨h1, h2⟩, h3⟩, h4⟩, h5⟩, h6⟩ := h
      have hu : X.A.units + 66 < cLine := by have := W.u67; omega
      have ha := (sndE a X _ W h4).1
      have hb := (sndE b X _ W h5).1
      have hc := (sndE c X _ W h6).1
      obtain rfl := cmIs_eq h1
      obtain rfl := cmIs_eq h2
      exact ⟨e_chain W.hK hu ha hb hc h3, t_chain W.hK hu ha hb hc h3⟩
    · cases h
  | .isnon a, X, e, W, h => by
    unfold chkE at h; split at h
    · have := (sndE a X _ W h).1
      exact ⟨e_isnon this, t_isnon this⟩
    · cases h
  | .notnon a, X, e, W, h => by
    unfold chkE at h; split at h
    · have := (sndE a X _ W h).1
      exact ⟨e_notnon this, t_notnon this⟩
    · cases h
  | .isbl false k a, X, e, W, h => by
    unfold chkE at h; split at h
    · rw [Bool.and_eq_true] at h
      obtain rfl := eq_of_beq h.1
      have := (sndE a X _ W h.2).1
      exact ⟨e_isbl this, t_isbl this⟩
    · cases h
  | .isbl true k a, X, e, W, h => by
    unfold chkE at h; split at h
    · rw [Bool.and_eq_true] at h
      obtain rfl := eq_of_beq h.1
      have := (sndE a X _ W h.2).1
      exact ⟨e_notbl this, t_notbl this⟩
    · cases h
  | .b1 mm f a, X, e, W, h => by
    unfold chkE at h; split at h
    · split at h
      · rename_i q hq
        simp only [Bool.and_eq_true] at h
        obtain ⟨⟨⟨⟨h1, h2⟩, h3⟩, h4⟩, h5⟩ := h
        obtain ⟨n', ty, id⟩ := q
        obtain rfl : _ = n' := by simpa using h1
        exact both (e_b1 W.hK W.calm W.u67 W.room.gd (mm := mm) hq h3 (W.bt _ (List.contains_iff_mem.mp h2)) (sndE a X _ W h5).1 h4) rfl
      · split at h
        · simp only [Bool.and_eq_true] at h
          obtain ⟨⟨⟨⟨⟨h1, h2⟩, h3⟩, h4⟩, h5⟩, h6⟩ := h
          obtain rfl : _ = ("sorted" : Str) := by simpa using h1
          obtain rfl : _ = ("set" : Str) := by simpa using h2
          exact both (e_sortset W.hK W.calm (by have := W.u67; omega) h3 (W.bt _ bt_sorted) h4 (W.bt _ bt_set) (sndE a X _ W h6).1 h5) rfl
        · cases h
    · split at h
      · rename_i q hq
        simp only [Bool.and_eq_true] at h
        obtain ⟨⟨⟨⟨h1, h2⟩, h3⟩, h4⟩, h5⟩ := h
        obtain ⟨n', ty, id⟩ := q
        obtain rfl : _ = n' := by simpa using h1
        exact both (e_b1 W.hK W.calm W.u67 W.room.gd (mm := mm) hq h3 (W.bt _ (List.contains_iff_mem.mp h2)) (sndE a X _ W h5).1 h4) rfl
      · cases h
    · cases h
  | .b2 f a b, X, e, W, h => by
    unfold chkE at h; split at h
    · simp only [Bool.and_eq_true] at h
      obtain ⟨⟨⟨⟨⟨h1, h2⟩, h3⟩, h4⟩, h5⟩, h6⟩ := h
      obtain rfl : _ = b2N f := by simpa using h1
      exact both (e_b2 W.calm h2 (W.bt _ (bt_b2 f)) (sndE a X _ W h5).1 (sndE b X _ W h6).1 h3 h4) rfl
    · cases h
  | .isi a ts, X, e, W, h => by
    unfold chkE at h; split at h
    · simp only [Bool.and_eq_true] at h
      obtain ⟨⟨⟨⟨h1, h2⟩, h3⟩, h4⟩, h5⟩ := h
      obtain rfl : _ = ("isinstance" : Str) := by simpa using h1
      have ha := (sndE a X _ W h4).1
      split at h5
      · split at h5
        · simp only [Bool.and_eq_true] at h5
          obtain ⟨h6, h7⟩ := h5
          obtain rfl := eq_of_beq h6
          exact both (e_isi1 W.hK h2 (W.bt _ bt_isi) h7 (W.bt _ (tys_in _)) ha h3) rfl
        · cases h5
      · simp only [Bool.and_eq_true, decide_eq_true_eq] at h5
        exact both (e_isiT W.hK h2 (W.bt _ bt_isi) (tys_pa W.bt h5.2) h5.1 ha h3) rfl
      · cases h5
    · cases h
  | .isx a os, X, e, W, h => by
    unfold chkE at h; split at h
    · simp only [Bool.and_eq_true] at h
      obtain ⟨⟨⟨⟨h1, h2⟩, h3⟩, h4⟩, h5⟩ := h
      obtain rfl : _ = ("isinstance" : Str) := by simpa using h1
      have ha := (sndE a X _ W h4).1
      split at h5
      · split at h5
        · exact both (e_isx1 rfl W.xk h2 (W.bt _ bt_isi) (xn_ok W h5) ha h3) rfl
        · cases h5
      · simp only [Bool.and_eq_true, decide_eq_true_eq] at h5
        exact both (e_isxT rfl W.xk h2 (W.bt _ bt_isi) (xs_ok W _ _ h5.2) h5.1 ha h3) rfl
      · cases h5
    · cases h
  | .ix a b, X, e, W, h => by
    unfold chkE at h; split at h
    · simp only [Bool.and_eq_true] at h
      have hu : X.A.units + 1 < cLine := by have := W.u67; omega
      exact both (e_ix W.hK hu (sndE a X _ W h.1.2).1 (sndE b X _ W h.2).1 h.1.1) rfl
    · cases h
  | .slice mm a lo hi, X, e, W, h => by
    unfold chkE at h; split at h
    · simp only [Bool.and_eq_true] at h
      exact both (e_slice W.hK (mm := mm) (sndE a X _ W h.1.1).1 (sndO lo X _ W h.1.2) (sndO hi X _ W h.2)) rfl
    · cases h
  | .lc mm own t it c elt, X, e, W, h => by
    unfold chkE at h; split at h
    · rename_i x tg iter ifs as_ scope pos
      simp only [Bool.and_eq_true] at h
      obtain ⟨⟨⟨⟨⟨⟨⟨h1, h2⟩, h3⟩, h4⟩, h5⟩, h6⟩, h7⟩, h8⟩ := h
      obtain rfl : as_ = 0 := by simpa using h1
      have hsl : ∀ i ∈ slots t, i ∈ own := fun i hi => List.contains_iff_mem.mp (List.all_eq_true.mp h5 i hi)
      have hg : ∀ (s : Shared) (H : Hp) (C : Addr) (cl : List (Str × Addr)) (fp : List Addr), PG (X.blk s H scope (compEnvC scope cl C X.env) fp) tg (gT X.K t) := fun s H C cl fp =>
        pg_of (X := X.blk s H scope (compEnvC scope cl C X.env) fp) (fnb := fnC scope) W.calm W.nd (fun _ => rfl) h6
      have ht : ∀ (s : Shared) (H : Hp) (C : Addr) (cl : List (Str × Addr)) (fp : List Addr), PTs (X.blk s H scope (compEnvC scope cl C X.env) fp) ifs (tCs T (sig P k) c) := fun s H C cl fp => by
        split at h7
        · split at h7
          · exact c_nil
          · cases h7
        · exact sndC c (X.blk s H scope (compEnvC scope cl C X.env) fp) _ (W.blk ..) h7
        · cases h7
      have he : ∀ (s : Shared) (H : Hp) (C : Addr) (cl : List (Str × Addr)) (fp : List Addr), PE (X.blk s H scope (compEnvC scope cl C X.env) fp) x (tE T (sig P k) elt) := fun s H C cl fp =>
        (sndE elt (X.blk s H scope (compEnvC scope cl C X.env) fp) _ (W.blk ..) h8).1
      have := pe_lc (pos := pos) W.calm W.nd (sndIt it X tg iter W h4) (blk_ok h2) hg ht he (fold_ok h3 _)
      rw [own_snd] at this
      have this := this.imp fun τ H Q q => w_lc (mm := mm) W.hK hsl (weak_tg h4 h6) q
      exact ⟨this, pt_plain this rfl⟩
    · cases h
  | .call f keep es, X, e, W, h => by
    unfold chkE at h; split at h
    · simp only [Bool.and_eq_true] at h
      obtain ⟨⟨⟨⟨h1, h2⟩, h3⟩, h4⟩, h5⟩ := h
      obtain ⟨hm, hk, hF⟩ := W.fn _ f (by simpa using h3)
      exact both (e_call (keep := keep) hF W.room h2 h1 hm hk (sndEs es X _ W h5) h4 (es_nil h5)) rfl
    · cases h
  | .mk c keep es, X, e, W, h => by
    unfold chkE at h; split at h
    · simp only [Bool.and_eq_true] at h
      obtain ⟨⟨⟨⟨h1, h2⟩, h3⟩, h4⟩, h5⟩ := h
      obtain ⟨hm, hC⟩ := W.cl _ c (by simpa using h3)
      have hes := sndEs es X _ W h5
      refine both ?_ rfl
      by_cases hk : k = 0
      · exact e_mk0 hk
      · exact e_mk (hC hk) W.room h2 h1 hm hes h4 (es_nil h5)
    · cases h
  | .meth j keep o es, X, e, W, h => by
    unfold chkE at h; split at h
    · simp only [Bool.and_eq_true, decide_eq_true_eq] at h
      obtain ⟨⟨⟨⟨⟨⟨h1, h2⟩, h3⟩, h4⟩, h5⟩, h6⟩, h7⟩ := h
      obtain ⟨hn, hM⟩ := W.me _ j (by simpa using h3)
      exact both (e_meth (keep := keep) hM hn W.room (sndE o X _ W h6).1 h1 h2 h4 (sndEs es X _ W h7) h5 (es_nil h7)) rfl
    · cases h
  | .attr a j, X, e, W, h => by
    unfold chkE at h; split at h
    · simp only [Bool.and_eq_true] at h
      obtain ⟨⟨h1, h2⟩, h3⟩ := h
      obtain ⟨hf, hC⟩ := W.at_ _ j (by simpa using h2)
      exact both (e_attr hC hf (sndE a X _ W h3).1 h1) rfl
    · cases h
  | .rev mm a, X, e, W, h => by
    unfold chkE at h; split at h
    · simp only [Bool.and_eq_true, decide_eq_true_eq] at h
      obtain ⟨rfl, h⟩ := h
      exact both (e_rev W.hK (mm := mm) (sndE a X _ W h).1) rfl
    · cases h
  | .bm f o es, X, e, W, h => by
    unfold chkE at h; split at h
    · simp only [Bool.and_eq_true, decide_eq_true_eq] at h
      obtain ⟨⟨⟨⟨⟨⟨h1, h2⟩, h3⟩, h4⟩, h5⟩, h6⟩, h7⟩ := h
      obtain rfl : _ = bmNm f := by simpa using h1
      exact both (e_bm W.hK W.u67 (f := f) (sndE o X _ W h6).1 h2 h3 h4 (sndEs es X _ W h7) h5 (es_nil h7)) rfl
    · cases h
theorem sndEs : ∀ (es : Es) (X : Cx) (ys : List Expr), Wld P T cs k X → chkEs cs X.N X.env.scope es ys = true → PA X ys (tEs T (sig P k) es)
  | .nil, X, ys, W, h => by
    unfold chkEs at h; split at h
    · exact a_nil
    · cases h
  | .cons e es, X, ys, W, h => by
    unfold chkEs at h; split at h
    · simp only [Bool.and_eq_true] at h
      exact a_cons (sndE e X _ W h.1.2).1 (sndEs es X _ W h.2) h.1.1
    · cases h
theorem sndPs : ∀ (es : Es) (X : Cx) (pos : Pos) (ks : List (Option Expr)) (vs : List Expr), Wld P T cs k X → chkPs cs X.N X.env.scope es ks vs = true → PPs X pos ks vs (trsOf T (sig P k) es) ∧ ks.all (·.isSome) = true ∧ esLen es = 2 * ks.length ∧ evenEs es = true
  | .nil, X, pos, ks, vs, W, h => by
    unfold chkPs at h; split at h
    · exact ⟨pps_nil, rfl, rfl, rfl⟩
    · cases h
  | .cons e .nil, X, pos, ks, vs, W, h => by
    unfold chkPs at h; cases h
  | .cons e (.cons v r), X, pos, ks, vs, W, h => by
    unfold chkPs at h
    dsimp only at h
    split at h
    · simp only [Bool.and_eq_true] at h
      obtain ⟨hp, ha, hl, hev⟩ := sndPs r X pos _ _ W h.2
      exact ⟨pps_cons (sndE e X _ W h.1.1).1 (sndE v X _ W h.1.2).1 hp, by simpa using ha, by simp [esLen, hl]; omega, by simpa [evenEs] using hev⟩
    · cases h
theorem sndO : ∀ (es : Es) (X : Cx) (o : Option Expr), Wld P T cs k X → chkO cs X.N X.env.scope es o = true → PO X o (tOs T (sig P k) es)
  | .nil, X, o, W, h => by
    unfold chkO at h; split at h
    · exact o_none
    · cases h
  | .cons e es, X, o, W, h => by
    unfold chkO at h; split at h
    · simp only [Bool.and_eq_true] at h
      have h1 := h.1
      cases es with
      | nil => exact o_some (sndE e X _ W h.2).1
      | cons _ _ => cases h1
    · cases h
theorem sndC : ∀ (es : Es) (X : Cx) (y : Expr), Wld P T cs k X → chkC cs X.N X.env.scope es y = true → PTs X [y] (tCs T (sig P k) es)
  | .nil, X, y, W, h => by cases h
  | .cons e es, X, y, W, h => by
    unfold chkC at h
    simp only [Bool.and_eq_true] at h
    have h1 := h.1
    cases es with
    | nil => exact c_one (sndE e X _ W h.2).2
    | cons _ _ => cases h1
theorem sndIt : ∀ (it : It) (X : Cx) (tg : Expr) (a : Expr), Wld P T cs k X → chkIt cs X.N X.env.scope tg it a = true → PI X tg a (tI T (sig P k) it)
  | .val e, X, tg, a, W, h => by
    unfold chkIt at h
    exact i_val W.hK (sndE e X _ W h).1
  | .range1 a, X, tg, e, W, h => by
    unfold chkIt at h; split at h
    · simp only [Bool.and_eq_true] at h
      obtain ⟨⟨⟨h1, h2⟩, h3⟩, h4⟩ := h
      obtain rfl : _ = ("range" : Str) := by simpa using h1
      exact i_range1 h2 (W.bt _ bt_range) (sndE a X _ W h4).1 h3
    · cases h
  | .range2 a b, X, tg, e, W, h => by
    unfold chkIt at h; split at h
    · simp only [Bool.and_eq_true] at h
      obtain ⟨⟨⟨⟨⟨h1, h2⟩, h3⟩, h4⟩, h5⟩, h6⟩ := h
      obtain rfl : _ = ("range" : Str) := by simpa using h1
      exact i_range2 h2 (W.bt _ bt_range) (sndE a X _ W h5).1 (sndE b X _ W h6).1 h3 h4
    · cases h
  | .range3 a b c, X, tg, e, W, h => by
    unfold chkIt at h; split at h
    · simp only [Bool.and_eq_true] at h
      obtain ⟨⟨⟨⟨⟨⟨⟨h1, h2⟩, h3⟩, h4⟩, h5⟩, h6⟩, h7⟩, h8⟩ := h
      obtain rfl : _ = ("range" : Str) := by simpa using h1
      exact i_range3 h2 (W.bt _ bt_range) (sndE a X _ W h6).1 (sndE b X _ W h7).1 (sndE c X _ W h8).1 h3 h4 h5
    · cases h
  | .enum a, X, tg, e, W, h => by
    unfold chkIt at h
    rw [Bool.and_eq_true] at h
    obtain ⟨h0, h⟩ := h
    split at h0
    · split at h
      · simp only [Bool.and_eq_true] at h
        obtain ⟨⟨⟨h1, h2⟩, h3⟩, h4⟩ := h
        obtain rfl : _ = ("enumerate" : Str) := by simpa using h1
        exact i_enum W.hK h2 (W.bt _ bt_enum) (sndE a X _ W h4).1 h3
      · cases h
    · cases h0
  | .zip2 a b, X, tg, e, W, h => by
    unfold chkIt at h
    rw [Bool.and_eq_true] at h
    obtain ⟨h0, h⟩ := h
    split at h0
    · split at h
      · simp only [Bool.and_eq_true] at h
        obtain ⟨⟨⟨⟨⟨h1, h2⟩, h3⟩, h4⟩, h5⟩, h6⟩ := h
        obtain rfl : _ = ("zip" : Str) := by simpa using h1
        exact i_zip2 W.hK h2 (W.bt _ bt_zip) (sndE a X _ W h5).1 (sndE b X _ W h6).1 h3 h4
      · cases h
    · cases h0
  | .zip3 _ _ _, X, tg, e, W, h => by cases h
  | .values a, X, tg, e, W, h => by
    unfold chkIt at h; split at h
    · simp only [Bool.and_eq_true] at h
      obtain ⟨⟨⟨h1, h2⟩, h3⟩, h4⟩ := h
      obtain rfl : _ = ("values" : Str) := by simpa using h1
      exact i_values W.hK (sndE a X _ W h4).1 (base_ok h2 _ _ _) h3
    · cases h
end
end Mi
end
section
set_option Elab.async false
set_option linter.all false
set_option maxRecDepth 100000
/-! MiO: statements by readings. -/
namespace Mi
open PySem PySem.Spec L2
section
variable {P : Pg} {T : Tb} {α α' α2 : Al} {H H' H2 : Hp} {M M' : Hh} {X : Cx} {G : Sg} {σ : Lo} {τ : St} {k : Nat} {D0 : Ends} {W : WX}
def PostS (T : Tb) (W : WX) (α : Al) (H : Hp) (D0 : Ends) : RS → Prop
  | .nx σ M' => ∀ α' H' τ', Ext α α' H H' → RM T α' M' H' → RL T α' H' σ τ' → D0.nx τ' H'
  | .rt d M' => ∀ α' H' v, Ext α α' H H' → RM T α' M' H' → Rep T α' H' d v → D0.rt v H'
  | .exc c σ M' => ∀ α' H' τ', Ext α α' H H' → RM T α' M' H' → RL T α' H' σ τ' → W (.ref (T.ca c)) none τ' H'
  | .bad => False
def tS (T : Tb) (W : WX) (G : Sg) (s : S) : TS := fun D0 τ H => ∃ α M σ, RM T α M H ∧ RL T α H σ τ ∧ PostS T W α H D0 (evS G s σ M)
def tSs (T : Tb) (W : WX) (G : Sg) (s : Ss) : TS := fun D0 τ H => ∃ α M σ, RM T α M H ∧ RL T α H σ τ ∧ PostS T W α H D0 (evSs G s σ M)
theorem PostS.ext (e : Ext α α' H H') : ∀ {r : RS}, PostS T W α H D0 r → PostS T W α' H' D0 r
  | .nx σ M', h => fun a2 h2 τ e2 m r => h a2 h2 τ (e.trans e2) m r
  | .rt d M', h => fun a2 h2 v e2 m r => h a2 h2 v (e.trans e2) m r
  | .exc _ _ _, h => fun a2 h2 τ e2 m r => h a2 h2 τ (e.trans e2) m r
  | .bad, h => h
theorem PostS.st {f : D → Hh → RS} : ∀ {r : R D}, PostS T W α H D0 (r.st σ f) → PostE T α H (fun v H1 => ∃ α1 M1 d, Ext α α1 H H1 ∧ RM T α1 M1 H1 ∧ Rep T α1 H1 d v ∧ PostS T W α1 H1 D0 (f d M1)) r
  | .ok d M', h => fun a1 h1 v e m r => ⟨a1, M', d, e, m, r, PostS.ext e h⟩
  | .exc _ _, h => h
  | .bad, h => h
theorem PostS.then {f : Lo → Hh → RS} {D1 : Ends} (hr : D1.rt = D0.rt) (hn : D1.nx = fun τ H1 => ∃ α1 M1 σ1, Ext α α1 H H1 ∧ RM T α1 M1 H1 ∧ RL T α1 H1 σ1 τ ∧ PostS T W α1 H1 D0 (f σ1 M1)) :
    ∀ {r : RS}, PostS T W α H D0 (r.then f) → PostS T W α H D1 r
  | .nx σ M', h => fun a1 h1 τ e m r => by rw [hn]; exact ⟨a1, M', σ, e, m, r, PostS.ext e h⟩
  | .rt d M', h => fun a1 h1 v e m r => by rw [hr]; exact h a1 h1 v e m r
  | .exc _ _ _, h => h
  | .bad, h => h
theorem oneS (m : RM T α M H) (rl : RL T α H σ τ) {a : E} {f : D → Hh → RS} (h : PostS T W α H D0 ((evE G a σ M).st σ f)) :
    tE T G a τ H (fun v H1 => ∃ α1 M1 d, Ext α α1 H H1 ∧ RM T α1 M1 H1 ∧ RL T α1 H1 σ τ ∧ Rep T α1 H1 d v ∧ PostS T W α1 H1 D0 (f d M1)) :=
  ⟨α, M, σ, m, rl, (PostS.st h).mono fun v H1 ⟨α1, M1, d, e, m1, r, q⟩ => ⟨α1, M1, d, e, m1, rl.ext e, r, q⟩⟩
section
variable {a b c : E} {x y z : Expr} {pos p apos : Pos} {i : Nat}
/-! ### small statements -/
theorem s_expr (ha : PE X x (tE T G a)) (hs : notComp x = true) : PS X (.Expr x pos) (tS T W G (.expr a)) :=
  (L2.ps_expr ha (comp_ok hs _ _ _)).imp fun D0 τ H ⟨α, M, σ, m, rl, q⟩ => by
    rw [evS] at q
    obtain ⟨α', M', σ', m', rl', q⟩ := oneS m rl q
    exact ⟨α', M', σ', m', rl', q.mono fun v H1 ⟨α1, M1, d, e, m1, rl1, r, q1⟩ => q1 α1 H1 τ Ext.refl m1 rl1⟩
theorem s_pass : PS X (.Pass pos) (tS T W G .pass) := L2.ps_pass.imp fun D0 τ H ⟨α, M, σ, m, rl, q⟩ => by rw [evS] at q; exact q α H τ Ext.refl m rl
theorem s_doc {n : Str} {j : Nat} : PS X (.Expr (.Constant (.str n) j p) pos) (tS T W G .pass) := L2.ps_doc.imp fun D0 τ H ⟨α, M, σ, m, rl, q⟩ => by rw [evS] at q; exact q α H τ Ext.refl m rl
theorem s_raise {n m : Str} {cc jj : Nat} {xc : List (Str × Nat)} {p1 p2 p3 : Pos} (hc : X.calm = true) (tk : Takes X W) (C : XcAt T X.K X.mg n cc) (hg : glB X.env.scope n = true) (hn : okName n = true) :
    PS X (.Raise (some (.Call (.Name n p1) [.Constant (.str m) jj p2] [] p3)) none pos) (tS T W G (.raise cc)) :=
  (ps_raise hc tk (pmk_own PySem.F.excBase_ValueError C.ex C.mg C.kp (raises_own C.r1 C.r2) (glB_ok hg) (okName_d hn).1)).imp fun D0 τ H ⟨α, M, σ, m, rl, q⟩ => by
    rw [evS] at q
    split at q
    · exact q α H τ Ext.refl m rl
    · exact q.elim
theorem PostS.stX {f : D → Hh → RS} (rl : RL T α H σ τ) : ∀ {r : R D}, PostS T W α H D0 (r.stX σ f) → PostX T α H (fun v H1 => ∃ α1 M1 d, Ext α α1 H H1 ∧ RM T α1 M1 H1 ∧ RL T α1 H1 σ τ ∧ Rep T α1 H1 d v ∧ PostS T W α1 H1 D0 (f d M1)) (fun cls d H' => W cls d τ H') r
  | .ok d M', h => fun a1 h1 v e m r => ⟨a1, M', d, e, m, rl.ext e, r, PostS.ext e h⟩
  | .exc _ _, h => fun a1 h1 e m => h a1 h1 τ e m (rl.ext e)
  | .bad, h => h
theorem oneX (m : RM T α M H) (rl : RL T α H σ τ) {a : E} {f : D → Hh → RS} (h : PostS T W α H D0 ((evX G a σ M).stX σ f)) :
    tX T G W a τ H (fun v H1 => ∃ α1 M1 d, Ext α α1 H H1 ∧ RM T α1 M1 H1 ∧ RL T α1 H1 σ τ ∧ Rep T α1 H1 d v ∧ PostS T W α1 H1 D0 (f d M1)) := ⟨α, M, σ, m, rl, PostS.stX rl h⟩
theorem PostX.mono {Q Q' : VK} {E : XK} (h : ∀ v H, Q v H → Q' v H) : ∀ {r : R D}, PostX T α H Q E r → PostX T α H Q' E r
  | .ok d M', q => fun a1 h1 v e m r => h _ _ (q a1 h1 v e m r)
  | .exc _ _, q => q
  | .bad, q => q
theorem tX_mono {a : E} {Q Q' : VK} (h : ∀ v H, Q v H → Q' v H) : tX T G W a τ H Q → tX T G W a τ H Q' := fun ⟨α, M, σ, m, rl, q⟩ => ⟨α, M, σ, m, rl, q.mono h⟩
theorem s_exprX (ha : PE X x (tX T G W a)) (hs : notComp x = true) : PS X (.Expr x pos) (tS T W G (.exprX a)) :=
  (L2.ps_expr ha (comp_ok hs _ _ _)).imp fun D0 τ H ⟨α, M, σ, m, rl, q⟩ => by
    rw [evS] at q
    exact tX_mono (fun v H1 ⟨α1, M1, d, e, m1, rl1, r, q1⟩ => q1 α1 H1 τ Ext.refl m1 rl1) (oneX m rl q)
theorem s_retX (ha : PE X x (tX T G W a)) : PS X (.Return (some x) pos) (tS T W G (.retX a)) :=
  (L2.ps_ret ha).imp fun D0 τ H ⟨α, M, σ, m, rl, q⟩ => by
    rw [evS] at q
    exact tX_mono (fun v H1 ⟨α1, M1, d, e, m1, rl1, r, q1⟩ => q1 α1 H1 v Ext.refl m1 r) (oneX m rl q)
theorem s_ret (ha : PE X x (tE T G a)) : PS X (.Return (some x) pos) (tS T W G (.ret a)) :=
  (L2.ps_ret ha).imp fun D0 τ H ⟨α, M, σ, m, rl, q⟩ => by
    rw [evS] at q
    obtain ⟨α', M', σ', m', rl', q⟩ := oneS m rl q
    exact ⟨α', M', σ', m', rl', q.mono fun v H1 ⟨α1, M1, d, e, m1, rl1, r, q1⟩ => q1 α1 H1 v Ext.refl m1 r⟩
theorem s_retN : PS X (.Return none pos) (tS T W G (.ret .non)) :=
  L2.ps_retN.imp fun D0 τ H ⟨α, M, σ, m, rl, q⟩ => by
    rw [evS, evE] at q
    exact q α H .non Ext.refl m .non
theorem w_set {t : Mi.T} {K : PySem.W.Frag} (hK : T.K = K) (h : tS T W G (.set t a) D0 τ H) : tAsg (tE T G a) (gT K t) D0 τ H := by
  obtain ⟨α, M, σ, m, rl, q⟩ := h
  rw [evS] at q
  obtain ⟨α', M', σ', m', rl', q⟩ := oneS m rl q
  refine ⟨α', M', σ', m', rl', q.mono fun v H1 ⟨α1, M1, d, e, m1, rl1, r, q1⟩ => ?_⟩
  cases hb : t.bind d σ with
  | none => rw [hb] at q1; exact q1.elim
  | some σ1 =>
    rw [hb] at q1
    exact gT_of (vs := slots t) hK hb r rl1 (fun i h => h) fun τ1 rl2 _ => q1 α1 H1 τ1 Ext.refl m1 rl2
theorem each1 {tg : Expr} (h : notStar tg = true) : (assignEach [tg] X.env).map (·.2) = [assign tg X.env] := by
  cases tg <;> first | rfl | (simp [notStar] at h)
theorem s_set {t : Mi.T} {tg : Expr} (hK : T.K = X.K) (ha : PE X x (tE T G a)) (hg : PG X tg (gT X.K t)) (hs : swapsWith x (some tg) pos.line X.env = pure false) (hw : swappedStores [tg] x X.env = pure none) (hn : notStar tg = true) : PS X (.Assign [tg] x pos) (tS T W G (.set t a)) :=
  (L2.ps_asg ha hg hs hw (each1 hn)).imp fun D0 τ H h => w_set hK h
theorem s_setX {t : Mi.T} {tg : Expr} (hK : T.K = X.K) (ha : PE X x (tX T G W a)) (hg : PG X tg (gT X.K t)) (hs : swapsWith x (some tg) pos.line X.env = pure false) (hw : swappedStores [tg] x X.env = pure none) (hn : notStar tg = true) : PS X (.Assign [tg] x pos) (tS T W G (.setX t a)) :=
  (L2.ps_asg ha hg hs hw (each1 hn)).imp fun D0 τ H ⟨α, M, σ, m, rl, q⟩ => by
    rw [evS] at q
    refine tX_mono (fun v H1 ⟨α1, M1, d, e, m1, rl1, r, q1⟩ => ?_) (oneX m rl q)
    cases hb : t.bind d σ with
    | none => rw [hb] at q1; exact q1.elim
    | some σ1 =>
      rw [hb] at q1
      exact gT_of (vs := slots t) hK hb r rl1 (fun i h => h) fun τ1 rl2 _ => q1 α1 H1 τ1 Ext.refl m1 rl2
/-- two, three names at once -/
def setV : List Nat → List V → St → St
  | i :: is, v :: vs, τ => setV is vs (τ.set i (some v))
  | _, _, τ => τ
theorem setV_rl : ∀ (is : List Nat) (ds : List D) (vs : List V) (σ σ1 : Lo) (τ : St), setAll is ds σ = some σ1 → Reps T α H ds vs → RL T α H σ τ → vs.length = is.length ∧ RL T α H σ1 (setV is vs τ)
  | [], [], vs, σ, σ1, τ, h, rs, rl => by cases h; rw [rs.inv_nil]; exact ⟨rfl, rl⟩
  | i :: is, d :: ds, vs, σ, σ1, τ, h, rs, rl => by
    obtain ⟨v, us, rfl, r, rs⟩ := rs.inv_cons
    have := setV_rl is ds us (σ.set i (some d)) σ1 (τ.set i (some v)) h rs (rl.set r)
    exact ⟨by simp [this.1], this.2⟩
  | [], d :: ds, vs, σ, σ1, τ, h, rs, rl => by cases h
  | i :: is, [], vs, σ, σ1, τ, h, rs, rl => by cases h
theorem w_par {is : List Nat} {es : Es} (h : tS T W G (.set (.tup is) (.tup es)) D0 τ H) : tEs T G es τ H fun vs H1 => vs.length = is.length ∧ D0.nx (setV is vs τ) H1 := by
  obtain ⟨α, M, σ, m, rl, q⟩ := h
  rw [evS, evE] at q
  refine ⟨α, M, σ, m, rl, ?_⟩
  cases he : evEs G es σ M with
  | exc c M => rw [he] at q; exact q.elim
  | bad => rw [he] at q; exact q.elim
  | ok ds M1 =>
    rw [he, R.bind_ok, R.st_ok] at q
    intro α1 H1 vs e1 m1 rs
    cases hb : setAll is ds σ with
    | none => rw [show (Mi.T.tup is).bind (.tup ds) σ = setAll is ds σ from rfl, hb] at q; exact q.elim
    | some σ1 =>
      rw [show (Mi.T.tup is).bind (.tup ds) σ = setAll is ds σ from rfl, hb] at q
      obtain ⟨l, r⟩ := setV_rl is ds vs σ σ1 τ hb rs (rl.ext e1)
      exact ⟨l, q α1 H1 _ e1 m1 r⟩
theorem s_par2 {i j : Nat} {u v : Str} {px py pt pt2 : Pos} {kt k2 : Nat} {es : Es} (hc : X.calm = true) (hN : X.N.Nodup) (hi : X.N[i]? = some u) (hj : X.N[j]? = some v) (hij : i ≠ j) (hx : X.env.scope.names.lookup u = some .local) (hy : X.env.scope.names.lookup v = some .local)
    (ha : PA X [x, y] (tEs T G es)) (hw : swappedStores [.Tuple [.Name u px, .Name v py] kt pt] (.Tuple [x, y] k2 pt2) X.env = pure (some [u, v])) :
    PS X (.Assign [.Tuple [.Name u px, .Name v py] kt pt] (.Tuple [x, y] k2 pt2) pos) (tS T W G (.set (.tup [i, j]) (.tup es))) :=
  (L2.ps_par hc hN hi hj hij hx hy ha hw).imp fun D0 τ H h => by
    obtain ⟨α, M, σ, m, rl, q⟩ := w_par h
    refine ⟨α, M, σ, m, rl, q.mono fun vs H1 ⟨l, q1⟩ => ?_⟩
    match vs, l, q1 with
    | [v, w], _, q1 => exact ⟨v, w, rfl, q1⟩
theorem s_par3 {i j l : Nat} {u v w : Str} {px py pz pt pt2 : Pos} {kt k2 : Nat} {es : Es} (hc : X.calm = true) (hN : X.N.Nodup) (hi : X.N[i]? = some u) (hj : X.N[j]? = some v) (hl : X.N[l]? = some w) (hij : i ≠ j) (hil : i ≠ l) (hjl : j ≠ l)
    (hx : X.env.scope.names.lookup u = some .local) (hy : X.env.scope.names.lookup v = some .local) (hz : X.env.scope.names.lookup w = some .local)
    (ha : PA X [x, y, z] (tEs T G es)) (hw : swappedStores [.Tuple [.Name u px, .Name v py, .Name w pz] kt pt] (.Tuple [x, y, z] k2 pt2) X.env = pure (some [u, v, w])) :
    PS X (.Assign [.Tuple [.Name u px, .Name v py, .Name w pz] kt pt] (.Tuple [x, y, z] k2 pt2) pos) (tS T W G (.set (.tup [i, j, l]) (.tup es))) :=
  (L2.ps_par3 hc hN hi hj hl hij hil hjl hx hy hz ha hw).imp fun D0 τ H h => by
    obtain ⟨α, M, σ, m, rl, q⟩ := w_par h
    refine ⟨α, M, σ, m, rl, q.mono fun vs H1 ⟨l, q1⟩ => ?_⟩
    match vs, l, q1 with
    | [v, w, z], _, q1 => exact ⟨v, w, z, rfl, q1⟩
/-- how the stores of a tuple of names go -/
def swp (sc : Scope) (ts vs : List Expr) : Option (Option (List Str)) :=
  if (!(ts.length == 2 || ts.length == 3) || vs.length != ts.length) = true then some none
  else if (vs.any fun | .Starred .. => true | _ => false) = true then some none
  else
    let names := ts.filterMap fun
      | .Name id pos => if sc.names.lookup id == some .local && pos.line == (ts.head?.map (·.pos.line)).getD 0 then some id else none
      | _ => none
    if (names.length != ts.length || names.eraseDups.length != names.length) = true then some none
    else if vs.all (foldedForSure 8) = true then some none
    else if vs.all (constantsAlone 8) = true then none else some (some names)
theorem swp_ok {env : Env} {ts vs : List Expr} {k k2 : Nat} {p p2 : Pos} {o : Option (List Str)} (hk : env.blockKind = .function) (h : swp env.scope ts vs = some o) : swappedStores [.Tuple ts k p] (.Tuple vs k2 p2) env = pure o := by
  unfold swp at h
  unfold swappedStores
  show (if (!(ts.length == 2 || ts.length == 3) || vs.length != ts.length || env.blockKind != .function) = true then _ else _) = _
  rw [hk]
  have e : (ScopeKind.function != ScopeKind.function) = false := rfl
  rw [e, Bool.or_false]
  split at h
  · rename_i c
    cases h
    exact if_pos c
  · rename_i c
    refine (if_neg c).trans ?_
    split at h
    · rename_i c2
      cases h
      exact if_pos c2
    · rename_i c2
      refine (if_neg c2).trans ?_
      simp only at h
      split at h
      · rename_i c3
        cases h
        exact if_pos c3
      · rename_i c3
        refine (if_neg c3).trans ?_
        split at h
        · rename_i c4
          cases h
          exact if_pos c4
        · rename_i c4
          refine (if_neg c4).trans ?_
          split at h
          · cases h
          · rename_i c5
            cases h
            exact if_neg c5
end
end
end Mi
end
section
set_option Elab.async false
set_option linter.all false
set_option maxRecDepth 100000
/-! MiQ: statements: stores, tests, loops. -/
namespace Mi
open PySem PySem.Spec L2
section
variable {P : Pg} {T : Tb} {α α' α2 : Al} {H H' H2 : Hp} {M M' : Hh} {X : Cx} {G : Sg} {σ : Lo} {τ : St} {k : Nat} {D0 D1 : Ends} {W : WX}
theorem PostS.mono (hr : D1.rt = D0.rt) (hn : ∀ τ H, D0.nx τ H → D1.nx τ H) : ∀ {r : RS}, PostS T W α H D0 r → PostS T W α H D1 r
  | .nx σ M', h => fun a1 h1 τ e m r => hn _ _ (h a1 h1 τ e m r)
  | .rt d M', h => fun a1 h1 v e m r => by rw [hr]; exact h a1 h1 v e m r
  | .exc _ _ _, h => h
  | .bad, h => h
theorem PostS.seq {f : Lo → Hh → RS} {r : RS} (h : PostS T W α H D0 (r.then f)) :
    PostS T W α H { D0 with nx := fun τ H1 => ∃ α1 M1 σ1, Ext α α1 H H1 ∧ RM T α1 M1 H1 ∧ RL T α1 H1 σ1 τ ∧ PostS T W α1 H1 D0 (f σ1 M1) } r := by
  refine PostS.then (D0 := D0) ?_ ?_ h <;> rfl
section
variable {a b c : E} {x y z : Expr} {pos p apos : Pos} {i : Nat}
/-! ### x = [..] -/
def lcSwap (sc : Scope) (scope : Scope) (t : Str) (tp vp : Pos) : Bool := sc.names.lookup t == some .local && tp.line == vp.line && !(scope.names.any fun (n, k) => n == t && (k == .local || k == .cell))
theorem swl_ok {env : Env} {elt : Expr} {gens : List Comprehension} {scope : Scope} {vp tp : Pos} {t : Str} {n : Nat} (hk : env.blockKind = .function) :
    swapsWith (.ListComp elt gens scope vp) (some (.Name t tp)) n env = pure (lcSwap env.scope scope t tp vp) := by
  show (pure (env.blockKind == .function && env.kindOf t == some .local && tp.line == vp.line && !(scope.names.any fun (n, k) => n == t && (k == .local || k == .cell))) : Sem Bool) = _
  rw [hk]
  rfl
theorem s_setLc {y : Str} {py : Pos} {elt tg iter : Expr} {ifs : List Expr} {scope : Scope} {own : List Nat} {pos spos : Pos} {it : It} {t : Mi.T} {cc : Es} {ee : E} {mm : Bool} (hK : T.K = X.K) (hc : X.calm = true) (hN : X.N.Nodup) (hy : X.N[i]? = some y)
    (hk : X.env.blockKind = .function) (hsw : lcSwap X.env.scope scope y py pos = true) (hi : PI X tg iter (tI T G it)) (ok : blkB X.N X.env.scope scope own = true) (hsl : ∀ i ∈ slots t, i ∈ own) (hwk : weakIt it = true → manyT t = true)
    (hg : ∀ (s : Shared) (H : Hp) (C : Addr) (cl : List (Str × Addr)) (fp : List Addr), PG (X.blk s H scope (compEnvC scope cl C X.env) fp) tg (gT X.K t)) (ht : ∀ (s : Shared) (H : Hp) (C : Addr) (cl : List (Str × Addr)) (fp : List Addr), PTs (X.blk s H scope (compEnvC scope cl C X.env) fp) ifs (tCs T G cc))
    (he : ∀ (s : Shared) (H : Hp) (C : Addr) (cl : List (Str × Addr)) (fp : List Addr), PE (X.blk s H scope (compEnvC scope cl C X.env) fp) elt (tE T G ee)) (hs : ∀ x, foldedSetIterable iter X.env x = pure x) :
    PS X (.Assign [.Name y py] (.ListComp elt [⟨tg, iter, ifs, 0⟩] scope pos) spos) (tS T W G (.set (.name i) (.lc mm own t it cc ee))) := by
  have hl : X.env.scope.names.lookup y = some .local := by
    unfold lcSwap at hsw
    simp only [Bool.and_eq_true] at hsw
    simpa using hsw.1.1
  have := ps_setLc (pos := pos) (spos := spos) (py := py) hc hN hy hl (by rw [swl_ok hk, hsw]) hi (blk_ok ok) hg ht he hs
  rw [own_snd] at this
  refine this.imp fun D0 τ H h => ?_
  have h2 : tE T G (.lc mm own t it cc ee) τ H (fun v H1 => gName i v τ H1 D0.nx) := w_set (K := X.K) hK h
  exact w_lc hK hsl hwk h2
/-! ### tests -/
theorem PostS.test {f : Bool → Hh → RS} {r : R D} (h : PostS T W α H D0 (r.st σ fun d M1 => match d with | .bl k => f k M1 | _ => .bad)) :
    PostB T α H (fun b H1 => ∃ α1 M1, Ext α α1 H H1 ∧ RM T α1 M1 H1 ∧ PostS T W α1 H1 D0 (f b M1)) (r.bind asBool) := by
  cases r with
  | ok d M1 =>
    cases d with
    | bl c => exact fun α1 H1 e m1 => ⟨α1, M1, e, m1, PostS.ext e h⟩
    | _ => exact h.elim
  | exc c M => exact h.elim
  | bad => exact h.elim
theorem s_ite {as bs : List Stmt} {sa sb : Ss} (hc : PT X z (tT T G c)) (ha : PSs X as (tSs T W G sa)) (hb : PSs X bs (tSs T W G sb)) : PS X (.If z as bs pos) (tS T W G (.ite c sa sb)) :=
  (L2.ps_if hc ha hb).imp fun D0 τ H ⟨α, M, σ, m, rl, q⟩ => by
    rw [evS] at q
    have q := PostS.test (f := fun k M1 => if k then evSs G sa σ M1 else evSs G sb σ M1) q
    refine ⟨α, M, σ, m, rl, q.mono fun b H1 ⟨α1, M1, e1, m1, q1⟩ => ?_⟩
    cases b with
    | true => exact ⟨α1, M1, σ, m1, rl.ext e1, q1⟩
    | false => exact ⟨α1, M1, σ, m1, rl.ext e1, q1⟩
theorem ss_nil : PSs X [] (tSs T W G .nil) := L2.pss_nil.imp fun D0 τ H ⟨α, M, σ, m, rl, q⟩ => by rw [evSs] at q; exact q α H τ Ext.refl m rl
theorem ss_cons {st : Stmt} {r : List Stmt} {s : S} {ss : Ss} (h : PS X st (tS T W G s)) (hr : PSs X r (tSs T W G ss)) : PSs X (st :: r) (tSs T W G (.cons s ss)) :=
  (L2.pss_cons h hr).imp fun D0 τ H ⟨α, M, σ, m, rl, q⟩ => by
    rw [evSs] at q
    have q := PostS.seq q
    refine ⟨α, M, σ, m, rl, PostS.mono (by rfl) ?_ q⟩
    rintro τ H ⟨α1, M1, σ1, e, m1, r1, q1⟩
    exact ⟨α1, M1, σ1, m1, r1, q1⟩
/-! ### stores -/
theorem swap_sub {v x i : Expr} {p : Pos} {n : Nat} {env : Env} : swapsWith v (some (.Subscript x i p)) n env = pure false := by cases v <;> rfl
theorem swap_att {v x : Expr} {f : Str} {p : Pos} {n : Nat} {env : Env} : swapsWith v (some (.Attribute x f p)) n env = pure false := by cases v <;> rfl
def rSetX : TSet := fun o i v H Q => rSetL o i v H Q ∨ rSetD o i v H Q
theorem set_x (hu : X.A.units + 1 < cLine) : PSet X rSetX := fun pins s σ H o i v ov iv u Q I ro ri rv h => h.elim (set_list pins s σ H o i v ov iv u Q I ro ri rv) (set_dict hu pins s σ H o i v ov iv u Q I ro ri rv)
theorem s_setix {v : Expr} {vv : E} (hu : X.A.units + 1 < cLine) (ha : PE X x (tE T G a)) (hi : PE X y (tE T G b)) (hv : PE X v (tE T G vv)) (hs : notSlice y = true) :
    PS X (.Assign [.Subscript x y p] v pos) (tS T W G (.setix a b vv)) :=
  (L2.ps_asg hv (L2.pg_sub ha hi (set_x hu) (fun v => by cases y <;> first | rfl | (simp [notSlice] at hs))) (swap_sub : swapsWith v (some (.Subscript x y p)) pos.line X.env = pure false) rfl rfl).imp fun D0 τ H ⟨α, M, σ, m, rl, q⟩ => by
    rw [evS] at q
    obtain ⟨α', M', σ', m', rl', q⟩ := oneS m rl q
    refine ⟨α', M', σ', m', rl', q.mono fun v1 H1 ⟨α1, M1, d1, e1, m1, rl1, r1, q1⟩ => ?_⟩
    obtain ⟨α', M', σ', m', rl', q⟩ := oneS m1 rl1 q1
    refine ⟨α', M', σ', m', rl', q.mono fun v2 H2 ⟨α2, M2, d2, e2, m2, rl2, r2, q2⟩ => ?_⟩
    obtain ⟨α', M', σ', m', rl', q⟩ := oneS m2 rl2 q2
    refine ⟨α', M', σ', m', rl', q.mono fun v3 H3 ⟨α3, M3, d3, e3, m3, rl3, r3, q3⟩ => ?_⟩
    have r1 := (r1.ext e2).ext e3
    have r2 := r2.ext e3
    cases d2 with
    | ref j =>
      cases r2 with
      | ref h =>
        unfold setIx at q3
        dsimp only at q3
        cases hM : M3[j]? with
        | none => rw [hM] at q3; exact q3.elim
        | some o =>
          rw [hM] at q3
          cases o with
          | lst ds =>
            cases d3 with
            | int kk =>
              simp only at q3
              cases hj : ixN ds.length kk with
              | none => rw [hj] at q3; exact q3.elim
              | some jj =>
                rw [hj] at q3
                obtain ⟨vs, hH, rs⟩ := m3.obj j _ _ hM h
                cases r3
                refine .inl ⟨_, vs, kk, jj, rfl, rfl, hH, by rw [← rs.1]; exact hj, ?_⟩
                have e4 : Ext α3 α3 H3 (upd H3 _ (.lst (vs.set jj v1))) := Ext.set h (NoFr.of hH (fun _ _ z => nomatch z))
                exact q3 α3 _ τ e4 (m3.set h (NoFr.of hH (fun _ _ z => nomatch z)) ⟨_, upd_same, (rs.set jj r1).ext e4⟩) (rl3.ext e4)
            | _ => exact q3.elim
          | dict kvs =>
            simp only at q3
            split at q3
            · rename_i hc
              obtain ⟨ws, hH, rs⟩ := m3.obj j _ _ hM h
              have key : ∃ ky, v3 = kV ky ∧ d3 = keyD ky := by
                cases d3 with
                | int n => cases r3; exact ⟨.inl n, rfl, rfl⟩
                | str s => cases r3; exact ⟨.inr s, rfl, rfl⟩
                | _ => exact absurd hc.1 (by simp [isKey])
              obtain ⟨ky, rfl, rfl⟩ := key
              refine .inr ⟨_, _, rfl, DPut.k hH (by rw [sizeLine_eq, ← rs.1]; exact hc.2), ?_⟩
              have e4 : Ext α3 α3 H3 (upd H3 _ (.dK (putK ws ky v1))) := Ext.set h (NoFr.of hH (fun _ _ z => nomatch z))
              exact q3 α3 _ τ e4 (m3.set h (NoFr.of hH (fun _ _ z => nomatch z)) ⟨_, upd_same, (rs.put ky r1).ext e4⟩) (rl3.ext e4)
            · exact q3.elim
          | fz kvs => exact q3.elim
          | inst c fs => exact q3.elim
    | _ => exact q3.elim
theorem put_len (f : Str) (v : V) : ∀ gs : List (Str × V), (L2.putF f v gs).length ≤ gs.length + 1 ∧ (gs.lookup f ≠ none → (L2.putF f v gs).length = gs.length)
  | [] => ⟨by simp [L2.putF], fun h => by simp at h⟩
  | (g, x) :: r => by
    have ih := put_len f v r
    unfold L2.putF
    by_cases e : g = f
    · rw [if_pos e]; simp
    · rw [if_neg e]
      refine ⟨by simp [ih.1], fun h => ?_⟩
      have : (f == g) = false := beq_eq_false_iff_ne.mpr (Ne.symm e)
      rw [List.lookup_cons, this] at h
      simp [ih.2 h]
theorem put_lenD (k : Nat) (v : D) : ∀ fs : List (Nat × D), fs.length ≤ (putF k v fs).length ∧ (fs.lookup k = none → (putF k v fs).length = fs.length + 1)
  | [] => ⟨by simp [putF], fun h => by simp [putF]⟩
  | (g, x) :: r => by
    have ih := put_lenD k v r
    unfold putF
    by_cases e : g = k
    · rw [if_pos e]
      refine ⟨by simp, fun h => ?_⟩
      subst e
      rw [List.lookup_cons, beq_self_eq_true] at h; cases h
    · rw [if_neg e]
      refine ⟨by simp [ih.1], fun h => ?_⟩
      have : (k == g) = false := beq_eq_false_iff_ne.mpr (Ne.symm e)
      rw [List.lookup_cons, this] at h
      simp [ih.2 h]
theorem lookup_put (k g : Nat) (v : D) : ∀ fs : List (Nat × D), (putF k v fs).lookup g = if g = k then some v else fs.lookup g
  | [] => by
    unfold putF
    by_cases h : g = k
    · subst h; simp
    · rw [List.lookup_cons, beq_eq_false_iff_ne.mpr h, if_neg h]
  | (j, x) :: r => by
    unfold putF
    by_cases e : j = k
    · rw [if_pos e]
      subst e
      by_cases h : g = j
      · subst h; simp
      · rw [List.lookup_cons, List.lookup_cons, beq_eq_false_iff_ne.mpr h, if_neg h]
    · rw [if_neg e]
      rw [List.lookup_cons, List.lookup_cons]
      by_cases h : g = j
      · subst h
        rw [beq_self_eq_true, if_neg e]
      · rw [beq_eq_false_iff_ne.mpr h]
        exact lookup_put k g v r
theorem RepF.put (hi : ∀ i j, T.an i = T.an j → i = j) {fs : List (Nat × D)} {gs : List (Str × V)} (r : RepF T α H fs gs) {j : Nat} {d : D} {v : V} (q : Rep T α H d v) : RepF T α H (putF j d fs) (L2.putF (T.an j) v gs) := by
  obtain ⟨hz, g, hg, hn, hr⟩ := r
  refine ⟨?_, fun i => if i = j then v else g i, fun i e h => ?_, fun f hf => ?_, fun i e h => ?_⟩
  · cases h : fs.lookup j with
    | none =>
      have h1 := (put_len (T.an j) v gs).1
      have h2 := (put_lenD j d fs).2 h
      omega
    | some e =>
      have h1 := (put_len (T.an j) v gs).2 (by rw [hg j e h]; simp)
      have h2 := (put_lenD j d fs).1
      omega
  · rw [lookup_put] at h
    rw [L2.lookup_putF]
    by_cases e1 : i = j
    · subst e1; simp
    · rw [if_neg e1] at h
      rw [if_neg fun z => e1 (hi _ _ z)]
      simp only [if_neg e1]
      exact hg i e h
  · rw [L2.lookup_putF]
    have h1 : T.an j ≠ f := hf j d (by rw [lookup_put, if_pos rfl])
    rw [if_neg (Ne.symm h1)]
    refine hn f fun i e h => ?_
    by_cases e1 : i = j
    · subst e1; exact h1
    · exact hf i e (by rw [lookup_put, if_neg e1]; exact h)
  · rw [lookup_put] at h
    by_cases e1 : i = j
    · subst e1
      rw [if_pos rfl] at h
      simp only [if_true]
      cases h; exact q
    · rw [if_neg e1] at h
      simp only [if_neg e1]
      exact hr i e h
theorem s_setattr {v : Expr} {vv : E} {f : Str} {j : Nat} (hC : ∀ c, G.hc c = true → Cls X.K (T.ca c) ∧ NoAttr X.K (T.ca c) f) (hf : T.an j = f) (hi : ∀ i j, T.an i = T.an j → i = j)
    (ha : PE X x (tE T G a)) (hv : PE X v (tE T G vv)) : PS X (.Assign [.Attribute x f p] v pos) (tS T W G (.setattr a j vv)) :=
  (L2.ps_fld ha hv swap_att).imp fun D0 τ H ⟨α, M, σ, m, rl, q⟩ => by
    rw [evS] at q
    obtain ⟨α', M', σ', m', rl', q⟩ := oneS m rl q
    refine ⟨α', M', σ', m', rl', q.mono fun v1 H1 ⟨α1, M1, d1, e1, m1, rl1, r1, q1⟩ => ?_⟩
    obtain ⟨α', M', σ', m', rl', q⟩ := oneS m1 rl1 q1
    refine ⟨α', M', σ', m', rl', q.mono fun v2 H2 ⟨α2, M2, d2, e2, m2, rl2, r2, q2⟩ => ?_⟩
    have r1 := r1.ext e2
    unfold setAttr at q2
    split at q2
    · rename_i i
      split at q2
      · rename_i c fs hM
        split at q2
        · rename_i hc
          cases r2 with
          | ref h =>
            obtain ⟨dx, gs, hH, rF⟩ := m2.obj i _ _ hM h
            obtain ⟨h1, h2⟩ := hC c hc.1
            refine ⟨_, T.ca c, dx, gs, rfl, hH, h1, h2, by have := rF.1; omega, ?_⟩
            subst hf
            have e4 : Ext α2 α2 H2 (upd H2 _ (.ins (T.ca c) dx (L2.putF (T.an j) v1 gs))) := Ext.set h (NoFr.of hH (fun _ _ z => nomatch z))
            exact q2 α2 _ τ e4 (m2.set h (NoFr.of hH (fun _ _ z => nomatch z)) ⟨dx, _, upd_same, (rF.put hi r1).ext e4⟩) (rl2.ext e4)
        · exact q2.elim
      · exact q2.elim
    · exact q2.elim
end
end
end Mi
end
section
set_option Elab.async false
set_option linter.all false
set_option maxRecDepth 100000
/-! MiR: loops; the word for statements; a program. -/
namespace Mi
open PySem PySem.Spec L2
section
variable {P : Pg} {T : Tb} {α α' α2 : Al} {H H' H2 : Hp} {M M' : Hh} {X : Cx} {G : Sg} {σ : Lo} {τ : St} {k : Nat} {D0 D1 : Ends} {cs : Cs} {W : WX}
theorem s_for {t : Mi.T} {tg iter : Expr} {it : It} {body : List Stmt} {b : Ss} {pos : Pos} (hK : T.K = X.K) (hwk : weakIt it = true → manyT t = true) (hp : PassesOwn (model X.prog X.w) X.A X.env X.xe) (hc : X.calm = true) (hi : PI X tg iter (tI T G it)) (hg : PG X tg (gT X.K t)) (hb : PSs X body (tSs T W G b)) (hs : notSet iter = true) :
    PS X (.For tg iter body [] pos) (tS T W G (.for_ t it b)) :=
  (L2.ps_for hp hc hi hg hb (fold_ok hs _)).imp fun D0 τ H ⟨α, M, σ, m, rl, q⟩ => by
    rw [evS] at q
    refine ⟨α, M, σ, m, rl, ?_⟩
    cases hev : evIt G it σ M with
    | exc c M => rw [hev] at q; exact q.elim
    | bad => rw [hev] at q; exact q.elim
    | ok p M1 =>
      rw [hev] at q
      dsimp only at q
      intro α1 H1 J e1 m1 src
      have q := PostS.ext e1 q
      have rl1 := rl.ext e1
      refine ⟨fun i n τ H2 => n = p.1.length - i ∧ i ≤ p.1.length ∧ ∃ α2 M2 σ2, Lat T α1 H1 α2 H2 ∧ RM T α2 M2 H2 ∧ RL T α2 H2 σ2 τ ∧ PostS T W α2 H2 D0 (forL p.2 t (evSs G b) (p.1.drop i) σ2 M2), ⟨p.1.length, rfl, Nat.zero_le _, α1, M1, σ, Lat.refl, m1, rl1, by simpa using q⟩, ?_⟩
      rintro i n τ H2 ⟨rfl, hle, α2, M2, σ2, lat, m2, rl2, q2⟩
      have hlk : Locked p.2 M2 := by
        by_cases z : Locked p.2 M2
        · exact z
        · cases hd : p.1.drop i with
          | nil => rw [hd, forL, if_neg z] at q2; exact q2.elim
          | cons x xs => rw [hd, forL, if_neg z] at q2; exact q2.elim
      by_cases hlt : i < p.1.length
      · refine .inr ⟨src.go i α2 M2 H2 lat m2 hlk hlt, _, fun τ' H' h => h, fun x H3 hy => ?_⟩
        have hx : p.1[i]? = some p.1[i] := List.getElem?_eq_getElem hlt
        obtain ⟨e3, m3, r3⟩ := src.yld i _ α2 M2 H2 x H3 lat m2 hlk hx hy
        rw [List.drop_eq_getElem_cons hlt, forL, if_pos hlk] at q2
        cases hbd : t.bind p.1[i] σ2 with
        | none => rw [hbd] at q2; exact q2.elim
        | some σ3 =>
          rw [hbd] at q2
          dsimp only at q2
          refine gT_ofY (vs := slots t) hK hwk hbd r3 (rl2.ext e3) (fun i h => h) fun τ1 rl3 _ => ⟨α2, M2, σ3, m3, rl3, ?_⟩
          have q3 := PostS.seq (PostS.ext e3 q2)
          refine PostS.mono (by rfl) ?_ q3
          rintro τ' H' ⟨α4, M4, σ4, e4, m4, rl4, q4⟩
          exact ⟨_, by omega, rfl, by omega, α4, M4, σ4, lat.trans (e3.trans e4).lat, m4, rl4, q4⟩
      · have ei : i = p.1.length := by omega
        refine .inl ⟨src.stop i α2 M2 H2 lat m2 hlk ei.symm, ?_⟩
        rw [ei, List.drop_length, forL, if_pos hlk] at q2
        exact q2 α2 H2 τ Ext.refl m2 rl2
theorem s_while {c : E} {z : Expr} {body : List Stmt} {b : Ss} {pos : Pos} (hp : PassesOwn (model X.prog X.w) X.A X.env X.xe) (hc : PT X z (tT T G c)) (hb : PSs X body (tSs T W G b)) : PS X (.While z body [] pos) (tS T W G (.while_ c b)) :=
  (L2.ps_while hp hc hb).imp fun D0 τ H ⟨α, M, σ, m, rl, q⟩ => by
    rw [evS] at q
    refine ⟨fun n τ H2 => ∃ α2 M2 σ2, RM T α2 M2 H2 ∧ RL T α2 H2 σ2 τ ∧ PostS T W α2 H2 D0 (whL (fun σ1 M1 => (evE G c σ1 M1).bind fun d M2 => asBool d M2) (evSs G b) n σ2 M2), ⟨G.wh, α, M, σ, m, rl, q⟩, ?_⟩
    rintro n τ H2 ⟨α2, M2, σ2, m2, rl2, q2⟩
    cases n with
    | zero => rw [whL] at q2; exact q2.elim
    | succ n =>
      rw [whL] at q2
      refine ⟨α2, M2, σ2, m2, rl2, ?_⟩
      show PostB T α2 H2 _ ((evE G c σ2 M2).bind fun d M2 => asBool d M2)
      cases hev : (evE G c σ2 M2).bind fun d M2 => asBool d M2 with
      | exc c M => rw [hev] at q2; exact q2.elim
      | bad => rw [hev] at q2; exact q2.elim
      | ok k M3 =>
        rw [hev] at q2
        dsimp only at q2
        intro α3 H3 e3 m3
        have q3 := PostS.ext e3 q2
        cases k with
        | true =>
          simp only [if_true] at q3 ⊢
          refine ⟨_, fun τ' H' h => h, α3, M3, σ2, m3, rl2.ext e3, ?_⟩
          have q4 := PostS.seq q3
          refine PostS.mono (by rfl) ?_ q4
          rintro τ' H' ⟨α4, M4, σ4, e4, m4, rl4, q4⟩
          exact ⟨n, Nat.lt_succ_self n, α4, M4, σ4, m4, rl4, q4⟩
        | false =>
          simp only [Bool.false_eq_true, if_false] at q3 ⊢
          exact q3 α3 H3 τ Ext.refl m3 (rl2.ext e3)

/-! ### the check of statements -/
def tgPlain : Expr → Bool
  | .Name _ _ => true
  | .Tuple _ _ _ => true
  | _ => false
def isCall : E → Bool
  | .call _ _ _ => true
  | .meth _ _ _ _ => true
  | _ => false
/-- the suite of an except -/
def suB (N : List Str) (sc : Scope) (nm : Option Str) (n : Option Nat) (j : Nat) (v : SV) (w : Expr) : Bool := match v with
  | .exn => (match nm, n, w with
    | some z, some i, .Name z2 _ => okName z && (z == z2) && (N[i]? == some z) && (sc.names.lookup z == some .local) && decide (i ≠ j)
    | _, _, _ => false)
  | .non => (match nm, n, w with | none, none, .Constant .none _ _ => true | _, _, _ => false)
  | .bl b => (match nm, n, w with | none, none, .Constant (.bool b2) _ _ => b == b2 | _, _, _ => false)
mutual
def chkS (cs : Cs) (N : List Str) (sc : Scope) : S → Stmt → Bool
  | .expr e, s => match s with | .Expr x _ => notComp x && chkE cs N sc e x | _ => false
  | .set t e, s => match s with
    | .Assign [tg] v p =>
      (match tg, v with
        | .Name y py, .ListComp _ _ scope vp => if lcSwap sc scope y py vp = true then (match t, e with | .name i, .lc _ _ _ _ _ _ => (N[i]? == some y) && chkE cs N sc e v | _, _ => false) else chkTg N sc (fun _ => true) t tg && chkE cs N sc e v
        | .Tuple ts _ _, .Tuple vs _ _ => (match swp sc ts vs with
          | none => false
          | some none => chkTg N sc (fun _ => true) t tg && chkE cs N sc e v
          | some (some _) => (match t, e with
            | .tup [i, j], .tup es => (match ts with | [.Name x _, .Name y _] => (match vs with | [_, _] => (swp sc ts vs == some (some [x, y])) && (N[i]? == some x) && (N[j]? == some y) && decide (i ≠ j) && sc.names.lookup x == some .local && sc.names.lookup y == some .local && chkEs cs N sc es vs | _ => false) | _ => false)
            | .tup [i, j, l], .tup es => (match ts with | [.Name x _, .Name y _, .Name z _] => (match vs with | [_, _, _] => (swp sc ts vs == some (some [x, y, z])) && (N[i]? == some x) && (N[j]? == some y) && (N[l]? == some z) && decide (i ≠ j) && decide (i ≠ l) && decide (j ≠ l) && sc.names.lookup x == some .local && sc.names.lookup y == some .local && sc.names.lookup z == some .local && chkEs cs N sc es vs | _ => false) | _ => false)
            | _, _ => false))
        | tg, v => tgPlain tg && notComp v && chkTg N sc (fun _ => true) t tg && chkE cs N sc e v)
    | _ => false
  | .setix a i v, s => match s with | .Assign [.Subscript x y _] w _ => notSlice y && chkE cs N sc a x && chkE cs N sc i y && chkE cs N sc v w | _ => false
  | .setattr a j v, s => match s with | .Assign [.Attribute x f _] w _ => (cs.ats.lookup f == some j) && chkE cs N sc a x && chkE cs N sc v w | _ => false
  | .ret e, s => match s with
    | .Return (some x) _ => chkE cs N sc e x
    | .Return none _ => (match e with | .non => true | _ => false)
    | _ => false
  | .ite c a b, s => match s with | .If z as bs _ => chkE cs N sc c z && chkSs cs N sc a as && chkSs cs N sc b bs | _ => false
  | .for_ t it b, s => match s with | .For tg iter body [] _ => notSet iter && chkIt cs N sc tg it iter && chkTg N sc (fun _ => true) t tg && chkSs cs N sc b body | _ => false
  | .while_ c b, s => match s with | .While z body [] _ => chkE cs N sc c z && chkSs cs N sc b body | _ => false
  | .raise c, s => match s with | .Raise (some (.Call (.Name n _) [.Constant (.str _) _ _] [] _)) none _ => okName n && glB sc n && (cs.xc.lookup n == some c) | _ => false
  | .exprX e, s => match s with | .Expr x _ => notComp x && (isCall e && chkE cs N sc e x) | _ => false
  | .setX t e, s => match s with
    | .Assign [.Name y py] (.Call f ys [] q) _ => chkTg N sc (fun _ => true) t (.Name y py) && (isCall e && chkE cs N sc e (.Call f ys [] q))
    | _ => false
  | .retX e, s => match s with | .Return (some x) _ => isCall e && chkE cs N sc e x | _ => false
  | .try_ b c n j v, s => match s with
    | .Try body [.ExceptHandler (some (.Name x _)) nm [.Assign [.Name y _] w _] _] [] [] _ =>
      (okName x && glB sc x && (cs.xc.lookup x == some c) && (N[j]? == some y) && (sc.names.lookup y == some .local)) && chkSs cs N sc b body && suB N sc nm n j v w
    | _ => false
  | .wipe _, _ => false
  | .pass, s => match s with | .Pass _ => true | .Expr (.Constant (.str _) _ _) _ => true | _ => false
def chkSs (cs : Cs) (N : List Str) (sc : Scope) : Ss → List Stmt → Bool
  | .nil, l => match l with | [] => true | _ => false
  | .cons s r, l => match s with
    | .wipe _ => chkSs cs N sc r l
    | s => (match l with | st :: l => chkS cs N sc s st && chkSs cs N sc r l | [] => false)
end
end
end Mi
end
section
set_option Elab.async false
set_option linter.all false
set_option maxRecDepth 100000
/-! MiS: the evaluator's word for statements, for functions. -/
namespace Mi
open PySem PySem.Spec L2
variable {P : Pg} {T : Tb} {cs : Cs} {k : Nat}
/-- where a def's statements run -/
structure WldS (P : Pg) (T : Tb) (cs : Cs) (k : Nat) (X : Cx) : Prop where
  w : Wld P T cs k X
  fn : ∀ x, X.fn x = true
  own : PassesOwn (model X.prog X.w) X.A X.env X.xe
  kind : X.env.blockKind = .function
  inj : ∀ i j, T.an i = T.an j → i = j
  hs : X.stack = X.env :: X.outer
  hf : X.env.frame = some X.env.locals
  ex : X.ex = []
theorem WldS.tr {X : Cx} (W : WldS P T cs k X) {pn : List (Addr × Obj)} {xe : Value → Shared → Prop} (own : PassesOwn (model X.prog X.w) X.A X.env xe) : WldS P T cs k (X.tr pn xe) :=
  ⟨W.w.tr pn xe, W.fn, own, W.kind, W.inj, W.hs, W.hf, W.ex⟩
theorem RL.gone {α : Al} {H : Hp} {σ : Lo} {τ : St} (rl : RL T α H σ τ) (i : Nat) : RL T α H (σ.set i none) (τ.set i none) := by
  refine ⟨by simp [rl.1], fun k d h => ?_⟩
  by_cases e : i = k
  · subst e
    rw [List.getElem?_set] at h
    simp at h
  · rw [List.getElem?_set_ne e] at h ⊢
    exact rl.2 k d h
theorem sndX {X : Cx} {W : WX} (tk : Takes X W) (w : Wld P T cs k X) : ∀ (e : E) (x : Expr), (isCall e && chkE cs X.N X.env.scope e x) = true → PE X x (tX T (sig P k) W e)
  | .call f keep es, x, h => by
    rw [Bool.and_eq_true] at h
    obtain ⟨_, h⟩ := h
    unfold chkE at h; split at h
    · simp only [Bool.and_eq_true] at h
      obtain ⟨⟨⟨⟨h1, h2⟩, h3⟩, h4⟩, h5⟩ := h
      obtain ⟨hm, hk, hF⟩ := w.fn _ f (by simpa using h3)
      exact e_callX (keep := keep) tk hF w.room h2 h1 hm hk (sndEs es X _ w h5) h4 (es_nil h5)
    · cases h
  | .meth j keep o es, x, h => by
    rw [Bool.and_eq_true] at h
    obtain ⟨_, h⟩ := h
    unfold chkE at h; split at h
    · simp only [Bool.and_eq_true, decide_eq_true_eq] at h
      obtain ⟨⟨⟨⟨⟨⟨h1, h2⟩, h3⟩, h4⟩, h5⟩, h6⟩, h7⟩ := h
      obtain ⟨hmn, hM⟩ := w.me _ j (by simpa using h3)
      exact e_methX (keep := keep) tk hM hmn w.room (sndE o X _ w h6).1 h1 h2 h4 (sndEs es X _ w h7) h5 (es_nil h7)
    · cases h
  | .var _, _, h => by cases h
  | .int _, _, h => by cases h
  | .str _, _, h => by cases h
  | .bl _, _, h => by cases h
  | .non, _, h => by cases h
  | .con _, _, h => by cases h
  | .kd _ _, _, h => by cases h
  | .tup _, _, h => by cases h
  | .lst _ _, _, h => by cases h
  | .dct _ _, _, h => by cases h
  | .not _, _, h => by cases h
  | .and _ _, _, h => by cases h
  | .or _ _, _, h => by cases h
  | .ite _ _ _, _, h => by cases h
  | .neg _, _, h => by cases h
  | .bin _ _ _ _, _, h => by cases h
  | .cmp _ _ _, _, h => by cases h
  | .chain _ _ _ _ _, _, h => by cases h
  | .isnon _, _, h => by cases h
  | .notnon _, _, h => by cases h
  | .isbl _ _ _, _, h => by cases h
  | .b1 _ _ _, _, h => by cases h
  | .b2 _ _ _, _, h => by cases h
  | .isi _ _, _, h => by cases h
  | .ix _ _, _, h => by cases h
  | .slice _ _ _ _, _, h => by cases h
  | .lc _ _ _ _ _ _, _, h => by cases h
  | .mk _ _ _, _, h => by cases h
  | .attr _ _, _, h => by cases h
  | .bm _ _ _, _, h => by cases h
  | .rev _ _, _, h => by cases h
  | .isx _ _, _, h => by cases h
section
variable {X : Cx} {W : WX} {b : Ss} {body : List Stmt} {c i j : Nat} {x y z : Str} {np p1 p2 p3 p4 pos : Pos}
/-- the wish of a try's body -/
theorem try_w {W' : WX} {D0 : Ends} {α : Al} {H : Hp} {M : Hh} {σ : Lo} {n : Option Nat} {v : SV}
    (h1 : ∀ c' σ1 M1 α1 H1 τ1, (P.xs c').contains c' = true → Ext α α1 H H1 → RM T α1 M1 H1 → RL T α1 H1 σ1 τ1 → (P.xs c').contains c = true → ∀ σ2, suite c' n j v σ1 = some σ2 → PostS T W α H D0 (.nx σ2 M1) → W' (.ref (T.ca c')) none τ1 H1)
    (h2 : ∀ c' τ1 H1, (P.xs c').contains c' = true → (P.xs c').contains c = false → W (.ref (T.ca c')) none τ1 H1 → W' (.ref (T.ca c')) none τ1 H1)
    (q : PostS T W α H D0 (evS (sig P k) (.try_ b c n j v) σ M)) : PostS T W' α H D0 (evSs (sig P k) b σ M) := by
  rw [evS] at q
  cases hev : evSs (sig P k) b σ M with
  | nx σ1 M1 => rw [hev] at q; exact q
  | rt d M1 => rw [hev] at q; exact q
  | bad => rw [hev] at q; exact q.elim
  | exc c' σ1 M1 =>
    rw [hev] at q
    dsimp only at q
    have ex : (sig P k).xs = P.xs := rfl
    rw [ex] at q
    split at q
    · rename_i hc'
      intro α1 H1 τ1 e1 m1 rl1
      by_cases hb : (P.xs c').contains c = true
      · rw [if_pos hb] at q
        cases hs : suite c' n j v σ1 with
        | none => rw [hs] at q; exact q.elim
        | some σ2 =>
          rw [hs] at q
          exact h1 c' σ1 M1 α1 H1 τ1 hc' e1 m1 rl1 hb σ2 hs q
      · rw [if_neg hb] at q
        have hb : (P.xs c').contains c = false := by simpa using hb
        exact h2 c' τ1 H1 hc' hb (q α1 H1 τ1 e1 m1 rl1)
    · exact q.elim
end
theorem swap_tup {vs : List Expr} {k2 : Nat} {p2 : Pos} {tg : Option Expr} {n : Nat} {env : Env} : swapsWith (.Tuple vs k2 p2) tg n env = pure false := rfl
theorem swapped_name {x : Str} {p : Pos} {v : Expr} {env : Env} : swappedStores [.Name x p] v env = pure none := rfl
theorem swapped_not {ts : List Expr} {k : Nat} {p : Pos} {v : Expr} {env : Env} (h : ∀ vs k2 p2, v ≠ .Tuple vs k2 p2) : swappedStores [.Tuple ts k p] v env = pure none := by
  cases v <;> first | rfl | exact absurd rfl (h _ _ _)
theorem wipe_some : ∀ (vs : List Nat) (σ : Lo) (i : Nat) (d : D), (Mi.wipe σ vs)[i]? = some (some d) → σ[i]? = some (some d)
  | [], σ, i, d, h => h
  | v :: vs, σ, i, d, h => by
    rw [Mi.wipe, List.getElem?_set] at h
    split at h
    · split at h <;> cases h
    · exact wipe_some vs σ i d h
theorem wipe_len : ∀ (vs : List Nat) (σ : Lo), (Mi.wipe σ vs).length = σ.length
  | [], σ => rfl
  | v :: vs, σ => by rw [Mi.wipe, List.length_set, wipe_len vs σ]
theorem RL.less {α : Al} {H : Hp} {σ : Lo} {τ : St} (rl : RL T α H σ τ) (vs : List Nat) : RL T α H (Mi.wipe σ vs) τ := ⟨by rw [wipe_len]; exact rl.1, fun i d h => rl.2 i d (wipe_some vs σ i d h)⟩
theorem ss_wipe {X : Cx} {W : WX} {is : List Nat} {r : Ss} {l : List Stmt} (h : PSs X l (tSs T W (sig P k) r)) : PSs X l (tSs T W (sig P k) (.cons (.wipe is) r)) := h.imp fun D0 τ H ⟨α, M, σ, m, rl, q⟩ => by
  rw [evSs, evS, RS.then_nx] at q
  exact ⟨α, M, Mi.wipe σ is, m, rl.less is, q⟩
mutual
theorem sndS : ∀ (s : S) (X : Cx) (W0 : WX) (st : Stmt), Takes X W0 → WldS P T cs k X → chkS cs X.N X.env.scope s st = true → PS X st (tS T W0 (sig P k) s)
  | .expr e, X, W0, st, tk, W, h => by
    unfold chkS at h; split at h
    · simp only [Bool.and_eq_true] at h
      exact s_expr (sndE e X _ W.w h.2).1 h.1
    · cases h
  | .set t e, X, W0, st, tk, W, h => by
    have tgt : ∀ {tg : Expr}, chkTg X.N X.env.scope (fun _ => true) t tg = true → PG X tg (gT X.K t) := fun {tg} h => pg_of W.w.calm W.w.nd W.fn h
    unfold chkS at h; split at h
    · split at h
      · rename_i y py elt gens scope vp
        split at h
        · rename_i hsw
          split at h
          · rename_i i mm own t2 it c elt2
            rw [Bool.and_eq_true] at h
            obtain ⟨h0, h⟩ := h
            have W' := W.w
            unfold chkE at h; split at h
            · rename_i hq
              cases hq
              rename_i _ tg iter ifs as_
              simp only [Bool.and_eq_true] at h
              obtain ⟨⟨⟨⟨⟨⟨⟨h1, h2⟩, h3⟩, h4⟩, h5⟩, h6⟩, h7⟩, h8⟩ := h
              obtain rfl : as_ = 0 := by simpa using h1
              have hsl : ∀ i ∈ slots t2, i ∈ own := fun i hi => List.contains_iff_mem.mp (List.all_eq_true.mp h5 i hi)
              refine s_setLc W'.hK W'.calm W'.nd (by simpa using h0) W.kind hsw (sndIt it X _ _ W' h4) h2 hsl (weak_tg h4 h6) (fun s H C cl fp => pg_of (X := X.blk s H scope (compEnvC scope cl C X.env) fp) (fnb := fnC scope) W'.calm W'.nd (fun _ => rfl) h6)
                (fun s H C cl fp => ?_) (fun s H C cl fp => (sndE elt2 (X.blk s H scope (compEnvC scope cl C X.env) fp) _ (W'.blk ..) h8).1) (fold_ok h3 _)
              split at h7
              · split at h7
                · exact c_nil
                · cases h7
              · exact sndC c (X.blk s H scope (compEnvC scope cl C X.env) fp) _ (W'.blk ..) h7
              · cases h7
            · cases h
          · cases h
        · rename_i hsw
          rw [Bool.and_eq_true] at h
          have hsw : lcSwap X.env.scope scope y py vp = false := by simpa using hsw
          exact s_set W.w.hK (sndE e X _ W.w h.2).1 (tgt h.1) (by rw [swl_ok W.kind, hsw]) swapped_name rfl
      · rename_i ts _ _ vs _ _
        split at h
        · cases h
        · rename_i hw
          rw [Bool.and_eq_true] at h
          exact s_set W.w.hK (sndE e X _ W.w h.2).1 (tgt h.1) swap_tup (swp_ok W.kind hw) rfl
        · split at h
          · rename_i i j es
            split at h
            · split at h
              · simp only [Bool.and_eq_true, decide_eq_true_eq] at h
                obtain ⟨⟨⟨⟨⟨⟨h1, h2⟩, h3⟩, h4⟩, h5⟩, h6⟩, h7⟩ := h
                exact s_par2 W.w.calm W.w.nd (by simpa using h2) (by simpa using h3) h4 (by simpa using h5) (by simpa using h6) (sndEs es X _ W.w h7) (swp_ok W.kind (by simpa using h1))
              · cases h
            · cases h
          · rename_i i j l es
            split at h
            · split at h
              · simp only [Bool.and_eq_true, decide_eq_true_eq] at h
                obtain ⟨⟨⟨⟨⟨⟨⟨⟨⟨⟨h1, h2⟩, h3⟩, h4⟩, h5⟩, h6⟩, h7⟩, h8⟩, h9⟩, h10⟩, h11⟩ := h
                exact s_par3 W.w.calm W.w.nd (by simpa using h2) (by simpa using h3) (by simpa using h4) h5 h6 h7 (by simpa using h8) (by simpa using h9) (by simpa using h10) (sndEs es X _ W.w h11) (swp_ok W.kind (by simpa using h1))
              · cases h
            · cases h
          · cases h
      · rename_i tg v p _ _ hn1 hn2
        simp only [Bool.and_eq_true] at h
        obtain ⟨⟨⟨h1, h2⟩, h3⟩, h4⟩ := h
        refine s_set W.w.hK (sndE e X _ W.w h4).1 (tgt h3) (comp_ok h2 _ _ _) ?_ ?_
        · cases tg with
          | Name x p => exact swapped_name
          | Tuple ts k p => exact swapped_not fun vs k2 p2 e => hn2 ts k p vs k2 p2 rfl e
          | _ => simp [tgPlain] at h1
        · cases tg with
          | Name x p => rfl
          | Tuple ts k p => rfl
          | _ => simp [tgPlain] at h1
    · cases h
  | .setix a i v, X, W0, st, tk, W, h => by
    unfold chkS at h; split at h
    · simp only [Bool.and_eq_true] at h
      have hu : X.A.units + 1 < cLine := by have := W.w.u67; omega
      exact s_setix hu (sndE a X _ W.w h.1.1.2).1 (sndE i X _ W.w h.1.2).1 (sndE v X _ W.w h.2).1 h.1.1.1
    · cases h
  | .setattr a j v, X, W0, st, tk, W, h => by
    unfold chkS at h; split at h
    · simp only [Bool.and_eq_true] at h
      obtain ⟨hf, hC⟩ := W.w.at_ _ j (by simpa using h.1.1)
      exact s_setattr hC hf W.inj (sndE a X _ W.w h.1.2).1 (sndE v X _ W.w h.2).1
    · cases h
  | .ret e, X, W0, st, tk, W, h => by
    unfold chkS at h; split at h
    · exact s_ret (sndE e X _ W.w h).1
    · split at h
      · exact s_retN
      · cases h
    · cases h
  | .ite c a b, X, W0, st, tk, W, h => by
    unfold chkS at h; split at h
    · simp only [Bool.and_eq_true] at h
      exact s_ite (sndE c X _ W.w h.1.1).2 (sndSs a X W0 _ tk W h.1.2) (sndSs b X W0 _ tk W h.2)
    · cases h
  | .for_ t it b, X, W0, st, tk, W, h => by
    unfold chkS at h; split at h
    · simp only [Bool.and_eq_true] at h
      exact s_for W.w.hK (weak_tg h.1.1.2 h.1.2) W.own W.w.calm (sndIt it X _ _ W.w h.1.1.2) (pg_of W.w.calm W.w.nd W.fn h.1.2) (sndSs b X W0 _ tk W h.2) h.1.1.1
    · cases h
  | .while_ c b, X, W0, st, tk, W, h => by
    unfold chkS at h; split at h
    · simp only [Bool.and_eq_true] at h
      exact s_while W.own (sndE c X _ W.w h.1).2 (sndSs b X W0 _ tk W h.2)
    · cases h
  | .raise c, X, W0, st, tk, W, h => by
    unfold chkS at h; split at h
    · simp only [Bool.and_eq_true] at h
      obtain ⟨⟨h1, h2⟩, h3⟩ := h
      exact s_raise (xc := cs.xc) W.w.calm tk (W.w.xc _ c (by simpa using h3)) h2 h1
    · cases h
  | .exprX e, X, W0, st, tk, W, h => by
    unfold chkS at h; split at h
    · rw [Bool.and_eq_true] at h
      exact s_exprX (sndX tk W.w e _ h.2) h.1
    · cases h
  | .setX t e, X, W0, st, tk, W, h => by
    unfold chkS at h; split at h
    · rw [Bool.and_eq_true] at h
      exact s_setX W.w.hK (sndX tk W.w e _ h.2) (pg_of W.w.calm W.w.nd W.fn h.1) rfl swapped_name rfl
    · cases h
  | .retX e, X, W0, st, tk, W, h => by
    unfold chkS at h; split at h
    · exact s_retX (sndX tk W.w e _ h)
    · cases h
  | .try_ b c n j v, X, W0, st, tk, W, h => by
    unfold chkS at h; split at h
    · rename_i body x np nm y p1 w p3 p4 pos
      simp only [Bool.and_eq_true] at h
      obtain ⟨⟨⟨⟨⟨⟨h1, h2⟩, h3⟩, h4⟩, h5⟩, h6⟩, h7⟩ := h
      have h3 : cs.xc.lookup x = some c := by simpa using h3
      have hj : X.N[j]? = some y := by simpa using h4
      have hl : X.env.scope.names.lookup y = some .local := by simpa using h5
      have C := W.w.xc x c h3
      have nm_ : Names X x (.ref (T.ca c)) := ⟨glB_ok h2, (okName_d h1).1, .inl C.mg⟩
      have hb : ∀ (W1 : WX) (pn : List (Addr × Obj)) (xe : Value → Shared → Prop), Takes (X.tr pn xe) W1 → PassesOwn (model X.prog X.w) X.A X.env xe → PSs (X.tr pn xe) body (tSs T W1 (sig P k) b) := fun W1 pn xe tk1 own => sndSs b (X.tr pn xe) W1 _ tk1 (W.tr own) h6
      unfold suB at h7
      cases v with
      | exn =>
        dsimp only at h7
        split at h7
        · rename_i _ _ _ z i z2 p2
          simp only [Bool.and_eq_true, decide_eq_true_eq] at h7
          obtain ⟨⟨⟨⟨k1, k2⟩, k3⟩, k4⟩, k5⟩ := h7
          obtain rfl := eq_of_beq k2
          have hi : X.N[i]? = some z := by simpa using k3
          have hlz : X.env.scope.names.lookup z = some .local := by simpa using k4
          refine (ps_try_kept (tb := fun W1 => tSs T W1 (sig P k) b) W.hs W.ex W.hf W.w.nd hi hlz hj hl k5 nm_ tk hb ?_).imp fun D0 τ H ⟨α, M, σ, m, rl, q⟩ => ?_
          · intro a pn
            refine (L2.ps_set (X := X.suite a pn) W.w.nd hj (.inl hl) (L2.pe_var (X := X.suite a pn) (i := i) hi (.inl hlz) (okName_d k1).1 (okName_d k1).2.1) (by rfl) (.inr hl)).imp fun D0 τ H q => ?_
            exact ⟨_, q.1, q.2⟩
          · refine ⟨α, M, σ, m, rl, try_w (fun c' σ1 M1 α1 H1 τ1 hc' e1 m1 rl1 hcc σ2 hs q2 => ?_) (fun c' τ1 H1 hc' hcc q2 => ?_) q⟩
            · refine ⟨true, by rw [W.w.xk.exm c' x c hc' h3, hcc], fun _ => ⟨rfl, fun a ha => ?_⟩, fun z => absurd z.symm Bool.false_ne_true⟩
              unfold suite at hs
              dsimp only at hs
              rw [if_neg k5] at hs
              obtain rfl := Option.some.inj hs
              have r : Rep T α1 (upd H1 a (ExA (.ref (T.ca c')) a)) (.fn c') (.ref a) := .fn upd_same (m1.fresh ha)
              exact q2 α1 _ _ (e1.trans (Ext.laid ha)) (m1.laid ha) ((((rl1.ext (Ext.laid ha)).set r).set r).gone i)
            · exact ⟨false, by rw [W.w.xk.exm c' x c hc' h3, hcc], fun z => absurd z Bool.false_ne_true, fun _ => q2⟩
        · cases h7
      | non =>
        dsimp only at h7
        split at h7
        · refine (ps_try_only (c := .ref (T.ca c)) (tb := fun W1 => tSs T W1 (sig P k) b) (ts := fun _ _ _ => fun D σ H => D.nx (σ.set j (some .non)) H) W.hs W.hf nm_ tk hb ?_).imp fun D0 τ H ⟨α, M, σ, m, rl, q⟩ => ?_
          · intro a oe cls d pn _ _
            exact pss_one ((L2.ps_set (X := X.suite a ((a, oe) :: pn)) W.w.nd hj (.inl hl) L2.pe_non (by rfl) (.inr hl)).imp fun D0 τ H q => q)
          · refine ⟨α, M, σ, m, rl, try_w (fun c' σ1 M1 α1 H1 τ1 hc' e1 m1 rl1 hcc σ2 hs q2 => ?_) (fun c' τ1 H1 hc' hcc q2 => ?_) q⟩
            · refine ⟨true, by rw [W.w.xk.exm c' x c hc' h3, hcc], fun _ a ha => ?_, fun z => absurd z.symm Bool.false_ne_true⟩
              obtain rfl := Option.some.inj hs
              exact q2 α1 H1 _ e1 m1 (rl1.set .non)
            · exact ⟨false, by rw [W.w.xk.exm c' x c hc' h3, hcc], fun z => absurd z Bool.false_ne_true, fun _ => q2⟩
        · cases h7
      | bl b0 =>
        dsimp only at h7
        split at h7
        · obtain rfl := eq_of_beq h7
          refine (ps_try_only (c := .ref (T.ca c)) (tb := fun W1 => tSs T W1 (sig P k) b) (ts := fun _ _ _ => fun D σ H => D.nx (σ.set j (some (.bl b0))) H) W.hs W.hf nm_ tk hb ?_).imp fun D0 τ H ⟨α, M, σ, m, rl, q⟩ => ?_
          · intro a oe cls d pn _ _
            exact pss_one ((L2.ps_set (X := X.suite a ((a, oe) :: pn)) W.w.nd hj (.inl hl) L2.pe_bl (by rfl) (.inr hl)).imp fun D0 τ H q => q)
          · refine ⟨α, M, σ, m, rl, try_w (fun c' σ1 M1 α1 H1 τ1 hc' e1 m1 rl1 hcc σ2 hs q2 => ?_) (fun c' τ1 H1 hc' hcc q2 => ?_) q⟩
            · refine ⟨true, by rw [W.w.xk.exm c' x c hc' h3, hcc], fun _ a ha => ?_, fun z => absurd z.symm Bool.false_ne_true⟩
              obtain rfl := Option.some.inj hs
              exact q2 α1 H1 _ e1 m1 (rl1.set (.bl b0))
            · exact ⟨false, by rw [W.w.xk.exm c' x c hc' h3, hcc], fun z => absurd z Bool.false_ne_true, fun _ => q2⟩
        · cases h7
    · cases h
  | .wipe is, X, W0, st, tk, W, h => by cases h
  | .pass, X, W0, st, tk, W, h => by
    unfold chkS at h; split at h
    · exact s_pass
    · exact s_doc
    · cases h
theorem sndSs : ∀ (s : Ss) (X : Cx) (W0 : WX) (l : List Stmt), Takes X W0 → WldS P T cs k X → chkSs cs X.N X.env.scope s l = true → PSs X l (tSs T W0 (sig P k) s)
  | .nil, X, W0, l, tk, W, h => by
    unfold chkSs at h; split at h
    · exact ss_nil
    · cases h
  | .cons s r, X, W0, l, tk, W, h => by
    unfold chkSs at h; split at h
    · exact ss_wipe (sndSs r X W0 _ tk W h)
    · split at h
      · simp only [Bool.and_eq_true] at h
        exact ss_cons (sndS s X W0 _ tk W h.1) (sndSs r X W0 _ tk W h.2)
      · cases h
end
end Mi
end
section
set_option Elab.async false
set_option linter.all false
set_option maxRecDepth 100000
/-! MiT: all functions by their levels. -/
namespace Mi
open PySem PySem.Spec L2
section
variable {P : Pg} {T : Tb} {cs : Cs} {prog : Program} {w : World} {K : PySem.W.Frag} {mg : Str → Option Value} {base : Heap}
/-- one function stands in the written part as the IR has it -/
def FdAt (P : Pg) (T : Tb) (cs : Cs) (K : PySem.W.Frag) (i : Nat) (fd : FuncData) (ps : List Str) : Prop :=
  ∃ (x qual : Str) (params : Arguments) (body : List Stmt) (scope : Scope) (N : List Str), FunD K x qual params body scope [] [] (T.fa i) fd ∧ FnScope N ps scope ∧ Binds K fd ps [] ∧
    N.length = (P.fns i).nl ∧ ps.length = (P.fns i).ar ∧ chkSs cs N scope (P.fns i).body body = true
structure Tbl (w : World) (P : Pg) (T : Tb) (cs : Cs) (K : PySem.W.Frag) (mg : Str → Option Value) (ok : Nat → Prop) : Prop where
  hK : T.K = K
  inj : ∀ i j, T.an i = T.an j → i = j
  bt : ∀ x ∈ btNames, mg x = none
  con : ∀ x g, cs.con.lookup x = some g → ∃ v u, mg x = some u ∧ RelV v u ∧ ∀ α H, Rep T α H (P.con g) v
  kd : ∀ x g, cs.kd.lookup x = some g → ∃ ad, mg x = some (.ref ad) ∧ ∀ z d, (P.kd g).lookup z = some d → ∃ v, KDct K w ad z v ∧ ∀ α H, Rep T α H d v
  fn : ∀ x f, cs.fn.lookup x = some f → ok f ∧ mg x = some (.ref (T.fa f)) ∧ PySem.W.keepIn K (.ref (T.fa f)) = true
  cl : ∀ x c, cs.cl.lookup x = some c → mg x = some (.ref (T.ca c)) ∧ ok (P.init c) ∧ Mk K (T.ca c) (T.fa (P.init c))
  at_ : ∀ f j, cs.ats.lookup f = some j → T.an j = f ∧ ∀ c, P.hc c = true → Cls K (T.ca c) ∧ NoAttr K (T.ca c) f
  me : ∀ m j, cs.me.lookup m = some j → (∀ i, T.an i ≠ m) ∧ ∀ c f, P.meth c j = some f → ok f ∧ Cls K (T.ca c) ∧ Meth K (T.ca c) m (T.fa f)
  fd : ∀ i, ok i → ∃ fd ps, FdAt P T cs K i fd ps
  xc : ∀ x c, cs.xc.lookup x = some c → XcAt T K mg x c
  xk : XkAt P T K cs.xc
theorem start_rl {α : Al} {H : Hp} {f : Fn} {ds : List D} {vs : List V} {N : List Str} (rs : Reps T α H ds vs) (hN : N.length = f.nl) : RL T α H (Mi.start f ds) (L2.start N vs) := by
  unfold Mi.start L2.start
  refine ⟨by simp [rs.1, hN], fun i d h => ?_⟩
  by_cases hi : i < ds.length
  · rw [List.getElem?_append_left (by simpa using hi), List.getElem?_map] at h
    rw [List.getElem?_append_left (by simp [← rs.1]; exact hi), List.getElem?_map]
    cases hd : ds[i]? with
    | none => rw [hd] at h; cases h
    | some e =>
      rw [hd] at h
      cases h
      obtain ⟨v, hv, r⟩ := rs.get hd
      exact ⟨v, by rw [hv]; rfl, r⟩
  · rw [List.getElem?_append_right (by simp; omega)] at h
    have := List.mem_of_getElem? h
    rw [List.mem_replicate] at this
    cases this.2
theorem end_post {α : Al} {H : Hp} {Q : VK} {E : XK} {r : RS} (h : PostX T α H Q E (endF r)) : PostS T (fun cls d _ H' => E cls d H') α H { nx := fun _ H' => Q .non H', rt := Q } r := by
  cases r with
  | nx σ M => exact fun α1 H1 τ e m rl => h α1 H1 .non e m .non
  | rt d M => exact h
  | exc c σ M => exact fun α1 H1 τ e m rl => h α1 H1 e m
  | bad => exact h
/-- every function keeps its word, at every level -/
theorem fn_all {ok : Nat → Prop} (W : Tbl w P T cs K mg ok) : ∀ n i fd ps, FdAt P T cs K i fd ps → FnG prog w K mg base n (T.fa i) fd ps (spF P T n i) := by
  intro n
  induction n using Nat.strongRecOn with
  | _ n ih =>
    intro i fd ps hfd
    obtain ⟨x, qual, params, body, scope, N, F, S, hb, hl, ha, hc⟩ := hfd
    cases n with
    | zero =>
      refine ⟨fun vs H Q E h => ?_, fun A outer s H args us vs Q E _ _ _ _ h => ?_⟩
      · obtain ⟨α, M, ds, _, _, q⟩ := h
        exact q.elim
      · obtain ⟨α, M, ds, _, _, q⟩ := h
        exact q.elim
    | succ n =>
      have ih1 := fun j (hj : j < n + 1) => ih j hj
      refine fnG_of F S (fun vs H Q E h => ?_) (fun cdv A outer s H vs Q E hr h => ⟨tSs T (fun cls d _ H' => E cls d H') (sig P n) (P.fns i).body, ?_, ?_⟩)
      · obtain ⟨α, M, ds, _, rs, q⟩ := h
        rw [callF_succ] at q
        split at q
        · rename_i h
          rw [← rs.1, h, ha]
        · exact q.elim
      · have at_n : ∀ f, ok f → FnAt P T (cxOf (L2.CX prog w) prog w K mg base N qual scope (T.fa i) cdv A outer s H E) n f (T.fa f) := fun f hf => let ⟨fd2, ps2, h2⟩ := W.fd f hf; ⟨fd2, ps2, let ⟨_, _, _, _, _, _, _, _, hb, _⟩ := h2; hb, ih1 n (Nat.lt_succ_self n) f fd2 ps2 h2⟩
        refine sndSs (P := P) (T := T) (cs := cs) (k := n) (P.fns i).body (cxOf (L2.CX prog w) prog w K mg base N qual scope (T.fa i) cdv A outer s H E) _ body (takes_of rfl rfl rfl rfl) ⟨⟨W.hK, hr, rfl, S.nd, W.bt, W.con, W.kd, fun x f h => ?_, fun x c h => ?_, W.at_, fun m j h => ?_, W.xc, W.xk⟩, fun _ => rfl, passes_of rfl, ?_, W.inj, rfl, rfl, rfl⟩ hc
        · obtain ⟨h1, h2, h3⟩ := W.fn x f h
          exact ⟨h2, h3, at_n f h1⟩
        · obtain ⟨h1, h2, h3⟩ := W.cl x c h
          refine ⟨h1, fun hn => ?_⟩
          cases n with
          | zero => exact absurd rfl hn
          | succ j =>
            obtain ⟨fd2, ps2, h4⟩ := W.fd (P.init c) h2
            exact ⟨j, T.fa (P.init c), fd2, ps2, rfl, h3, let ⟨_, _, _, _, _, _, _, _, hb, _⟩ := h4; hb, ih1 j (by omega) (P.init c) fd2 ps2 h4⟩
        · obtain ⟨h1, h2⟩ := W.me m j h
          refine ⟨h1, fun c f hf => ?_⟩
          obtain ⟨h3, h4, h5⟩ := h2 c f hf
          exact ⟨h4, h5, at_n f h3⟩
        · show (if scope.kind.isAnnotationScope then ScopeKind.function else scope.kind) = .function
          rw [S.kind]; rfl
      · obtain ⟨α, M, ds, m, rs, q⟩ := h
        rw [callF_succ] at q
        split at q
        · exact ⟨α, M, Mi.start (P.fns i) ds, m, start_rl rs hl, end_post q⟩
        · exact q.elim
/-- the law's promise, by the evaluator -/
theorem law_sp {n f : Nat} (hK : T.K = K) (h : ∀ ns : List Int, ns.length ≤ 63 → ∃ M, callF P n f [.scr ns] [] = .ok (.bl true) M) (H : Hp) (a : Addr) (ns : List Int) (hl : ns.length ≤ 63) (hS : SqL K H a (ns.map V.int)) :
    spF P T n f [.ref a] H (fun v _ => v = .bl true) fun _ _ _ => False := by
  obtain ⟨M, e⟩ := h ns hl
  refine ⟨⟨[], []⟩, [], [.scr ns], ⟨rfl, List.nodup_nil, fun i o a h => by simp at h, fun z hz => by simp at hz⟩, .cons (.scr ?_) .nil, ?_⟩
  · rcases hS with hS | hS
    · exact .inl ⟨hS, by simp [Al.out]⟩
    · exact .inr (hK ▸ hS)
  · rw [e]
    intro α1 H1 v _ _ r
    cases r; rfl
end
end Mi
end
section
set_option Elab.async false
set_option linter.all false
set_option maxRecDepth 100000
/-! MiU: the head: what the written part says, by one Bool. -/
namespace Mi
open PySem PySem.Spec L2
/-! ### constants of the top -/
mutual
def conB (K : PySem.W.Frag) : D → Value → Bool
  | .tup ds, u => match u with
    | .ref a => (match K.lookup a with
      | some ⟨.type c, none, .seq its _, _⟩ => decide (c = "tuple") && (decide (its.size ≤ sizeLine) && conAll K ds its.toList)
      | _ => false)
    | _ => false
  | .int i, u => match u with | .int j _ => decide (i = j) | _ => false
  | .str x, u => match u with | .str y _ => decide (x = y) && (PyData.strOk x && decide (x.length ≤ sizeLine)) | _ => false
  | .bl a, u => match u with | .bool b => a == b | _ => false
  | .non, u => match u with | .none => true | _ => false
  | .scr ns, u => match u with
    | .ref a => (match K.lookup a with
      | some ⟨.type c, none, .seq its _, _⟩ => decide (c = "list") && (decide (its.size ≤ sizeLine) && He.relAll (ns.map V.int) its.toList)
      | _ => false)
    | _ => false
  | .lst _, _ => false | .dict _, _ => false | .inst _ _, _ => false | .fn _, _ => false | .ref _, _ => false
def conAll (K : PySem.W.Frag) : List D → List Value → Bool
  | [], us => match us with | [] => true | _ => false
  | d :: ds, us => match us with | u :: us => conB K d u && conAll K ds us | [] => false
end
section
variable {K : PySem.W.Frag} {T : Tb}
def ConOk (T : Tb) (d : D) (u : Value) : Prop := ∃ v, RelV v u ∧ ∀ α H, Rep T α H d v
mutual
theorem conB_ok (hK : T.K = K) : ∀ (d : D) (u : Value), conB K d u = true → ConOk T d u
  | .tup ds, u, h => by
    unfold conB at h
    split at h
    · rename_i a
      split at h
      · rename_i c its m sl hk
        simp only [Bool.and_eq_true, decide_eq_true_eq] at h
        obtain ⟨vs, r1, l, r2⟩ := conAll_ok hK ds its.toList h.2.2
        exact ⟨.ref a, rfl, fun α H => .tup (.inr ⟨_, its, m, hK ▸ hk, congrArg Value.type h.1, rfl, rfl, h.2.1, r1⟩) l (r2 α H).2⟩
      · cases h
    · cases h
  | .int i, u, h => by
    unfold conB at h
    split at h
    · exact ⟨.int i, ⟨_, by rw [of_decide_eq_true h]⟩, fun α H => .int _⟩
    · cases h
  | .str x, u, h => by
    unfold conB at h
    split at h
    · simp only [Bool.and_eq_true, decide_eq_true_eq] at h
      exact ⟨.str x, ⟨_, by rw [h.1]⟩, fun α H => .str _ h.2⟩
    · cases h
  | .bl b, u, h => by
    unfold conB at h
    split at h
    · exact ⟨.bl b, by rw [eq_of_beq h]; rfl, fun α H => .bl _⟩
    · cases h
  | .non, u, h => by
    unfold conB at h
    split at h
    · exact ⟨.non, rfl, fun α H => .non⟩
    · cases h
  | .scr ns, u, h => by
    unfold conB at h
    split at h
    · rename_i a
      split at h
      · rename_i c its m sl hk
        simp only [Bool.and_eq_true, decide_eq_true_eq] at h
        exact ⟨.ref a, rfl, fun α H => .scr (.inr ⟨_, its, m, hK ▸ hk, congrArg Value.type h.1, rfl, rfl, h.2.1, He.relAll_ok h.2.2⟩)⟩
      · cases h
    · cases h
  | .lst _, u, h => by unfold conB at h; cases h
  | .dict _, u, h => by unfold conB at h; cases h
  | .inst _ _, u, h => by unfold conB at h; cases h
  | .fn _, u, h => by unfold conB at h; cases h
  | .ref _, u, h => by unfold conB at h; cases h
theorem conAll_ok (hK : T.K = K) : ∀ (ds : List D) (us : List Value), conAll K ds us = true → ∃ vs, Vals vs us ∧ ds.length = vs.length ∧ ∀ α H, Reps T α H ds vs
  | [], us, h => by
    unfold conAll at h
    split at h
    · exact ⟨[], .nil, rfl, fun α H => .nil⟩
    · cases h
  | d :: ds, us, h => by
    unfold conAll at h
    split at h
    · rw [Bool.and_eq_true] at h
      obtain ⟨v, r1, r2⟩ := conB_ok hK d _ h.1
      obtain ⟨vs, r3, l, r4⟩ := conAll_ok hK ds _ h.2
      exact ⟨v :: vs, .cons r1 r3, by simp [l], fun α H => .cons (r2 α H) (r4 α H)⟩
    · cases h
end
end
theorem lookup_mem {κ β : Type} [BEq κ] [LawfulBEq κ] {k : κ} {v : β} : ∀ {l : List (κ × β)}, l.lookup k = some v → (k, v) ∈ l
  | [], h => by simp at h
  | (j, x) :: r, h => by
    rw [List.lookup_cons] at h
    cases e : k == j with
    | true =>
      rw [e] at h
      cases h
      rw [eq_of_beq e]
      exact List.mem_cons_self ..
    | false =>
      rw [e] at h
      exact List.mem_cons_of_mem _ (lookup_mem h)
/-! ### a claim's table -/
structure Df where
  d : He.DefD
  N : List Str
  ps : List Str
/-- a program's functions, classes, methods, constants, by numbers -/
structure Tab where
  fns : List (Nat × Fn)
  cls : List (Nat × Nat)          -- a class, its __init__
  meths : List ((Nat × Nat) × Nat)
  cons : List (Nat × D)
  kds : List (Nat × List (Str × D))
  wh : Nat
  xcs : List (Nat × List Nat)     -- a class of exceptions, those above it, itself among them
def noFn : Fn := ⟨0, 0, .nil⟩
def Tab.pg (t : Tab) : Pg where
  fns i := match t.fns.lookup i with | some q => q | none => noFn
  init i := match t.cls.lookup i with | some q => q | none => 0
  meth i j := t.meths.lookup (i, j)
  hc i := (t.cls.lookup i).isSome
  con i := match t.cons.lookup i with | some q => q | none => .non
  kd i := match t.kds.lookup i with | some q => q | none => []
  wh := t.wh
  xs i := match t.xcs.lookup i with | some q => q | none => []
structure Cl where
  tab : Tab
  defs : List (Nat × Df)
  cls : List (Nat × Str)
  ats : List Str
  mns : List Str
  cons : List (Nat × Str)
  kds : List (Nat × Str)
  fns : List (Str × Nat)
  als : List (Str × Nat)
  xcs : List (Nat × Str)
def ixL (l : List Str) : List (Str × Nat) := l.zip (List.range l.length)
def swL (l : List (Nat × Str)) : List (Str × Nat) := l.map fun p => (p.2, p.1)
def Cl.pg (c : Cl) : Pg := c.tab.pg
def Cl.dl (c : Cl) : List Df := c.defs.map (·.2)
def Cl.cs (c : Cl) : Cs := ⟨c.fns ++ c.als, swL c.cls, swL c.cons, swL c.kds, ixL c.ats, ixL c.mns, swL c.xcs⟩
def padS (k : Nat) : Str := ⟨Array.replicate (k + 1000) 0⟩
def Cl.tb (c : Cl) (K : PySem.W.Frag) : Tb where
  K := K
  ca i := match c.cls.lookup i with | some x => He.ga K x | none => match c.xcs.lookup i with | some x => He.ga K x | none => 0
  an i := match c.ats[i]? with | some x => x | none => padS i
  fa i := match c.defs.lookup i with | some q => He.fAd K q.d.at_ | none => 0
/-- what the text alone says -/
def scB (N ps : List Str) (sc : Scope) : Bool :=
  (match sc.kind with | .function => true | _ => false) && (!sc.isCoroutine && (!sc.isGenerator && (decide N.Nodup && (decide (N.take ps.length = ps) &&
    (ps.all (fun x => sc.names.lookup x == some .local || sc.names.lookup x == some .cell) && sc.names.all (fun y => !(y.2 == .free)))))))
theorem scB_ok {N ps : List Str} {sc : Scope} (h : scB N ps sc = true) : FnScope N ps sc := by
  unfold scB at h
  simp only [Bool.and_eq_true, Bool.not_eq_true', decide_eq_true_eq, List.all_eq_true] at h
  obtain ⟨h1, h2, h3, h4, h5, h6, h7⟩ := h
  refine ⟨?_, h2, h3, h4, h5, fun x hx => by simpa using h6 x hx, fun y hy e => ?_⟩
  · cases q : sc.kind <;> rw [q] at h1 <;> first | rfl | cases h1
  · have := h7 y hy
    rw [e] at this
    cases this
def Cl.dfB (c : Cl) (p : Nat × Df) : Bool := (p.2.d.dfl.isEmpty && p.2.d.kwd.isEmpty) && (scB p.2.N p.2.ps p.2.d.scope && (decide (p.2.N.length = (c.pg.fns p.1).nl) && (decide (p.2.ps.length = (c.pg.fns p.1).ar) && chkSs c.cs p.2.N p.2.d.scope (c.pg.fns p.1).body p.2.d.body)))
def Cl.atB (c : Cl) (i : Nat) (a : Str × Option Str) : Bool := match c.defs.lookup i with | some q => decide (q.d.at_ = a) | none => false
def Cl.xtB (c : Cl) : Bool := c.als.all (fun p => (c.defs.lookup p.2).isSome) && (c.xcs.all (fun p => decide (c.xcs.lookup p.1 = some p.2) && (c.cls.lookup p.1).isNone) && c.tab.xcs.all (fun p => (c.xcs.lookup p.1).isSome))
def Cl.textB (c : Cl) : Bool :=
  c.xtB && (
  c.defs.all c.dfB &&
  (c.fns.all (fun p => c.atB p.2 (p.1, none)) &&
  (c.cls.all (fun p => decide (c.cls.lookup p.1 = some p.2) && c.atB (c.pg.init p.1) (p.2, some "__init__")) &&
  (decide c.ats.Nodup && (c.ats.all (fun x => decide (x.length < 1000)) && (c.mns.all (fun x => decide (x.length < 1000) && !c.ats.contains x) &&
  (c.tab.cls.all (fun p => (c.cls.lookup p.1).isSome) &&
  c.tab.meths.all (fun p => match c.cls.lookup p.1.1, c.mns[p.1.2]? with | some q, some m => c.atB p.2 (q, some m) | _, _ => false))))))))
/-- a class of exceptions as it stands -/
def xcB (K : PySem.W.Frag) (C : Addr) : Bool :=
  (PySem.W.findIn K (.ref C) "__getattribute__" == some (some (.builtin "BaseException.__getattribute__"))) &&
  ((PySem.W.findIn K (.ref C) "__getattr__" == some none) &&
  ((PySem.W.subIn K (.ref C) (.type "BaseException") == some true) &&
  (PySem.W.hasDictIn K C &&
  ((PySem.W.findIn K (.ref C) "__class__" == some (some (.builtin "object.__class__"))) &&
  ((PySem.W.specialIn K (.builtin "object.__class__") "__get__" == some (some (.builtin "getset_descriptor.__get__"))) &&
  ((PySem.W.takesIn K (.builtin "object.__class__") == some true) &&
  ((PySem.W.mroIn K C (.type "object") == some true) &&
  (PySem.W.keepIn K (.ref C) &&
  (PySem.W.excIn K C [.type "ValueError", .type "Exception", .type "BaseException", .type "object"] "ValueError.__new__" &&
  ((PySem.W.typeIn K (.ref C) == some (.type "type")) &&
  (PySem.W.kitOne K (.ref C) (.type "ValueError") == some true)))))))))))
/-- second names; classes of exceptions -/
def Cl.exX (c : Cl) (K : PySem.W.Frag) : Bool :=
  c.als.all (fun p => match PySem.W.nsIn K mainGlobals p.1 with | some (some (.ref a)) => decide (a = (c.tb K).fa p.2) | _ => false) &&
  (c.xcs.all (fun p => (He.Fa.glo p.2).ok K && xcB K (He.ga K p.2)) &&
  c.tab.xcs.all (fun p => c.xcs.all fun q => (PySem.W.kitOne K (.ref ((c.tb K).ca p.1)) (.ref (He.ga K q.2)) == some (p.2.contains q.1)) && (PySem.W.exmOne K (.ref ((c.tb K).ca p.1)) (.ref (He.ga K q.2)) == some (p.2.contains q.1))))
/-- what the heap behind the top says -/
def Cl.exB (c : Cl) (K : PySem.W.Frag) : Bool :=
  c.exX K && (
  btNames.all (fun x => (He.Fa.free x).ok K) &&
  (c.fns.all (fun p => (He.Fa.glo p.1).ok K) &&
  (c.cls.all (fun p => (He.Fa.glo p.2).ok K && ((He.Fa.mkr p.2).ok K && (He.Fa.cls p.2).ok K)) &&
  (c.cls.all (fun p => c.ats.all fun f => (He.Fa.noat p.2 f).ok K) &&
  (c.tab.meths.all (fun p => match c.cls.lookup p.1.1, c.mns[p.1.2]? with | some q, some m => (He.Fa.meth q m).ok K | _, _ => false) &&
  (c.cons.all (fun p => match PySem.W.nsIn K mainGlobals p.2 with | some (some u) => conB K (c.pg.con p.1) u | _ => false) &&
  c.kds.all (fun p => (match PySem.W.nsIn K mainGlobals p.2 with | some (some (.ref a)) => (c.pg.kd p.1).all (fun q => match PySem.W.nsIn K a q.1 with | some (some u) => conB K q.2 u | _ => false) | _ => false))))))))
/-- the constant dicts as they stand -/
def Cl.kdW (c : Cl) (K : PySem.W.Frag) : List (Option (List (Option (Str × Int)))) := c.kds.map fun p => He.dicW K (He.ga K p.2)
def Cl.kdV (c : Cl) (w : World) : List (Option (List (Option (Str × Int)))) := c.kds.map fun p => some (He.keysIn w.params ((c.pg.kd p.1).map (·.1)))
theorem ixL_get {l : List Str} {x : Str} {i : Nat} (h : (ixL l).lookup x = some i) : l[i]? = some x := by
  have hm := PySem.mem_of_lookup h
  unfold ixL at hm
  obtain ⟨j, hj, e⟩ := List.mem_iff_getElem.mp hm
  rw [List.getElem_zip] at e
  simp at e
  have hl : j < l.length := by simp at hj; exact hj
  rw [← e.2, List.getElem?_eq_getElem hl, e.1]
theorem swL_get {l : List (Nat × Str)} {x : Str} {i : Nat} (h : (swL l).lookup x = some i) : (i, x) ∈ l := by
  have hm := PySem.mem_of_lookup h
  unfold swL at hm
  obtain ⟨p, hp, e⟩ := List.mem_map.mp hm
  obtain ⟨a, b⟩ := p
  cases e
  exact hp
def BindsAll (q : Df) : Prop := ∀ (kV doc pm : Value) (an : Option Addr) (cdv ct : Value) (us : List Value), us.length = q.ps.length → bindArgs (PySem.W.fnOf q.d.name q.d.qual q.d.params q.d.body q.d.scope .none kV doc pm an cdv ct) ⟨us, []⟩ = pure (q.ps.zip us)
def AllB : List Df → Prop
  | [] => True
  | q :: r => BindsAll q ∧ AllB r
theorem AllB.get : ∀ {l : List Df}, AllB l → ∀ q ∈ l, BindsAll q
  | [], _, q, h => by simp at h
  | p :: r, h, q, hq => by
    rcases List.mem_cons.mp hq with rfl | hq
    · exact h.1
    · exact h.2.get q hq
section
variable {c : Cl} {K : PySem.W.Frag} {h : Heap} {mg : Str → Option Value}
theorem an_inj (hd : c.ats.Nodup) (hs : ∀ x ∈ c.ats, x.length < 1000) : ∀ i j, (c.tb K).an i = (c.tb K).an j → i = j := by
  intro i j e
  have e : (match c.ats[i]? with | some x => x | none => padS i) = (match c.ats[j]? with | some x => x | none => padS j) := e
  have pl : ∀ k, (padS k).length = k + 1000 := fun k => by show (Array.replicate (k + 1000) 0).size = _; simp
  cases hi : c.ats[i]? with
  | some x =>
    cases hj : c.ats[j]? with
    | some y => rw [hi, hj] at e; simp only at e; subst e; exact nodup_same hd hi hj
    | none =>
      rw [hi, hj] at e
      simp only at e
      have := hs x (List.mem_of_getElem? hi)
      rw [e, pl] at this; omega
  | none =>
    cases hj : c.ats[j]? with
    | some y =>
      rw [hi, hj] at e
      simp only at e
      have := hs y (List.mem_of_getElem? hj)
      rw [← e, pl] at this; omega
    | none =>
      rw [hi, hj] at e
      simp only at e
      have := congrArg Str.length e
      rw [pl, pl] at this; omega
theorem atB_get {i : Nat} {a : Str × Option Str} (h : c.atB i a = true) : ∃ q, c.defs.lookup i = some q ∧ q.d.at_ = a := by
  unfold Cl.atB at h
  cases e : c.defs.lookup i with
  | none => rw [e] at h; cases h
  | some q => rw [e] at h; exact ⟨q, rfl, of_decide_eq_true h⟩
theorem mem_lk {l : List (Str × Nat)} {x : Str} {f : Nat} (h : l.lookup x = some f) : (x, f) ∈ l := PySem.mem_of_lookup h
/-- one def of the table -/
theorem df_at (ht : c.textB = true) (hb : AllB c.dl) (hd : ∀ q ∈ c.dl, ∃ fd, FunD K q.d.name q.d.qual q.d.params q.d.body q.d.scope (q.d.dvs K) (q.d.kws K) (He.fAd K q.d.at_) fd) {i : Nat} {q : Df} (hi : c.defs.lookup i = some q) :
    ∃ fd, FunD K q.d.name q.d.qual q.d.params q.d.body q.d.scope [] [] ((c.tb K).fa i) fd ∧ FdAt c.pg (c.tb K) c.cs K i fd q.ps := by
  unfold Cl.textB at ht
  rw [Bool.and_eq_true, Bool.and_eq_true] at ht
  have ht := ht.2
  have hq0 : (i, q) ∈ c.defs := lookup_mem hi
  have hq : q ∈ c.dl := List.mem_map.mpr ⟨_, hq0, rfl⟩
  have h1 := List.all_eq_true.mp ht.1 _ hq0
  unfold Cl.dfB at h1
  simp only [Bool.and_eq_true, decide_eq_true_eq] at h1
  obtain ⟨⟨h1, h2⟩, h3, h4, h5, h6⟩ := h1
  obtain ⟨fd, F⟩ := hd q hq
  have e1 : q.d.dvs K = [] := by unfold He.DefD.dvs; rw [List.isEmpty_iff.mp h1]; rfl
  have e2 : q.d.kws K = [] := by unfold He.DefD.kws; rw [List.isEmpty_iff.mp h2]; rfl
  have e3 : (c.tb K).fa i = He.fAd K q.d.at_ := by show (match c.defs.lookup i with | some q => He.fAd K q.d.at_ | none => 0) = _; rw [hi]
  rw [e1, e2, ← e3] at F
  exact ⟨fd, F, q.d.name, q.d.qual, q.d.params, q.d.body, q.d.scope, q.N, F, scB_ok h3, F.bindsN (hb.get q hq), h4, h5, h6⟩
def Cl.has (c : Cl) (i : Nat) : Prop := ∃ q, c.defs.lookup i = some q
theorem tbl_of {w : World} (hw : c.kdW K = c.kdV w) (ht : c.textB = true) (hb : AllB c.dl) (hx : c.exB K = true) (hd : ∀ q ∈ c.dl, ∃ fd, FunD K q.d.name q.d.qual q.d.params q.d.body q.d.scope (q.d.dvs K) (q.d.kws K) (He.fAd K q.d.at_) fd)
    (X : K.In h) (G : h.Ns mainGlobals mg) : Tbl w c.pg (c.tb K) c.cs K mg c.has := by
  have ht0 := ht
  unfold Cl.textB at ht
  unfold Cl.exB at hx
  simp only [Bool.and_eq_true, List.all_eq_true, decide_eq_true_eq] at ht hx
  obtain ⟨t0, t1, t2, t3, t4, t5, t6, t7, t8⟩ := ht
  obtain ⟨x0, x1, x2, x3, x4, x5, x6, x7⟩ := hx
  unfold Cl.xtB at t0
  unfold Cl.exX at x0
  simp only [Bool.and_eq_true, List.all_eq_true, decide_eq_true_eq] at t0 x0
  obtain ⟨a1, a2, a3⟩ := t0
  obtain ⟨y1, y2, y3⟩ := x0
  have fa_at : ∀ {i : Nat} {a : Str × Option Str}, c.atB i a = true → c.has i ∧ (c.tb K).fa i = He.fAd K a := fun {i a} h => by
    obtain ⟨q, hq, e⟩ := atB_get h
    refine ⟨⟨q, hq⟩, ?_⟩
    show (match c.defs.lookup i with | some q => He.fAd K q.d.at_ | none => 0) = _
    rw [hq, ← e]
  have ca_at : ∀ {i : Nat} {x : Str}, c.cls.lookup i = some x → (c.tb K).ca i = He.ga K x := fun {i x} h => by
    show (match c.cls.lookup i with | some x => He.ga K x | none => match c.xcs.lookup i with | some x => He.ga K x | none => 0) = _
    rw [h]
  have cx_at : ∀ {i : Nat} {x : Str}, (i, x) ∈ c.xcs → (c.tb K).ca i = He.ga K x := fun {i x} h => by
    obtain ⟨l1, l2⟩ := a2 _ h
    show (match c.cls.lookup i with | some x => He.ga K x | none => match c.xcs.lookup i with | some x => He.ga K x | none => 0) = _
    rw [Option.isNone_iff_eq_none.mp l2, l1]
  have xB : ∀ {x : Str} {i : Nat}, (i, x) ∈ c.xcs → xcB K ((c.tb K).ca i) = true := fun {x i} h => by
    rw [cx_at h]; exact (y2 _ h).2
  have xs_in : ∀ i, (c.pg.xs i).contains i = true → ∃ x, (i, x) ∈ c.xcs ∧ (i, c.pg.xs i) ∈ c.tab.xcs := fun i h => by
    have e : c.pg.xs i = match c.tab.xcs.lookup i with | some q => q | none => [] := rfl
    cases hl : c.tab.xcs.lookup i with
    | none => rw [e, hl] at h; simp at h
    | some l =>
      have hm := lookup_mem hl
      obtain ⟨x, hx⟩ := Option.isSome_iff_exists.mp (a3 _ hm)
      rw [e, hl]
      exact ⟨x, lookup_mem hx, hm⟩
  refine ⟨rfl, an_inj t4 t5, fun x hx => He.free_ok X G (x1 x hx), fun x g hg => ?_, fun x g hg => ?_, fun x f hf => ?_, fun x i hi => ?_, fun f j hj => ?_, fun m j hj => ?_, fun i hi => ?_, fun x i hi => ?_, ⟨fun i hi => ?_, fun i hi => ?_, fun i x d hi hd2 => ?_, fun i x d hi hd2 => ?_⟩⟩
  · have hg := swL_get hg
    have hc := x6 _ hg
    dsimp only at hc
    split at hc
    · rename_i u hu
      obtain ⟨v, r1, r2⟩ := conB_ok (T := c.tb K) rfl _ _ hc
      exact ⟨v, u, PySem.W.mg_of X G hu, r1, r2⟩
    · cases hc
  · have hg := swL_get hg
    have hc := x7 _ hg
    dsimp only at hc
    split at hc
    · rename_i a hu
      have hcm := PySem.W.mg_of X G hu
      refine ⟨a, hcm, fun z d hz => ?_⟩
      have ha : He.ga K x = a := by unfold He.ga; rw [hu]
      obtain ⟨i, hi, ei⟩ := List.mem_iff_getElem.mp hg
      have e1 : (c.kdW K)[i]? = (c.kdV w)[i]? := by rw [hw]
      unfold Cl.kdW Cl.kdV at e1
      rw [List.getElem?_map, List.getElem?_map, List.getElem?_eq_getElem hi, ei] at e1
      have e2 := Option.some.inj e1
      dsimp only at e2
      rw [ha] at e2
      obtain ⟨es, n, kd⟩ := He.dicW_ok e2
      have h3 := List.all_eq_true.mp hc _ (lookup_mem hz)
      dsimp only at h3
      split at h3
      · rename_i u hu2
        obtain ⟨v, r1, r2⟩ := conB_ok (T := c.tb K) rfl _ _ h3
        exact ⟨v, ⟨es, n, u, kd.1, kd.2, hu2, r1⟩, r2⟩
      · cases h3
    · cases hc
  · rcases List.mem_append.mp (mem_lk hf) with hm | hm
    rotate_left
    · obtain ⟨q, hq⟩ := Option.isSome_iff_exists.mp (a1 _ hm)
      obtain ⟨fd, F, _⟩ := df_at ht0 hb hd hq
      have hy := y1 _ hm
      dsimp only at hy
      split at hy
      · rename_i a hu
        have ea : a = (c.tb K).fa f := of_decide_eq_true hy
        exact ⟨⟨q, hq⟩, by rw [← ea]; exact PySem.W.mg_of X G hu, F.kp⟩
      · cases hy
    obtain ⟨h1, h2⟩ := fa_at (t2 _ hm)
    have hg := He.glo_ok X G (x2 _ hm)
    obtain ⟨q, hq, e⟩ := atB_get (t2 _ hm)
    obtain ⟨fd, F, _⟩ := df_at ht0 hb hd hq
    refine ⟨h1, ?_, F.kp⟩
    rw [h2]; exact hg
  · have hm := swL_get hi
    obtain ⟨l1, l2⟩ := t3 _ hm
    obtain ⟨h1, h2⟩ := fa_at l2
    obtain ⟨y1, y2, y3⟩ := x3 _ hm
    rw [ca_at l1, h2]
    exact ⟨He.glo_ok X G y1, h1, He.mkr_ok y2⟩
  · have hj := ixL_get hj
    refine ⟨by show (match c.ats[j]? with | some x => x | none => padS j) = _; rw [hj], fun i hi => ?_⟩
    have hi : (c.tab.cls.lookup i).isSome = true := hi
    obtain ⟨n, hn⟩ := Option.isSome_iff_exists.mp hi
    have h7 := t7 _ (lookup_mem hn)
    obtain ⟨x, hx⟩ := Option.isSome_iff_exists.mp h7
    have hm := lookup_mem hx
    rw [ca_at hx]
    exact ⟨He.cls_ok (x3 _ hm).2.2, He.noat_ok (x4 _ hm f (List.mem_of_getElem? hj))⟩
  · have hj := ixL_get hj
    have h6 := t6 m (List.mem_of_getElem? hj)
    refine ⟨fun i e => ?_, fun i f hf => ?_⟩
    · have e : (match c.ats[i]? with | some x => x | none => padS i) = m := e
      cases hi : c.ats[i]? with
      | some x =>
        rw [hi] at e
        simp only at e
        subst e
        have := h6.2
        rw [List.contains_iff_mem.mpr (List.mem_of_getElem? hi)] at this
        cases this
      | none =>
        rw [hi] at e
        simp only at e
        have := h6.1
        rw [← e] at this
        have pl : (padS i).length = i + 1000 := by show (Array.replicate (i + 1000) 0).size = _; simp
        omega
    · have hf : c.tab.meths.lookup (i, j) = some f := hf
      have hm := lookup_mem hf
      have y1 := t8 _ hm
      have y2 := x5 _ hm
      simp only at y1 y2
      cases hp : c.cls.lookup i with
      | none => rw [hp] at y1; cases y1
      | some p =>
        rw [hp, hj] at y1 y2
        simp only at y1 y2
        obtain ⟨h1, h2⟩ := fa_at y1
        rw [ca_at hp, h2]
        exact ⟨h1, He.cls_ok (x3 _ (lookup_mem hp)).2.2, He.meth_ok y2⟩
  · obtain ⟨q, hq⟩ := hi
    obtain ⟨fd, _, F⟩ := df_at ht0 hb hd hq
    exact ⟨fd, _, F⟩
  · have hm := swL_get hi
    have hB := xB hm
    unfold xcB at hB
    simp only [Bool.and_eq_true, beq_iff_eq] at hB
    obtain ⟨b1, b2, b3, b4, b5, b6, b7, b8, b9, b10, b11, b12⟩ := hB
    exact ⟨by rw [cx_at hm]; exact He.glo_ok X G (y2 _ hm).1, b9, b10, b3, b11⟩
  · obtain ⟨x, hm, _⟩ := xs_in i hi
    have hB := xB hm
    unfold xcB at hB
    simp only [Bool.and_eq_true, beq_iff_eq] at hB
    obtain ⟨b1, b2, b3, b4, b5, b6, b7, b8, b9, b10, b11, b12⟩ := hB
    exact ⟨b1, b2, b3, b4, b5, b6, b7, b8⟩
  · obtain ⟨x, hm, _⟩ := xs_in i hi
    have hB := xB hm
    unfold xcB at hB
    simp only [Bool.and_eq_true, beq_iff_eq] at hB
    exact hB.2.2.2.2.2.2.2.2.2.2.2
  · obtain ⟨_, _, hm⟩ := xs_in i hi
    have hm2 := swL_get hd2
    have := (y3 _ hm _ hm2).1
    rw [cx_at hm2]
    simpa using this
  · obtain ⟨_, _, hm⟩ := xs_in i hi
    have hm2 := swL_get hd2
    have := (y3 _ hm _ hm2).2
    rw [cx_at hm2]
    simpa using this
end
end Mi
end
section
set_option Elab.async false
set_option linter.all false
set_option maxRecDepth 100000
/-! MiV: the head's hook, the law's end. -/
namespace Mi
open PySem PySem.Spec L2
abbrev AlM : Type := (Bool × List He.FnW) × List (Option (List (Option (Str × Int))))
def obsM (c : Cl) (K : PySem.W.Frag) : AlM := ((c.exB K && c.dl.all fun q => q.d.ok K, c.dl.map fun q => He.fnW K q.d.at_), c.kdW K)
def valM (c : Cl) (w : World) : AlM := ((true, c.dl.map fun q => q.d.val), c.kdV w)
def SaysM (c : Cl) (w : World) (K : PySem.W.Frag) : Prop := obsM c K = valM c w
def obsMG (n : Nat) (c : Cl) (g : Addr → Option Obj) : AlM := obsM c (He.frG g (He.asD g n))
def hookM (n : Nat) (c : Cl) : PySem.W.Hook where
  α := AlM
  obs := fun s => obsMG n c s.heap.get?
  val := fun w => valM c w
  says := fun w h => ∃ K : PySem.W.Frag, K.In h ∧ SaysM c w K
  of := fun _ _ e => ⟨_, He.frG_in, e⟩
  keeps := fun _ _ _ ⟨K, hK, c⟩ k => ⟨K, PySem.W.Frag.In.keeps hK k, c⟩
def obM (n : Nat) (c : Cl) (s : PySem.W.SharedT) : AlM := obsMG n c (HandSHeadRun.getT s)
theorem obM_eq {n : Nat} {c : Cl} (s : PySem.W.SharedT) : obM n c s = (hookM n c).obs s.abs := by
  have h := HandSHeadRun.getT_eq s
  have e : HandSHeadRun.getT s = s.abs.heap.get? := by
    first
      | exact h
      | exact funext h
  show obsMG n c _ = obsMG n c _
  rw [e] <;> rfl
theorem SaysM.ex {c : Cl} {w : World} {K : PySem.W.Frag} (s : SaysM c w K) : c.exB K = true := by
  have h : (c.exB K && c.dl.all fun q => q.d.ok K) = true := congrArg (fun z : AlM => z.1.1) s
  exact (Bool.and_eq_true_iff.mp h).1
theorem SaysM.kd {c : Cl} {w : World} {K : PySem.W.Frag} (s : SaysM c w K) : c.kdW K = c.kdV w := congrArg (fun z : AlM => z.2) s
theorem SaysM.defs {c : Cl} {w : World} {K : PySem.W.Frag} (s : SaysM c w K) (q : Df) (hq : q ∈ c.dl) : ∃ fd, FunD K q.d.name q.d.qual q.d.params q.d.body q.d.scope (q.d.dvs K) (q.d.kws K) (He.fAd K q.d.at_) fd := by
  have h : (c.exB K && c.dl.all fun q => q.d.ok K) = true := congrArg (fun z : AlM => z.1.1) s
  have h2 := List.all_eq_true.mp (Bool.and_eq_true_iff.mp h).2 q hq
  have e : c.dl.map (fun q => He.fnW K q.d.at_) = c.dl.map fun q => q.d.val := congrArg (fun z : AlM => z.1.2) s
  obtain ⟨i, hi, ei⟩ := List.mem_iff_getElem.mp hq
  have e2 : (c.dl.map fun q => He.fnW K q.d.at_)[i]? = (c.dl.map fun q => q.d.val)[i]? := by rw [e]
  rw [List.getElem?_map, List.getElem?_map, List.getElem?_eq_getElem hi, ei] at e2
  exact He.DefD.funD (Option.some.inj e2) h2
theorem law_F {c : Cl} {n iL : Nat} {x nm : Str} {q : Df} {prog : Program} {w : World} (ht : c.textB = true) (hb : AllB c.dl) (hi : c.fns.lookup nm = some iL) (hq : c.defs.lookup iL = some q) (hx : q.ps = [x])
    (hev : ∀ ns : List Int, ns.length ≤ 63 → ∃ M, callF c.pg n iL [.scr ns] [] = .ok (.bl true) M) {mg : Str → Option Value} {fa : Addr} {h : Heap} (Y : ∃ K : PySem.W.Frag, K.In h ∧ SaysM c w K) (G : h.Ns mainGlobals mg) (hmg : mg nm = some (.ref fa)) :
    ∃ (K : PySem.W.Frag) (fd : FuncData) (sp : Sp), K.In h ∧ (∀ (s : Shared) (u : Value), BindsTo s fd ⟨[u], []⟩ [(x, u)]) ∧
      (∀ (H : Hp) (a : Addr) (ns : List Int), ns.length ≤ 63 → Only H → SqL K H a (ns.map V.int) → sp [.ref a] H (fun v _ => v = .bl true) fun _ _ _ => False) ∧
      ∀ base : Heap, K.In base → base.Ns mainGlobals mg → FnG prog w K mg base n fa fd [x] sp := by
  obtain ⟨K, KX, says⟩ := Y
  have W := tbl_of (w := w) says.kd ht hb says.ex says.defs KX G
  obtain ⟨hl, hm, _⟩ := W.fn nm iL (by show (c.fns ++ c.als).lookup nm = _; rw [List.lookup_append, hi]; rfl)
  rw [hmg] at hm
  cases hm
  obtain ⟨fd, F, hfd⟩ := df_at ht hb says.defs hq
  refine ⟨K, fd, spF c.pg (c.tb K) n iL, KX, fun s u => ?_, fun H a ns h1 _ hS => law_sp rfl hev H a ns h1 hS, fun base _ _ => ?_⟩
  · have := F.bindsA (ps := q.ps) (hb.get q (List.mem_map.mpr ⟨_, lookup_mem hq, rfl⟩)) s [u] (by rw [hx]; rfl)
    rw [hx] at this
    exact this
  · have := fn_all (prog := prog) (w := w) (base := base) W n iL fd q.ps hfd
    rw [hx] at this
    exact this
end Mi
end
section
set_option Elab.async false
set_option linter.all false
set_option maxRecDepth 100000

/-! G: the functions by their numbers. -/
namespace Mi
open PySem
/-- feed: 0 _law_script -/
def b8 : Ss := (.cons (.ret (.lst true (.cons (.b1 false .list (.slice false (.var 0) .nil (.cons (.int 63) .nil))) (.cons (.int 0) (.cons (.int 0) .nil))))) .nil)
def F8 : Fn := ⟨1, 1, b8⟩
/-- draw: 0 _law_feed_here 1 _law_many 2 _law_at 3 _law_cell 4 _law_number 5 _law_got -/
def b9 : Ss := (.cons (.ite (.cmp .gt (.ix (.var 0) (.int 2)) (.int 0)) (.cons (.set (.name 5) (.bin false .mod (.ix (.var 0) (.int 2)) (.var 1))) (.cons (.setix (.var 0) (.int 2) (.bin false .fdiv (.ix (.var 0) (.int 2)) (.var 1))) (.cons (.ret (.var 5)) .nil))) .nil) (.cons (.set (.name 2) (.ix (.var 0) (.int 1))) (.cons (.setix (.var 0) (.int 1) (.bin false .add (.var 2) (.int 1))) (.cons (.set (.name 3) (.var 2)) (.cons (.ite (.cmp .gt (.b1 false .len (.ix (.var 0) (.int 0))) (.int 0)) (.cons (.set (.name 3) (.ix (.ix (.var 0) (.int 0)) (.bin false .mod (.var 2) (.b1 false .len (.ix (.var 0) (.int 0)))))) .nil) .nil) (.cons (.ite (.and (.cmp .ge (.var 3) (.bin false .pow (.int 10) (.int 18))) (.cmp .lt (.var 2) (.b1 false .len (.ix (.var 0) (.int 0))))) (.cons (.setix (.var 0) (.int 2) (.bin false .fdiv (.var 3) (.var 1))) (.cons (.ret (.bin false .mod (.var 3) (.var 1))) .nil)) .nil) (.cons (.set (.name 4) (.bin false .mod (.bin false .mul (.bin false .add (.bin false .add (.bin false .mod (.var 3) (.int 2147483647)) (.bin false .mul (.bin false .mul (.int 7919) (.var 2)) (.var 2))) (.int 104729)) (.int 48271)) (.int 2147483647))) (.cons (.set (.name 4) (.bin false .mod (.bin false .add (.bin false .mul (.var 4) (.var 4)) (.bin false .mul (.int 69621) (.var 2))) (.int 2147483629))) (.cons (.ret (.bin false .mod (.bin false .fdiv (.bin false .mod (.bin false .mul (.var 4) (.bin false .add (.bin false .mod (.var 4) (.int 65521)) (.int 1))) (.int 2147483587)) (.int 64)) (.var 1))) .nil)))))))))
def F9 : Fn := ⟨2, 6, b9⟩
/-- worth: 0 _law_feed_here 1 _law_way -/
def b10 : Ss := (.cons (.set (.name 1) (.call 9 false (.cons (.var 0) (.cons (.int 12) .nil)))) (.cons (.ite (.cmp .eq (.var 1) (.int 0)) (.cons (.ret (.ix (.lst false (.cons (.bin false .pow (.int 10) (.int 9)) (.cons (.neg (.bin false .pow (.int 10) (.int 9))) (.cons (.bin false .sub (.bin false .pow (.int 10) (.int 9)) (.int 1)) (.cons (.int 31623) (.cons (.neg (.int 31623)) .nil)))))) (.call 9 false (.cons (.var 0) (.cons (.int 5) .nil))))) .nil) .nil) (.cons (.ite (.cmp .eq (.var 1) (.int 1)) (.cons (.ret (.bin false .add (.bin false .mul (.call 9 false (.cons (.var 0) (.cons (.bin false .pow (.int 10) (.int 6)) .nil))) (.int 1000)) (.call 9 false (.cons (.var 0) (.cons (.int 1000) .nil))))) .nil) .nil) (.cons (.ite (.cmp .eq (.var 1) (.int 2)) (.cons (.ret (.bin false .sub (.bin false .sub (.int 0) (.bin false .mul (.call 9 false (.cons (.var 0) (.cons (.bin false .pow (.int 10) (.int 6)) .nil))) (.int 1000))) (.call 9 false (.cons (.var 0) (.cons (.int 1000) .nil))))) .nil) .nil) (.cons (.ret (.bin false .sub (.call 9 false (.cons (.var 0) (.cons (.int 25) .nil))) (.int 9))) .nil)))))
def F10 : Fn := ⟨1, 2, b10⟩
/-- saying: 0 _law_feed_here 1 _law_names 2 _law_deep 3 _law_plain 4 _law_way 5 _law_op 6 _law_a -/
def b23 : Ss := (.cons (.set (.name 4) (.call 9 false (.cons (.var 0) (.cons (.int 9) .nil)))) (.cons (.ite (.and (.cmp .gt (.var 2) (.int 1)) (.cmp .gt (.var 4) (.int 4))) (.cons (.set (.name 5) (.ix (.lst false (.cons (.str "plus") (.cons (.str "less") (.cons (.str "times") (.cons (.str "over") (.cons (.str "least") (.cons (.str "most") .nil))))))) (.call 9 false (.cons (.var 0) (.cons (.int 6) .nil))))) (.cons (.set (.name 6) (.call 23 false (.cons (.var 0) (.cons (.var 1) (.cons (.bin false .sub (.var 2) (.int 1)) (.cons (.var 3) .nil)))))) (.cons (.ret (.tup (.cons (.var 5) (.cons (.var 6) (.cons (.call 23 false (.cons (.var 0) (.cons (.var 1) (.cons (.bin false .sub (.var 2) (.int 1)) (.cons (.var 3) .nil))))) .nil))))) .nil))) .nil) (.cons (.ite (.and (.cmp .lt (.var 4) (.int 2)) (.cmp .ne (.var 1) (.lst false .nil))) (.cons (.ret (.tup (.cons (.str "worth") (.cons (.ix (.var 1) (.call 9 false (.cons (.var 0) (.cons (.b1 false .len (.var 1)) .nil)))) .nil)))) .nil) .nil) (.cons (.ite (.and (.cmp .eq (.var 4) (.int 2)) (.not (.var 3))) (.cons (.ret (.ix (.lst false (.cons (.tup (.cons (.str "given") .nil)) (.cons (.tup (.cons (.str "own") .nil)) .nil))) (.call 9 false (.cons (.var 0) (.cons (.int 2) .nil))))) .nil) .nil) (.cons (.ite (.cmp .eq (.var 4) (.int 3)) (.cons (.ret (.tup (.cons (.str "above") (.cons (.ix (.lst false (.cons (.str "hp") (.cons (.str "up") (.cons (.str "zz") .nil)))) (.call 9 false (.cons (.var 0) (.cons (.int 3) .nil)))) .nil)))) .nil) .nil) (.cons (.ret (.tup (.cons (.str "number") (.cons (.call 10 false (.cons (.var 0) .nil)) .nil)))) .nil))))))
def F23 : Fn := ⟨4, 7, b23⟩
/-- Kind___init__: 0 self 1 told -/
def b33 : Ss := (.cons (.setattr (.var 0) 0 (.ix (.var 1) (.int 0))) (.cons (.setattr (.var 0) 1 (.ix (.var 1) (.int 1))) (.cons (.setattr (.var 0) 2 (.ix (.var 1) (.int 2))) (.cons (.setattr (.var 0) 3 (.ix (.var 1) (.int 3))) (.cons (.setattr (.var 0) 4 (.ix (.var 1) (.int 4))) (.cons (.setattr (.var 0) 5 (.ix (.var 1) (.int 5))) (.cons (.setattr (.var 0) 6 (.ix (.var 1) (.int 6))) (.cons (.setattr (.var 0) 7 (.ix (.var 1) (.int 7))) .nil))))))))
def F33 : Fn := ⟨2, 2, b33⟩
/-- picked: 0 _law_feed_here 1 _law_some 2 _law_many 3 _law_left 4 _law_found 5 _law_k -/
def b47 : Ss := (.cons (.set (.name 3) (.b1 true .list (.var 1))) (.cons (.set (.name 4) (.lst true .nil)) (.cons (.for_ (.name 5) (.range1 (.b2 .min2 (.var 2) (.b1 false .len (.var 3)))) (.cons (.expr (.bm .lappend (.var 4) (.cons (.bm .lpopat (.var 3) (.cons (.call 9 false (.cons (.var 0) (.cons (.b1 false .len (.var 3)) .nil))) .nil)) .nil))) (.cons (.wipe [5]) .nil))) (.cons (.ret (.var 4)) .nil))))
def F47 : Fn := ⟨3, 6, b47⟩
/-- acts: 0 _law_feed_here 1 _law_kinds 2 _law_found 3 _law_k 4 _law_way -/
def b49 : Ss := (.cons (.set (.name 2) (.lst true .nil)) (.cons (.for_ (.name 3) (.range1 (.call 9 false (.cons (.var 0) (.cons (.int 4) .nil)))) (.cons (.set (.name 4) (.call 9 false (.cons (.var 0) (.cons (.int 5) .nil)))) (.cons (.ite (.or (.cmp .eq (.var 4) (.int 0)) (.cmp .eq (.var 1) (.lst false .nil))) (.cons (.expr (.bm .lappend (.var 2) (.cons (.tup (.cons (.str "pass") (.cons (.bin false .add (.int 1) (.call 9 false (.cons (.var 0) (.cons (.int 4) .nil)))) .nil))) .nil))) .nil) (.cons (.ite (.cmp .eq (.var 4) (.int 1)) (.cons (.expr (.bm .lappend (.var 2) (.cons (.tup (.cons (.str "end") (.cons (.ix (.var 1) (.call 9 false (.cons (.var 0) (.cons (.b1 false .len (.var 1)) .nil)))) .nil))) .nil))) .nil) (.cons (.expr (.bm .lappend (.var 2) (.cons (.tup (.cons (.str "bring") (.cons (.ix (.var 1) (.call 9 false (.cons (.var 0) (.cons (.b1 false .len (.var 1)) .nil)))) (.cons (.call 10 false (.cons (.var 0) .nil)) .nil)))) .nil))) .nil)) .nil)) (.cons (.wipe [3, 4]) .nil)))) (.cons (.ret (.b1 false .tuple (.var 2))) .nil)))
def F49 : Fn := ⟨2, 5, b49⟩
/-- kind_of: 0 book 1 name 2 told -/
def b63 : Ss := (.cons (.for_ (.name 2) (.val (.ix (.var 0) (.int 1))) (.cons (.ite (.cmp .eq (.ix (.var 2) (.int 0)) (.var 1)) (.cons (.ret (.mk 10 false (.cons (.var 2) .nil))) .nil) .nil) (.cons (.wipe [2]) .nil))) (.cons (.ret .non) .nil))
def F63 : Fn := ⟨2, 3, b63⟩
/-- how_many: 0 state 1 kind 2 effect -/
def b66 : Ss := (.cons (.ret (.b1 false .len (.lc false [2] (.name 2) (.val (.var 0)) (.cons (.cmp .eq (.ix (.var 2) (.int 0)) (.var 1)) .nil) (.var 2)))) .nil)
def F66 : Fn := ⟨2, 3, b66⟩
/-- without_first: 0 state 1 kind 2 at 3 effect -/
def b68 : Ss := (.cons (.set (.name 2) (.bm .lindex (.lc false [3] (.name 3) (.val (.var 0)) .nil (.ix (.var 3) (.int 0))) (.cons (.var 1) .nil))) (.cons (.ret (.bin false .add (.slice false (.var 0) .nil (.cons (.var 2) .nil)) (.slice false (.var 0) (.cons (.bin false .add (.var 2) (.int 1)) .nil) .nil))) .nil))
def F68 : Fn := ⟨2, 4, b68⟩
/-- brought: 0 book 1 state 2 name 3 given 4 kind 5 new -/
def b69 : Ss := (.cons (.set (.name 4) (.call 63 false (.cons (.var 0) (.cons (.var 2) .nil)))) (.cons (.set (.name 5) (.tup (.cons (.var 2) (.cons (.var 3) (.cons (.attr (.var 4) 2) .nil))))) (.cons (.ite (.cmp .lt (.call 66 false (.cons (.var 1) (.cons (.var 2) .nil))) (.attr (.var 4) 3)) (.cons (.ret (.bin false .add (.var 1) (.tup (.cons (.var 5) .nil)))) .nil) .nil) (.cons (.ite (.attr (.var 4) 4) (.cons (.ret (.bin false .add (.call 68 false (.cons (.var 1) (.cons (.var 2) .nil))) (.tup (.cons (.var 5) .nil)))) .nil) .nil) (.cons (.ret (.var 1)) .nil)))))
def F69 : Fn := ⟨4, 6, b69⟩
/-- passed: 0 state 1 n 2 found 3 kind 4 given 5 left -/
def b70 : Ss := (.cons (.set (.name 2) (.lst true .nil)) (.cons (.for_ (.tup [3, 4, 5]) (.val (.var 0)) (.cons (.ite (.isnon (.var 5)) (.cons (.expr (.bm .lappend (.var 2) (.cons (.tup (.cons (.var 3) (.cons (.var 4) (.cons (.var 5) .nil)))) .nil))) .nil) (.cons (.ite (.cmp .gt (.var 5) (.var 1)) (.cons (.expr (.bm .lappend (.var 2) (.cons (.tup (.cons (.var 3) (.cons (.var 4) (.cons (.bin false .sub (.var 5) (.var 1)) .nil)))) .nil))) .nil) .nil) .nil)) (.cons (.wipe [3, 4, 5]) .nil))) (.cons (.ret (.b1 false .tuple (.var 2))) .nil)))
def F70 : Fn := ⟨2, 6, b70⟩
/-- acted: 0 book 1 state 2 act 3 effect -/
def b71 : Ss := (.cons (.ite (.cmp .eq (.ix (.var 2) (.int 0)) (.str "bring")) (.cons (.ret (.call 69 false (.cons (.var 0) (.cons (.var 1) (.cons (.ix (.var 2) (.int 1)) (.cons (.ix (.var 2) (.int 2)) .nil)))))) .nil) .nil) (.cons (.ite (.cmp .eq (.ix (.var 2) (.int 0)) (.str "end")) (.cons (.ret (.b1 false .tuple (.lc false [3] (.name 3) (.val (.var 1)) (.cons (.cmp .ne (.ix (.var 3) (.int 0)) (.ix (.var 2) (.int 1))) .nil) (.var 3)))) .nil) .nil) (.cons (.ret (.call 70 false (.cons (.var 1) (.cons (.ix (.var 2) (.int 1)) .nil)))) .nil)))
def F71 : Fn := ⟨3, 4, b71⟩
/-- happened: 0 book 1 state 2 name 3 told 4 acts 5 act -/
def b72 : Ss := (.cons (.for_ (.tup [3, 4]) (.val (.ix (.var 0) (.int 2))) (.cons (.ite (.and (.isi (.var 2) [.str]) (.cmp .eq (.var 3) (.var 2))) (.cons (.for_ (.name 5) (.val (.var 4)) (.cons (.set (.name 1) (.call 71 false (.cons (.var 0) (.cons (.var 1) (.cons (.var 5) .nil))))) (.cons (.wipe [5]) .nil))) (.cons (.ret (.var 1)) .nil)) .nil) (.cons (.wipe [3, 4, 5]) .nil))) (.cons (.raise 2) .nil))
def F72 : Fn := ⟨3, 6, b72⟩
/-- kind: 0 _law_feed_here 1 _law_name 2 _law_known 3 _law_kinds 4 _law_lasts 5 _law_most 6 _law_bars 7 _law_deeds 8 _law_k 9 _law_wide 10 _law_way 11 _law_saying_here -/
def b82 : Ss := (.cons (.set (.name 4) (.ix (.lst false (.cons .non (.cons .non (.cons (.bin false .add (.int 1) (.call 9 false (.cons (.var 0) (.cons (.int 9) .nil)))) (.cons (.bin false .add (.int 1) (.call 9 false (.cons (.var 0) (.cons (.int 3) .nil)))) .nil))))) (.call 9 false (.cons (.var 0) (.cons (.int 4) .nil))))) (.cons (.set (.name 5) (.ix (.lst false (.cons (.int 1) (.cons (.int 1) (.cons (.int 2) (.cons (.bin false .add (.int 1) (.call 9 false (.cons (.var 0) (.cons (.int 4) .nil)))) .nil))))) (.call 9 false (.cons (.var 0) (.cons (.int 4) .nil))))) (.cons (.set (.name 6) (.b1 false .tuple (.b1 false .sorted (.call 47 false (.cons (.var 0) (.cons (.var 3) (.cons (.bin false .mul (.call 9 false (.cons (.var 0) (.cons (.int 3) .nil))) (.call 9 false (.cons (.var 0) (.cons (.int 2) .nil)))) .nil))))))) (.cons (.set (.name 7) (.lst true .nil)) (.cons (.for_ (.name 8) (.range1 (.bin false .mul (.call 9 false (.cons (.var 0) (.cons (.int 4) .nil))) (.b1 false .int (.cmp .ne (.var 2) (.lst false .nil))))) (.cons (.set (.name 10) (.ix (.lst false (.cons (.str "add") (.cons (.str "times") (.cons (.str "over") (.cons (.str "set") (.cons (.str "least") (.cons (.str "most") .nil))))))) (.call 9 false (.cons (.var 0) (.cons (.int 6) .nil))))) (.cons (.set (.name 11) (.call 23 false (.cons (.var 0) (.cons (.var 2) (.cons (.bin false .add (.int 1) (.call 9 false (.cons (.var 0) (.cons (.int 3) .nil)))) (.cons (.bl false) .nil)))))) (.cons (.expr (.bm .lappend (.var 7) (.cons (.tup (.cons (.ix (.var 2) (.call 9 false (.cons (.var 0) (.cons (.b1 false .len (.var 2)) .nil)))) (.cons (.call 9 false (.cons (.var 0) (.cons (.int 3) .nil))) (.cons (.var 10) (.cons (.var 11) .nil))))) .nil))) (.cons (.wipe [8, 10, 11]) .nil))))) (.cons (.set (.name 9) (.ix (.lst false (.cons (.str "own") (.cons (.str "below") .nil))) (.call 9 false (.cons (.var 0) (.cons (.int 2) .nil))))) (.cons (.ret (.tup (.cons (.var 1) (.cons (.call 9 false (.cons (.var 0) (.cons (.int 3) .nil))) (.cons (.var 4) (.cons (.var 5) (.cons (.cmp .eq (.call 9 false (.cons (.var 0) (.cons (.int 2) .nil))) (.int 0)) (.cons (.var 9) (.cons (.var 6) (.cons (.b1 false .tuple (.var 7)) .nil)))))))))) .nil)))))))
def F82 : Fn := ⟨4, 12, b82⟩
/-- book: 0 _law_feed_here 1 _law_names 2 _law_known 3 _law_kinds 4 _law_told 5 _law_name 6 _law_made 7 _law_happenings 8 _law_some 9 _law_one -/
def b83 : Ss := (.cons (.set (.name 1) (.lst false (.cons (.str "hp") (.cons (.str "str") (.cons (.str "a") (.cons (.str "zz") (.cons (.str "might") (.cons (.str "b") (.cons (.str "luck") (.cons (.str "armour") (.cons (.str "wit") (.cons (.str "c") (.cons (.str "speed") (.cons (.str "m") .nil)))))))))))))) (.cons (.set (.name 2) (.call 47 false (.cons (.var 0) (.cons (.var 1) (.cons (.call 9 false (.cons (.var 0) (.cons (.int 8) .nil))) .nil))))) (.cons (.set (.name 3) (.call 47 false (.cons (.var 0) (.cons (.lst false (.cons (.str "bless") (.cons (.str "z") (.cons (.str "curse") (.cons (.str "ab") (.cons (.str "ward") (.cons (.str "hp") (.cons (.str "rage") (.cons (.str "k") .nil))))))))) (.cons (.call 9 false (.cons (.var 0) (.cons (.int 7) .nil))) .nil))))) (.cons (.set (.name 4) (.lst true .nil)) (.cons (.for_ (.name 5) (.val (.b1 false .sorted (.var 2))) (.cons (.set (.name 8) (.ix (.lst false (.cons (.var 2) (.cons (.lc false [9] (.name 9) (.val (.var 2)) (.cons (.cmp .lt (.var 9) (.var 5)) .nil) (.var 9)) .nil))) (.b1 false .int (.cmp .gt (.call 9 false (.cons (.var 0) (.cons (.int 4) .nil))) (.int 0))))) (.cons (.expr (.bm .lappend (.var 4) (.cons (.tup (.cons (.var 5) (.cons (.call 23 false (.cons (.var 0) (.cons (.var 8) (.cons (.bin false .add (.int 1) (.call 9 false (.cons (.var 0) (.cons (.int 3) .nil)))) (.cons (.bl true) .nil))))) .nil))) .nil))) (.cons (.wipe [8]) .nil)))) (.cons (.set (.name 6) (.lc false [5] (.name 5) (.val (.b1 false .sorted (.var 3))) .nil (.call 82 false (.cons (.var 0) (.cons (.var 5) (.cons (.var 2) (.cons (.var 3) .nil))))))) (.cons (.set (.name 7) (.lst true .nil)) (.cons (.for_ (.name 5) (.val (.b1 false .sorted (.call 47 false (.cons (.var 0) (.cons (.lst false (.cons (.str "dawn") (.cons (.str "hit") (.cons (.str "rest") (.cons (.str "a") (.cons (.str "pray") (.cons (.str "zz") .nil))))))) (.cons (.call 9 false (.cons (.var 0) (.cons (.int 6) .nil))) .nil)))))) (.cons (.expr (.bm .lappend (.var 7) (.cons (.tup (.cons (.var 5) (.cons (.call 49 false (.cons (.var 0) (.cons (.var 3) .nil))) .nil))) .nil))) (.cons (.wipe [5]) .nil))) (.cons (.ret (.tup (.cons (.b1 false .tuple (.var 4)) (.cons (.b1 false .tuple (.var 6)) (.cons (.b1 false .tuple (.var 7)) .nil))))) .nil)))))))))
def F83 : Fn := ⟨1, 10, b83⟩
/-- state: 0 _law_feed_here 1 _law_book_here 2 _law_found 3 _law_told 4 _law_stand 5 _law_left 6 _law_effect -/
def b84 : Ss := (.cons (.set (.name 2) (.lst true .nil)) (.cons (.for_ (.name 3) (.val (.bin false .add (.bin false .add (.ix (.var 1) (.int 1)) (.ix (.var 1) (.int 1))) (.ix (.var 1) (.int 1)))) (.cons (.set (.name 4) (.b1 false .len (.lc false [6] (.name 6) (.val (.var 2)) (.cons (.cmp .eq (.ix (.var 6) (.int 0)) (.ix (.var 3) (.int 0))) .nil) (.var 6)))) (.cons (.ite (.and (.cmp .lt (.var 4) (.ix (.var 3) (.int 3))) (.cmp .gt (.call 9 false (.cons (.var 0) (.cons (.int 5) .nil))) (.int 1))) (.cons (.set (.name 5) (.ix (.var 3) (.int 2))) (.cons (.ite (.notnon (.var 5)) (.cons (.set (.name 5) (.bin false .add (.int 1) (.call 9 false (.cons (.var 0) (.cons (.var 5) .nil))))) .nil) .nil) (.cons (.expr (.bm .linsert (.var 2) (.cons (.call 9 false (.cons (.var 0) (.cons (.bin false .add (.b1 false .len (.var 2)) (.int 1)) .nil))) (.cons (.tup (.cons (.ix (.var 3) (.int 0)) (.cons (.call 10 false (.cons (.var 0) .nil)) (.cons (.var 5) .nil)))) .nil)))) .nil))) .nil) (.cons (.wipe [3, 4, 5]) .nil)))) (.cons (.ret (.b1 false .tuple (.var 2))) .nil)))
def F84 : Fn := ⟨2, 7, b84⟩
/-- gone_along: 0 book 1 row 2 state 3 name -/
def b89 : Ss := (.cons (.set (.name 2) (.tup .nil)) (.cons (.for_ (.name 3) (.val (.var 1)) (.cons (.setX (.name 2) (.call 72 false (.cons (.var 0) (.cons (.var 2) (.cons (.var 3) .nil))))) (.cons (.wipe [3]) .nil))) (.cons (.ret (.var 2)) .nil)))
def F89 : Fn := ⟨2, 4, b89⟩
/-- acted: 0 _law_book_here 1 _law_state_here 2 _law_act_here 3 _law_rest 4 _law_told 5 _law_many 6 _law_found 7 _law_effect 8 _law_kind_here 9 _law_given 10 _law_left 11 _law_one -/
def b90 : Ss := (.cons (.ite (.cmp .eq (.ix (.var 2) (.int 0)) (.str "pass")) (.cons (.set (.name 6) (.lc true [7] (.name 7) (.val (.var 1)) (.cons (.or (.isnon (.ix (.var 7) (.int 2))) (.cmp .gt (.ix (.var 7) (.int 2)) (.ix (.var 2) (.int 1)))) .nil) (.var 7))) (.cons (.ret (.lc false [8, 9, 10] (.tup [8, 9, 10]) (.val (.var 6)) .nil (.tup (.cons (.var 8) (.cons (.var 9) (.cons (.call 91 false (.cons (.var 10) (.cons (.ix (.var 2) (.int 1)) .nil))) .nil)))))) .nil)) .nil) (.cons (.set (.name 3) (.lc false [7] (.name 7) (.val (.var 1)) (.cons (.cmp .ne (.ix (.var 7) (.int 0)) (.ix (.var 2) (.int 1))) .nil) (.var 7))) (.cons (.ite (.cmp .eq (.ix (.var 2) (.int 0)) (.str "end")) (.cons (.ret (.var 3)) .nil) .nil) (.cons (.set (.name 4) (.ix (.lc false [11] (.name 11) (.val (.ix (.var 0) (.int 1))) (.cons (.cmp .eq (.ix (.var 11) (.int 0)) (.ix (.var 2) (.int 1))) .nil) (.var 11)) (.int 0))) (.cons (.set (.name 5) (.bin false .sub (.b1 false .len (.var 1)) (.b1 false .len (.var 3)))) (.cons (.ite (.and (.cmp .eq (.var 5) (.ix (.var 4) (.int 3))) (.not (.ix (.var 4) (.int 4)))) (.cons (.ret (.b1 false .list (.var 1))) .nil) .nil) (.cons (.set (.name 6) (.b1 true .list (.var 1))) (.cons (.ite (.cmp .eq (.var 5) (.ix (.var 4) (.int 3))) (.cons (.expr (.bm .lremove (.var 6) (.cons (.ix (.lc false [7] (.name 7) (.val (.var 1)) (.cons (.cmp .eq (.ix (.var 7) (.int 0)) (.ix (.var 2) (.int 1))) .nil) (.var 7)) (.int 0)) .nil))) .nil) .nil) (.cons (.ret (.bin false .add (.var 6) (.lst false (.cons (.tup (.cons (.ix (.var 2) (.int 1)) (.cons (.ix (.var 2) (.int 2)) (.cons (.ix (.var 4) (.int 2)) .nil)))) .nil)))) .nil)))))))))
def F90 : Fn := ⟨3, 12, b90⟩
/-- less: 0 _law_left 1 _law_n -/
def b91 : Ss := (.cons (.ite (.isnon (.var 0)) (.cons (.ret .non) .nil) .nil) (.cons (.ret (.bin false .sub (.var 0) (.var 1))) .nil))
def F91 : Fn := ⟨2, 2, b91⟩
/-- met: 0 _law_book_here 1 _law_state_here 2 _law_name 3 _law_kept 4 _law_told 5 e -/
def b92 : Ss := (.cons (.set (.tup [3, 4]) (.tup (.cons .non (.cons .non .nil)))) (.cons (.try_ (.cons (.setX (.name 4) (.call 72 false (.cons (.var 0) (.cons (.var 1) (.cons (.var 2) .nil))))) .nil) 0 (some 5) 3 .exn) (.cons (.ite (.isnon (.var 3)) (.cons (.ret (.var 4)) .nil) .nil) (.cons (.ret (.ix (.lst false (.cons (.str "another") (.cons (.str "no name") .nil))) (.b1 false .int (.and (.isx (.var 3) [some 2]) (.not (.isx (.var 3) [some 1, some 3, some 6])))))) .nil))))
def F92 : Fn := ⟨3, 6, b92⟩
/-- gone: 0 _law_book_here 1 _law_row 2 _law_kept 3 _law_told 4 e -/
def b93 : Ss := (.cons (.set (.tup [2, 3]) (.tup (.cons .non (.cons .non .nil)))) (.cons (.try_ (.cons (.setX (.name 3) (.call 89 false (.cons (.var 0) (.cons (.var 1) .nil)))) .nil) 0 (some 4) 2 .exn) (.cons (.ite (.isnon (.var 2)) (.cons (.ret (.var 3)) .nil) .nil) (.cons (.ret (.ix (.lst false (.cons (.str "another") (.cons (.str "no name") .nil))) (.b1 false .int (.and (.isx (.var 2) [some 2]) (.not (.isx (.var 2) [some 1, some 3, some 6])))))) .nil))))
def F93 : Fn := ⟨2, 5, b93⟩
/-- act: 0 _law_feed_here 1 _law_kinds 2 _law_way 3 _law_kind_here -/
def b94 : Ss := (.cons (.set (.name 2) (.call 9 false (.cons (.var 0) (.cons (.int 4) .nil)))) (.cons (.ite (.or (.cmp .eq (.var 2) (.int 0)) (.cmp .eq (.var 1) (.lst false .nil))) (.cons (.ret (.tup (.cons (.str "pass") (.cons (.bin false .add (.int 1) (.call 9 false (.cons (.var 0) (.cons (.int 9) .nil)))) .nil)))) .nil) .nil) (.cons (.set (.name 3) (.ix (.var 1) (.call 9 false (.cons (.var 0) (.cons (.b1 false .len (.var 1)) .nil))))) (.cons (.ite (.cmp .eq (.var 2) (.int 1)) (.cons (.ret (.tup (.cons (.str "end") (.cons (.var 3) .nil)))) .nil) .nil) (.cons (.ret (.tup (.cons (.str "bring") (.cons (.var 3) (.cons (.call 10 false (.cons (.var 0) .nil)) .nil))))) .nil)))))
def F94 : Fn := ⟨2, 4, b94⟩
/-- bout: 0 _law_feed_here 1 _law_book_here 2 _law_kinds 3 _law_state_here 4 _law_row 5 _law_gone_here 6 _law_turn 7 _law_names 8 _law_at 9 _law_no 10 _law_act_here 11 _law_due 12 _law_again 13 _law_name 14 _law_acts_here 15 _law_one -/
def b95 : Ss := (.cons (.set (.name 1) (.call 83 false (.cons (.var 0) .nil))) (.cons (.set (.name 2) (.lc false [15] (.name 15) (.val (.ix (.var 1) (.int 1))) .nil (.ix (.var 15) (.int 0)))) (.cons (.set (.tup [3, 4, 5]) (.tup (.cons (.call 84 false (.cons (.var 0) (.cons (.var 1) .nil))) (.cons (.tup .nil) (.cons (.lst false .nil) .nil))))) (.cons (.for_ (.name 6) (.range1 (.int 10)) (.cons (.set (.name 10) (.call 94 false (.cons (.var 0) (.cons (.var 2) .nil)))) (.cons (.set (.name 11) (.call 90 false (.cons (.var 1) (.cons (.var 3) (.cons (.var 10) .nil))))) (.cons (.for_ (.name 12) (.range1 (.int 2)) (.cons (.ite (.cmp .ne (.b1 false .repr (.call 71 false (.cons (.var 1) (.cons (.var 3) (.cons (.var 10) .nil))))) (.b1 false .repr (.b1 false .tuple (.var 11)))) (.cons (.ret (.bl false)) .nil) .nil) (.cons (.wipe [12]) .nil))) (.cons (.set (.name 3) (.b1 false .tuple (.var 11))) (.cons (.ite (.cmp .ne (.ix (.var 1) (.int 2)) (.tup .nil)) (.cons (.set (.tup [13, 14]) (.ix (.ix (.var 1) (.int 2)) (.call 9 false (.cons (.var 0) (.cons (.b1 false .len (.ix (.var 1) (.int 2))) .nil))))) (.cons (.set (.name 11) (.b1 false .list (.var 3))) (.cons (.for_ (.name 15) (.val (.var 14)) (.cons (.set (.name 11) (.call 90 false (.cons (.var 1) (.cons (.var 11) (.cons (.var 15) .nil))))) (.cons (.set (.name 5) (.call 90 false (.cons (.var 1) (.cons (.var 5) (.cons (.var 15) .nil))))) .nil))) (.cons (.set (.name 4) (.bin false .add (.var 4) (.tup (.cons (.var 13) .nil)))) (.cons (.for_ (.name 12) (.range1 (.int 2)) (.cons (.ite (.cmp .ne (.b1 false .repr (.call 92 false (.cons (.var 1) (.cons (.var 3) (.cons (.var 13) .nil))))) (.b1 false .repr (.b1 false .tuple (.var 11)))) (.cons (.ret (.bl false)) .nil) .nil) (.cons (.ite (.cmp .ne (.b1 false .repr (.call 89 false (.cons (.var 1) (.cons (.var 4) .nil)))) (.b1 false .repr (.b1 false .tuple (.var 5)))) (.cons (.ret (.bl false)) .nil) .nil) (.cons (.wipe [12]) .nil)))) (.cons (.set (.name 3) (.b1 false .tuple (.var 11))) .nil)))))) .nil) (.cons (.wipe [6, 10, 11, 12, 13, 14]) .nil))))))) (.cons (.set (.name 7) (.lc false [15] (.name 15) (.val (.ix (.var 1) (.int 2))) .nil (.ix (.var 15) (.int 0)))) (.cons (.set (.name 8) (.call 9 false (.cons (.var 0) (.cons (.bin false .add (.b1 false .len (.var 4)) (.int 1)) .nil)))) (.cons (.for_ (.name 9) (.val (.tup (.cons (.str "none") (.cons (.str "") (.cons .non (.cons (.int 5) (.cons (.tup (.cons (.str "a") .nil)) (.cons (.lst false (.cons (.str "a") .nil)) (.cons (.bl true) (.cons (.str "Dawn") .nil)))))))))) (.cons (.ite (.and (.cmp .notin (.var 9) (.var 7)) (.cmp .ne (.call 92 false (.cons (.var 1) (.cons (.var 3) (.cons (.var 9) .nil)))) (.str "no name"))) (.cons (.ret (.bl false)) .nil) .nil) (.cons (.ite (.and (.cmp .notin (.var 9) (.var 7)) (.cmp .ne (.call 93 false (.cons (.var 1) (.cons (.bin false .add (.bin false .add (.slice false (.var 4) .nil (.cons (.var 8) .nil)) (.tup (.cons (.var 9) .nil))) (.slice false (.var 4) (.cons (.var 8) .nil) .nil)) .nil))) (.str "no name"))) (.cons (.ret (.bl false)) .nil) .nil) (.cons (.wipe [9]) .nil)))) (.cons (.ret (.cmp .eq (.call 89 false (.cons (.var 1) (.cons (.tup .nil) .nil))) (.tup .nil))) .nil))))))))
def F95 : Fn := ⟨1, 16, b95⟩
/-- law: 0 _law_script 1 _law_feed_here 2 _law_bout_here -/
def b96 : Ss := (.cons (.set (.name 1) (.call 8 true (.cons (.var 0) .nil))) (.cons (.for_ (.name 2) (.range1 (.int 3)) (.cons (.ite (.not (.call 95 false (.cons (.var 1) .nil))) (.cons (.ret (.bl false)) .nil) .nil) (.cons (.wipe [2]) .nil))) (.cons (.ret (.bl true)) .nil)))
def F96 : Fn := ⟨1, 3, b96⟩
def tabG : Tab where
  fns := [(8, F8), (9, F9), (10, F10), (23, F23), (33, F33), (47, F47), (49, F49), (63, F63), (66, F66), (68, F68), (69, F69), (70, F70), (71, F71), (72, F72), (82, F82), (83, F83), (84, F84), (89, F89), (90, F90), (91, F91), (92, F92), (93, F93), (94, F94), (95, F95), (96, F96)]
  cls := [(10, 33)]
  meths := []
  cons := []
  kds := []
  wh := 1000
  xcs := [(0, [0]), (1, [1, 0]), (2, [2, 0]), (3, [3, 0]), (6, [6, 0])]
def GP : Pg := tabG.pg
theorem g8 : GP.fns 8 = F8 := rfl
theorem g9 : GP.fns 9 = F9 := rfl
theorem g10 : GP.fns 10 = F10 := rfl
theorem g23 : GP.fns 23 = F23 := rfl
theorem g33 : GP.fns 33 = F33 := rfl
theorem g47 : GP.fns 47 = F47 := rfl
theorem g49 : GP.fns 49 = F49 := rfl
theorem g63 : GP.fns 63 = F63 := rfl
theorem g66 : GP.fns 66 = F66 := rfl
theorem g68 : GP.fns 68 = F68 := rfl
theorem g69 : GP.fns 69 = F69 := rfl
theorem g70 : GP.fns 70 = F70 := rfl
theorem g71 : GP.fns 71 = F71 := rfl
theorem g72 : GP.fns 72 = F72 := rfl
theorem g82 : GP.fns 82 = F82 := rfl
theorem g83 : GP.fns 83 = F83 := rfl
theorem g84 : GP.fns 84 = F84 := rfl
theorem g89 : GP.fns 89 = F89 := rfl
theorem g90 : GP.fns 90 = F90 := rfl
theorem g91 : GP.fns 91 = F91 := rfl
theorem g92 : GP.fns 92 = F92 := rfl
theorem g93 : GP.fns 93 = F93 := rfl
theorem g94 : GP.fns 94 = F94 := rfl
theorem g95 : GP.fns 95 = F95 := rfl
theorem g96 : GP.fns 96 = F96 := rfl
@[simp] theorem hc10 : GP.hc 10 = true := rfl
@[simp] theorem xs0 : GP.xs 0 = [0] := rfl
@[simp] theorem xs1 : GP.xs 1 = [1, 0] := rfl
@[simp] theorem xs2 : GP.xs 2 = [2, 0] := rfl
@[simp] theorem xs3 : GP.xs 3 = [3, 0] := rfl
@[simp] theorem xs6 : GP.xs 6 = [6, 0] := rfl
@[simp] theorem in10 : GP.init 10 = 33 := rfl
end Mi
end
section
set_option Elab.async false
set_option linter.all false
set_option maxRecDepth 100000
set_option maxHeartbeats 0
namespace C
open PySem PySem.Spec L2 Mi
def top (i : Nat) : Stmt := PySem.Challenge.pw_worthsheets_k09_acts_and_happenings.main.body.getD i (.Pass ⟨0, 0, 0, 0⟩)
def d33 : He.DefD := ⟨("Kind", some "__init__"), "__init__", "Kind.__init__", defArgs (inClass (top 7) 0), defBody (inClass (top 7) 0), defScope (inClass (top 7) 0), [], []⟩
def q33 : Df := ⟨d33, ["self", "told"], ["self", "told"]⟩
def d63 : He.DefD := ⟨("kind_of", none), "kind_of", "kind_of", defArgs (top 8), defBody (top 8), defScope (top 8), [], []⟩
def q63 : Df := ⟨d63, ["book", "name", "told"], ["book", "name"]⟩
def d66 : He.DefD := ⟨("how_many", none), "how_many", "how_many", defArgs (top 10), defBody (top 10), defScope (top 10), [], []⟩
def q66 : Df := ⟨d66, ["state", "kind", "effect"], ["state", "kind"]⟩
def d68 : He.DefD := ⟨("without_first", none), "without_first", "without_first", defArgs (top 11), defBody (top 11), defScope (top 11), [], []⟩
def q68 : Df := ⟨d68, ["state", "kind", "at", "effect"], ["state", "kind"]⟩
def d69 : He.DefD := ⟨("brought", none), "brought", "brought", defArgs (top 12), defBody (top 12), defScope (top 12), [], []⟩
def q69 : Df := ⟨d69, ["book", "state", "name", "given", "kind", "new"], ["book", "state", "name", "given"]⟩
def d70 : He.DefD := ⟨("passed", none), "passed", "passed", defArgs (top 13), defBody (top 13), defScope (top 13), [], []⟩
def q70 : Df := ⟨d70, ["state", "n", "found", "kind", "given", "left"], ["state", "n"]⟩
def d71 : He.DefD := ⟨("acted", none), "acted", "acted", defArgs (top 14), defBody (top 14), defScope (top 14), [], []⟩
def q71 : Df := ⟨d71, ["book", "state", "act", "effect"], ["book", "state", "act"]⟩
def d72 : He.DefD := ⟨("happened", none), "happened", "happened", defArgs (top 15), defBody (top 15), defScope (top 15), [], []⟩
def q72 : Df := ⟨d72, ["book", "state", "name", "told", "acts", "act"], ["book", "state", "name"]⟩
def d89 : He.DefD := ⟨("gone_along", none), "gone_along", "gone_along", defArgs (top 16), defBody (top 16), defScope (top 16), [], []⟩
def q89 : Df := ⟨d89, ["book", "row", "state", "name"], ["book", "row"]⟩
def d8 : He.DefD := ⟨("_law_feed", none), "_law_feed", "_law_feed", defArgs (top 18), defBody (top 18), defScope (top 18), [], []⟩
def q8 : Df := ⟨d8, ["_law_script"], ["_law_script"]⟩
def d9 : He.DefD := ⟨("_law_draw", none), "_law_draw", "_law_draw", defArgs (top 19), defBody (top 19), defScope (top 19), [], []⟩
def q9 : Df := ⟨d9, ["_law_feed_here", "_law_many", "_law_at", "_law_cell", "_law_number", "_law_got"], ["_law_feed_here", "_law_many"]⟩
def d10 : He.DefD := ⟨("_law_worth", none), "_law_worth", "_law_worth", defArgs (top 20), defBody (top 20), defScope (top 20), [], []⟩
def q10 : Df := ⟨d10, ["_law_feed_here", "_law_way"], ["_law_feed_here"]⟩
def d23 : He.DefD := ⟨("_law_saying", none), "_law_saying", "_law_saying", defArgs (top 21), defBody (top 21), defScope (top 21), [], []⟩
def q23 : Df := ⟨d23, ["_law_feed_here", "_law_names", "_law_deep", "_law_plain", "_law_way", "_law_op", "_law_a"], ["_law_feed_here", "_law_names", "_law_deep", "_law_plain"]⟩
def d47 : He.DefD := ⟨("_law_picked", none), "_law_picked", "_law_picked", defArgs (top 22), defBody (top 22), defScope (top 22), [], []⟩
def q47 : Df := ⟨d47, ["_law_feed_here", "_law_some", "_law_many", "_law_left", "_law_found", "_law_k"], ["_law_feed_here", "_law_some", "_law_many"]⟩
def d82 : He.DefD := ⟨("_law_kind", none), "_law_kind", "_law_kind", defArgs (top 23), defBody (top 23), defScope (top 23), [], []⟩
def q82 : Df := ⟨d82, ["_law_feed_here", "_law_name", "_law_known", "_law_kinds", "_law_lasts", "_law_most", "_law_bars", "_law_deeds", "_law_k", "_law_wide", "_law_way", "_law_saying_here"], ["_law_feed_here", "_law_name", "_law_known", "_law_kinds"]⟩
def d49 : He.DefD := ⟨("_law_acts", none), "_law_acts", "_law_acts", defArgs (top 24), defBody (top 24), defScope (top 24), [], []⟩
def q49 : Df := ⟨d49, ["_law_feed_here", "_law_kinds", "_law_found", "_law_k", "_law_way"], ["_law_feed_here", "_law_kinds"]⟩
def d83 : He.DefD := ⟨("_law_book", none), "_law_book", "_law_book", defArgs (top 25), defBody (top 25), defScope (top 25), [], []⟩
def q83 : Df := ⟨d83, ["_law_feed_here", "_law_names", "_law_known", "_law_kinds", "_law_told", "_law_name", "_law_made", "_law_happenings", "_law_some", "_law_one"], ["_law_feed_here"]⟩
def d84 : He.DefD := ⟨("_law_state", none), "_law_state", "_law_state", defArgs (top 26), defBody (top 26), defScope (top 26), [], []⟩
def q84 : Df := ⟨d84, ["_law_feed_here", "_law_book_here", "_law_found", "_law_told", "_law_stand", "_law_left", "_law_effect"], ["_law_feed_here", "_law_book_here"]⟩
def d90 : He.DefD := ⟨("_law_acted", none), "_law_acted", "_law_acted", defArgs (top 27), defBody (top 27), defScope (top 27), [], []⟩
def q90 : Df := ⟨d90, ["_law_book_here", "_law_state_here", "_law_act_here", "_law_rest", "_law_told", "_law_many", "_law_found", "_law_effect", "_law_kind_here", "_law_given", "_law_left", "_law_one"], ["_law_book_here", "_law_state_here", "_law_act_here"]⟩
def d91 : He.DefD := ⟨("_law_less", none), "_law_less", "_law_less", defArgs (top 28), defBody (top 28), defScope (top 28), [], []⟩
def q91 : Df := ⟨d91, ["_law_left", "_law_n"], ["_law_left", "_law_n"]⟩
def d92 : He.DefD := ⟨("_law_met", none), "_law_met", "_law_met", defArgs (top 29), defBody (top 29), defScope (top 29), [], []⟩
def q92 : Df := ⟨d92, ["_law_book_here", "_law_state_here", "_law_name", "_law_kept", "_law_told", "e"], ["_law_book_here", "_law_state_here", "_law_name"]⟩
def d93 : He.DefD := ⟨("_law_gone", none), "_law_gone", "_law_gone", defArgs (top 30), defBody (top 30), defScope (top 30), [], []⟩
def q93 : Df := ⟨d93, ["_law_book_here", "_law_row", "_law_kept", "_law_told", "e"], ["_law_book_here", "_law_row"]⟩
def d94 : He.DefD := ⟨("_law_act", none), "_law_act", "_law_act", defArgs (top 31), defBody (top 31), defScope (top 31), [], []⟩
def q94 : Df := ⟨d94, ["_law_feed_here", "_law_kinds", "_law_way", "_law_kind_here"], ["_law_feed_here", "_law_kinds"]⟩
def d95 : He.DefD := ⟨("_law_bout", none), "_law_bout", "_law_bout", defArgs (top 32), defBody (top 32), defScope (top 32), [], []⟩
def q95 : Df := ⟨d95, ["_law_feed_here", "_law_book_here", "_law_kinds", "_law_state_here", "_law_row", "_law_gone_here", "_law_turn", "_law_names", "_law_at", "_law_no", "_law_act_here", "_law_due", "_law_again", "_law_name", "_law_acts_here", "_law_one"], ["_law_feed_here"]⟩
def d96 : He.DefD := ⟨("law", none), "law", "law", defArgs (top 33), defBody (top 33), defScope (top 33), [], []⟩
def q96 : Df := ⟨d96, ["_law_script", "_law_feed_here", "_law_bout_here"], ["_law_script"]⟩
def cl : Cl where
  tab := tabG
  defs := [(33, q33), (63, q63), (66, q66), (68, q68), (69, q69), (70, q70), (71, q71), (72, q72), (89, q89), (8, q8), (9, q9), (10, q10), (23, q23), (47, q47), (82, q82), (49, q49), (83, q83), (84, q84), (90, q90), (91, q91), (92, q92), (93, q93), (94, q94), (95, q95), (96, q96)]
  cls := [(10, "Kind")]
  ats := (["name", "weight", "lasts", "most", "fresh", "reach", "bars", "deeds", "standing", "beyond", "kinds", "sayings", "barred", "deeds_by", "needed_by", "worth_by", "steps_by", "begun", "of_worths", "of_kinds", "of_happenings", "rules", "sources", "told", "forgotten", "books", "sheets"] : List PySem.Str)
  mns := (["work_out", "all_worths", "ring_of", "take", "whole", "take_kind", "take_deed", "go", "book_then", "worths_then", "tell", "look_stamp", "untell", "has_act", "forget", "remember", "entries", "course", "state", "book_at", "origins", "worths", "why", "as_never", "copied", "say", "must_be_kept", "answer", "keep_book", "keep_sheet"] : List PySem.Str) ++ (["of_all", "change_sheet", "of_book", "of_worth", "of_sheet", "are_steps"] : List PySem.Str)
  cons := []
  kds := []
  als := []
  xcs := [(0, "SheetError"), (1, "NoBook"), (2, "NoName"), (3, "NoState"), (6, "TooMuch")]
  fns := ([("kind_of", 63), ("how_many", 66), ("without_first", 68), ("brought", 69), ("passed", 70), ("acted", 71), ("happened", 72), ("gone_along", 89), ("_law_feed", 8), ("_law_draw", 9), ("_law_worth", 10), ("_law_saying", 23), ("_law_picked", 47), ("_law_kind", 82), ("_law_acts", 49), ("_law_book", 83), ("_law_state", 84), ("_law_acted", 90), ("_law_less", 91), ("_law_met", 92), ("_law_gone", 93), ("_law_act", 94), ("_law_bout", 95), ("law", 96)] : List (PySem.Str × Nat))
set_option maxRecDepth 100000 in
theorem text_ok : cl.textB = true := by decide +kernel
theorem bind33 : BindsAll q33 := fun _ _ _ _ _ _ us hl => match us, hl with | [_, _], _ => rfl
theorem bind63 : BindsAll q63 := fun _ _ _ _ _ _ us hl => match us, hl with | [_, _], _ => rfl
theorem bind66 : BindsAll q66 := fun _ _ _ _ _ _ us hl => match us, hl with | [_, _], _ => rfl
theorem bind68 : BindsAll q68 := fun _ _ _ _ _ _ us hl => match us, hl with | [_, _], _ => rfl
theorem bind69 : BindsAll q69 := fun _ _ _ _ _ _ us hl => match us, hl with | [_, _, _, _], _ => rfl
theorem bind70 : BindsAll q70 := fun _ _ _ _ _ _ us hl => match us, hl with | [_, _], _ => rfl
theorem bind71 : BindsAll q71 := fun _ _ _ _ _ _ us hl => match us, hl with | [_, _, _], _ => rfl
theorem bind72 : BindsAll q72 := fun _ _ _ _ _ _ us hl => match us, hl with | [_, _, _], _ => rfl
theorem bind89 : BindsAll q89 := fun _ _ _ _ _ _ us hl => match us, hl with | [_, _], _ => rfl
theorem bind8 : BindsAll q8 := fun _ _ _ _ _ _ us hl => match us, hl with | [_], _ => rfl
theorem bind9 : BindsAll q9 := fun _ _ _ _ _ _ us hl => match us, hl with | [_, _], _ => rfl
theorem bind10 : BindsAll q10 := fun _ _ _ _ _ _ us hl => match us, hl with | [_], _ => rfl
theorem bind23 : BindsAll q23 := fun _ _ _ _ _ _ us hl => match us, hl with | [_, _, _, _], _ => rfl
theorem bind47 : BindsAll q47 := fun _ _ _ _ _ _ us hl => match us, hl with | [_, _, _], _ => rfl
theorem bind82 : BindsAll q82 := fun _ _ _ _ _ _ us hl => match us, hl with | [_, _, _, _], _ => rfl
theorem bind49 : BindsAll q49 := fun _ _ _ _ _ _ us hl => match us, hl with | [_, _], _ => rfl
theorem bind83 : BindsAll q83 := fun _ _ _ _ _ _ us hl => match us, hl with | [_], _ => rfl
theorem bind84 : BindsAll q84 := fun _ _ _ _ _ _ us hl => match us, hl with | [_, _], _ => rfl
theorem bind90 : BindsAll q90 := fun _ _ _ _ _ _ us hl => match us, hl with | [_, _, _], _ => rfl
theorem bind91 : BindsAll q91 := fun _ _ _ _ _ _ us hl => match us, hl with | [_, _], _ => rfl
theorem bind92 : BindsAll q92 := fun _ _ _ _ _ _ us hl => match us, hl with | [_, _, _], _ => rfl
theorem bind93 : BindsAll q93 := fun _ _ _ _ _ _ us hl => match us, hl with | [_, _], _ => rfl
theorem bind94 : BindsAll q94 := fun _ _ _ _ _ _ us hl => match us, hl with | [_, _], _ => rfl
theorem bind95 : BindsAll q95 := fun _ _ _ _ _ _ us hl => match us, hl with | [_], _ => rfl
theorem bind96 : BindsAll q96 := fun _ _ _ _ _ _ us hl => match us, hl with | [_], _ => rfl
theorem binds_ok : AllB cl.dl := ⟨bind33, bind63, bind66, bind68, bind69, bind70, bind71, bind72, bind89, bind8, bind9, bind10, bind23, bind47, bind82, bind49, bind83, bind84, bind90, bind91, bind92, bind93, bind94, bind95, bind96, trivial⟩
def nm0 : List PySem.Str := ["SheetError", "NoBook", "NoName", "NoState", "TooMuch", "Kind", "kind_of", "how_many", "without_first", "brought", "passed", "acted", "happened", "gone_along", "_law_feed", "_law_draw", "_law_worth", "_law_saying", "_law_picked", "_law_kind", "_law_acts", "_law_book", "_law_state", "_law_acted", "_law_less", "_law_met", "_law_gone", "_law_act", "_law_bout"]
def names : List PySem.Str := nm0
abbrev R : PySem.W.OpenRow := PySem.W.OpenLaw.row PySem.Challenge.rw_worthsheets_k09_acts_and_happenings
theorem run (w : World) : HandSHeadRun.RunEq R (PySem.W.view R.prog [33]) (hookM 6 cl) (obM 6 cl) 6000 names w := by
  intro os
  kernel_rfl
theorem name_is : (HandSHeadRun.topDef R.prog 33).name = ("law" : PySem.Str) := by kernel_rfl
end C
end
section
set_option Elab.async false
set_option linter.all false
set_option maxRecDepth 100000
/-! MiX: the evaluator by equations. -/
namespace Mi
open PySem
section
variable (G : Sg) (σ : Lo) (M : Hh)
@[simp] theorem ev_var (i : Nat) : evE G (.var i) σ M = match σ[i]? with | some (some d) => .ok d M | _ => .bad := by first | (rw [evE]; done) | (rw [evE]; rfl)
@[simp] theorem ev_int (n : Int) : evE G (.int n) σ M = .ok (.int n) M := by first | (rw [evE]; done) | (rw [evE]; rfl)
@[simp] theorem ev_str (x : Str) : evE G (.str x) σ M = .ok (.str x) M := by first | (rw [evE]; done) | (rw [evE]; rfl)
@[simp] theorem ev_bl (x : Bool) : evE G (.bl x) σ M = .ok (.bl x) M := by first | (rw [evE]; done) | (rw [evE]; rfl)
@[simp] theorem ev_non : evE G .non σ M = .ok .non M := by first | (rw [evE]; done) | (rw [evE]; rfl)
@[simp] theorem ev_kd (g : Nat) (e : E) : evE G (.kd g e) σ M = (evE G e σ M).bind fun d M1 => match d with | .str x => (match (G.kd g).lookup x with | some v => .ok v M1 | none => .bad) | _ => .bad := by first | (rw [evE]; done) | (rw [evE]; rfl)
@[simp] theorem ev_con (g : Nat) : evE G (.con g) σ M = .ok (G.con g) M := by first | (rw [evE]; done) | (rw [evE]; rfl)
@[simp] theorem ev_tup (es : Es) : evE G (.tup es) σ M = (evEs G es σ M).bind fun ds M1 => .ok (.tup ds) M1 := by first | (rw [evE]; done) | (rw [evE]; rfl)
@[simp] theorem ev_lst (m : Bool) (es : Es) : evE G (.lst m es) σ M = (evEs G es σ M).bind fun ds M1 => alloc m ds M1 := by first | (rw [evE]; done) | (rw [evE]; rfl)
@[simp] theorem ev_dct (m : Bool) (es : Es) : evE G (.dct m es) σ M = (evEs G es σ M).bind fun ds M1 => match pairsOf ds with | some kvs => allocD m kvs M1 | none => .bad := by first | (rw [evE]; done) | (rw [evE]; rfl)
@[simp] theorem ev_not (a : E) : evE G (.not a) σ M = (evE G a σ M).bind fun d M1 => (asBool d M1).bind fun b M2 => .ok (.bl (!b)) M2 := by first | (rw [evE]; done) | (rw [evE]; rfl)
@[simp] theorem ev_and (a b : E) : evE G (.and a b) σ M = (evE G a σ M).bind fun d M1 => (asBool d M1).bind fun c M2 => if c then evE G b σ M2 else .ok (.bl false) M2 := by first | (rw [evE]; done) | (rw [evE]; rfl)
@[simp] theorem ev_or (a b : E) : evE G (.or a b) σ M = (evE G a σ M).bind fun d M1 => (asBool d M1).bind fun c M2 => if c then .ok (.bl true) M2 else evE G b σ M2 := by first | (rw [evE]; done) | (rw [evE]; rfl)
@[simp] theorem ev_ite (c a b : E) : evE G (.ite c a b) σ M = (evE G c σ M).bind fun d M1 => (asBool d M1).bind fun k M2 => if k then evE G a σ M2 else evE G b σ M2 := by first | (rw [evE]; done) | (rw [evE]; rfl)
@[simp] theorem ev_neg (a : E) : evE G (.neg a) σ M = (evE G a σ M).bind fun d M1 => match d with | .int i => .ok (.int (-i)) M1 | _ => .bad := by first | (rw [evE]; done) | (rw [evE]; rfl)
@[simp] theorem ev_bin (m : Bool) (o : Op) (a b : E) : evE G (.bin m o a b) σ M = (evE G a σ M).bind fun x M1 => (evE G b σ M1).bind fun y M2 => binD m o x y M2 := by first | (rw [evE]; done) | (rw [evE]; rfl)
@[simp] theorem ev_cmp (o : Cm) (a b : E) : evE G (.cmp o a b) σ M = (evE G a σ M).bind fun x M1 => (evE G b σ M1).bind fun y M2 => cmpD o x y M2 := by first | (rw [evE]; done) | (rw [evE]; rfl)
@[simp] theorem ev_chain (o1 o2 : Cm) (a b c : E) : evE G (.chain o1 o2 a b c) σ M = (evE G a σ M).bind fun x M1 => (evE G b σ M1).bind fun y M2 => (cmpD o1 x y M2).bind fun r M3 =>
      (asBool r M3).bind fun k M4 => if k then (evE G c σ M4).bind fun z M5 => cmpD o2 y z M5 else .ok (.bl false) M4 := by first | (rw [evE]; done) | (rw [evE]; rfl)
@[simp] theorem ev_isnon (a : E) : evE G (.isnon a) σ M = (evE G a σ M).bind fun d M1 => .ok (.bl (isN d)) M1 := by first | (rw [evE]; done) | (rw [evE]; rfl)
@[simp] theorem ev_notnon (a : E) : evE G (.notnon a) σ M = (evE G a σ M).bind fun d M1 => .ok (.bl (!isN d)) M1 := by first | (rw [evE]; done) | (rw [evE]; rfl)
@[simp] theorem ev_isbl (neg k : Bool) (a : E) : evE G (.isbl neg k a) σ M = (evE G a σ M).bind fun d M1 => isblD neg k d M1 := by first | (rw [evE]; done) | (rw [evE]; rfl)
@[simp] theorem isbl_bl (neg k b : Bool) (M : Hh) : isblD neg k (.bl b) M = .ok (.bl (if neg then !decide (b = k) else decide (b = k))) M := rfl
@[simp] theorem ev_b1 (m : Bool) (f : B1) (a : E) : evE G (.b1 m f a) σ M = (evE G a σ M).bind fun d M1 => b1D m f d M1 := by first | (rw [evE]; done) | (rw [evE]; rfl)
@[simp] theorem ev_b2 (f : B2) (a b : E) : evE G (.b2 f a b) σ M = (evE G a σ M).bind fun x M1 => (evE G b σ M1).bind fun y M2 => b2D f x y M2 := by first | (rw [evE]; done) | (rw [evE]; rfl)
@[simp] theorem ev_isi (a : E) (ts : List Ty) : evE G (.isi a ts) σ M = (evE G a σ M).bind fun d M1 => if tyOk (der M1 d) then .ok (.bl (ts.any (isTy (der M1 d)))) M1 else .bad := by first | (rw [evE]; done) | (rw [evE]; rfl)
@[simp] theorem ev_ix (a b : E) : evE G (.ix a b) σ M = (evE G a σ M).bind fun x M1 => (evE G b σ M1).bind fun y M2 => ixD x y M2 := by first | (rw [evE]; done) | (rw [evE]; rfl)
@[simp] theorem ev_slice (m : Bool) (a : E) (lo hi : Es) : evE G (.slice m a lo hi) σ M = (evE G a σ M).bind fun x M1 => (evEs G lo σ M1).bind fun l M2 => (evEs G hi σ M2).bind fun h M3 =>
      match optInt l, optInt h with | some l, some h => sliceD m x l h M3 | _, _ => .bad := by first | (rw [evE]; done) | (rw [evE]; rfl)
@[simp] theorem ev_lc (m : Bool) (own : List Nat) (t : Mi.T) (it : It) (c : Es) (elt : E) : evE G (.lc m own t it c elt) σ M = (evIt G it σ M).bind fun p M1 =>
      if p.1.length ≤ 16777216 then (lcL p.2 (fun x => t.bind x (wipe σ own)) (fun σ1 M2 => evC G c σ1 M2) (fun σ1 M2 => evE G elt σ1 M2) p.1 M1).bind fun ys M2 => alloc m ys M2 else .bad := by first | (rw [evE]; done) | (rw [evE]; rfl)
@[simp] theorem ev_call (f : Nat) (keep : Bool) (es : Es) : evE G (.call f keep es) σ M = (evEs G es σ M).bind fun ds M1 => back keep M1 (G.call f ds M1) := by first | (rw [evE]; done) | (rw [evE]; rfl)
@[simp] theorem ev_mk (c : Nat) (keep : Bool) (es : Es) : evE G (.mk c keep es) σ M = (evEs G es σ M).bind fun ds M1 => back keep M1 (G.new c ds M1) := by first | (rw [evE]; done) | (rw [evE]; rfl)
@[simp] theorem ev_rev (m : Bool) (a : E) : evE G (.rev m a) σ M = (evE G a σ M).bind fun d M1 => match der M1 d with | .lst ds => alloc m ds.reverse M1 | .str x => .ok (.str ⟨x.cps.toList.reverse.toArray⟩) M1 | _ => .bad := by first | (rw [evE]; done) | (rw [evE]; rfl)
@[simp] theorem ev_bm (f : BM) (o : E) (es : Es) : evE G (.bm f o es) σ M = (evE G o σ M).bind fun d M1 => if bmTy f (der M1 d) then (evEs G es σ M1).bind fun ds M2 => bmD f d ds M2 else .bad := by first | (rw [evE]; done) | (rw [evE]; rfl)
@[simp] theorem ev_attr (a : E) (k : Nat) : evE G (.attr a k) σ M = (evE G a σ M).bind fun d M1 => match der M1 d with
      | .inst c fs => if G.hc c then match fs.lookup k with | some v => .ok v M1 | none => .bad else .bad
      | _ => .bad := by first | (rw [evE]; done) | (rw [evE]; rfl)
@[simp] theorem ev_nil : evEs G .nil σ M = .ok [] M := by first | (rw [evEs]; done) | (rw [evEs]; rfl)
@[simp] theorem ev_cons (e : E) (es : Es) : evEs G (.cons e es) σ M = (evE G e σ M).bind fun d M1 => (evEs G es σ M1).bind fun ds M2 => .ok (d :: ds) M2 := by first | (rw [evEs]; done) | (rw [evEs]; rfl)
@[simp] theorem ec_nil : evC G .nil σ M = .ok true M := by first | (rw [evC]; done) | (rw [evC]; rfl)
@[simp] theorem ec_cons (e : E) (es : Es) : evC G (.cons e es) σ M = (evE G e σ M).bind fun d M1 => asBool d M1 := by first | (rw [evC]; done) | (rw [evC]; rfl)
@[simp] theorem ei_val (e : E) : evIt G (.val e) σ M = (evE G e σ M).bind fun d M1 => match itemsOf (lockM d M1) d with | some p => .ok p (lockM d M1) | none => .bad := by first | (rw [evIt]; done) | (rw [evIt]; rfl)
@[simp] theorem lockM_lst (ds : List D) (M : Hh) : lockM (.lst ds) M = M := rfl
@[simp] theorem lockM_tup (ds : List D) (M : Hh) : lockM (.tup ds) M = M := rfl
@[simp] theorem lockM_str (x : Str) (M : Hh) : lockM (.str x) M = M := rfl
@[simp] theorem lockM_dict (x : List (D × D)) (M : Hh) : lockM (.dict x) M = M := rfl
@[simp] theorem lockM_scr (x : List Int) (M : Hh) : lockM (.scr x) M = M := rfl
@[simp] theorem lockM_int (x : Int) (M : Hh) : lockM (.int x) M = M := rfl
theorem lockM_rl {M : Hh} {i : Nat} {ds : List D} (h : M[i]? = some (.lst ds)) : lockM (.ref i) M = M := by unfold lockM; simp only [h]
theorem lockM_rd {M : Hh} {i : Nat} {ds : List (D × D)} (h : M[i]? = some (.dict ds)) : lockM (.ref i) M = M.set i (.fz ds) := by unfold lockM; simp only [h]
@[simp] theorem ei_range1 (a : E) : evIt G (.range1 a) σ M = (evE G a σ M).bind fun d M1 => match d with | .int n => if rOk n then .ok (rangeL 0 n.toNat, []) M1 else .bad | _ => .bad := by first | (rw [evIt]; done) | (rw [evIt]; rfl)
@[simp] theorem ei_values (e : E) : evIt G (.values e) σ M = (evE G e σ M).bind fun d M1 => match d with | .dict kvs => .ok (kvs.map (·.2), []) M1 | _ => .bad := by first | (rw [evIt]; done) | (rw [evIt]; rfl)
@[simp] theorem ei_enum (e : E) : evIt G (.enum e) σ M = (evE G e σ M).bind fun d M1 => match itemsL M1 d with | some p => .ok (enumL 0 p.1, p.2) M1 | none => .bad := by first | (rw [evIt]; done) | (rw [evIt]; rfl)
@[simp] theorem es_expr (e : E) : evS G (.expr e) σ M = (evE G e σ M).st σ fun _ M1 => .nx σ M1 := by first | (rw [evS]; done) | (rw [evS]; rfl)
@[simp] theorem es_set (t : Mi.T) (e : E) : evS G (.set t e) σ M = (evE G e σ M).st σ fun d M1 => match t.bind d σ with | some σ1 => .nx σ1 M1 | none => .bad := by first | (rw [evS]; done) | (rw [evS]; rfl)
@[simp] theorem es_exprX (e : E) : evS G (.exprX e) σ M = (evX G e σ M).stX σ fun _ M1 => .nx σ M1 := by first | (rw [evS]; done) | (rw [evS]; rfl)
@[simp] theorem es_setX (t : Mi.T) (e : E) : evS G (.setX t e) σ M = (evX G e σ M).stX σ fun d M1 => match t.bind d σ with | some σ1 => .nx σ1 M1 | none => .bad := by first | (rw [evS]; done) | (rw [evS]; rfl)
@[simp] theorem es_retX (e : E) : evS G (.retX e) σ M = (evX G e σ M).stX σ fun d M1 => .rt d M1 := by first | (rw [evS]; done) | (rw [evS]; rfl)
@[simp] theorem es_raise (c : Nat) : evS G (.raise c) σ M = if (G.xs c).contains c then .exc c σ M else .bad := by first | (rw [evS]; done) | (rw [evS]; rfl)
theorem es_try (b : Ss) (c : Nat) (n : Option Nat) (j : Nat) (v : SV) : evS G (.try_ b c n j v) σ M = match evSs G b σ M with
      | .exc c' σ1 M1 => if (G.xs c').contains c' then (if (G.xs c').contains c then (match suite c' n j v σ1 with | some σ2 => .nx σ2 M1 | none => .bad) else .exc c' σ1 M1) else .bad
      | r => r := by first | (rw [evS]; done) | (rw [evS]; rfl)
@[simp] theorem evX_call (f : Nat) (keep : Bool) (es : Es) : evX G (.call f keep es) σ M = (evEs G es σ M).bno fun ds M1 => back keep M1 (G.call f ds M1) := by first | (rw [evX]; done) | (rw [evX]; rfl)
@[simp] theorem evX_meth (k : Nat) (keep : Bool) (o : E) (es : Es) : evX G (.meth k keep o es) σ M = (evE G o σ M).bno fun d M1 => match der M1 d with
      | .inst c _ => match G.meth c k with
        | some f => (evEs G es σ M1).bno fun ds M2 => back keep M2 (G.call f (d :: ds) M2)
        | none => .bad
      | _ => .bad := by first | (rw [evX]; done) | (rw [evX]; rfl)
@[simp] theorem ev_isx (a : E) (cs : List (Option Nat)) : evE G (.isx a cs) σ M = (evE G a σ M).bind fun d M1 => match d with | .fn c => if (G.xs c).contains c then .ok (.bl (cs.any fun o => match o with | none => true | some k => (G.xs c).contains k)) M1 else .bad | _ => .bad := by first | (rw [evE]; done) | (rw [evE]; rfl)
@[simp] theorem es_setix (a i v : E) : evS G (.setix a i v) σ M = (evE G v σ M).st σ fun d M1 => (evE G a σ M1).st σ fun x M2 => (evE G i σ M2).st σ fun y M3 => setIx x y d M3 σ := by first | (rw [evS]; done) | (rw [evS]; rfl)
@[simp] theorem es_ret (e : E) : evS G (.ret e) σ M = (evE G e σ M).st σ fun d M1 => .rt d M1 := by first | (rw [evS]; done) | (rw [evS]; rfl)
@[simp] theorem es_ite (c : E) (a b : Ss) : evS G (.ite c a b) σ M = (evE G c σ M).st σ fun d M1 => match d with | .bl k => if k then evSs G a σ M1 else evSs G b σ M1 | _ => .bad := by first | (rw [evS]; done) | (rw [evS]; rfl)
@[simp] theorem es_for (t : Mi.T) (it : It) (b : Ss) : evS G (.for_ t it b) σ M = match evIt G it σ M with
      | .ok p M1 => forL p.2 t (evSs G b) p.1 σ M1
      | .exc _ _ => .bad
      | .bad => .bad := by first | (rw [evS]; done) | (rw [evS]; rfl)
@[simp] theorem es_wipe (is : List Nat) : evS G (.wipe is) σ M = .nx (Mi.wipe σ is) M := by first | (rw [evS]; done) | (rw [evS]; rfl)
@[simp] theorem ess_nil : evSs G .nil σ M = .nx σ M := by first | (rw [evSs]; done) | (rw [evSs]; rfl)
@[simp] theorem ess_cons (s : S) (r : Ss) : evSs G (.cons s r) σ M = (evS G s σ M).then (evSs G r) := by first | (rw [evSs]; done) | (rw [evSs]; rfl)
end
@[simp] theorem locked_nil (M : Hh) : Locked [] M := fun p h => by simp at h
@[simp] theorem asBool_bl (b : Bool) (M : Hh) : asBool (.bl b) M = .ok b M := rfl
@[simp] theorem bind_name (i : Nat) (d : D) (σ : Lo) : (Mi.T.name i).bind d σ = some (σ.set i (some d)) := rfl
@[simp] theorem bind_tup (is : List Nat) (ds : List D) (σ : Lo) : (Mi.T.tup is).bind (.tup ds) σ = setAll is ds σ := rfl
@[simp] theorem setAll_nil (σ : Lo) : setAll [] [] σ = some σ := rfl
@[simp] theorem setAll_cons (i : Nat) (is : List Nat) (d : D) (ds : List D) (σ : Lo) : setAll (i :: is) (d :: ds) σ = setAll is ds (σ.set i (some d)) := rfl
@[simp] theorem wipe_nil (σ : Lo) : wipe σ [] = σ := rfl
@[simp] theorem wipe_cons (σ : Lo) (v : Nat) (vs : List Nat) : wipe σ (v :: vs) = (wipe σ vs).set v none := rfl
@[simp] theorem endF_rt (d : D) (M : Hh) : endF (.rt d M) = .ok d M := rfl
@[simp] theorem endF_nx (σ : Lo) (M : Hh) : endF (.nx σ M) = .ok .non M := rfl
@[simp] theorem der_D_int (M : Hh) (i : Int) : der M (.int i) = .int i := rfl
@[simp] theorem der_D_str (M : Hh) (i : Str) : der M (.str i) = .str i := rfl
@[simp] theorem der_D_bl (M : Hh) (i : Bool) : der M (.bl i) = .bl i := rfl
@[simp] theorem der_D_non (M : Hh) : der M .non = .non := rfl
@[simp] theorem der_D_tup (M : Hh) (i : List D) : der M (.tup i) = .tup i := rfl
@[simp] theorem der_D_lst (M : Hh) (i : List D) : der M (.lst i) = .lst i := rfl
@[simp] theorem der_D_dict (M : Hh) (i : List (D × D)) : der M (.dict i) = .dict i := rfl
@[simp] theorem der_D_inst (M : Hh) (c : Nat) (i : List (Nat × D)) : der M (.inst c i) = .inst c i := rfl
@[simp] theorem der_D_scr (M : Hh) (i : List Int) : der M (.scr i) = .scr i := rfl
theorem der_refL {M : Hh} {i : Nat} {ds : List D} (h : M[i]? = some (.lst ds)) : der M (.ref i) = .lst ds := by rw [der_ref, h]
@[simp] theorem alloc_f (ds : List D) (M : Hh) : alloc false ds M = .ok (.lst ds) M := rfl
@[simp] theorem alloc_t (ds : List D) (M : Hh) : alloc true ds M = .ok (.ref M.length) (M ++ [.lst ds]) := rfl
@[simp] theorem allocD_f (ds : List (D × D)) (M : Hh) : allocD false ds M = .ok (.dict ds) M := rfl
@[simp] theorem allocD_t (ds : List (D × D)) (M : Hh) : allocD true ds M = .ok (.ref M.length) (M ++ [.dict ds]) := rfl
@[simp] theorem pairsOf_nil : pairsOf [] = some [] := rfl
@[simp] theorem back_t (M : Hh) (r : R D) : back true M r = r := by cases r <;> simp [back]

/-! ### values without refs come back as they are -/
mutual
def D.still : D → Bool
  | .non => true | .bl _ => true | .int _ => true | .str _ => true | .fn _ => true | .scr _ => true
  | .tup ds => stills ds | .lst ds => stills ds | .dict kvs => stillK kvs | .inst _ fs => stillF fs
  | .ref _ => false
def stills : List D → Bool
  | [] => true
  | d :: ds => d.still && stills ds
def stillK : List (D × D) → Bool
  | [] => true
  | (_, d) :: ds => d.still && stillK ds
def stillF : List (Nat × D) → Bool
  | [] => true
  | (_, d) :: ds => d.still && stillF ds
end
mutual
theorem frz_still (dr : Nat → Option D) (n : Nat) : ∀ d : D, d.still = true → frzD dr n d = some d
  | .non, _ => by rw [frzD] | .bl _, _ => by rw [frzD] | .int _, _ => by rw [frzD] | .str _, _ => by rw [frzD] | .fn _, _ => by rw [frzD] | .scr _, _ => by rw [frzD]
  | .tup ds, h => by rw [frzD, frzs_still dr n ds (by rw [D.still] at h; exact h)]; rfl
  | .lst ds, h => by rw [frzD, frzs_still dr n ds (by rw [D.still] at h; exact h)]; rfl
  | .dict ds, h => by rw [frzD, frzK_still dr n ds (by rw [D.still] at h; exact h)]; rfl
  | .inst c ds, h => by rw [frzD, frzF_still dr n ds (by rw [D.still] at h; exact h)]; rfl
  | .ref _, h => by rw [D.still] at h; cases h
theorem frzs_still (dr : Nat → Option D) (n : Nat) : ∀ d : List D, stills d = true → frzDs dr n d = some d
  | [], _ => by rw [frzDs]
  | d :: ds, h => by
    rw [stills, Bool.and_eq_true] at h
    rw [frzDs, frz_still dr n d h.1, frzs_still dr n ds h.2]
theorem frzK_still (dr : Nat → Option D) (n : Nat) : ∀ d : List (D × D), stillK d = true → frzKs dr n d = some d
  | [], _ => by rw [frzKs]
  | (k, d) :: ds, h => by
    rw [stillK, Bool.and_eq_true] at h
    rw [frzKs, frz_still dr n d h.1, frzK_still dr n ds h.2]
theorem frzF_still (dr : Nat → Option D) (n : Nat) : ∀ d : List (Nat × D), stillF d = true → frzFs dr n d = some d
  | [], _ => by rw [frzFs]
  | (k, d) :: ds, h => by
    rw [stillF, Bool.and_eq_true] at h
    rw [frzFs, frz_still dr n d h.1, frzF_still dr n ds h.2]
end
mutual
theorem plain_still : ∀ d : D, d.plain = true → d.still = true
  | .non, _ => by rw [D.still] | .bl _, _ => by rw [D.still] | .int _, _ => by rw [D.still] | .str _, _ => by rw [D.still]
  | .tup ds, h => by rw [D.still]; exact plains_still ds (by rw [D.plain] at h; exact h)
  | .lst ds, h => by rw [D.still]; exact plains_still ds (by rw [D.plain] at h; exact h)
  | .fn _, h => by rw [D.plain] at h; cases h
  | .scr _, h => by rw [D.plain] at h; cases h
  | .dict _, h => by rw [D.plain] at h; cases h
  | .inst _ _, h => by rw [D.plain] at h; cases h
  | .ref _, h => by rw [D.plain] at h; cases h
theorem plains_still : ∀ d : List D, plains d = true → stills d = true
  | [], _ => by rw [stills]
  | d :: ds, h => by
    rw [plains, Bool.and_eq_true] at h
    rw [stills, plain_still d h.1, plains_still ds h.2]; rfl
end
theorem Stood.rfl' (M : Hh) : Stood M M := ⟨Nat.le_refl _, fun i _ => .inl rfl⟩
theorem back_pure {M : Hh} {d : D} (k : Bool) (h : d.still = true) : back k M (.ok d M) = .ok d M := by
  cases k with
  | true => exact back_t M _
  | false =>
    simp only [back, Bool.false_eq_true, if_false]
    rw [frz_still _ _ d h]
    simp only [if_pos (Stood.rfl' M), List.take_length]
@[simp] theorem still_bl (b : Bool) : (D.bl b).still = true := by rw [D.still]
@[simp] theorem still_int (b : Int) : (D.int b).still = true := by rw [D.still]
@[simp] theorem still_str (b : Str) : (D.str b).still = true := by rw [D.still]
@[simp] theorem still_non : D.non.still = true := by rw [D.still]
@[simp] theorem back_bl (k : Bool) (M : Hh) (b : Bool) : back k M (.ok (.bl b) M) = .ok (.bl b) M := back_pure k (by simp)
@[simp] theorem back_int (k : Bool) (M : Hh) (b : Int) : back k M (.ok (.int b) M) = .ok (.int b) M := back_pure k (by simp)
@[simp] theorem back_non (k : Bool) (M : Hh) : back k M (.ok .non M) = .ok .non M := back_pure k (by simp)
@[simp] theorem back_bad (k : Bool) (M : Hh) : back k M .bad = .bad := by cases k <;> rfl
end Mi
end
section
set_option Elab.async false
set_option linter.all false
set_option maxRecDepth 100000
/-! MiY: comprehensions and loops of the evaluator. -/
namespace Mi
open PySem
theorem lcL_fm {lk : List (Nat × List D)} {bnd : D → Option Lo} {cond : Lo → Hh → R Bool} {elt : Lo → Hh → R D} {M : Hh} (hl : Locked lk M) (p : D → Bool) (f : D → D) : ∀ xs : List D,
    (∀ x ∈ xs, ∃ σ, bnd x = some σ ∧ cond σ M = .ok (p x) M ∧ (p x = true → elt σ M = .ok (f x) M)) → lcL lk bnd cond elt xs M = .ok ((xs.filter p).map f) M
  | [], _ => by simp [lcL, hl]
  | x :: xs, h => by
    obtain ⟨σ, h1, h2, h3⟩ := h x (by simp)
    have ih := lcL_fm hl p f xs fun y hy => h y (by simp [hy])
    simp only [lcL, if_pos hl, h1, h2, R.bind_ok]
    cases hp : p x with
    | true => simp [h3 hp, ih, hp]
    | false => simp [ih, hp]
theorem lcL_map {lk : List (Nat × List D)} {bnd : D → Option Lo} {cond : Lo → Hh → R Bool} {elt : Lo → Hh → R D} {M : Hh} (hl : Locked lk M) (f : D → D) (xs : List D)
    (h : ∀ x ∈ xs, ∃ σ, bnd x = some σ ∧ cond σ M = .ok true M ∧ elt σ M = .ok (f x) M) : lcL lk bnd cond elt xs M = .ok (xs.map f) M := by
  have := lcL_fm (lk := lk) (bnd := bnd) (cond := cond) (elt := elt) (M := M) hl (fun _ => true) f xs fun x hx => let ⟨σ, a, b, c⟩ := h x hx; ⟨σ, a, b, fun _ => c⟩
  rw [this, List.filter_eq_self.mpr (fun _ _ => rfl)]
@[simp] theorem boolsOf_map (g : D → Bool) : ∀ xs : List D, boolsOf (xs.map fun x => .bl (g x)) = some (xs.map g)
  | [] => rfl
  | x :: xs => by rw [List.map_cons, boolsOf, boolsOf_map g xs]; rfl
theorem callF_fn {P : Pg} {n i : Nat} {f : Fn} {ds : List D} {M : Hh} (h : P.fns i = f) (hl : ds.length = f.ar) : callF P (n + 1) i ds M = endF (evSs (sig P n) f.body (ds.map some ++ List.replicate (f.nl - ds.length) none) M) := by
  rw [callF_succ, h, if_pos hl]; rfl
@[simp] theorem sig_call (P : Pg) (n : Nat) : (sig P n).call = callF P n := rfl
theorem plain_of_mem : ∀ {ds : List D}, plains ds = true → ∀ d ∈ ds, d.plain = true
  | [], _, d, h => by simp at h
  | e :: ds, hp, d, h => by
    rw [plains, Bool.and_eq_true] at hp
    rcases List.mem_cons.mp h with rfl | h
    · exact hp.1
    · exact plain_of_mem hp.2 d h
theorem depths_mem : ∀ {ds : List D}, ∀ d ∈ ds, d.depth ≤ depths ds
  | [], d, h => by simp at h
  | e :: ds, d, h => by
    rw [depths]
    rcases List.mem_cons.mp h with rfl | h
    · omega
    · have := depths_mem d h; omega
@[simp] theorem plain_tup (ds : List D) : (D.tup ds).plain = plains ds := by rw [D.plain]
@[simp] theorem plain_lst (ds : List D) : (D.lst ds).plain = plains ds := by rw [D.plain]
@[simp] theorem plain_str (x : Str) : (D.str x).plain = true := by rw [D.plain]
@[simp] theorem plain_int (x : Int) : (D.int x).plain = true := by rw [D.plain]
@[simp] theorem plain_bl (x : Bool) : (D.bl x).plain = true := by rw [D.plain]
@[simp] theorem plain_non : (D.non).plain = true := by rw [D.plain]
@[simp] theorem plains_nil : plains [] = true := by rw [plains]
@[simp] theorem plains_cons (d : D) (ds : List D) : plains (d :: ds) = (d.plain && plains ds) := by rw [plains]
@[simp] theorem depth_tup (ds : List D) : (D.tup ds).depth = depths ds + 1 := by rw [D.depth]
@[simp] theorem depth_lst (ds : List D) : (D.lst ds).depth = depths ds + 1 := by rw [D.depth]
@[simp] theorem depth_str (x : Str) : (D.str x).depth = 0 := by rw [D.depth]
@[simp] theorem depth_int (x : Int) : (D.int x).depth = 0 := by rw [D.depth]
@[simp] theorem depth_bl (x : Bool) : (D.bl x).depth = 0 := by rw [D.depth]
@[simp] theorem depth_non : (D.non).depth = 0 := by rw [D.depth]
@[simp] theorem depths_nil : depths [] = 0 := by rw [depths]
@[simp] theorem depths_cons (d : D) (ds : List D) : depths (d :: ds) = max d.depth (depths ds) := by rw [depths]
@[simp] theorem eqv_str (x y : Str) : (D.str x).eqv (.str y) = (x == y) := by rw [D.eqv]
@[simp] theorem eqv_int (x y : Int) : (D.int x).eqv (.int y) = (x == y) := by rw [D.eqv]
@[simp] theorem tyOk_plain {d : D} (h : d.plain = true) : tyOk d = true := by cases d <;> first | rfl | (simp [D.plain] at h)
@[simp] theorem der_plain {d : D} (M : Hh) (h : d.plain = true) : der M d = d := by cases d <;> first | rfl | (simp [D.plain] at h)
theorem plains_of {ds : List D} : plains ds = true ↔ ∀ d ∈ ds, d.plain = true := by
  induction ds with
  | nil => simp
  | cons d ds ih => simp [ih]
theorem eqv_nil (ds : List D) : (D.lst ds).eqv (.lst []) = ds.isEmpty := by
  rw [D.eqv]
  cases ds with
  | nil => simp [eqvs]
  | cons d ds => simp [eqvs]
@[simp] theorem forL_nil0 (t : Mi.T) (body : Lo → Hh → RS) (σ : Lo) (M : Hh) : forL [] t body [] σ M = .nx σ M := by rw [forL, if_pos (locked_nil M)]
@[simp] theorem forL_cons0 (t : Mi.T) (body : Lo → Hh → RS) (x : D) (xs : List D) (σ : Lo) (M : Hh) : forL [] t body (x :: xs) σ M = match t.bind x σ with | some σ1 => (body σ1 M).then (forL [] t body xs) | none => .bad := by
  first | (rw [forL, if_pos (locked_nil M)]; done) | (rw [forL, if_pos (locked_nil M)]; rfl)
/-- a loop by an invariant that speaks of what is left -/
theorem forL_inv {lk : List (Nat × List D)} {t : Mi.T} {body : Lo → Hh → RS} (I : List D → Lo → Hh → Prop) (lock : ∀ xs σ M, I xs σ M → Locked lk M)
    (step : ∀ x xs σ M, I (x :: xs) σ M → ∃ σ1, t.bind x σ = some σ1 ∧ ∃ σ2 M2, body σ1 M = .nx σ2 M2 ∧ I xs σ2 M2) : ∀ (xs : List D) (σ : Lo) (M : Hh), I xs σ M → ∃ σ2 M2, forL lk t body xs σ M = .nx σ2 M2 ∧ I [] σ2 M2
  | [], σ, M, h => ⟨σ, M, by rw [forL, if_pos (lock _ _ _ h)], h⟩
  | x :: xs, σ, M, h => by
    obtain ⟨σ1, h1, σ2, M2, h2, h3⟩ := step x xs σ M h
    obtain ⟨σ3, M3, h4, h5⟩ := forL_inv I lock step xs σ2 M2 h3
    refine ⟨σ3, M3, ?_, h5⟩
    rw [forL, if_pos (lock _ _ _ h), h1]
    dsimp only
    rw [h2, RS.then_nx, h4]
end Mi
end
section
set_option Elab.async false
set_option linter.all false
set_option maxRecDepth 100000
/-! MiZ: the drawn numbers. -/
namespace Mi
open PySem
def feedO (ns : List Int) (a r : Int) : MO := .lst [.lst (ns.map D.int), .int a, .int r]
/-- a feed at f, good for b more draws -/
def Feed (f b : Nat) (M : Hh) : Prop := ∃ ns a r, M[f]? = some (feedO ns a r) ∧ ns.length ≤ 63 ∧ 0 ≤ a ∧ a + b < 2 ^ 64 ∧ 0 ≤ r
theorem Feed.mono {f b b' : Nat} {M : Hh} (h : Feed f b M) (hb : b' ≤ b) : Feed f b' M := by
  obtain ⟨ns, a, r, h1, h2, h3, h4, h5⟩ := h
  exact ⟨ns, a, r, h1, h2, h3, by omega, h5⟩
/-- from M to M' draws were made -/
def Drawn (f b : Nat) (M M' : Hh) : Prop := (∃ ns a r, M' = M.set f (feedO ns a r)) ∧ Feed f b M'
theorem Drawn.refl {f b : Nat} {M : Hh} (h : Feed f b M) : Drawn f b M M := by
  obtain ⟨ns, a, r, h1, _⟩ := id h
  refine ⟨⟨ns, a, r, ?_⟩, h⟩
  apply List.ext_getElem?
  intro i
  by_cases e : f = i
  · subst e
    have hl := (List.getElem?_eq_some_iff.mp h1).1
    rw [List.getElem?_set_self hl, h1]
  · rw [List.getElem?_set_ne e]
theorem Drawn.trans {f b b' : Nat} {M M1 M2 : Hh} (h : Drawn f b M M1) (k : Drawn f b' M1 M2) : Drawn f b' M M2 := by
  obtain ⟨⟨ns, a, r, rfl⟩, _⟩ := h
  obtain ⟨⟨ns', a', r', rfl⟩, k⟩ := k
  exact ⟨⟨ns', a', r', by rw [List.set_set]⟩, k⟩
theorem still_feed (n : Nat) (ns : List Int) (a r : Int) : RefsLtO n (feedO ns a r) := by
  refine .lst fun d hd => ?_
  simp at hd
  rcases hd with rfl | rfl | rfl
  · refine .lst fun d hd => ?_
    obtain ⟨i, _, rfl⟩ := List.mem_map.mp hd
    exact .int i
  · exact .int _
  · exact .int _
theorem stood_feed {f : Nat} {M : Hh} {ns : List Int} {a r : Int} : Stood M (M.set f (feedO ns a r)) := by
  refine ⟨by simp, fun i hi => ?_⟩
  by_cases e : f = i
  · subst e
    exact .inr ⟨_, List.getElem?_set_self hi, still_feed _ ns a r⟩
  · exact .inl (List.getElem?_set_ne e)
theorem Drawn.len {f b : Nat} {M M' : Hh} (h : Drawn f b M M') : M'.length = M.length := by
  obtain ⟨⟨ns, a, r, rfl⟩, _⟩ := h
  simp
theorem Drawn.back {f b : Nat} {M M' : Hh} (h : Drawn f b M M') (k : Bool) {d : D} (hd : d.still = true) : back k M (.ok d M') = .ok d M' := by
  have hl := h.len
  obtain ⟨⟨ns, a, r, rfl⟩, _⟩ := h
  cases k with
  | true => exact back_t _ _
  | false =>
    simp only [Mi.back, Bool.false_eq_true, if_false]
    rw [frz_still _ _ d hd]
    simp only [if_pos stood_feed]
    rw [← hl, List.take_length]
theorem small_of {x : Int} {m : Int} (h0 : 0 ≤ x) (h1 : x < m) (hm : m ≤ 2 ^ 64) : intSmall x := ⟨by omega, by omega⟩
theorem fmod_pos (x : Int) {m : Int} (hm : 0 < m) : 0 ≤ x.fmod m ∧ x.fmod m < m := by
  rw [Int.fmod_eq_emod_of_nonneg _ (by omega)]
  exact ⟨Int.emod_nonneg _ (by omega), Int.emod_lt_of_pos _ hm⟩
theorem small_fmod (x m : Int) (h0 : 0 < m) (hm : m ≤ 2 ^ 64) : intSmall (x.fmod m) := small_of (fmod_pos x h0).1 (fmod_pos x h0).2 hm
def tlDraw : Ss := (.cons (.set (.name 4) (.bin false .mod (.bin false .mul (.bin false .add (.bin false .add (.bin false .mod (.var 3) (.int 2147483647)) (.bin false .mul (.bin false .mul (.int 7919) (.var 2)) (.var 2))) (.int 104729)) (.int 48271)) (.int 2147483647))) (.cons (.set (.name 4) (.bin false .mod (.bin false .add (.bin false .mul (.var 4) (.var 4)) (.bin false .mul (.int 69621) (.var 2))) (.int 2147483629))) (.cons (.ret (.bin false .mod (.bin false .fdiv (.bin false .mod (.bin false .mul (.var 4) (.bin false .add (.bin false .mod (.var 4) (.int 65521)) (.int 1))) (.int 2147483587)) (.int 64)) (.var 1))) .nil)))
/-- the text of _law_draw, its names in their slots -/
def bDraw : Ss := (.cons (.ite (.cmp .gt (.ix (.var 0) (.int 2)) (.int 0)) (.cons (.set (.name 5) (.bin false .mod (.ix (.var 0) (.int 2)) (.var 1))) (.cons (.setix (.var 0) (.int 2) (.bin false .fdiv (.ix (.var 0) (.int 2)) (.var 1))) (.cons (.ret (.var 5)) .nil))) .nil) (.cons (.set (.name 2) (.ix (.var 0) (.int 1))) (.cons (.setix (.var 0) (.int 1) (.bin false .add (.var 2) (.int 1))) (.cons (.set (.name 3) (.var 2)) (.cons (.ite (.cmp .gt (.b1 false .len (.ix (.var 0) (.int 0))) (.int 0)) (.cons (.set (.name 3) (.ix (.ix (.var 0) (.int 0)) (.bin false .mod (.var 2) (.b1 false .len (.ix (.var 0) (.int 0)))))) .nil) .nil) (.cons (.ite (.and (.cmp .ge (.var 3) (.bin false .pow (.int 10) (.int 18))) (.cmp .lt (.var 2) (.b1 false .len (.ix (.var 0) (.int 0))))) (.cons (.setix (.var 0) (.int 2) (.bin false .fdiv (.var 3) (.var 1))) (.cons (.ret (.bin false .mod (.var 3) (.var 1))) .nil)) .nil) tlDraw))))))
def fDraw : Fn := ⟨2, 6, bDraw⟩
theorem feed_get (ns : List Int) (a r : Int) (M : Hh) {f : Nat} (h : M[f]? = some (feedO ns a r)) : der M (.ref f) = .lst [.lst (ns.map D.int), .int a, .int r] := der_refL h
theorem set_get {M : Hh} {f : Nat} {o o' : MO} (h : M[f]? = some o) : (M.set f o')[f]? = some o' := List.getElem?_set_self (List.getElem?_eq_some_iff.mp h).1
theorem draw_tail (G : Sg) (x : D) (s4 s5 : Option D) (M : Hh) (a c m : Int) (ha : 0 ≤ a) (hb : a < 2 ^ 64) (h0 : 0 < m) : ∃ v, 0 ≤ v ∧ v < m ∧ evSs G tlDraw [some x, some (.int m), some (.int a), some (.int c), s4, s5] M = .rt (.int v) M := by
  have hm0 : m ≠ 0 := by omega
  have k1 : intSmall a := small_of ha hb (by decide)
  have k2 : intSmall 7919 := by constructor <;> decide
  have k3 : intSmall 48271 := by constructor <;> decide
  have k4 : ∀ x : Int, intSmall (x.fmod 2147483647) := fun x => small_fmod x _ (by decide) (by decide)
  have k5 : ∀ x : Int, intSmall (x.fmod 2147483629) := fun x => small_fmod x _ (by decide) (by decide)
  have k6 : intSmall 69621 := by constructor <;> decide
  suffices h : ∃ w : Int, evSs G tlDraw [some x, some (.int m), some (.int a), some (.int c), s4, s5] M = .rt (.int (w.fmod m)) M by
    obtain ⟨w, e⟩ := h
    exact ⟨_, (fmod_pos w h0).1, (fmod_pos w h0).2, e⟩
  simp [tlDraw, binD, addD, mulD, k1, k2, k3, k4, k5, k6, hm0]
  exact ⟨_, rfl⟩
theorem draw_ok {P : Pg} {i : Nat} (hi : P.fns i = fDraw) {f b : Nat} {M : Hh} (hF : Feed f (b + 1) M) {m : Int} (h0 : 0 < m) (h1 : m < 1073741824) (n : Nat) :
    ∃ v M', callF P (n + 1) i [.ref f, .int m] M = .ok (.int v) M' ∧ 0 ≤ v ∧ v < m ∧ Drawn f b M M' := by
  obtain ⟨ns, a, r, hM, hl, ha, hb, hr⟩ := hF
  have hm0 : m ≠ 0 := by omega
  have hm1 : m.natAbs < 1073741824 := by omega
  have e0 : ∀ (M : Hh) (ns : List Int) (a r : Int), M[f]? = some (feedO ns a r) → ixD (.ref f) (.int 0) M = .ok (.lst (ns.map D.int)) M := fun M ns a r h => by simp [ixD, feed_get ns a r M h, L2.ixN]
  have e1 : ∀ (M : Hh) (ns : List Int) (a r : Int), M[f]? = some (feedO ns a r) → ixD (.ref f) (.int 1) M = .ok (.int a) M := fun M ns a r h => by simp [ixD, feed_get ns a r M h, L2.ixN]
  have e2 : ∀ (M : Hh) (ns : List Int) (a r : Int), M[f]? = some (feedO ns a r) → ixD (.ref f) (.int 2) M = .ok (.int r) M := fun M ns a r h => by simp [ixD, feed_get ns a r M h, L2.ixN]
  have s1 : ∀ (M : Hh) (ns : List Int) (a r z : Int) (σ : Lo), M[f]? = some (feedO ns a r) → setIx (.ref f) (.int 1) (.int z) M σ = .nx σ (M.set f (feedO ns z r)) := fun M ns a r z σ h => by
    unfold setIx; dsimp only; rw [h]; simp [feedO, L2.ixN]
  have s2 : ∀ (M : Hh) (ns : List Int) (a r z : Int) (σ : Lo), M[f]? = some (feedO ns a r) → setIx (.ref f) (.int 2) (.int z) M σ = .nx σ (M.set f (feedO ns a z)) := fun M ns a r z σ h => by
    unfold setIx; dsimp only; rw [h]; simp [feedO, L2.ixN]
  rw [callF_fn hi rfl]
  by_cases hr0 : r > 0
  · refine ⟨r.fmod m, M.set f (feedO ns a (r.fdiv m)), ?_, (fmod_pos r h0).1, (fmod_pos r h0).2, ⟨ns, a, _, rfl⟩, ⟨ns, a, _, set_get hM, hl, ha, by omega, ?_⟩⟩
    · simp [fDraw, bDraw, e2 M ns a r hM, cmpD, hr0, binD, hm0, hm1, s2 M ns a r _ _ hM]
    · rw [Int.fdiv_eq_ediv_of_nonneg _ (by omega)]
      exact Int.ediv_nonneg hr (by omega)
  · have hr1 : ¬ (0 < r) := by omega
    have hM1 : (M.set f (feedO ns (a + 1) r))[f]? = some (feedO ns (a + 1) r) := set_get hM
    have hb2 : a < 2 ^ 64 := by omega
    by_cases hn : ns = []
    · subst hn
      obtain ⟨v, v0, v1, ev⟩ := draw_tail (sig P n) (.ref f) none none (M.set f (feedO [] (a + 1) r)) a a m ha hb2 h0
      refine ⟨v, M.set f (feedO [] (a + 1) r), ?_, v0, v1, ⟨_, _, _, rfl⟩, ⟨_, _, _, hM1, hl, by omega, by omega, hr⟩⟩
      have hc : ¬ (a < 0) := by omega
      by_cases hc2 : (1000000000000000000 : Int) ≤ a <;> simp [fDraw, bDraw, e2 M [] a r hM, e1 M [] a r hM, cmpD, hr1, binD, addD, s1 M [] a r _ _ hM, e0 _ [] _ _ hM1, b1D, hc, hc2, intSmall, ev]
    · have hlen : 0 < ns.length := List.length_pos_iff.mpr hn
      have hl0 : (0 : Int) < (ns.length : Int) := by omega
      have hlz : (ns.length : Int) ≠ 0 := by omega
      obtain ⟨p0, p1⟩ := fmod_pos a hl0
      obtain ⟨c, hc⟩ : ∃ c, ixD (.lst (ns.map D.int)) (.int (a.fmod ns.length)) (M.set f (feedO ns (a + 1) r)) = .ok (.int c) (M.set f (feedO ns (a + 1) r)) := by
        have hlt : (a.fmod ns.length).toNat < ns.length := by omega
        refine ⟨ns[(a.fmod ns.length).toNat], ?_⟩
        simp [ixD, L2.ixN, p0, p1, hlt]
      by_cases hc2 : (1000000000000000000 : Int) ≤ c ∧ a < ns.length
      · refine ⟨c.fmod m, M.set f (feedO ns (a + 1) (c.fdiv m)), ?_, (fmod_pos c h0).1, (fmod_pos c h0).2, ⟨ns, a + 1, _, rfl⟩, ⟨ns, a + 1, _, set_get hM, hl, by omega, by omega, ?_⟩⟩
        · simp [fDraw, bDraw, e2 M ns a r hM, e1 M ns a r hM, cmpD, hr1, binD, addD, s1 M ns a r _ _ hM, e0 _ ns _ _ hM1, b1D, hn, hlen, hl0, hlz, hc, hc2, intSmall, s2 _ ns _ _ _ _ hM1, hm0, hm1]
        · rw [Int.fdiv_eq_ediv_of_nonneg _ (by omega)]
          exact Int.ediv_nonneg (by omega) (by omega)
      · obtain ⟨v, v0, v1, ev⟩ := draw_tail (sig P n) (.ref f) none none (M.set f (feedO ns (a + 1) r)) a c m ha hb2 h0
        refine ⟨v, M.set f (feedO ns (a + 1) r), ?_, v0, v1, ⟨_, _, _, rfl⟩, ⟨_, _, _, hM1, hl, by omega, by omega, hr⟩⟩
        by_cases hc3 : (1000000000000000000 : Int) ≤ c
        · have hc4 : ¬ (a < ns.length) := fun h => hc2 ⟨hc3, h⟩
          simp [fDraw, bDraw, e2 M ns a r hM, e1 M ns a r hM, cmpD, hr1, binD, addD, s1 M ns a r _ _ hM, e0 _ ns _ _ hM1, b1D, hn, hlen, hl0, hlz, hc, hc3, hc4, intSmall, ev]
        · simp [fDraw, bDraw, e2 M ns a r hM, e1 M ns a r hM, cmpD, hr1, binD, addD, s1 M ns a r _ _ hM, e0 _ ns _ _ hM1, b1D, hn, hlen, hl0, hlz, hc, hc3, intSmall, ev]
end Mi
end
section
set_option Elab.async false
set_option linter.all false
set_option maxRecDepth 100000
/-! MiW: a thing that was made behind all that stood, handed back as a value. -/
namespace Mi
open PySem
def MO.dv : MO → D
  | .lst ds => .lst ds | .dict kvs => .dict kvs | .inst c fs => .inst c fs | .fz kvs => .dict kvs
theorem stood_app (M : Hh) (N : Hh) : Stood M (M ++ N) := by
  refine ⟨by simp, fun i hi => .inl ?_⟩
  rw [List.getElem?_append_left hi]
theorem back_new (M : Hh) (o : MO) (N : Hh) (h : o.dv.still = true) : back false M (.ok (.ref M.length) (M ++ o :: N)) = .ok o.dv M := by
  simp only [back, Bool.false_eq_true, if_false]
  have e : frzD (drf (M ++ o :: N) M.length 8) M.length (.ref M.length) = some o.dv := by
    rw [frzD, if_neg (Nat.lt_irrefl _), drf]
    have g : (M ++ o :: N)[M.length]? = some o := by simp
    rw [g]
    cases o with
    | lst ds =>
      have := frz_still (drf (M ++ .lst ds :: N) M.length 7) M.length (.lst ds) h
      rw [frzD] at this
      exact this
    | dict ds =>
      have := frz_still (drf (M ++ .dict ds :: N) M.length 7) M.length (.dict ds) h
      rw [frzD] at this
      exact this
    | fz ds =>
      have := frz_still (drf (M ++ .fz ds :: N) M.length 7) M.length (.dict ds) h
      rw [frzD] at this
      exact this
    | inst c ds =>
      have := frz_still (drf (M ++ .inst c ds :: N) M.length 7) M.length (.inst c ds) h
      rw [frzD] at this
      exact this
  rw [e]
  simp only [if_pos (stood_app M (o :: N)), List.take_left]
theorem es_setattr' {G : Sg} {σ : Lo} {M : Hh} (a : E) (k : Nat) (v : E) : evS G (.setattr a k v) σ M = (evE G v σ M).st σ fun d M1 => (evE G a σ M1).st σ fun x M2 => Mi.setAttr G.hc x k d M2 σ := by first | (rw [evS]; done) | (rw [evS]; rfl)
@[simp] theorem set_last (M : Hh) (o o' : MO) : (M ++ [o]).set M.length o' = M ++ [o'] := by simp
@[simp] theorem get_last (M : Hh) (o : MO) : (M ++ [o])[M.length]? = some o := by simp
@[simp] theorem setAttr_last (c : Nat) (fs : List (Nat × D)) (hc : Nat → Bool) (k : Nat) (v : D) (M : Hh) (σ : Lo) (h : hc c = true) (hz : fs.length < 100) : Mi.setAttr hc (.ref M.length) k v (M ++ [.inst c fs]) σ = .nx σ (M ++ [.inst c (putF k v fs)]) := by
  simp only [Mi.setAttr, get_last]
  rw [if_pos ⟨h, hz⟩, set_last]
theorem setIx_last (kvs : List (D × D)) (i v : D) (M : Hh) (σ : Lo) (h : isKey i = true) (hz : kvs.length < 16777216) : Mi.setIx (.ref M.length) i v (M ++ [.dict kvs]) σ = .nx σ (M ++ [.dict (putD kvs i v)]) := by
  simp only [Mi.setIx, get_last]
  rw [if_pos ⟨h, hz⟩, set_last]
end Mi
end
section
set_option Elab.async false
set_option linter.all false
set_option maxRecDepth 100000
/-! MiW1: small plain values; a drawn worth. -/
namespace Mi
open PySem
/-! ### values of the law: small enough -/
mutual
def gdB (k : Nat) : D → Bool
  | .int i => decide (i.natAbs ≤ 10 ^ 30 + k)
  | .str x => decide (x.length ≤ 60 + k)
  | .bl _ => true | .non => true
  | .tup ds => decide (ds.length ≤ 20 + k) && gdBs k ds
  | .lst ds => decide (ds.length ≤ 20 + k) && gdBs k ds
  | .dict _ => false | .inst _ _ => false | .fn _ => false | .scr _ => false | .ref _ => false
def gdBs (k : Nat) : List D → Bool
  | [] => true
  | d :: ds => gdB k d && gdBs k ds
end
mutual
theorem gd_plain (k : Nat) : ∀ d : D, gdB k d = true → d.plain = true
  | .int i, _ => by simp | .str x, _ => by simp | .bl b, _ => by simp | .non, _ => by simp
  | .tup ds, h => by rw [gdB, Bool.and_eq_true] at h; rw [D.plain]; exact gds_plain k ds h.2
  | .lst ds, h => by rw [gdB, Bool.and_eq_true] at h; rw [D.plain]; exact gds_plain k ds h.2
  | .dict _, h => by rw [gdB] at h; cases h
  | .inst _ _, h => by rw [gdB] at h; cases h
  | .fn _, h => by rw [gdB] at h; cases h
  | .scr _, h => by rw [gdB] at h; cases h
  | .ref _, h => by rw [gdB] at h; cases h
theorem gds_plain (k : Nat) : ∀ ds : List D, gdBs k ds = true → plains ds = true
  | [], _ => by simp
  | d :: ds, h => by
    rw [gdBs, Bool.and_eq_true] at h
    rw [plains, gd_plain k d h.1, gds_plain k ds h.2]; rfl
end
mutual
theorem gd_mono (k k' : Nat) (hk : k ≤ k') : ∀ d : D, gdB k d = true → gdB k' d = true
  | .int i, h => by rw [gdB, decide_eq_true_eq] at h ⊢; omega
  | .str x, h => by rw [gdB, decide_eq_true_eq] at h ⊢; omega
  | .bl b, _ => by rw [gdB] | .non, _ => by rw [gdB]
  | .tup ds, h => by
    rw [gdB, Bool.and_eq_true, decide_eq_true_eq] at h ⊢
    exact ⟨by omega, gds_mono k k' hk ds h.2⟩
  | .lst ds, h => by
    rw [gdB, Bool.and_eq_true, decide_eq_true_eq] at h ⊢
    exact ⟨by omega, gds_mono k k' hk ds h.2⟩
  | .dict _, h => by rw [gdB] at h; cases h
  | .inst _ _, h => by rw [gdB] at h; cases h
  | .fn _, h => by rw [gdB] at h; cases h
  | .scr _, h => by rw [gdB] at h; cases h
  | .ref _, h => by rw [gdB] at h; cases h
theorem gds_mono (k k' : Nat) (hk : k ≤ k') : ∀ ds : List D, gdBs k ds = true → gdBs k' ds = true
  | [], _ => by rw [gdBs]
  | d :: ds, h => by
    rw [gdBs, Bool.and_eq_true] at h ⊢
    exact ⟨gd_mono k k' hk d h.1, gds_mono k k' hk ds h.2⟩
end
theorem gds_of {k : Nat} {ds : List D} : gdBs k ds = true ↔ ∀ d ∈ ds, gdB k d = true := by
  induction ds with
  | nil => simp [gdBs]
  | cons d ds ih => simp [gdBs, ih]
theorem depths_of {e : Nat} {ds : List D} : depths ds ≤ e ↔ ∀ d ∈ ds, d.depth ≤ e := by
  induction ds with
  | nil => simp
  | cons d ds ih => simp [← ih]; omega
def Gd (k e : Nat) (d : D) : Prop := gdB k d = true ∧ d.depth ≤ e
theorem Gd.plain {k e : Nat} {d : D} (h : Gd k e d) : d.plain = true := gd_plain k d h.1
theorem Gd.still {k e : Nat} {d : D} (h : Gd k e d) : d.still = true := plain_still d h.plain
theorem Gd.mono {k e k' e' : Nat} {d : D} (h : Gd k e d) (hk : k ≤ k') (he : e ≤ e') : Gd k' e' d := ⟨gd_mono k k' hk d h.1, Nat.le_trans h.2 he⟩
theorem Gd.tup {k e : Nat} {ds : List D} (hl : ds.length ≤ 20 + k) (h : ∀ d ∈ ds, Gd k e d) : Gd k (e + 1) (.tup ds) := by
  refine ⟨?_, ?_⟩
  · rw [gdB, Bool.and_eq_true, decide_eq_true_eq]
    exact ⟨hl, gds_of.mpr fun d hd => (h d hd).1⟩
  · simp
    exact depths_of.mpr fun d hd => (h d hd).2
theorem Gd.lst {k e : Nat} {ds : List D} (hl : ds.length ≤ 20 + k) (h : ∀ d ∈ ds, Gd k e d) : Gd k (e + 1) (.lst ds) := by
  refine ⟨?_, ?_⟩
  · rw [gdB, Bool.and_eq_true, decide_eq_true_eq]
    exact ⟨hl, gds_of.mpr fun d hd => (h d hd).1⟩
  · simp
    exact depths_of.mpr fun d hd => (h d hd).2
theorem Gd.of_tup {k e : Nat} {ds : List D} (h : Gd k e (.tup ds)) : ds.length ≤ 20 + k ∧ (∀ d ∈ ds, Gd k (e - 1) d) ∧ 1 ≤ e := by
  obtain ⟨h1, h2⟩ := h
  rw [gdB, Bool.and_eq_true, decide_eq_true_eq] at h1
  simp at h2
  exact ⟨h1.1, fun d hd => ⟨gds_of.mp h1.2 d hd, Nat.le_trans (depths_mem d hd) (by omega)⟩, by omega⟩
theorem Gd.of_lst {k e : Nat} {ds : List D} (h : Gd k e (.lst ds)) : ds.length ≤ 20 + k ∧ (∀ d ∈ ds, Gd k (e - 1) d) ∧ 1 ≤ e := by
  obtain ⟨h1, h2⟩ := h
  rw [gdB, Bool.and_eq_true, decide_eq_true_eq] at h1
  simp at h2
  exact ⟨h1.1, fun d hd => ⟨gds_of.mp h1.2 d hd, Nat.le_trans (depths_mem d hd) (by omega)⟩, by omega⟩
theorem gd_int {i : Int} {k e : Nat} (h : i.natAbs ≤ 10 ^ 30 + k) : Gd k e (.int i) := ⟨by rw [gdB, decide_eq_true_eq]; exact h, by simp⟩
theorem gd_str {x : Str} {k e : Nat} (h : x.length ≤ 60 + k) : Gd k e (.str x) := ⟨by rw [gdB, decide_eq_true_eq]; exact h, by simp⟩
theorem gd_bl {b : Bool} {k e : Nat} : Gd k e (.bl b) := ⟨by rw [gdB], by simp⟩
theorem gd_non {k e : Nat} : Gd k e .non := ⟨by rw [gdB], by simp⟩
/-! ### subscripts at a drawn place -/
theorem ix_mem {ds : List D} {i : Int} (h0 : 0 ≤ i) (h1 : i < ds.length) (M : Hh) : ∃ d ∈ ds, ixD (.lst ds) (.int i) M = .ok d M := by
  have hlt : i.toNat < ds.length := by omega
  refine ⟨ds[i.toNat], List.getElem_mem hlt, ?_⟩
  simp [ixD, L2.ixN, h0, h1, hlt]
theorem ix_memT {ds : List D} {i : Int} (h0 : 0 ≤ i) (h1 : i < ds.length) (M : Hh) : ∃ d ∈ ds, ixD (.tup ds) (.int i) M = .ok d M := by
  have hlt : i.toNat < ds.length := by omega
  refine ⟨ds[i.toNat], List.getElem_mem hlt, ?_⟩
  simp [ixD, L2.ixN, h0, h1, hlt]
theorem ix_sign {x : Str} {i : Int} (h0 : 0 ≤ i) (h1 : i < x.length) (M : Hh) : ∃ c, ixD (.str x) (.int i) M = .ok (str1 c) M := by
  have h2 : i < (x.cps.toList.length : Int) := by simpa [Str.length] using h1
  have hlt : i.toNat < x.cps.toList.length := by omega
  refine ⟨x.cps.toList[i.toNat], ?_⟩
  simp only [ixD, der_D_str, L2.ixN, h0, h2, if_true]
  have hlt2 : i.toNat < x.cps.size := by simpa using hlt
  simp [Array.getElem?_eq_getElem hlt2]
/-- the text of _law_worth; iD: the place of _law_draw -/
def bWorth (iD : Nat) : Ss := (.cons (.set (.name 1) (.call iD false (.cons (.var 0) (.cons (.int 12) .nil)))) (.cons (.ite (.cmp .eq (.var 1) (.int 0)) (.cons (.ret (.ix (.lst false (.cons (.bin false .pow (.int 10) (.int 9)) (.cons (.neg (.bin false .pow (.int 10) (.int 9))) (.cons (.bin false .sub (.bin false .pow (.int 10) (.int 9)) (.int 1)) (.cons (.int 31623) (.cons (.neg (.int 31623)) .nil)))))) (.call iD false (.cons (.var 0) (.cons (.int 5) .nil))))) .nil) .nil) (.cons (.ite (.cmp .eq (.var 1) (.int 1)) (.cons (.ret (.bin false .add (.bin false .mul (.call iD false (.cons (.var 0) (.cons (.bin false .pow (.int 10) (.int 6)) .nil))) (.int 1000)) (.call iD false (.cons (.var 0) (.cons (.int 1000) .nil))))) .nil) .nil) (.cons (.ite (.cmp .eq (.var 1) (.int 2)) (.cons (.ret (.bin false .sub (.bin false .sub (.int 0) (.bin false .mul (.call iD false (.cons (.var 0) (.cons (.bin false .pow (.int 10) (.int 6)) .nil))) (.int 1000))) (.call iD false (.cons (.var 0) (.cons (.int 1000) .nil))))) .nil) .nil) (.cons (.ret (.bin false .sub (.call iD false (.cons (.var 0) (.cons (.int 25) .nil))) (.int 9))) .nil)))))
theorem worth_ok {P : Pg} {iD iW : Nat} (hD : P.fns iD = fDraw) (hW : P.fns iW = ⟨1, 2, bWorth iD⟩) (n f b : Nat) (M : Hh) (hF : Feed f (b + 3) M) : ∃ v M', callF P (n + 2) iW [.ref f] M = .ok (.int v) M' ∧ v.natAbs ≤ 10 ^ 9 ∧ Drawn f b M M' := by
  rw [callF_fn hW rfl]
  obtain ⟨v1, M1, c1, l1, u1, D1⟩ := draw_ok hD hF (m := 12) (by decide) (by decide) n
  have k1 := D1.back false (d := .int v1) (by simp)
  by_cases h0 : v1 = 0
  · subst h0
    obtain ⟨v2, M2, c2, l2, u2, D2⟩ := draw_ok hD (b := b) (D1.2.mono (by omega)) (m := 5) (by decide) (by decide) n
    have k2 := D2.back false (d := .int v2) (by simp)
    obtain ⟨d, hd, e⟩ := ix_mem (ds := [.int (10 ^ 9), .int (-10 ^ 9), .int (10 ^ 9 - 1), .int 31623, .int (-31623)]) l2 (by simpa using u2) M2
    simp at e hd
    have hv : ∃ v : Int, d = .int v ∧ v.natAbs ≤ 10 ^ 9 := by
      rcases hd with rfl | rfl | rfl | rfl | rfl <;> exact ⟨_, rfl, by decide⟩
    obtain ⟨v, rfl, hv⟩ := hv
    refine ⟨v, M2, ?_, hv, D1.trans D2⟩
    simp [bWorth, c1, k1, cmpD, eqD, c2, k2, binD, intSmall, e]
  · by_cases h1 : v1 = 1
    · subst h1
      obtain ⟨v2, M2, c2, l2, u2, D2⟩ := draw_ok hD (b := b + 1) (D1.2.mono (by omega)) (m := 1000000) (by decide) (by decide) n
      obtain ⟨v3, M3, c3, l3, u3, D3⟩ := draw_ok hD (b := b) D2.2 (m := 1000) (by decide) (by decide) n
      have k2 := D2.back false (d := .int v2) (by simp)
      have k3 := D3.back false (d := .int v3) (by simp)
      have s2 : intSmall v2 ∨ intSmall 1000 := .inr (by constructor <;> decide)
      refine ⟨v2 * 1000 + v3, M3, ?_, by omega, (D1.trans D2).trans D3⟩
      simp [bWorth, c1, k1, cmpD, eqD, c2, k2, c3, k3, binD, intSmall, addD, mulD]
    · by_cases h2 : v1 = 2
      · subst h2
        obtain ⟨v2, M2, c2, l2, u2, D2⟩ := draw_ok hD (b := b + 1) (D1.2.mono (by omega)) (m := 1000000) (by decide) (by decide) n
        obtain ⟨v3, M3, c3, l3, u3, D3⟩ := draw_ok hD (b := b) D2.2 (m := 1000) (by decide) (by decide) n
        have k2 := D2.back false (d := .int v2) (by simp)
        have k3 := D3.back false (d := .int v3) (by simp)
        refine ⟨0 - v2 * 1000 - v3, M3, ?_, by omega, (D1.trans D2).trans D3⟩
        simp [bWorth, c1, k1, cmpD, eqD, c2, k2, c3, k3, binD, intSmall, addD, mulD]
      · obtain ⟨v2, M2, c2, l2, u2, D2⟩ := draw_ok hD (b := b) (D1.2.mono (by omega)) (m := 25) (by decide) (by decide) n
        have k2 := D2.back false (d := .int v2) (by simp)
        refine ⟨v2 - 9, M2, ?_, by omega, D1.trans D2⟩
        simp [bWorth, c1, k1, cmpD, eqD, c2, k2, binD, h0, h1, h2]
end Mi
end
section
set_option Elab.async false
set_option linter.all false
set_option maxRecDepth 100000
/-! MiW2: a drawn saying. -/
namespace Mi
open PySem
def opsL : List D := [.str "plus", .str "less", .str "times", .str "over", .str "least", .str "most"]
/-- the text of _law_saying -/
def bSaying (iD iW iS : Nat) : Ss := (.cons (.set (.name 4) (.call iD false (.cons (.var 0) (.cons (.int 9) .nil)))) (.cons (.ite (.and (.cmp .gt (.var 2) (.int 1)) (.cmp .gt (.var 4) (.int 4))) (.cons (.set (.name 5) (.ix (.lst false (.cons (.str "plus") (.cons (.str "less") (.cons (.str "times") (.cons (.str "over") (.cons (.str "least") (.cons (.str "most") .nil))))))) (.call iD false (.cons (.var 0) (.cons (.int 6) .nil))))) (.cons (.set (.name 6) (.call iS false (.cons (.var 0) (.cons (.var 1) (.cons (.bin false .sub (.var 2) (.int 1)) (.cons (.var 3) .nil)))))) (.cons (.ret (.tup (.cons (.var 5) (.cons (.var 6) (.cons (.call iS false (.cons (.var 0) (.cons (.var 1) (.cons (.bin false .sub (.var 2) (.int 1)) (.cons (.var 3) .nil))))) .nil))))) .nil))) .nil) (.cons (.ite (.and (.cmp .lt (.var 4) (.int 2)) (.cmp .ne (.var 1) (.lst false .nil))) (.cons (.ret (.tup (.cons (.str "worth") (.cons (.ix (.var 1) (.call iD false (.cons (.var 0) (.cons (.b1 false .len (.var 1)) .nil)))) .nil)))) .nil) .nil) (.cons (.ite (.and (.cmp .eq (.var 4) (.int 2)) (.not (.var 3))) (.cons (.ret (.ix (.lst false (.cons (.tup (.cons (.str "given") .nil)) (.cons (.tup (.cons (.str "own") .nil)) .nil))) (.call iD false (.cons (.var 0) (.cons (.int 2) .nil))))) .nil) .nil) (.cons (.ite (.cmp .eq (.var 4) (.int 3)) (.cons (.ret (.tup (.cons (.str "above") (.cons (.ix (.lst false (.cons (.str "hp") (.cons (.str "up") (.cons (.str "zz") .nil)))) (.call iD false (.cons (.var 0) (.cons (.int 3) .nil)))) .nil)))) .nil) .nil) (.cons (.ret (.tup (.cons (.str "number") (.cons (.call iW false (.cons (.var 0) .nil)) .nil)))) .nil))))))
theorem saying_ok {P : Pg} {iD iW iS : Nat} (hD : P.fns iD = fDraw) (hW : P.fns iW = ⟨1, 2, bWorth iD⟩) (hS : P.fns iS = ⟨4, 7, bSaying iD iW iS⟩) (ns : List D) (hns : ∀ d ∈ ns, ∃ s, d = .str s ∧ s.length ≤ 60) (hnl : ns.length < 1000) (f : Nat) (pl : Bool) : ∀ (k n b : Nat) (M : Hh) (dp : Int), dp ≤ k + 1 → Feed f (b + 5 * 3 ^ k) M →
    ∃ d M', callF P (n + k + 3) iS [.ref f, .lst ns, .int dp, .bl pl] M = .ok d M' ∧ Gd 0 (k + 1) d ∧ Drawn f b M M'
  | k, n, b, M, dp, hdp, hF => by
    have p3 : 1 ≤ 3 ^ k := Nat.one_le_pow _ _ (by omega)
    rw [callF_fn hS rfl]
    obtain ⟨v1, M1, c1, l1, u1, D1⟩ := draw_ok hD (b := b + 5 * 3 ^ k - 1) (hF.mono (by omega)) (m := 9) (by decide) (by decide) (n + k + 1)
    have k1 := D1.back false (d := .int v1) (by simp)
    by_cases hrec : dp > 1 ∧ v1 > 4
    · cases k with
      | zero => omega
      | succ k =>
        have p4 : 5 * 3 ^ (k + 1) = 3 * (5 * 3 ^ k) := by rw [Nat.pow_succ]; omega
        have p5 : 1 ≤ 3 ^ k := Nat.one_le_pow _ _ (by omega)
        obtain ⟨v2, M2, c2, l2, u2, D2⟩ := draw_ok hD (b := b + 5 * 3 ^ k + 5 * 3 ^ k) (D1.2.mono (by omega)) (m := 6) (by decide) (by decide) (n + (k + 1) + 1)
        have k2 := D2.back false (d := .int v2) (by simp)
        obtain ⟨op, hop, eop⟩ := ix_mem (ds := opsL) l2 (by simpa [opsL] using u2) M2
        obtain ⟨a, M3, c3, g3, D3⟩ := saying_ok hD hW hS ns hns hnl f pl k n (b + 5 * 3 ^ k) M2 (dp - 1) (by omega) D2.2
        obtain ⟨e, M4, c4, g4, D4⟩ := saying_ok hD hW hS ns hns hnl f pl k n b M3 (dp - 1) (by omega) D3.2
        have k3 := D3.back false g3.still
        have k4 := D4.back false g4.still
        rw [show n + k + 3 = n + (k + 1) + 2 by omega] at c3 c4
        have hop2 : ∃ s, op = .str s ∧ s.length ≤ 60 := by
          simp [opsL] at hop
          rcases hop with rfl | rfl | rfl | rfl | rfl | rfl <;> exact ⟨_, rfl, by decide⟩
        obtain ⟨s, rfl, hs⟩ := hop2
        refine ⟨.tup [.str s, a, e], M4, ?_, ?_, ((D1.trans D2).trans D3).trans D4⟩
        · simp only [opsL] at eop
          simp [bSaying, c1, k1, cmpD, hrec, c2, k2, eop, c3, k3, c4, k4, binD]
        · refine Gd.tup (by simp) fun d hd => ?_
          simp at hd
          rcases hd with rfl | rfl | rfl
          · exact gd_str (by omega)
          · exact g3
          · exact g4
    · have hq : (if 1 < dp then R.ok (D.bl (decide (4 < v1))) M1 else R.ok (.bl false) M1) = .ok (.bl false) M1 := by
        by_cases h1 : 1 < dp
        · rw [if_pos h1, decide_eq_false (fun h2 => hrec ⟨h1, h2⟩)]
        · rw [if_neg h1]
      have hpl : plains ns = true := by
        rw [plains_of]
        intro d hd
        obtain ⟨s, rfl, _⟩ := hns d hd
        simp
      have hev : eqvs ns [] = decide (ns = []) := by cases ns <;> simp [eqvs]
      have hne : (if v1 < 2 then (eqD true (.lst ns) (.lst []) M1) else R.ok (.bl false) M1) = R.ok (.bl (decide (v1 < 2 ∧ ns ≠ []))) M1 := by
        by_cases h1 : v1 < 2
        · rw [if_pos h1]
          simp [eqD, hpl, D.eqv, hev, h1]
        · simp [h1]
      by_cases h2 : v1 < 2 ∧ ns ≠ []
      · have hpos : 0 < ns.length := List.length_pos_iff.mpr h2.2
        obtain ⟨v2, M2, c2, l2, u2, D2⟩ := draw_ok hD (b := b) (D1.2.mono (by omega)) (m := ns.length) (by omega) (by omega) (n + k + 1)
        have k2 := D2.back false (d := .int v2) (by simp)
        obtain ⟨x, hx, ex⟩ := ix_mem (ds := ns) l2 u2 M2
        obtain ⟨s, rfl, hs⟩ := hns x hx
        refine ⟨.tup [.str "worth", .str s], M2, ?_, ?_, D1.trans D2⟩
        · have h3 := h2.1
          have h4 := h2.2
          simp [bSaying, c1, k1, cmpD, hq, h3, h4, eqD, D.eqv, hev, hpl, b1D, hpl, c2, k2, ex]
        · refine Gd.tup (by simp) fun d hd => ?_
          simp at hd
          rcases hd with rfl | rfl
          · exact gd_str (by decide)
          · exact gd_str (by omega)
      · have hq2 : (if v1 < 2 then R.ok (D.bl !(D.lst ns).eqv (D.lst [])) M1 else R.ok (D.bl false) M1) = R.ok (.bl false) M1 := by
          by_cases h1 : v1 < 2
          · have hn : ns = [] := Classical.byContradiction fun h => h2 ⟨h1, h⟩
            simp [h1, D.eqv, hev, hn, eqvs]
          · rw [if_neg h1]
        by_cases h3 : v1 = 2 ∧ pl = false
        · obtain ⟨rfl, rfl⟩ := h3
          obtain ⟨v2, M2, c2, l2, u2, D2⟩ := draw_ok hD (b := b) (D1.2.mono (by omega)) (m := 2) (by decide) (by decide) (n + k + 1)
          have k2 := D2.back false (d := .int v2) (by simp)
          obtain ⟨x, hx, ex⟩ := ix_mem (ds := [.tup [.str "given"], .tup [.str "own"]]) l2 (by simpa using u2) M2
          refine ⟨x, M2, ?_, ?_, D1.trans D2⟩
          · simp [bSaying, c1, k1, cmpD, eqD, hpl, c2, k2, ex]
          · simp at hx
            rcases hx with rfl | rfl
            · exact (Gd.tup (k := 0) (e := 0) (by simp) fun d hd => by simp at hd; subst hd; exact gd_str (by decide)).mono (Nat.le_refl _) (by omega)
            · exact (Gd.tup (k := 0) (e := 0) (by simp) fun d hd => by simp at hd; subst hd; exact gd_str (by decide)).mono (Nat.le_refl _) (by omega)
        · have hq3 : (if v1 = 2 then R.ok (D.bl (!pl)) M1 else R.ok (.bl false) M1) = .ok (.bl false) M1 := by
            by_cases h4 : v1 = 2
            · rw [if_pos h4]
              cases pl with
              | true => rfl
              | false => exact absurd ⟨h4, rfl⟩ h3
            · rw [if_neg h4]
          by_cases h4 : v1 = 3
          · subst h4
            obtain ⟨v2, M2, c2, l2, u2, D2⟩ := draw_ok hD (b := b) (D1.2.mono (by omega)) (m := 3) (by decide) (by decide) (n + k + 1)
            have k2 := D2.back false (d := .int v2) (by simp)
            obtain ⟨x, hx, ex⟩ := ix_mem (ds := [.str "hp", .str "up", .str "zz"]) l2 (by simpa using u2) M2
            have hx2 : ∃ s, x = .str s ∧ s.length ≤ 60 := by
              simp at hx
              rcases hx with rfl | rfl | rfl <;> exact ⟨_, rfl, by decide⟩
            obtain ⟨s, rfl, hs⟩ := hx2
            refine ⟨.tup [.str "above", .str s], M2, ?_, ?_, D1.trans D2⟩
            · by_cases hdp : 1 < dp
              · have := hq
                simp [bSaying, c1, k1, cmpD, eqD, hpl, c2, k2, ex, hdp]
              · simp [bSaying, c1, k1, cmpD, eqD, hpl, c2, k2, ex, hdp]
            · refine Gd.tup (by simp) fun d hd => ?_
              simp at hd
              rcases hd with rfl | rfl
              · exact gd_str (by decide)
              · exact gd_str (by omega)
          · obtain ⟨w, M2, c2, hw, D2⟩ := worth_ok hD hW (n + k) f b M1 (D1.2.mono (by omega))
            have k2 := D2.back false (d := .int w) (by simp)
            refine ⟨.tup [.str "number", .int w], M2, ?_, ?_, D1.trans D2⟩
            · have h5 : (v1 == 3) = false := by simpa using h4
              by_cases h6 : v1 = 2
              · have : pl = true := by cases pl with | true => rfl | false => exact absurd ⟨h6, rfl⟩ h3
                subst this h6
                simp [bSaying, c1, k1, cmpD, eqD, hpl, c2, k2]
              · simp [bSaying, c1, k1, cmpD, eqD, c2, k2, hq, hpl, hq2, h4, h6]
            · refine Gd.tup (by simp) fun d hd => ?_
              simp at hd
              rcases hd with rfl | rfl
              · exact gd_str (by decide)
              · exact gd_int (by omega)
end Mi
end
section
set_option Elab.async false
set_option linter.all false
set_option maxRecDepth 100000
/-! MiW3: draws while other things stand behind. -/
namespace Mi
open PySem
theorem Feed.lt {f b : Nat} {M : Hh} (h : Feed f b M) : f < M.length := by
  obtain ⟨ns, a, r, h1, _⟩ := h
  exact (List.getElem?_eq_some_iff.mp h1).1
theorem Feed.app {f b : Nat} {M : Hh} (h : Feed f b M) (N : Hh) : Feed f b (M ++ N) := by
  have hl := h.lt
  obtain ⟨ns, a, r, h1, h2⟩ := h
  exact ⟨ns, a, r, by rw [List.getElem?_append_left hl]; exact h1, h2⟩
theorem Feed.unapp {f b : Nat} {M N : Hh} (h : Feed f b (M ++ N)) (hl : f < M.length) : Feed f b M := by
  obtain ⟨ns, a, r, h1, h2⟩ := h
  exact ⟨ns, a, r, by rw [List.getElem?_append_left hl] at h1; exact h1, h2⟩
theorem Drawn.unapp {f b : Nat} {M N M' : Hh} (h : Drawn f b (M ++ N) M') (hl : f < M.length) : ∃ M1, M' = M1 ++ N ∧ Drawn f b M M1 ∧ M1.length = M.length := by
  obtain ⟨⟨ns, a, r, rfl⟩, h⟩ := h
  rw [List.set_append_left _ _ hl] at h ⊢
  exact ⟨_, rfl, ⟨⟨ns, a, r, rfl⟩, h.unapp (by simpa using hl)⟩, by simp⟩
/-- two lists behind -/
theorem get_two0 (M : Hh) (o p : MO) : (M ++ [o, p])[M.length]? = some o := by simp
theorem get_two1 (M : Hh) (o p : MO) : (M ++ [o, p])[M.length + 1]? = some p := by simp
theorem set_two0 (M : Hh) (o p q : MO) : (M ++ [o, p]).set M.length q = M ++ [q, p] := by simp
theorem set_two1 (M : Hh) (o p q : MO) : (M ++ [o, p]).set (M.length + 1) q = M ++ [o, q] := by simp
theorem back_at {M M' : Hh} {r : Nat} {o : MO} (h0 : M.length ≤ r) (h1 : M'[r]? = some o) (h : o.dv.still = true) (h3 : Stood M M') : back false M (.ok (.ref r) M') = .ok o.dv (M'.take M.length) := by
  simp only [back, Bool.false_eq_true, if_false]
  have e : frzD (drf M' M.length 8) M.length (.ref r) = some o.dv := by
    rw [frzD, if_neg (by omega), drf, h1]
    cases o with
    | lst ds =>
      have := frz_still (drf M' M.length 7) M.length (.lst ds) h
      rw [frzD] at this
      exact this
    | dict ds =>
      have := frz_still (drf M' M.length 7) M.length (.dict ds) h
      rw [frzD] at this
      exact this
    | fz ds =>
      have := frz_still (drf M' M.length 7) M.length (.dict ds) h
      rw [frzD] at this
      exact this
    | inst c ds =>
      have := frz_still (drf M' M.length 7) M.length (.inst c ds) h
      rw [frzD] at this
      exact this
  rw [e]
  simp only [if_pos h3]
theorem Drawn.stood {f b : Nat} {M M1 : Hh} (h : Drawn f b M M1) (N : Hh) : Stood M (M1 ++ N) := by
  have hl := h.len
  obtain ⟨⟨ns, a, r, rfl⟩, _⟩ := h
  have s := stood_feed (f := f) (M := M) (ns := ns) (a := a) (r := r)
  refine ⟨by simp, fun i hi => ?_⟩
  rw [List.getElem?_append_left (by simpa using hi)]
  exact s.2 i hi
/-- a thing made behind, draws made meanwhile -/
theorem back_drawn {f b : Nat} {M M1 N : Hh} {r : Nat} {o : MO} (hd : Drawn f b M M1) (h1 : N[r]? = some o) (h : o.dv.still = true) : back false M (.ok (.ref (M.length + r)) (M1 ++ N)) = .ok o.dv M1 := by
  have hl := hd.len
  rw [back_at (by omega) (by rw [← hl, List.getElem?_append_right (by omega)]; simpa using h1) h (hd.stood N)]
  rw [← hl, List.take_left]
end Mi
end
section
set_option Elab.async false
set_option linter.all false
set_option maxRecDepth 100000
/-! MiW4: some picked out of a list, by draws. -/
namespace Mi
open PySem
/-- the text of _law_picked -/
def bPicked (iD : Nat) : Ss := (.cons (.set (.name 3) (.b1 true .list (.var 1))) (.cons (.set (.name 4) (.lst true .nil)) (.cons (.for_ (.name 5) (.range1 (.b2 .min2 (.var 2) (.b1 false .len (.var 3)))) (.cons (.expr (.bm .lappend (.var 4) (.cons (.bm .lpopat (.var 3) (.cons (.call iD false (.cons (.var 0) (.cons (.b1 false .len (.var 3)) .nil))) .nil)) .nil))) .nil)) (.cons (.ret (.var 4)) .nil))))
def pkBody (iD : Nat) : Ss := (.cons (.expr (.bm .lappend (.var 4) (.cons (.bm .lpopat (.var 3) (.cons (.call iD false (.cons (.var 0) (.cons (.b1 false .len (.var 3)) .nil))) .nil)) .nil))) .nil)
theorem erase_perm {α : Type} (l : List α) (i : Nat) (h : i < l.length) : (l[i] :: l.eraseIdx i).Perm l := by
  rw [List.eraseIdx_eq_take_drop_succ]
  refine List.perm_middle.symm.trans ?_
  rw [List.getElem_cons_drop, List.take_append_drop]
theorem picked_loop {P : Pg} {iD : Nat} (hD : P.fns iD = fDraw) (n f b L : Nat) (l m : D) : ∀ (xs : List D) (M : Hh) (left found : List D) (s5 : Option D), M.length = L → f < L → xs.length ≤ left.length → left.length < 1000 → found.length + left.length < 2000 → Feed f (b + xs.length) M →
    ∃ t5 M1 left' found', forL [] (.name 5) (evSs (sig P (n + 1)) (pkBody iD)) xs [some (.ref f), some l, some m, some (.ref L), some (.ref (L + 1)), s5] (M ++ [.lst left, .lst found]) = .nx [some (.ref f), some l, some m, some (.ref L), some (.ref (L + 1)), t5] (M1 ++ [.lst left', .lst found']) ∧ Drawn f b M M1 ∧
      found'.length = found.length + xs.length ∧ (left' ++ found').Perm (left ++ found)
  | [], M, left, found, s5, hL, hf, _, _, _, hF => ⟨s5, M, left, found, by rw [forL, if_pos (show Locked [] _ from fun p hp => by cases hp)], .refl hF, by simp, .refl _⟩
  | x :: xs, M, left, found, s5, hL, hf, hx, hl, hb, hF => by
    simp only [List.length_cons] at hx hF
    obtain ⟨v, M2, c, l0, u0, D2⟩ := draw_ok hD (b := b + xs.length) ((hF.mono (b' := b + xs.length + 1) (by omega)).app [.lst left, .lst found]) (m := left.length) (by omega) (by omega) n
    have k := D2.back false (d := .int v) (by simp)
    obtain ⟨M1, rfl, D1, hl1⟩ := D2.unapp (by omega)
    have hlt : v.toNat < left.length := by omega
    subst hL
    obtain ⟨t5, M3, left', found', e, D3, h1, h2⟩ := picked_loop hD n f b M1.length l m xs M1 (left.eraseIdx v.toNat) (found ++ [left[v.toNat]]) (some x) rfl (by omega) (by rw [List.length_eraseIdx]; simp [hlt]; omega) (by rw [List.length_eraseIdx]; simp [hlt]; omega) (by rw [List.length_eraseIdx]; simp [hlt]; omega) D1.2
    refine ⟨t5, M3, left', found', ?_, D1.trans D3, by rw [h1]; simp; omega, ?_⟩
    · rw [hl1] at e
      rw [forL, if_pos (show Locked [] _ from fun p hp => by cases hp)]
      have hbd : (T.name 5).bind x [some (.ref f), some l, some m, some (.ref M.length), some (.ref (M.length + 1)), s5] = some [some (.ref f), some l, some m, some (.ref M.length), some (.ref (M.length + 1)), some x] := rfl
      rw [hbd]
      dsimp only
      have run : evSs (sig P (n + 1)) (pkBody iD) [some (.ref f), some l, some m, some (.ref M.length), some (.ref (M.length + 1)), some x] (M ++ [.lst left, .lst found]) = .nx [some (.ref f), some l, some m, some (.ref M.length), some (.ref (M.length + 1)), some x] (M1 ++ [.lst (left.eraseIdx v.toNat), .lst (found ++ [left[v.toNat]])]) := by
        have d0 : der (M ++ [.lst left, .lst found]) (.ref M.length) = .lst left := der_refL (get_two0 M _ _)
        have d1 : der (M ++ [.lst left, .lst found]) (.ref (M.length + 1)) = .lst found := der_refL (get_two1 M _ _)
        have g0 : (M1 ++ [MO.lst left, .lst found])[M.length]? = some (.lst left) := by rw [← hl1]; exact get_two0 M1 _ _
        have s0 : ∀ q, (M1 ++ [MO.lst left, .lst found]).set M.length q = M1 ++ [q, .lst found] := fun q => by rw [← hl1]; exact set_two0 M1 _ _ q
        have g1 : ∀ q, (M1 ++ [q, MO.lst found])[M.length + 1]? = some (.lst found) := fun q => by rw [← hl1]; exact get_two1 M1 _ _
        have s1 : ∀ q o, (M1 ++ [o, MO.lst found]).set (M.length + 1) q = M1 ++ [o, q] := fun q o => by rw [← hl1]; exact set_two1 M1 _ _ q
        have hv : ixN left.length v = some v.toNat := by simp [L2.ixN, l0, u0]
        have h62 : v < 4611686018427387904 := by omega
        have hfl : found.length < 16777216 := by omega
        simp [pkBody, bmTy, d0, d1, b1D, c, k, bmD, refL, g0, hv, hlt, h62, s0, g1, s1, hfl]
      rw [run, RS.then_nx, e]
    · refine h2.trans ?_
      have p := erase_perm left v.toNat hlt
      rw [← List.append_assoc]
      exact List.perm_append_comm.trans (by simpa using p.append_right found)
end Mi
end
section
set_option Elab.async false
set_option linter.all false
set_option maxRecDepth 100000
/-! MiW5: _law_picked. -/
namespace Mi
open PySem
theorem picked_ok {P : Pg} {iD iP : Nat} (hD : P.fns iD = fDraw) (hP : P.fns iP = ⟨3, 6, bPicked iD⟩) (n f b : Nat) (M : Hh) (xs : List D) (m : Int) (hm : 0 ≤ m) (hm2 : m < 1000) (hl : xs.length < 1000) (hF : Feed f (b + xs.length) M) :
    ∃ M1 left ys, callF P (n + 2) iP [.ref f, .lst xs, .int m] M = .ok (.ref (M.length + 1)) (M1 ++ [.lst left, .lst ys]) ∧ Drawn f b M M1 ∧ ys.length = min m.toNat xs.length ∧ (left ++ ys).Perm xs := by
  rw [callF_fn hP rfl]
  obtain ⟨t5, M1, left, ys, e, D1, h1, h2⟩ := picked_loop hD n f b M.length (.lst xs) (.int m) (rangeL 0 (min m.toNat xs.length)) M xs [] none rfl hF.lt (by rw [rangeL_len]; omega) hl (by simp; omega) (hF.mono (by rw [rangeL_len]; omega))
  refine ⟨M1, left, ys, ?_, D1, by simpa [rangeL_len] using h1, by simpa using h2⟩
  have d0 : der (M ++ [.lst xs, .lst []]) (.ref M.length) = .lst xs := der_refL (get_two0 M _ _)
  have hr : (if (xs.length : Int) < m then (xs.length : Int) else m).toNat = min m.toNat xs.length := by split <;> omega
  have e' := e
  simp only [pkBody] at e'
  have hb : (-4611686018427387904 ≤ if (xs.length : Int) < m then (xs.length : Int) else m) ∧ (if (xs.length : Int) < m then (xs.length : Int) else m) < 4611686018427387904 := by split <;> constructor <;> omega
  simp [bPicked, b1D, d0, b2D, rOk, hr, hb, e']
end Mi
end
section
set_option Elab.async false
set_option linter.all false
set_option maxRecDepth 100000
/-! MiW6: slices at a place; _law_feed. -/
namespace Mi
open PySem
theorem cut_to {α : Type} (xs : List α) {a : Int} (h : 0 ≤ a) : cut xs none (some a) = xs.take a.toNat := by
  have : ¬ a < 0 := by omega
  simp [cut, Mi.sIx, HT.sIx, this]
theorem cut_from {α : Type} (xs : List α) {a : Int} (h : 0 ≤ a) : cut xs (some a) none = xs.drop a.toNat := by
  have : ¬ a < 0 := by omega
  simp [cut, Mi.sIx, HT.sIx, this]
  rw [List.take_of_length_le (by simp)]
  by_cases h2 : a.toNat ≤ xs.length
  · rw [Nat.min_eq_left h2]
  · rw [Nat.min_eq_right (by omega), List.drop_length, List.drop_eq_nil_of_le (by omega)]

def bFeed : Ss := (.cons (.ret (.lst true (.cons (.b1 false .list (.slice false (.var 0) .nil (.cons (.int 63) .nil))) (.cons (.int 0) (.cons (.int 0) .nil))))) .nil)
theorem feed_ok {P : Pg} {i : Nat} (h : P.fns i = ⟨1, 1, bFeed⟩) (n : Nat) (ns : List Int) (hl : ns.length ≤ 63) : callF P (n + 1) i [.scr ns] [] = .ok (.ref 0) [feedO ns 0 0] := by
  rw [callF_fn h rfl]
  have ct : cut (ns.map D.int) none (some 63) = ns.map D.int := by
    rw [cut_to _ (by decide), List.take_of_length_le (by simpa using hl)]
  simp [bFeed, sliceD, optInt, ct, b1D, feedO]
theorem feed_start (ns : List Int) (hl : ns.length ≤ 63) (b : Nat) (hb : b < 2 ^ 64) : Feed 0 b [feedO ns 0 0] := ⟨ns, 0, 0, rfl, hl, Int.le_refl _, by omega, Int.le_refl _⟩
end Mi
end
section
set_option Elab.async false
set_option linter.all false
set_option maxRecDepth 100000
/-! Ty: sayings as they are. -/
namespace Mi
open PySem
theorem callF_gt {P : Pg} {N i : Nat} {f : Fn} {ds : List D} {M : Hh} (hN : 0 < N) (h : P.fns i = f) (hl : ds.length = f.ar) : callF P N i ds M = endF (evSs (sig P (N - 1)) f.body (ds.map some ++ List.replicate (f.nl - ds.length) none) M) := by
  obtain ⟨n, rfl⟩ : ∃ n, N = n + 1 := ⟨N - 1, by omega⟩
  exact callF_fn h hl
@[simp] theorem sig_con (P : Pg) (n : Nat) : (sig P n).con = P.con := rfl
@[simp] theorem sig_kd (P : Pg) (n : Nat) : (sig P n).kd = P.kd := rfl
@[simp] theorem sig_hc (P : Pg) (n : Nat) : (sig P n).hc = P.hc := rfl
@[simp] theorem sig_meth (P : Pg) (n : Nat) : (sig P n).meth = P.meth := rfl
inductive Op6 where | plus | less | times | over | least | most
  deriving DecidableEq
def Op6.s : Op6 → Str
  | .plus => "plus" | .less => "less" | .times => "times" | .over => "over" | .least => "least" | .most => "most"
inductive Say where
  | num (n : Int) | wor (w : Str) | abv (w : Str) | giv | own | op (o : Op6) (a b : Say)
def Say.d : Say → D
  | .num n => .tup [.str "number", .int n]
  | .wor w => .tup [.str "worth", .str w]
  | .abv w => .tup [.str "above", .str w]
  | .giv => .tup [.str "given"]
  | .own => .tup [.str "own"]
  | .op o a b => .tup [.str o.s, a.d, b.d]
def Say.dep : Say → Nat
  | .op _ a b => max a.dep b.dep + 1
  | _ => 1
def worthI (n : Int) : Prop := -1000000000 ≤ n ∧ n ≤ 1000000000
/-- its names of worths, names of above; plain: without given and own -/
def Say.ok (W A : Str → Prop) (pl : Bool) : Say → Prop
  | .num n => worthI n
  | .wor w => W w
  | .abv w => A w
  | .giv => pl = false
  | .own => pl = false
  | .op _ a b => a.ok W A pl ∧ b.ok W A pl
theorem Say.plain : ∀ s : Say, s.d.plain = true
  | .num n => by simp [Say.d]
  | .wor n => by simp [Say.d]
  | .abv n => by simp [Say.d]
  | .giv => by simp [Say.d]
  | .own => by simp [Say.d]
  | .op o a b => by simp [Say.d, a.plain, b.plain]
@[simp] theorem Say.still (s : Say) : s.d.still = true := plain_still _ s.plain
theorem Say.depth : ∀ s : Say, s.d.depth ≤ s.dep
  | .num n => by simp [Say.d, Say.dep]
  | .wor n => by simp [Say.d, Say.dep]
  | .abv n => by simp [Say.d, Say.dep]
  | .giv => by simp [Say.d, Say.dep]
  | .own => by simp [Say.d, Say.dep]
  | .op o a b => by have := a.depth; have := b.depth; simp [Say.d, Say.dep]; omega
example : ("number" : Str) ≠ "plus" := by decide
example (M : Hh) : cmpD .isin (.str "number") (.tup opsL) M = .ok (.bl false) M := by
  simp (decide := true) [cmpD, inD, opsL, inSeq]
example (o : Op6) (M : Hh) : cmpD .isin (.str o.s) (.tup opsL) M = .ok (.bl true) M := by
  cases o <;> simp (decide := true) [cmpD, inD, opsL, inSeq, Op6.s]
end Mi
end
section
set_option Elab.async false
set_option linter.all false
set_option maxRecDepth 100000
namespace Mi
open PySem L2
/-! of L1 -/
def oI : Option Int → D
  | none => .non
  | some i => .int i
structure Deed where
  w : Str
  layer : Int
  way : Str
  s : Say
def Deed.d (x : Deed) : D := .tup [.str x.w, .int x.layer, .str x.way, x.s.d]
structure Knd where
  nm : Str
  wt : Int
  lasts : Option Int
  most : Int
  fresh : Bool
  reach : Str
  bars : List Str
  deeds : List Deed
def Knd.parts (k : Knd) : List D := [.str k.nm, .int k.wt, oI k.lasts, .int k.most, .bl k.fresh, .str k.reach, .tup (k.bars.map .str), .tup (k.deeds.map Deed.d)]
def Knd.d (k : Knd) : D := .tup k.parts
def Knd.inst (k : Knd) : D := .inst 10 [(0, .str k.nm), (1, .int k.wt), (2, oI k.lasts), (3, .int k.most), (4, .bl k.fresh), (5, .str k.reach), (6, .tup (k.bars.map .str)), (7, .tup (k.deeds.map Deed.d))]
inductive Act where
  | bring (k : Str) (n : Int) | fin (k : Str) | pass (n : Int)
def Act.d : Act → D
  | .bring k n => .tup [.str "bring", .str k, .int n]
  | .fin k => .tup [.str "end", .str k]
  | .pass n => .tup [.str "pass", .int n]
structure Bk where
  worths : List (Str × Say)
  kinds : List Knd
  haps : List (Str × List Act)
def wsD (p : Str × Say) : D := .tup [.str p.1, p.2.d]
def hpD (p : Str × List Act) : D := .tup [.str p.1, .tup (p.2.map Act.d)]
def Bk.d (b : Bk) : D := .tup [.tup (b.worths.map wsD), .tup (b.kinds.map Knd.d), .tup (b.haps.map hpD)]
structure Ef where
  kind : Str
  given : Int
  left : Option Int
def Ef.d (e : Ef) : D := .tup [.str e.kind, .int e.given, oI e.left]
def stD (s : List Ef) : D := .tup (s.map Ef.d)
def NmOk (x : Str) : Prop := x.length ≤ 60 ∧ keyOk (.str x) = true
structure KsOk (ks : List Knd) : Prop where
  len : ks.length < 1000
  nd : (ks.map Knd.nm).Nodup
  key : ∀ k ∈ ks, keyOk (.str k.nm) = true
  bars : ∀ k ∈ ks, k.bars.length < 1000
theorem plains_map {β : Type} (f : β → D) (h : ∀ x, (f x).plain = true) (xs : List β) : plains (xs.map f) = true := by
  rw [plains_of]
  intro d hd
  obtain ⟨x, _, rfl⟩ := List.mem_map.mp hd
  exact h x
@[simp] theorem oI_plain (o : Option Int) : (oI o).plain = true := by cases o <;> simp [oI]
@[simp] theorem oI_depth (o : Option Int) : (oI o).depth = 0 := by cases o <;> simp [oI]
@[simp] theorem oI_still (o : Option Int) : (oI o).still = true := by cases o <;> simp [oI]
@[simp] theorem strs_plain (xs : List Str) : plains (xs.map D.str) = true := plains_map _ (fun x => by simp) xs
@[simp] theorem Deed.plain (x : Deed) : x.d.plain = true := by simp [Deed.d, x.s.plain]
@[simp] theorem deeds_plain (xs : List Deed) : plains (xs.map Deed.d) = true := plains_map _ (fun x => by simp) xs
@[simp] theorem Knd.plain (k : Knd) : k.d.plain = true := by simp [Knd.d, Knd.parts]
@[simp] theorem Act.plain (k : Act) : k.d.plain = true := by cases k <;> simp [Act.d]
@[simp] theorem Ef.plain (k : Ef) : k.d.plain = true := by simp [Ef.d]
@[simp] theorem stD_plain (s : List Ef) : (stD s).plain = true := by simp only [stD, plain_tup]; exact plains_map _ (fun x => by simp) s
@[simp] theorem Bk.plain (b : Bk) : b.d.plain = true := by
  simp only [Bk.d, plain_tup, plains_cons, plains_nil, Bool.and_true, Bool.and_eq_true]
  exact ⟨plains_map _ (fun x => by simp [wsD, x.2.plain]) _, plains_map _ (fun x => by simp) _, plains_map _ (fun x => by simp only [hpD, plain_tup, plains_cons, plains_nil, plain_str, Bool.and_true, Bool.true_and]; exact plains_map _ (fun x => by simp) _) _⟩
@[simp] theorem Knd.still (k : Knd) : k.inst.still = true := by
  have h1 : (D.tup (k.bars.map D.str)).still = true := plain_still _ (by simp)
  have h2 : (D.tup (k.deeds.map Deed.d)).still = true := plain_still _ (by simp)
  rw [Knd.inst, D.still]
  simp [stillF, h1, h2]
def kdict (ks : List Knd) : List (D × D) := ks.map fun k => (.str k.nm, k.inst)
theorem kdict_still : ∀ ks : List Knd, stillK (kdict ks) = true
  | [] => by simp [kdict, stillK]
  | k :: ks => by
    have := kdict_still ks
    unfold kdict at this ⊢
    rw [List.map_cons, stillK, this]; simp
theorem eqv_strs (x y : Str) : (D.str x).eqv (.str y) = decide (x = y) := by
  rw [D.eqv, Bool.eq_iff_iff]
  simp
def kOf (ks : List Knd) (x : Str) : Option Knd := ks.find? fun k => decide (k.nm = x)
theorem lookK (ks : List Knd) (x : Str) : lookD (kdict ks) (.str x) = (kOf ks x).map Knd.inst := by
  unfold lookD kdict kOf
  induction ks with
  | nil => rfl
  | cons k ks ih =>
    simp only [List.map_cons, List.find?_cons, eqv_strs]
    by_cases h : k.nm = x
    · simp [h]
    · simp only [decide_eq_false h]
      exact ih
theorem kOf_mem : ∀ {ks : List Knd}, (ks.map Knd.nm).Nodup → ∀ {k : Knd}, k ∈ ks → kOf ks k.nm = some k
  | [], _, _, h => by cases h
  | j :: ks, hn, k, h => by
    rw [List.map_cons, List.nodup_cons] at hn
    unfold kOf
    rw [List.find?_cons]
    rcases List.mem_cons.mp h with rfl | h
    · simp
    · have : j.nm ≠ k.nm := fun e => hn.1 (e ▸ List.mem_map.mpr ⟨k, h, rfl⟩)
      simp only [decide_eq_false this]
      exact kOf_mem hn.2 h
theorem kOf_some {ks : List Knd} {x : Str} {k : Knd} (h : kOf ks x = some k) : k ∈ ks ∧ k.nm = x := by
  unfold kOf at h
  exact ⟨List.mem_of_find?_eq_some h, by simpa using List.find?_some h⟩
theorem putD_new (ks : List Knd) (k : Knd) (h : k.nm ∉ ks.map Knd.nm) : putD (kdict ks) (.str k.nm) k.inst = kdict (ks ++ [k]) := by
  unfold putD kdict
  rw [if_neg]
  · simp
  · simp only [List.any_eq_true, not_exists, not_and]
    intro p hp
    obtain ⟨j, hj, rfl⟩ := List.mem_map.mp hp
    simp only [eqv_strs, decide_eq_true_eq]
    intro e
    exact h (List.mem_map.mpr ⟨j, hj, e⟩)
theorem setAttrK (fs : List (Nat × D)) (k : Nat) (v : D) (M : Hh) (σ : Lo) (hz : fs.length < 100) : Mi.setAttr GP.hc (.ref M.length) k v (M ++ [.inst 10 fs]) σ = .nx σ (M ++ [.inst 10 (putF k v fs)]) := setAttr_last _ _ _ _ _ _ _ hc10 hz
theorem mk_sp {N : Nat} (hN : 3 ≤ N) (M : Hh) (k : Knd) : back false M ((sig GP N).new 10 [k.d] M) = .ok k.inst M := by
  obtain ⟨n, rfl⟩ : ∃ n, N = n + 2 := ⟨N - 2, by omega⟩
  have hi : callF GP (n + 1) 33 [.ref M.length, k.d] (M ++ [.inst 10 []]) = .ok .non (M ++ [MO.inst 10 [(0, .str k.nm), (1, .int k.wt), (2, oI k.lasts), (3, .int k.most), (4, .bl k.fresh), (5, .str k.reach), (6, .tup (k.bars.map .str)), (7, .tup (k.deeds.map Deed.d))]]) := by
    rw [callF_fn g33 rfl]
    simp [F33, b33, es_setattr', setAttrK, ixD, L2.ixN, putF, Knd.d, Knd.parts]
  have e : (sig GP (n + 2)).new 10 [k.d] M = .ok (.ref M.length) (M ++ [MO.inst 10 [(0, .str k.nm), (1, .int k.wt), (2, oI k.lasts), (3, .int k.most), (4, .bl k.fresh), (5, .str k.reach), (6, .tup (k.bars.map .str)), (7, .tup (k.deeds.map Deed.d))]]) := by
    show (if GP.hc 10 = true then mkF (callF GP (n + 1)) (GP.init 10) 10 [k.d] M else .bad) = _
    rw [if_pos hc10]
    unfold mkF
    rw [in10, hi]
    rfl
  rw [e]
  refine back_new M (.inst 10 _) [] ?_
  exact k.still
def isWhole (d : D) (a b : Int) : Bool := match d with | .int i => decide (a ≤ i) && decide (i ≤ b) | _ => false
def isNum (d : D) : Bool := isWhole d (-1000000000) 1000000000
def isStrD (d : D) : Option Str := match d with | .str x => some x | _ => none
def restOk (o : Option Int) (c : D) : Bool := match o with | none => isN c | some l => isWhole c 1 l
def effOk (ks : List Knd) (d : D) : Bool := match d with
  | .tup [a, b, c] => match (isStrD a).bind (kOf ks) with | some k => isNum b && restOk k.lasts c | none => false
  | _ => false
def firstIs (x : Str) (d : D) : Bool := match d with | .tup (.str y :: _) => decide (y = x) | _ => false
def cnt (ds : List D) (x : Str) : Nat := (ds.filter (firstIs x)).length
theorem many_sp {N : Nat} (hN : 1 ≤ N) (M : Hh) (ds : List D) (x : Str) (hz : ds.length ≤ 16777216) (h : ∀ d ∈ ds, ∃ y r, d = .tup (.str y :: r)) : callF GP N 66 [.tup ds, .str x] M = .ok (.int (cnt ds x)) M := by
  rw [callF_gt (by omega) g66 rfl]
  simp [F66, b66, itemsOf, hz]
  rw [lcL_fm (lk := []) (fun p hp => by cases hp) (firstIs x) (fun d => d) ds ?h]
  case h =>
    intro d hd
    obtain ⟨y, r, rfl⟩ := h d hd
    refine ⟨_, rfl, ?_, fun _ => by simp⟩
    simp only [firstIs, ← eqv_strs]
    simp [ixD, L2.ixN, cmpD, eqD]
  simp [b1D, cnt]
theorem eff_first {ks : List Knd} {d : D} (h : effOk ks d = true) : ∃ y r, d = .tup (.str y :: r) := by
  unfold effOk at h
  split at h
  · rename_i a b c
    cases a with
    | str x => exact ⟨x, _, rfl⟩
    | _ => simp [isStrD] at h
  · cases h
def mostK (ds : List D) (k : Knd) : Bool := decide ((cnt ds k.nm : Int) ≤ k.most)
def stOk (ks : List Knd) (d : D) : Bool := match d with
  | .tup ds => ds.all (effOk ks) && ks.all (mostK ds)
  | _ => false
theorem kdict_items (M : Hh) (ks : List Knd) (hk : ∀ k ∈ ks, keyOk (.str k.nm) = true) : itemsOf M (.dict (kdict ks)) = some (ks.map (fun k => .str k.nm), []) := by
  rw [itemsOf, if_pos]
  · simp [kdict, Function.comp_def]
  · simp only [List.all_eq_true, kdict, List.mem_map]
    rintro _ ⟨k, hk1, rfl⟩
    exact hk k hk1
theorem kinst_at {G : Sg} {M : Hh} (k : Knd) (j : Nat) (v : D) (h : List.lookup j [(0, D.str k.nm), (1, D.int k.wt), (2, oI k.lasts), (3, D.int k.most), (4, D.bl k.fresh), (5, D.str k.reach), (6, D.tup (k.bars.map D.str)), (7, D.tup (k.deeds.map Deed.d))] = some v) (hc : G.hc 10 = true) :
    (match der M k.inst with | .inst c fs => if G.hc c then match fs.lookup j with | some v => .ok v M | none => .bad else .bad | _ => .bad) = (.ok v M : R D) := by
  simp [Knd.inst, hc, h]
def mostD (ks : List Knd) (ds : List D) (d : D) : D := .bl (match d with | .str x => (match kOf ks x with | some k => mostK ds k | none => false) | _ => false)
/-! of L2 -/
theorem gd9 : GP.fns 9 = fDraw := rfl
theorem gw10 : GP.fns 10 = ⟨1, 2, bWorth 9⟩ := rfl
theorem gs23 : GP.fns 23 = ⟨4, 7, bSaying 9 10 23⟩ := rfl
def AbvOk (x : Str) : Prop := x = "hp" ∨ x = "up" ∨ x = "zz"
def SayOk (W : Str → Prop) (pl : Bool) (n : Nat) (s : Say) : Prop := s.ok W AbvOk pl ∧ s.dep ≤ n
theorem dr {N f b : Nat} {M : Hh} (hN : 1 ≤ N) (hF : Feed f (b + 1) M) {m : Int} (h0 : 0 < m) (h1 : m < 1073741824) : ∃ v M', back false M (callF GP N 9 [.ref f, .int m] M) = .ok (.int v) M' ∧ 0 ≤ v ∧ v < m ∧ Drawn f b M M' := by
  obtain ⟨n, rfl⟩ : ∃ n, N = n + 1 := ⟨N - 1, by omega⟩
  obtain ⟨v, M', c, l, u, D⟩ := draw_ok gd9 hF h0 h1 n
  exact ⟨v, M', by rw [c]; exact D.back false (by simp), l, u, D⟩
theorem drA {N f b : Nat} {M : Hh} (X : Hh) (hN : 1 ≤ N) (hF : Feed f (b + 1) M) {m : Int} (h0 : 0 < m) (h1 : m < 1073741824) : ∃ v M1, back false (M ++ X) (callF GP N 9 [.ref f, .int m] (M ++ X)) = .ok (.int v) (M1 ++ X) ∧ 0 ≤ v ∧ v < m ∧ Drawn f b M M1 ∧ M1.length = M.length := by
  obtain ⟨v, M', c, l, u, D⟩ := dr hN (hF.app X) h0 h1
  obtain ⟨M1, rfl, D1, hl⟩ := D.unapp hF.lt
  exact ⟨v, M1, c, l, u, D1, hl⟩
theorem wo {N f b : Nat} {M : Hh} (hN : 2 ≤ N) (hF : Feed f (b + 3) M) : ∃ v M', back false M (callF GP N 10 [.ref f] M) = .ok (.int v) M' ∧ worthI v ∧ Drawn f b M M' := by
  obtain ⟨n, rfl⟩ : ∃ n, N = n + 2 := ⟨N - 2, by omega⟩
  obtain ⟨v, M', c, l, D⟩ := worth_ok gd9 gw10 n f b M hF
  exact ⟨v, M', by rw [c]; exact D.back false (by simp), by unfold worthI; omega, D⟩
theorem woA {N f b : Nat} {M : Hh} (X : Hh) (hN : 2 ≤ N) (hF : Feed f (b + 3) M) : ∃ v M1, back false (M ++ X) (callF GP N 10 [.ref f] (M ++ X)) = .ok (.int v) (M1 ++ X) ∧ worthI v ∧ Drawn f b M M1 ∧ M1.length = M.length := by
  obtain ⟨v, M', c, l, D⟩ := wo hN (hF.app X)
  obtain ⟨M1, rfl, D1, hl⟩ := D.unapp hF.lt
  exact ⟨v, M1, c, l, D1, hl⟩
theorem say_ok (W : Str → Prop) (ns : List D) (hns : ∀ d ∈ ns, ∃ s, d = .str s ∧ W s) (hnl : ns.length < 1000) (f : Nat) (pl : Bool) : ∀ (k n b : Nat) (M : Hh) (dp : Int), dp ≤ k + 1 → Feed f (b + 5 * 3 ^ k) M →
    ∃ d M', callF GP (n + k + 3) 23 [.ref f, .lst ns, .int dp, .bl pl] M = .ok d M' ∧ (∃ s : Say, d = s.d ∧ SayOk W pl (k + 1) s) ∧ Drawn f b M M'
  | k, n, b, M, dp, hdp, hF => by
    have p3 : 1 ≤ 3 ^ k := Nat.one_le_pow _ _ (by omega)
    rw [callF_fn gs23 rfl]
    obtain ⟨v1, M1, c1, l1, u1, D1⟩ := draw_ok gd9 (b := b + 5 * 3 ^ k - 1) (hF.mono (by omega)) (m := 9) (by decide) (by decide) (n + k + 1)
    have k1 := D1.back false (d := .int v1) (by simp)
    by_cases hrec : dp > 1 ∧ v1 > 4
    · cases k with
      | zero => omega
      | succ k =>
        have p4 : 5 * 3 ^ (k + 1) = 3 * (5 * 3 ^ k) := by rw [Nat.pow_succ]; omega
        have p5 : 1 ≤ 3 ^ k := Nat.one_le_pow _ _ (by omega)
        obtain ⟨v2, M2, c2, l2, u2, D2⟩ := draw_ok gd9 (b := b + 5 * 3 ^ k + 5 * 3 ^ k) (D1.2.mono (by omega)) (m := 6) (by decide) (by decide) (n + (k + 1) + 1)
        have k2 := D2.back false (d := .int v2) (by simp)
        obtain ⟨op, hop, eop⟩ := ix_mem (ds := opsL) l2 (by simpa [opsL] using u2) M2
        obtain ⟨a, M3, c3, g3, D3⟩ := say_ok W ns hns hnl f pl k n (b + 5 * 3 ^ k) M2 (dp - 1) (by omega) D2.2
        obtain ⟨e, M4, c4, g4, D4⟩ := say_ok W ns hns hnl f pl k n b M3 (dp - 1) (by omega) D3.2
        obtain ⟨sa, rfl, ga⟩ := g3
        have k3 := D3.back false sa.still
        obtain ⟨sb, rfl, gb⟩ := g4
        have k4 := D4.back false sb.still
        rw [show n + k + 3 = n + (k + 1) + 2 by omega] at c3 c4
        have hop2 : ∃ o : Op6, op = .str o.s := by
          simp [opsL] at hop
          rcases hop with rfl | rfl | rfl | rfl | rfl | rfl 
          · exact ⟨.plus, rfl⟩
          · exact ⟨.less, rfl⟩
          · exact ⟨.times, rfl⟩
          · exact ⟨.over, rfl⟩
          · exact ⟨.least, rfl⟩
          · exact ⟨.most, rfl⟩
        obtain ⟨o, rfl⟩ := hop2
        refine ⟨.tup [.str o.s, sa.d, sb.d], M4, ?_, ?_, ((D1.trans D2).trans D3).trans D4⟩
        · simp only [opsL] at eop
          simp [bSaying, c1, k1, cmpD, hrec, c2, k2, eop, c3, k3, c4, k4, binD]
        · exact ⟨.op o sa sb, rfl, ⟨ga.1, gb.1⟩, by have := ga.2; have := gb.2; simp [Say.dep]; omega⟩
    · have hq : (if 1 < dp then R.ok (D.bl (decide (4 < v1))) M1 else R.ok (.bl false) M1) = .ok (.bl false) M1 := by
        by_cases h1 : 1 < dp
        · rw [if_pos h1, decide_eq_false (fun h2 => hrec ⟨h1, h2⟩)]
        · rw [if_neg h1]
      have hpl : plains ns = true := by
        rw [plains_of]
        intro d hd
        obtain ⟨s, rfl, _⟩ := hns d hd
        simp
      have hev : eqvs ns [] = decide (ns = []) := by cases ns <;> simp [eqvs]
      have hne : (if v1 < 2 then (eqD true (.lst ns) (.lst []) M1) else R.ok (.bl false) M1) = R.ok (.bl (decide (v1 < 2 ∧ ns ≠ []))) M1 := by
        by_cases h1 : v1 < 2
        · rw [if_pos h1]
          simp [eqD, hpl, D.eqv, hev, h1]
        · simp [h1]
      by_cases h2 : v1 < 2 ∧ ns ≠ []
      · have hpos : 0 < ns.length := List.length_pos_iff.mpr h2.2
        obtain ⟨v2, M2, c2, l2, u2, D2⟩ := draw_ok gd9 (b := b) (D1.2.mono (by omega)) (m := ns.length) (by omega) (by omega) (n + k + 1)
        have k2 := D2.back false (d := .int v2) (by simp)
        obtain ⟨x, hx, ex⟩ := ix_mem (ds := ns) l2 u2 M2
        obtain ⟨s, rfl, hs⟩ := hns x hx
        refine ⟨.tup [.str "worth", .str s], M2, ?_, ?_, D1.trans D2⟩
        · have h3 := h2.1
          have h4 := h2.2
          simp [bSaying, c1, k1, cmpD, hq, h3, h4, eqD, D.eqv, hev, hpl, b1D, hpl, c2, k2, ex]
        · exact ⟨.wor s, rfl, hs, by simp [Say.dep]⟩
      · have hq2 : (if v1 < 2 then R.ok (D.bl !(D.lst ns).eqv (D.lst [])) M1 else R.ok (D.bl false) M1) = R.ok (.bl false) M1 := by
          by_cases h1 : v1 < 2
          · have hn : ns = [] := Classical.byContradiction fun h => h2 ⟨h1, h⟩
            simp [h1, D.eqv, hev, hn, eqvs]
          · rw [if_neg h1]
        by_cases h3 : v1 = 2 ∧ pl = false
        · obtain ⟨rfl, rfl⟩ := h3
          obtain ⟨v2, M2, c2, l2, u2, D2⟩ := draw_ok gd9 (b := b) (D1.2.mono (by omega)) (m := 2) (by decide) (by decide) (n + k + 1)
          have k2 := D2.back false (d := .int v2) (by simp)
          obtain ⟨x, hx, ex⟩ := ix_mem (ds := [.tup [.str "given"], .tup [.str "own"]]) l2 (by simpa using u2) M2
          refine ⟨x, M2, ?_, ?_, D1.trans D2⟩
          · simp [bSaying, c1, k1, cmpD, eqD, hpl, c2, k2, ex]
          · simp at hx
            rcases hx with rfl | rfl
            · exact ⟨.giv, rfl, rfl, by simp [Say.dep]⟩
            · exact ⟨.own, rfl, rfl, by simp [Say.dep]⟩
        · have hq3 : (if v1 = 2 then R.ok (D.bl (!pl)) M1 else R.ok (.bl false) M1) = .ok (.bl false) M1 := by
            by_cases h4 : v1 = 2
            · rw [if_pos h4]
              cases pl with
              | true => rfl
              | false => exact absurd ⟨h4, rfl⟩ h3
            · rw [if_neg h4]
          by_cases h4 : v1 = 3
          · subst h4
            obtain ⟨v2, M2, c2, l2, u2, D2⟩ := draw_ok gd9 (b := b) (D1.2.mono (by omega)) (m := 3) (by decide) (by decide) (n + k + 1)
            have k2 := D2.back false (d := .int v2) (by simp)
            obtain ⟨x, hx, ex⟩ := ix_mem (ds := [.str "hp", .str "up", .str "zz"]) l2 (by simpa using u2) M2
            have hx2 : ∃ s, x = .str s ∧ AbvOk s := by
              simp at hx
              rcases hx with rfl | rfl | rfl <;> exact ⟨_, rfl, by simp [AbvOk]⟩
            obtain ⟨s, rfl, hs⟩ := hx2
            refine ⟨.tup [.str "above", .str s], M2, ?_, ?_, D1.trans D2⟩
            · by_cases hdp : 1 < dp
              · have := hq
                simp [bSaying, c1, k1, cmpD, eqD, hpl, c2, k2, ex, hdp]
              · simp [bSaying, c1, k1, cmpD, eqD, hpl, c2, k2, ex, hdp]
            · exact ⟨.abv s, rfl, hs, by simp [Say.dep]⟩
          · obtain ⟨w, M2, c2, hw, D2⟩ := worth_ok gd9 gw10 (n + k) f b M1 (D1.2.mono (by omega))
            have k2 := D2.back false (d := .int w) (by simp)
            refine ⟨.tup [.str "number", .int w], M2, ?_, ?_, D1.trans D2⟩
            · have h5 : (v1 == 3) = false := by simpa using h4
              by_cases h6 : v1 = 2
              · have : pl = true := by cases pl with | true => rfl | false => exact absurd ⟨h6, rfl⟩ h3
                subst this h6
                simp [bSaying, c1, k1, cmpD, eqD, hpl, c2, k2]
              · simp [bSaying, c1, k1, cmpD, eqD, c2, k2, hq, hpl, hq2, h4, h6]
            · exact ⟨.num w, rfl, by simp [Say.ok, worthI]; omega, by simp [Say.dep]⟩
theorem strs_in {nm : List Str} : ∀ d ∈ nm.map D.str, ∃ s, d = .str s ∧ s ∈ nm := fun d hd => by
  obtain ⟨x, hx, rfl⟩ := List.mem_map.mp hd
  exact ⟨x, rfl, hx⟩
theorem say {N f b : Nat} {M : Hh} {nm : List Str} (hN : 6 ≤ N) (hl : nm.length < 1000) {dp : Int} (hdp : dp ≤ 3) (pl : Bool) (hF : Feed f (b + 45) M) : ∃ s : Say, ∃ M', back false M (callF GP N 23 [.ref f, .lst (nm.map D.str), .int dp, .bl pl] M) = .ok s.d M' ∧ SayOk (· ∈ nm) pl 3 s ∧ Drawn f b M M' := by
  obtain ⟨n, rfl⟩ : ∃ n, N = n + 2 + 3 := ⟨N - 5, by omega⟩
  obtain ⟨d, M', c, ⟨s, rfl, hs⟩, D⟩ := say_ok (· ∈ nm) (nm.map D.str) strs_in (by simpa using hl) f pl 2 n b M dp (by omega) hF
  exact ⟨s, M', by rw [c]; exact D.back false s.still, hs, D⟩
theorem sayA {N f b : Nat} {M : Hh} (X : Hh) {nm : List Str} (hN : 6 ≤ N) (hl : nm.length < 1000) {dp : Int} (hdp : dp ≤ 3) (pl : Bool) (hF : Feed f (b + 45) M) : ∃ s : Say, ∃ M1, back false (M ++ X) (callF GP N 23 [.ref f, .lst (nm.map D.str), .int dp, .bl pl] (M ++ X)) = .ok s.d (M1 ++ X) ∧ SayOk (· ∈ nm) pl 3 s ∧ Drawn f b M M1 ∧ M1.length = M.length := by
  obtain ⟨s, M', c, l, D⟩ := say hN hl hdp pl (hF.app X)
  obtain ⟨M1, rfl, D1, hl⟩ := D.unapp hF.lt
  exact ⟨s, M1, c, l, D1, hl⟩
theorem der_at {M : Hh} {L : Nat} (h : M.length = L) (acc : List D) : der (M ++ [.lst acc]) (.ref L) = .lst acc := der_refL (by subst h; simp)
theorem push_at {M : Hh} {L : Nat} (h : M.length = L) {acc : List D} {x : D} (hz : acc.length < 16777216) : bmD .lappend (.ref L) [x] (M ++ [.lst acc]) = .ok .non (M ++ [.lst (acc ++ [x])]) := by
  subst h
  simp [bmD, refL, hz]
theorem loopG {body : Lo → Hh → RS} {σ : Lo} {i L f K : Nat} (J : List D → List D → Prop) (xs0 : List D)
    (step : ∀ b x pre acc M, M.length = L → Feed f (b + K) M → J pre acc → x ∈ xs0 → pre.length < xs0.length → ∃ M1 acc', body (σ.set i (some x)) (M ++ [.lst acc]) = .nx σ (M1 ++ [.lst acc']) ∧ Drawn f b M M1 ∧ M1.length = M.length ∧ J (pre ++ [x]) acc') :
    ∀ xs pre b acc M, xs0 = pre ++ xs → M.length = L → Feed f (b + K * xs.length) M → J pre acc → ∃ M1 acc', forL [] (.name i) body xs σ (M ++ [.lst acc]) = .nx σ (M1 ++ [.lst acc']) ∧ Drawn f b M M1 ∧ M1.length = M.length ∧ J (pre ++ xs) acc'
  | [], pre, b, acc, M, _, _, hF, hJ => ⟨M, acc, by simp, .refl (by simpa using hF), rfl, by simpa using hJ⟩
  | x :: xs, pre, b, acc, M, h0, hL, hF, hJ => by
    obtain ⟨M1, acc1, e1, D1, l1, J1⟩ := step (b + K * xs.length) x pre acc M hL (hF.mono (by simp [Nat.mul_succ]; omega)) hJ (by rw [h0]; simp) (by rw [h0]; simp)
    obtain ⟨M2, acc2, e2, D2, l2, J2⟩ := loopG J xs0 step xs (pre ++ [x]) b acc1 M1 (by simpa using h0) (by omega) D1.2 J1
    exact ⟨M2, acc2, by simp [e1, e2], D1.trans D2, by omega, by simpa using J2⟩
/-! of L3 -/
noncomputable def sortT (xs : List Str) : List Str := xs.mergeSort leS
theorem sortT_perm (xs : List Str) : (sortT xs).Perm xs := List.mergeSort_perm xs leS
theorem sortT_mem {xs : List Str} {x : Str} : x ∈ sortT xs ↔ x ∈ xs := (sortT_perm xs).mem_iff
@[simp] theorem sortT_len (xs : List Str) : (sortT xs).length = xs.length := (sortT_perm xs).length_eq
theorem sortT_nodup {xs : List Str} (h : xs.Nodup) : (sortT xs).Nodup := (sortT_perm xs).symm.nodup h
theorem strs_keyD (xs : List Str) : xs.map D.str = (xs.map Sum.inr : List Key).map keyD := by simp [keyD, Function.comp_def]
theorem depths_strs : ∀ xs : List Str, depths (xs.map D.str) = 0
  | [] => by simp
  | x :: xs => by simp [depths_strs xs]
theorem sort_strs (m : Bool) (xs : List Str) (M : Hh) : b1D m .sorted (.lst (xs.map .str)) M = alloc m ((sortT xs).map .str) M := by
  have ok : OneKind (xs.map Sum.inr : List Key) := by
    exact .inr fun k hk => by obtain ⟨x, _, rfl⟩ := List.mem_map.mp hk; exact ⟨x, rfl⟩
  have e : sortD (xs.map D.str) = (sortT xs).map D.str := by
    rw [strs_keyD, sortD_keys, sortK_S, ← strs_keyD]; rfl
  have c : CanSort (xs.map D.str) := by
    refine ⟨strs_plain xs, .inl ⟨?_, ?_⟩, by rw [depths_strs]; omega⟩
    · have := kind_alike ok
      rwa [strs_keyD, List.map_map, show (D.py ∘ keyD) = encK from funext keyD_py]
    · have := kind_sortable (xs.map Sum.inr : List Key)
      rwa [strs_keyD, List.map_map, show (D.py ∘ keyD) = encK from funext keyD_py]
  have : b1D m .sorted (.lst (xs.map .str)) M = alloc m (sortD (xs.map D.str)) M := by
    unfold b1D
    simp only [der_D_lst]
    exact if_pos c
  rw [this, e]
def pkB : Ss := (.cons (.expr (.bm .lappend (.var 4) (.cons (.bm .lpopat (.var 3) (.cons (.call 9 false (.cons (.var 0) (.cons (.b1 false .len (.var 3)) .nil))) .nil)) .nil))) (.cons (.wipe [5]) .nil))
theorem pk_loop (n f b L : Nat) (l m : D) : ∀ (xs : List D) (M : Hh) (left found : List D), M.length = L → f < L → xs.length ≤ left.length → left.length < 1000 → found.length + left.length < 2000 → Feed f (b + xs.length) M →
    ∃ M1 left' found', forL [] (.name 5) (evSs (sig GP (n + 1)) pkB) xs [some (.ref f), some l, some m, some (.ref L), some (.ref (L + 1)), none] (M ++ [.lst left, .lst found]) = .nx [some (.ref f), some l, some m, some (.ref L), some (.ref (L + 1)), none] (M1 ++ [.lst left', .lst found']) ∧ Drawn f b M M1 ∧
      found'.length = found.length + xs.length ∧ (left' ++ found').Perm (left ++ found)
  | [], M, left, found, hL, hf, _, _, _, hF => ⟨M, left, found, by simp, .refl hF, by simp, .refl _⟩
  | x :: xs, M, left, found, hL, hf, hx, hl, hb, hF => by
    simp only [List.length_cons] at hx hF
    obtain ⟨v, M1, c, l0, u0, D1, hl1⟩ := drA (N := n + 1) (b := b + xs.length) [.lst left, .lst found] (by omega) (hF.mono (by omega)) (m := left.length) (by omega) (by omega)
    have hlt : v.toNat < left.length := by omega
    subst hL
    obtain ⟨M3, left', found', e, D3, h1, h2⟩ := pk_loop n f b M1.length l m xs M1 (left.eraseIdx v.toNat) (found ++ [left[v.toNat]]) rfl (by omega) (by rw [List.length_eraseIdx]; simp [hlt]; omega) (by rw [List.length_eraseIdx]; simp [hlt]; omega) (by rw [List.length_eraseIdx]; simp [hlt]; omega) D1.2
    refine ⟨M3, left', found', ?_, D1.trans D3, by rw [h1]; simp; omega, ?_⟩
    · rw [hl1] at e
      have run : evSs (sig GP (n + 1)) pkB [some (.ref f), some l, some m, some (.ref M.length), some (.ref (M.length + 1)), some x] (M ++ [.lst left, .lst found]) = .nx [some (.ref f), some l, some m, some (.ref M.length), some (.ref (M.length + 1)), none] (M1 ++ [.lst (left.eraseIdx v.toNat), .lst (found ++ [left[v.toNat]])]) := by
        have d0 : der (M ++ [.lst left, .lst found]) (.ref M.length) = .lst left := der_refL (get_two0 M _ _)
        have d1 : der (M ++ [.lst left, .lst found]) (.ref (M.length + 1)) = .lst found := der_refL (get_two1 M _ _)
        have g0 : (M1 ++ [MO.lst left, .lst found])[M.length]? = some (.lst left) := by rw [← hl1]; exact get_two0 M1 _ _
        have s0 : ∀ q, (M1 ++ [MO.lst left, .lst found]).set M.length q = M1 ++ [q, .lst found] := fun q => by rw [← hl1]; exact set_two0 M1 _ _ q
        have g1 : ∀ q, (M1 ++ [q, MO.lst found])[M.length + 1]? = some (.lst found) := fun q => by rw [← hl1]; exact get_two1 M1 _ _
        have s1 : ∀ q o, (M1 ++ [o, MO.lst found]).set (M.length + 1) q = M1 ++ [o, q] := fun q o => by rw [← hl1]; exact set_two1 M1 _ _ q
        have hv : ixN left.length v = some v.toNat := by simp [L2.ixN, l0, u0]
        have h62 : v < 4611686018427387904 := by omega
        have hfl : found.length < 16777216 := by omega
        simp [pkB, bmTy, d0, d1, b1D, c, bmD, refL, g0, hv, hlt, h62, s0, g1, s1, hfl]
      simp [run, e]
    · refine h2.trans ?_
      have p := erase_perm left v.toNat hlt
      rw [← List.append_assoc]
      exact List.perm_append_comm.trans (by simpa using p.append_right found)
def unS : D → Option Str | .str x => some x | _ => none
theorem strs_back : ∀ {ds : List D}, (∀ d ∈ ds, ∃ s, d = .str s) → ∃ xs : List Str, ds = xs.map .str
  | [], _ => ⟨[], rfl⟩
  | d :: ds, h => by
    obtain ⟨s, rfl⟩ := h d (by simp)
    obtain ⟨xs, rfl⟩ := strs_back fun d hd => h d (List.mem_cons_of_mem _ hd)
    exact ⟨s :: xs, rfl⟩
theorem filt_strs (xs : List Str) : (xs.map D.str).filterMap unS = xs := by
  induction xs with
  | nil => rfl
  | cons x xs ih => simp [unS] at ih ⊢; exact ih
structure PickedOf (ys xs : List Str) : Prop where
  sub : ∀ y ∈ ys, y ∈ xs
  nd : xs.Nodup → ys.Nodup
theorem pick {N f b : Nat} {M : Hh} {xs : List Str} (hN : 2 ≤ N) (hl : xs.length < 1000) {m : Int} (hm : 0 ≤ m) (hm2 : m < 1000) (hF : Feed f (b + xs.length) M) :
    ∃ ys M1, back false M (callF GP N 47 [.ref f, .lst (xs.map .str), .int m] M) = .ok (.lst (ys.map .str)) M1 ∧ Drawn f b M M1 ∧ ys.length = min m.toNat xs.length ∧ PickedOf ys xs := by
  obtain ⟨n, rfl⟩ : ∃ n, N = n + 2 := ⟨N - 2, by omega⟩
  obtain ⟨M1, left, ys, e, D1, h1, h2⟩ := pk_loop n f b M.length (.lst (xs.map .str)) (.int m) (rangeL 0 (min m.toNat xs.length)) M (xs.map .str) [] rfl hF.lt (by rw [rangeL_len]; simp; omega) (by simpa using hl) (by simp; omega) (hF.mono (by rw [rangeL_len]; omega))
  rw [List.append_nil] at h2
  obtain ⟨zs, rfl⟩ := strs_back (ds := ys) fun d hd => by
    obtain ⟨x, _, rfl⟩ := List.mem_map.mp (h2.mem_iff.mp (List.mem_append_right _ hd))
    exact ⟨x, rfl⟩
  obtain ⟨ls, rfl⟩ := strs_back (ds := left) fun d hd => by
    obtain ⟨x, _, rfl⟩ := List.mem_map.mp (h2.mem_iff.mp (List.mem_append_left _ hd))
    exact ⟨x, rfl⟩
  have h3 : (ls ++ zs).Perm xs := by
    have := h2.filterMap unS
    rw [← List.map_append, filt_strs, filt_strs] at this
    exact this
  refine ⟨zs, M1, ?_, D1, by simpa [rangeL_len] using h1, fun y hy => h3.mem_iff.mp (List.mem_append_right _ hy), fun hn => ?_⟩
  · have ce : callF GP (n + 2) 47 [.ref f, .lst (xs.map .str), .int m] M = .ok (.ref (M.length + 1)) (M1 ++ [.lst (ls.map .str), .lst (zs.map .str)]) := by
      rw [callF_fn g47 rfl]
      have d0 : der (M ++ [.lst (xs.map .str), .lst []]) (.ref M.length) = .lst (xs.map .str) := der_refL (get_two0 M _ _)
      have hr : (if (xs.length : Int) < m then (xs.length : Int) else m).toNat = min m.toNat xs.length := by split <;> omega
      have e' := e
      simp only [pkB] at e'
      have hb : (-4611686018427387904 ≤ if (xs.length : Int) < m then (xs.length : Int) else m) ∧ (if (xs.length : Int) < m then (xs.length : Int) else m) < 4611686018427387904 := by split <;> constructor <;> omega
      simp [F47, b47, b1D, d0, b2D, rOk, hr, hb, e']
    rw [ce]
    exact back_drawn (N := [.lst (ls.map .str), .lst (zs.map .str)]) (r := 1) D1 rfl (plain_still _ (by show D.plain (.lst (zs.map D.str)) = true; simp))
  · have := h3.symm.nodup hn
    rw [List.nodup_append] at this
    exact this.2.1
/-! of L4 -/
def fb : Nat → Ss → Ss
  | 0, .cons (.for_ _ _ b) _ => b
  | n + 1, .cons _ r => fb n r
  | _, _ => .nil
theorem b1_tuple (m : Bool) (ds : List D) (M : Hh) : b1D m .tuple (.lst ds) M = .ok (.tup ds) M := by simp [b1D]
theorem b1_list (m : Bool) (ds : List D) (M : Hh) : b1D m .list (.lst ds) M = alloc m ds M := by simp [b1D]
theorem b1_listt (m : Bool) (ds : List D) (M : Hh) : b1D m .list (.tup ds) M = alloc m ds M := by simp [b1D]
theorem b1_len (m : Bool) (ds : List D) (M : Hh) : b1D m .len (.lst ds) M = .ok (.int ds.length) M := by simp [b1D]
theorem b1_lent (m : Bool) (ds : List D) (M : Hh) : b1D m .len (.tup ds) M = .ok (.int ds.length) M := by simp [b1D]
theorem b1_int (m : Bool) (i : Int) (M : Hh) : b1D m .int (.int i) M = .ok (.int i) M := by simp [b1D]
theorem b1_intb (m : Bool) (b : Bool) (M : Hh) : b1D m .int (.bl b) M = .ok (.int (if b then 1 else 0)) M := by simp [b1D]
theorem b1_tuple_at {M : Hh} {L : Nat} (h : M.length = L) (m : Bool) (ds : List D) : b1D m .tuple (.ref L) (M ++ [.lst ds]) = .ok (.tup ds) (M ++ [.lst ds]) := by simp [b1D, der_at h]
theorem b1_len_at {M : Hh} {L : Nat} (h : M.length = L) (m : Bool) (ds : List D) : b1D m .len (.ref L) (M ++ [.lst ds]) = .ok (.int ds.length) (M ++ [.lst ds]) := by simp [b1D, der_at h]
structure DeedOk (known : List Str) (d : Deed) : Prop where
  w : d.w ∈ known
  layer : 0 ≤ d.layer ∧ d.layer ≤ 2
  s : SayOk (· ∈ known) false 3 d.s
structure KindOk (known kinds : List Str) (k : Knd) : Prop where
  wt : 0 ≤ k.wt ∧ k.wt ≤ 2
  lasts : ∀ l, k.lasts = some l → 1 ≤ l ∧ l ≤ 9
  most : 1 ≤ k.most ∧ k.most ≤ 4
  bars : ∀ x ∈ k.bars, x ∈ kinds
  barsl : k.bars.length ≤ kinds.length
  deeds : ∀ d ∈ k.deeds, DeedOk known d
  deedsl : k.deeds.length ≤ 3
theorem ixn {ds : List D} {v : Int} {d : D} (h0 : 0 ≤ v) (h : ds[v.toNat]? = some d) (M : Hh) : ixD (.lst ds) (.int v) M = .ok d M := by
  have h1 : v < ds.length := by
    have := (List.getElem?_eq_some_iff.mp h).1
    omega
  obtain ⟨w, hw⟩ := List.getElem?_eq_some_iff.mp h
  simp [ixD, L2.ixN, h0, h1, hw]
theorem ixS {xs : List Str} {v : Int} (h0 : 0 ≤ v) (h1 : v < xs.length) (M : Hh) : ∃ x ∈ xs, ixD (.lst (xs.map .str)) (.int v) M = .ok (.str x) M := by
  refine ⟨xs[v.toNat]'(by omega), List.getElem_mem _, ixn h0 ?_ M⟩
  simp
theorem ne_nil (neg : Bool) (xs : List Str) (M : Hh) : eqD neg (.lst (xs.map .str)) (.lst []) M = .ok (.bl (if neg then !xs.isEmpty else xs.isEmpty)) M := by
  have hev : eqvs (xs.map D.str) [] = decide (xs = []) := by cases xs <;> simp [eqvs]
  have hn : decide (xs = []) = xs.isEmpty := by cases xs <;> simp
  simp [eqD, D.eqv, hev, hn, depths_strs]
theorem eq_int (neg : Bool) (a b : Int) (M : Hh) : eqD neg (.int a) (.int b) M = .ok (.bl (if neg then !decide (a = b) else decide (a = b))) M := by
  have e : (a == b) = decide (a = b) := by by_cases h : a = b <;> simp [h]
  simp [eqD, e]
theorem eq_str (neg : Bool) (a b : Str) (M : Hh) : eqD neg (.str a) (.str b) M = .ok (.bl (if neg then !decide (a = b) else decide (a = b))) M := by
  have e : (a == b) = decide (a = b) := by by_cases h : a = b <;> simp [h]
  simp [eqD, e]
theorem back_app {f b : Nat} {M M' : Hh} (h : Drawn f b M M') (X : Hh) {d : D} (hd : d.plain = true) : Mi.back false M (R.ok d (M' ++ X)) = R.ok d M' := by
  have hl := h.len
  simp only [back, Bool.false_eq_true, if_false]
  rw [frz_still _ _ d (plain_still d hd)]
  simp only [if_pos (h.stood X)]
  rw [← hl, List.take_left]
def B82 : Ss := fb 4 b82
theorem kind_step {N f L : Nat} (hN : 6 ≤ N) {name : Str} {known kinds : List Str} {d4 d5 d6 : D} (hl : known.length < 1000) (h0 : known ≠ []) {b : Nat} {x : D} {M : Hh} {ds : List Deed} (hL : M.length = L) (hz : ds.length < 100) (hF : Feed f (b + 49) M) :
    ∃ M1 dd, evSs (sig GP N) B82 [some (.ref f), some (.str name), some (.lst (known.map .str)), some (.lst (kinds.map .str)), some d4, some d5, some d6, some (.ref L), some x, none, none, none] (M ++ [.lst (ds.map Deed.d)])
      = .nx [some (.ref f), some (.str name), some (.lst (known.map .str)), some (.lst (kinds.map .str)), some d4, some d5, some d6, some (.ref L), none, none, none, none] (M1 ++ [.lst ((ds ++ [dd]).map Deed.d)]) ∧ Drawn f b M M1 ∧ M1.length = M.length ∧ DeedOk known dd := by
  have hp : 0 < known.length := List.length_pos_iff.mpr h0
  obtain ⟨v1, M1, c1, l1, u1, D1, q1⟩ := drA (N := N) (b := b + 48) [.lst (ds.map Deed.d)] (by omega) hF (m := 6) (by decide) (by decide)
  obtain ⟨w, hw, ew⟩ := ix_mem (ds := [.str "add", .str "times", .str "over", .str "set", .str "least", .str "most"]) l1 (by simpa using u1) (M1 ++ [.lst (ds.map Deed.d)])
  obtain ⟨way, rfl⟩ : ∃ w', w = .str w' := by simp at hw; rcases hw with rfl | rfl | rfl | rfl | rfl | rfl <;> exact ⟨_, rfl⟩
  obtain ⟨v2, M2, c2, l2, u2, D2, q2⟩ := drA (N := N) (b := b + 47) [.lst (ds.map Deed.d)] (by omega) D1.2 (m := 3) (by decide) (by decide)
  obtain ⟨s, M3, c3, hs, D3, q3⟩ := sayA (N := N) (b := b + 2) [.lst (ds.map Deed.d)] hN hl (dp := 1 + v2) (by omega) false D2.2
  obtain ⟨v4, M4, c4, l4, u4, D4, q4⟩ := drA (N := N) (b := b + 1) [.lst (ds.map Deed.d)] (by omega) D3.2 (m := known.length) (by omega) (by omega)
  obtain ⟨y, hy, ey⟩ := ixS l4 u4 (M4 ++ [.lst (ds.map Deed.d)])
  obtain ⟨v5, M5, c5, l5, u5, D5, q5⟩ := drA (N := N) (b := b) [.lst (ds.map Deed.d)] (by omega) D4.2 (m := 3) (by decide) (by decide)
  have d0 := der_at (M := M3) (L := L) (by omega) (ds.map Deed.d)
  have pu := push_at (M := M5) (L := L) (by omega) (acc := ds.map Deed.d) (x := .tup [.str y, .int v5, .str way, s.d]) (by simp; omega)
  refine ⟨M5, ⟨y, v5, way, s⟩, ?_, (((D1.trans D2).trans D3).trans D4).trans D5, by omega, hy, by show 0 ≤ v5 ∧ v5 ≤ 2; omega, hs⟩
  dsimp only [B82, fb, b82]
  simp [c1, ew, c2, c3, d0, bmTy, b1D, c4, ey, c5, pu, Deed.d, binD, addD]
def oOk (o : Option Int) (n : Int) : Prop := ∀ l, o = some l → 1 ≤ l ∧ l ≤ n
theorem kind_sp {N f b : Nat} {M : Hh} {name : Str} {known kinds : List Str} (hN : 7 ≤ N) (hl : known.length < 1000) (hk : kinds.length < 1000) (hF : Feed f (b + kinds.length + 160) M) :
    ∃ k : Knd, ∃ M', back false M (callF GP N 82 [.ref f, .str name, .lst (known.map .str), .lst (kinds.map .str)] M) = .ok k.d M' ∧ Drawn f b M M' ∧ k.nm = name ∧ KindOk known kinds k := by
  obtain ⟨n, rfl⟩ : ∃ n, N = n + 1 := ⟨N - 1, by omega⟩
  rw [callF_fn g82 rfl]
  obtain ⟨v1, M1, c1, l1, u1, D1⟩ := dr (N := n) (b := b + kinds.length + 159) (by omega) hF (m := 9) (by decide) (by decide)
  obtain ⟨v2, M2, c2, l2, u2, D2⟩ := dr (N := n) (b := b + kinds.length + 158) (by omega) D1.2 (m := 3) (by decide) (by decide)
  obtain ⟨v3, M3, c3, l3, u3, D3⟩ := dr (N := n) (b := b + kinds.length + 157) (by omega) D2.2 (m := 4) (by decide) (by decide)
  obtain ⟨x3, hx3, e3⟩ := ix_mem (ds := [.non, .non, .int (1 + v1), .int (1 + v2)]) l3 (by simpa using u3) M3
  obtain ⟨ol, rfl, ho⟩ : ∃ ol, x3 = oI ol ∧ oOk ol 9 := by
    simp at hx3
    rcases hx3 with rfl | rfl | rfl
    · exact ⟨none, rfl, fun l h => by cases h⟩
    · exact ⟨some (1 + v1), rfl, fun l h => by cases h; omega⟩
    · exact ⟨some (1 + v2), rfl, fun l h => by cases h; omega⟩
  obtain ⟨v4, M4, c4, l4, u4, D4⟩ := dr (N := n) (b := b + kinds.length + 156) (by omega) D3.2 (m := 4) (by decide) (by decide)
  obtain ⟨v5, M5, c5, l5, u5, D5⟩ := dr (N := n) (b := b + kinds.length + 155) (by omega) D4.2 (m := 4) (by decide) (by decide)
  obtain ⟨x5, hx5, e5⟩ := ix_mem (ds := [.int 1, .int 1, .int 2, .int (1 + v4)]) l5 (by simpa using u5) M5
  obtain ⟨mo, rfl, hm⟩ : ∃ mo, x5 = .int mo ∧ 1 ≤ mo ∧ mo ≤ 4 := by
    simp at hx5
    rcases hx5 with rfl | rfl | rfl <;> exact ⟨_, rfl, by omega⟩
  obtain ⟨v6, M6, c6, l6, u6, D6⟩ := dr (N := n) (b := b + kinds.length + 154) (by omega) D5.2 (m := 3) (by decide) (by decide)
  obtain ⟨v7, M7, c7, l7, u7, D7⟩ := dr (N := n) (b := b + kinds.length + 153) (by omega) D6.2 (m := 2) (by decide) (by decide)
  have h67 : 0 ≤ v6 * v7 ∧ v6 * v7 < 1000 := by
    refine ⟨Int.mul_nonneg l6 l7, ?_⟩
    have h7 : v7 = 0 ∨ v7 = 1 := by omega
    rcases h7 with rfl | rfl <;> omega
  obtain ⟨bars, M8, c8, D8, hbl, hb⟩ := pick (N := n) (b := b + 153) (by omega) hk h67.1 h67.2 (D7.2.mono (by omega))
  obtain ⟨v9, M9, c9, l9, u9, D9, q9⟩ := drA (N := n) (b := b + 152) [.lst []] (by omega) D8.2 (m := 4) (by decide) (by decide)
  obtain ⟨e, he⟩ : ∃ e, known.isEmpty = e := ⟨_, rfl⟩
  have hcnt : ∃ c : Int, v9 * (if e = false then 1 else 0) = c ∧ 0 ≤ c ∧ c ≤ 3 ∧ (0 < c → known ≠ []) := by
    cases known with
    | nil => exact ⟨0, by subst he; simp, by omega, by omega, fun h => by omega⟩
    | cons a b => exact ⟨v9, by subst he; simp, by omega, by omega, fun _ => by simp⟩
  obtain ⟨c, hc, hc0, hc3, hcn⟩ := hcnt
  have hrl : (rangeL 0 c.toNat).length = c.toNat := rangeL_len _ _
  obtain ⟨M10, acc, e10, D10, q10, ds, rfl, hdl, hdo⟩ := loopG (body := evSs (sig GP n) B82) (σ := [some (.ref f), some (.str name), some (.lst (known.map .str)), some (.lst (kinds.map .str)), some (oI ol), some (.int mo), some (.tup ((sortT bars).map .str)), some (.ref M8.length), none, none, none, none]) (i := 8) (L := M8.length) (f := f) (K := 49)
    (fun pre acc => ∃ ds : List Deed, acc = ds.map Deed.d ∧ ds.length = pre.length ∧ ∀ d ∈ ds, DeedOk known d) (rangeL 0 c.toNat)
    (fun b x pre acc M hL hF hJ hx hp => by
      obtain ⟨ds, rfl, h1, h2⟩ := hJ
      obtain ⟨M1, dd, e, D, q, hd⟩ := kind_step (N := n) (kinds := kinds) (name := name) (d4 := oI ol) (d5 := .int mo) (d6 := .tup ((sortT bars).map .str)) (x := x) (by omega) hl (hcn (by omega)) hL (ds := ds) (by omega) hF
      exact ⟨M1, _, e, D, q, ds ++ [dd], rfl, by simp [h1], fun d hd' => by
        rcases List.mem_append.mp hd' with h | h
        · exact h2 d h
        · rw [List.mem_singleton.mp h]; exact hd⟩)
    (rangeL 0 c.toNat) [] (b + 4) [] M9 rfl (by omega) (D9.2.mono (by rw [hrl]; omega)) ⟨[], rfl, rfl, fun d h => by cases h⟩
  rw [List.nil_append, hrl] at hdl
  obtain ⟨v11, M11, c11, l11, u11, D11, q11⟩ := drA (N := n) (b := b + 3) [.lst (ds.map Deed.d)] (by omega) D10.2 (m := 2) (by decide) (by decide)
  obtain ⟨x11, hx11, e11⟩ := ix_mem (ds := [.str "own", .str "below"]) l11 (by simpa using u11) (M11 ++ [.lst (ds.map Deed.d)])
  obtain ⟨reach, rfl⟩ : ∃ r, x11 = .str r := by simp at hx11; rcases hx11 with rfl | rfl <;> exact ⟨_, rfl⟩
  obtain ⟨v12, M12, c12, l12, u12, D12, q12⟩ := drA (N := n) (b := b + 2) [.lst (ds.map Deed.d)] (by omega) D11.2 (m := 3) (by decide) (by decide)
  obtain ⟨v13, M13, c13, l13, u13, D13, q13⟩ := drA (N := n) (b := b) [.lst (ds.map Deed.d)] (by omega) (D12.2.mono (by omega)) (m := 2) (by decide) (by decide)
  have DD := ((((((((((D1.trans D2).trans D3).trans D4).trans D5).trans D6).trans D7).trans D8).trans D9).trans D10).trans D11).trans (D12.trans D13)
  let k : Knd := ⟨name, v12, ol, mo, decide (v13 = 0), reach, sortT bars, ds⟩
  refine ⟨k, M13, ?_, DD, rfl, ⟨by show 0 ≤ v12 ∧ v12 ≤ 2; omega, ho, hm, fun x hx => hb.sub x (sortT_mem.mp hx), by show (sortT bars).length ≤ _; rw [sortT_len]; omega, hdo, by show ds.length ≤ 3; omega⟩⟩
  have dL := der_at (M := M13) (L := M8.length) (by omega) (ds.map Deed.d)
  have hrk : rOk c = true := by simp [rOk]; omega
  have st := sort_strs false bars M8
  have s6 : intSmall v6 := small_of l6 u6 (by decide)
  have s9 : intSmall v9 := small_of l9 u9 (by decide)
  have tL := b1_tuple_at (M := M13) (L := M8.length) (by omega) false (ds.map Deed.d)
  dsimp only [B82, fb, b82] at e10
  have ce : endF (evSs (sig GP n) F82.body ([D.ref f, .str name, .lst (known.map .str), .lst (kinds.map .str)].map some ++ List.replicate (F82.nl - [D.ref f, .str name, .lst (known.map .str), .lst (kinds.map .str)].length) none) M) = .ok k.d (M13 ++ [.lst (ds.map Deed.d)]) := by
    simp only [F82, b82]
    simp [c1, binD, addD, mulD, c2, c3, e3, c4, c5, e5, c6, c7, s6, c8, st, b1_tuple, c9, ne_nil, he, cmpD, b1_intb, s9, hc, hrk, e10, c11, e11, c12, c13, eq_int, tL, k, Knd.d, Knd.parts]
  rw [ce]
  exact (back_app DD [.lst (ds.map Deed.d)] k.plain)
/-! of L5 -/
theorem loopH {body : Lo → Hh → RS} {τ : Option D → Lo} {i L f K : Nat} (hset : ∀ s x, (τ s).set i (some x) = τ (some x)) (J : List D → List D → Prop) (xs0 : List D)
    (step : ∀ b x pre acc M, M.length = L → Feed f (b + K) M → J pre acc → x ∈ xs0 → pre.length < xs0.length → ∃ s' M1 acc', body (τ (some x)) (M ++ [.lst acc]) = .nx (τ s') (M1 ++ [.lst acc']) ∧ Drawn f b M M1 ∧ M1.length = M.length ∧ J (pre ++ [x]) acc') :
    ∀ xs pre b acc s M, xs0 = pre ++ xs → M.length = L → Feed f (b + K * xs.length) M → J pre acc → ∃ s' M1 acc', forL [] (.name i) body xs (τ s) (M ++ [.lst acc]) = .nx (τ s') (M1 ++ [.lst acc']) ∧ Drawn f b M M1 ∧ M1.length = M.length ∧ J (pre ++ xs) acc'
  | [], pre, b, acc, s, M, _, _, hF, hJ => ⟨s, M, acc, by simp, .refl (by simpa using hF), rfl, by simpa using hJ⟩
  | x :: xs, pre, b, acc, s, M, h0, hL, hF, hJ => by
    obtain ⟨s1, M1, acc1, e1, D1, l1, J1⟩ := step (b + K * xs.length) x pre acc M hL (hF.mono (by simp [Nat.mul_succ]; omega)) hJ (by rw [h0]; simp) (by rw [h0]; simp)
    obtain ⟨s2, M2, acc2, e2, D2, l2, J2⟩ := loopH hset J xs0 step xs (pre ++ [x]) b acc1 s1 M1 (by simpa using h0) (by omega) D1.2 J1
    exact ⟨s2, M2, acc2, by simp [hset, e1, e2], D1.trans D2, by omega, by simpa using J2⟩
theorem lcG {bnd : D → Option Lo} {cond : Lo → Hh → R Bool} {elt : Lo → Hh → R D} {f K L : Nat} {X : Hh} (J : List D → List D → Prop) (xs0 : List D)
    (step : ∀ b x pre ys M, M.length = L → Feed f (b + K) M → J pre ys → x ∈ xs0 → ∃ σ d M1, bnd x = some σ ∧ cond σ (M ++ X) = .ok true (M ++ X) ∧ elt σ (M ++ X) = .ok d (M1 ++ X) ∧ Drawn f b M M1 ∧ M1.length = M.length ∧ J (pre ++ [x]) (ys ++ [d])) :
    ∀ xs pre b ys M, xs0 = pre ++ xs → M.length = L → Feed f (b + K * xs.length) M → J pre ys → ∃ zs M1, lcL [] bnd cond elt xs (M ++ X) = .ok zs (M1 ++ X) ∧ Drawn f b M M1 ∧ M1.length = M.length ∧ J (pre ++ xs) (ys ++ zs)
  | [], pre, b, ys, M, _, _, hF, hJ => ⟨[], M, by simp [lcL], .refl (by simpa using hF), rfl, by simpa using hJ⟩
  | x :: xs, pre, b, ys, M, h0, hL, hF, hJ => by
    obtain ⟨σ, d, M1, a1, a2, a3, D1, l1, J1⟩ := step (b + K * xs.length) x pre ys M hL (hF.mono (by simp [Nat.mul_succ]; omega)) hJ (by rw [h0]; simp)
    obtain ⟨zs, M2, e2, D2, l2, J2⟩ := lcG J xs0 step xs (pre ++ [x]) b (ys ++ [d]) M1 (by simpa using h0) (by omega) D1.2 J1
    exact ⟨d :: zs, M2, by simp [lcL, a1, a2, a3, e2], D1.trans D2, by omega, by simpa using J2⟩
def ActOk (kinds : List Str) : Act → Prop
  | .bring k n => k ∈ kinds ∧ worthI n
  | .fin k => k ∈ kinds
  | .pass n => 1 ≤ n ∧ n ≤ 4
def B49 : Ss := fb 1 b49
theorem act_step {N f L : Nat} (hN : 3 ≤ N) {kinds : List Str} (hl : kinds.length < 1000) {b : Nat} {x : D} {M : Hh} {as : List Act} (hL : M.length = L) (hz : as.length < 100) (hF : Feed f (b + 5) M) :
    ∃ M1 a, evSs (sig GP N) B49 [some (.ref f), some (.lst (kinds.map .str)), some (.ref L), some x, none] (M ++ [.lst (as.map Act.d)])
      = .nx [some (.ref f), some (.lst (kinds.map .str)), some (.ref L), none, none] (M1 ++ [.lst ((as ++ [a]).map Act.d)]) ∧ Drawn f b M M1 ∧ M1.length = M.length ∧ ActOk kinds a := by
  obtain ⟨v1, M1, c1, l1, u1, D1, q1⟩ := drA (N := N) (b := b + 4) [.lst (as.map Act.d)] (by omega) hF (m := 5) (by decide) (by decide)
  have hz' : (as.map Act.d).length < 16777216 := by simp; omega
  obtain ⟨e, he⟩ : ∃ e, kinds.isEmpty = e := ⟨_, rfl⟩
  by_cases h1 : v1 = 0 ∨ e = true
  · obtain ⟨v2, M2, c2, l2, u2, D2, q2⟩ := drA (N := N) (b := b) [.lst (as.map Act.d)] (by omega) (D1.2.mono (by omega)) (m := 4) (by decide) (by decide)
    have d1 := der_at (M := M1) (L := L) (by omega) (as.map Act.d)
    have pu := push_at (M := M2) (L := L) (by omega) (x := .tup [.str "pass", .int (1 + v2)]) hz'
    refine ⟨M2, .pass (1 + v2), ?_, D1.trans D2, by omega, by simp only [ActOk]; omega⟩
    dsimp only [B49, fb, b49]
    by_cases h2 : v1 = 0
    · simp [c1, cmpD, eq_int, h2, d1, bmTy, c2, pu, Act.d, binD, addD]
    · have h3 : e = true := h1.resolve_left h2
      subst h3
      simp [c1, cmpD, eq_int, h2, ne_nil, he, d1, bmTy, c2, pu, Act.d, binD, addD]
  · have h2 : v1 ≠ 0 := fun h => h1 (.inl h)
    have h3 : e = false := by cases e <;> simp at h1 ⊢
    subst h3
    have hp : 0 < kinds.length := by cases kinds <;> simp at he ⊢
    by_cases h4 : v1 = 1
    · obtain ⟨v2, M2, c2, l2, u2, D2, q2⟩ := drA (N := N) (b := b) [.lst (as.map Act.d)] (by omega) (D1.2.mono (by omega)) (m := kinds.length) (by omega) (by omega)
      obtain ⟨y, hy, ey⟩ := ixS l2 u2 (M2 ++ [.lst (as.map Act.d)])
      have d1 := der_at (M := M1) (L := L) (by omega) (as.map Act.d)
      have pu := push_at (M := M2) (L := L) (by omega) (x := .tup [.str "end", .str y]) hz'
      refine ⟨M2, .fin y, ?_, D1.trans D2, by omega, hy⟩
      dsimp only [B49, fb, b49]
      simp [c1, cmpD, eq_int, h4, ne_nil, he, d1, bmTy, b1_len, c2, ey, pu, Act.d, binD, addD]
    · obtain ⟨v2, M2, c2, l2, u2, D2, q2⟩ := drA (N := N) (b := b + 3) [.lst (as.map Act.d)] (by omega) (D1.2) (m := kinds.length) (by omega) (by omega)
      obtain ⟨y, hy, ey⟩ := ixS l2 u2 (M2 ++ [.lst (as.map Act.d)])
      obtain ⟨w, M3, c3, hw, D3, q3⟩ := woA (N := N) (b := b) [.lst (as.map Act.d)] (by omega) D2.2
      have d1 := der_at (M := M1) (L := L) (by omega) (as.map Act.d)
      have pu := push_at (M := M3) (L := L) (by omega) (x := .tup [.str "bring", .str y, .int w]) hz'
      refine ⟨M3, .bring y w, ?_, (D1.trans D2).trans D3, by omega, hy, hw⟩
      dsimp only [B49, fb, b49]
      simp [c1, cmpD, eq_int, h2, h4, ne_nil, he, d1, bmTy, b1_len, c2, ey, c3, pu, Act.d, binD, addD]
theorem acts_sp {N f b : Nat} {M : Hh} {kinds : List Str} (hN : 4 ≤ N) (hk : kinds.length < 1000) (hF : Feed f (b + 20) M) :
    ∃ as : List Act, ∃ M', back false M (callF GP N 49 [.ref f, .lst (kinds.map .str)] M) = .ok (.tup (as.map Act.d)) M' ∧ Drawn f b M M' ∧ as.length ≤ 3 ∧ ∀ a ∈ as, ActOk kinds a := by
  obtain ⟨n, rfl⟩ : ∃ n, N = n + 1 := ⟨N - 1, by omega⟩
  rw [callF_fn g49 rfl]
  obtain ⟨v1, M1, c1, l1, u1, D1, q1⟩ := drA (N := n) (b := b + 19) [.lst []] (by omega) hF (m := 4) (by decide) (by decide)
  have hrl : (rangeL 0 v1.toNat).length = v1.toNat := rangeL_len _ _
  obtain ⟨M2, acc, e2, D2, q2, as, rfl, hal, hao⟩ := loopG (body := evSs (sig GP n) B49) (σ := [some (.ref f), some (.lst (kinds.map .str)), some (.ref M.length), none, none]) (i := 3) (L := M.length) (f := f) (K := 5)
    (fun pre acc => ∃ as : List Act, acc = as.map Act.d ∧ as.length = pre.length ∧ ∀ d ∈ as, ActOk kinds d) (rangeL 0 v1.toNat)
    (fun b x pre acc M hL hF hJ hx hp => by
      obtain ⟨ds, rfl, h1, h2⟩ := hJ
      obtain ⟨M1, dd, e, D, q, hd⟩ := act_step (N := n) (x := x) (by omega) hk hL (as := ds) (by omega) hF
      exact ⟨M1, _, e, D, q, ds ++ [dd], rfl, by simp [h1], fun d hd' => by
        rcases List.mem_append.mp hd' with h | h
        · exact h2 d h
        · rw [List.mem_singleton.mp h]; exact hd⟩)
    (rangeL 0 v1.toNat) [] (b + 4) [] M1 rfl (by omega) (D1.2.mono (by rw [hrl]; omega)) ⟨[], rfl, rfl, fun d h => by cases h⟩
  rw [List.nil_append, hrl] at hal
  have tL := b1_tuple_at (M := M2) (L := M.length) (by omega) false (as.map Act.d)
  have DD : Drawn f b M M2 := ⟨(D1.trans D2).1, D2.2.mono (by omega)⟩
  refine ⟨as, M2, ?_, DD, by omega, hao⟩
  have hrk : rOk v1 = true := by simp [rOk]; omega
  dsimp only [B49, fb, b49] at e2
  have ce : endF (evSs (sig GP n) F49.body ([D.ref f, .lst (kinds.map .str)].map some ++ List.replicate (F49.nl - [D.ref f, .lst (kinds.map .str)].length) none) M) = .ok (.tup (as.map Act.d)) (M2 ++ [.lst (as.map Act.d)]) := by
    simp only [F49, b49]
    simp [c1, hrk, e2, tL]
  rw [ce]
  exact back_app DD _ (by simp only [plain_tup]; exact plains_map _ (fun x => by simp) _)
/-! of L6 -/
theorem cgt (a b : Int) (M : Hh) : cmpD .gt (.int a) (.int b) M = .ok (.bl (decide (b < a))) M := by simp [cmpD]
theorem clt (a b : Int) (M : Hh) : cmpD .lt (.int a) (.int b) M = .ok (.bl (decide (a < b))) M := by simp [cmpD]
theorem cge (a b : Int) (M : Hh) : cmpD .ge (.int a) (.int b) M = .ok (.bl (decide (b ≤ a))) M := by simp [cmpD]
theorem cle (a b : Int) (M : Hh) : cmpD .le (.int a) (.int b) M = .ok (.bl (decide (a ≤ b))) M := by simp [cmpD]
theorem ceq (a b : Int) (M : Hh) : cmpD .eq (.int a) (.int b) M = .ok (.bl (decide (a = b))) M := by simp [cmpD, eq_int]
theorem cne (a b : Int) (M : Hh) : cmpD .ne (.int a) (.int b) M = .ok (.bl (!decide (a = b))) M := by simp [cmpD, eq_int]
theorem ceqs (a b : Str) (M : Hh) : cmpD .eq (.str a) (.str b) M = .ok (.bl (decide (a = b))) M := by simp [cmpD, eq_str]
theorem cnes (a b : Str) (M : Hh) : cmpD .ne (.str a) (.str b) M = .ok (.bl (!decide (a = b))) M := by simp [cmpD, eq_str]
structure BookOk (b : Bk) (known kinds : List Str) : Prop where
  wn : b.worths.map Prod.fst = sortT known
  ws : ∀ p ∈ b.worths, SayOk (· ∈ known) true 3 p.2
  kn : b.kinds.map Knd.nm = sortT kinds
  ks : ∀ k ∈ b.kinds, KindOk known kinds k
  hn : (b.haps.map Prod.fst).Nodup
  hl : b.haps.length ≤ 6
  ha : ∀ p ∈ b.haps, p.2.length ≤ 3 ∧ ∀ a ∈ p.2, ActOk kinds a
  knd : known.Nodup
  kkd : kinds.Nodup
  kl : known.length ≤ 7
  kkl : kinds.length ≤ 6
def nm12 : List Str := ["hp", "str", "a", "zz", "might", "b", "luck", "armour", "wit", "c", "speed", "m"]
def nk8 : List Str := ["bless", "z", "curse", "ab", "ward", "hp", "rage", "k"]
def nh6 : List Str := ["dawn", "hit", "rest", "a", "pray", "zz"]
theorem nk8_ok : ∀ x ∈ nk8, NmOk x := by
  intro x hx
  simp [nk8] at hx
  rcases hx with rfl | rfl | rfl | rfl | rfl | rfl | rfl | rfl <;> exact ⟨by decide, by decide +kernel⟩
def B83 : Ss := fb 4 b83
def B83h : Ss := fb 7 b83
theorem Say.ok_mono {W W' A : Str → Prop} {pl : Bool} (h : ∀ x, W x → W' x) : ∀ s : Say, s.ok W A pl → s.ok W' A pl
  | .num _, k => k | .wor _, k => h _ k | .abv _, k => k | .giv, k => k | .own, k => k
  | .op _ a b, k => ⟨a.ok_mono h k.1, b.ok_mono h k.2⟩
theorem SayOk.mono {W W' : Str → Prop} {pl : Bool} {n : Nat} {s : Say} (k : SayOk W pl n s) (h : ∀ x, W x → W' x) : SayOk W' pl n s := ⟨s.ok_mono h k.1, k.2⟩
theorem told_step {N f L : Nat} (hN : 6 ≤ N) {known : List Str} {d1 d3 : D} (hl : known.length < 1000) {b : Nat} {nm : Str} {M : Hh} {ws : List (Str × Say)} (hL : M.length = L) (hz : ws.length < 100) (hF : Feed f (b + 47) M) :
    ∃ M1 s, evSs (sig GP N) B83 [some (.ref f), some d1, some (.lst (known.map .str)), some d3, some (.ref L), some (.str nm), none, none, none, none] (M ++ [.lst (ws.map wsD)])
      = .nx [some (.ref f), some d1, some (.lst (known.map .str)), some d3, some (.ref L), some (.str nm), none, none, none, none] (M1 ++ [.lst ((ws ++ [(nm, s)]).map wsD)]) ∧ Drawn f b M M1 ∧ M1.length = M.length ∧ SayOk (· ∈ known) true 3 s := by
  obtain ⟨v1, M1, c1, l1, u1, D1, q1⟩ := drA (N := N) (b := b + 46) [.lst (ws.map wsD)] (by omega) hF (m := 4) (by decide) (by decide)
  let p : D → Bool := fun d => match d with | .str x => (match cmpD .lt (.str x) (.str nm) [] with | .ok (.bl b) _ => b | _ => false) | _ => false
  let q : Str → Bool := fun x => p (.str x)
  have hlc : lcL [] (fun x => (T.name 9).bind x [some (.ref f), some d1, some (.lst (known.map .str)), some d3, some (.ref L), some (.str nm), none, none, none, none]) (fun σ1 M2 => evC (sig GP N) (.cons (.cmp .lt (.var 9) (.var 5)) .nil) σ1 M2) (fun σ1 M2 => evE (sig GP N) (.var 9) σ1 M2) (known.map .str) (M ++ [.lst (ws.map wsD)]) = .ok ((known.filter q).map .str) (M ++ [.lst (ws.map wsD)]) := by
    rw [lcL_fm (lk := []) (fun p hp => by cases hp) p (fun d => d) (known.map .str) ?h]
    case h =>
      intro d hd
      obtain ⟨x, hx, rfl⟩ := List.mem_map.mp hd
      refine ⟨_, rfl, ?_, fun _ => by simp⟩
      simp [cmpD, p]
    congr 1
    rw [List.map_id', List.filter_map]; rfl
  simp at hlc
  obtain ⟨ns, hns, hnl, en⟩ : ∃ ns : List Str, (∀ x ∈ ns, x ∈ known) ∧ ns.length ≤ known.length ∧ ixD (.lst [.lst (known.map .str), .lst ((known.filter q).map .str)]) (.int (if 0 < v1 then 1 else 0)) (M1 ++ [.lst (ws.map wsD)]) = .ok (.lst (ns.map .str)) (M1 ++ [.lst (ws.map wsD)]) := by
    by_cases h : 0 < v1
    · exact ⟨known.filter q, fun x hx => (List.mem_filter.mp hx).1, List.length_filter_le _ _, by rw [if_pos h]; exact ixn (by decide) rfl _⟩
    · exact ⟨known, fun x hx => hx, Nat.le_refl _, by rw [if_neg h]; exact ixn (by decide) rfl _⟩
  obtain ⟨v2, M2, c2, l2, u2, D2, q2⟩ := drA (N := N) (b := b + 45) [.lst (ws.map wsD)] (by omega) D1.2 (m := 3) (by decide) (by decide)
  obtain ⟨s, M3, c3, hs, D3, q3⟩ := sayA (N := N) (b := b) [.lst (ws.map wsD)] hN (nm := ns) (by omega) (dp := 1 + v2) (by omega) true D2.2
  have d1 := der_at (M := M1) (L := L) (by omega) (ws.map wsD)
  have pu := push_at (M := M3) (L := L) (by omega) (acc := ws.map wsD) (x := .tup [.str nm, s.d]) (by simp; omega)
  have hkl : known.length ≤ 16777216 := by omega
  refine ⟨M3, s, ?_, (D1.trans D2).trans D3, by omega, hs.mono hns⟩
  dsimp only [B83, fb, b83]
  simp [itemsOf, hkl, hlc, c1, cgt, b1_intb, en, d1, bmTy, c2, binD, addD, c3, pu, wsD]
def τ83 (f : Nat) (d1 d2 d3 d4 : D) (s : Option D) : Lo := [some (.ref f), some d1, some d2, some d3, some d4, s, none, none, none, none]
theorem names_J {α : Type} {xs0 : List Str} {β : α → Str} {pre : List D} {x : D} (hx : x ∈ xs0.map D.str) : ∃ s, x = .str s ∧ s ∈ xs0 := strs_in x hx
theorem pickA {N f b : Nat} {M : Hh} (X : Hh) {xs : List Str} (hN : 2 ≤ N) (hl : xs.length < 1000) {m : Int} (hm : 0 ≤ m) (hm2 : m < 1000) (hF : Feed f (b + xs.length) M) :
    ∃ ys M1, back false (M ++ X) (callF GP N 47 [.ref f, .lst (xs.map .str), .int m] (M ++ X)) = .ok (.lst (ys.map .str)) (M1 ++ X) ∧ Drawn f b M M1 ∧ M1.length = M.length ∧ ys.length = min m.toNat xs.length ∧ PickedOf ys xs := by
  obtain ⟨ys, M', c, D, l, h⟩ := pick hN hl hm hm2 (hF.app X)
  obtain ⟨M1, rfl, D1, hl⟩ := D.unapp hF.lt
  exact ⟨ys, M1, c, D1, hl, l, h⟩
theorem b1_tuple_at2 {M : Hh} {L : Nat} (h : M.length = L) (m : Bool) (ds es : List D) : b1D m .tuple (.ref L) (M ++ [.lst ds, .lst es]) = .ok (.tup ds) (M ++ [.lst ds, .lst es]) := by
  subst h
  simp [b1D, der_refL (get_two0 M _ _)]
theorem b1_tuple_at3 {M : Hh} {L : Nat} (h : M.length + 1 = L) (m : Bool) (ds es : List D) : b1D m .tuple (.ref L) (M ++ [.lst ds, .lst es]) = .ok (.tup es) (M ++ [.lst ds, .lst es]) := by
  subst h
  simp [b1D, der_refL (get_two1 M _ _)]
theorem fst_strs {α : Type} {ws : List α} {g : α → Str} {xs : List Str} (h : ws.map (fun p => D.str (g p)) = xs.map D.str) : ws.map g = xs := by
  have := congrArg (List.filterMap unS) h
  rwa [filt_strs, show (ws.map fun p => D.str (g p)) = (ws.map g).map D.str by simp [Function.comp_def], filt_strs] at this
theorem book_sp {N f b : Nat} {M : Hh} (hN : 9 ≤ N) (hF : Feed f (b + 2400) M) :
    ∃ bk : Bk, ∃ M' known kinds, back false M (callF GP N 83 [.ref f] M) = .ok bk.d M' ∧ Drawn f b M M' ∧ BookOk bk known kinds ∧ ∀ x ∈ kinds, NmOk x := by
  obtain ⟨n, rfl⟩ : ∃ n, N = n + 1 := ⟨N - 1, by omega⟩
  rw [callF_fn g83 rfl]
  obtain ⟨v1, M1, c1, l1, u1, D1⟩ := dr (N := n) (b := b + 2399) (by omega) hF (m := 8) (by decide) (by decide)
  obtain ⟨known, M2, c2, D2, hkl, hk⟩ := pick (N := n) (b := b + 2387) (xs := nm12) (m := v1) (by omega) (by decide) l1 (by omega) D1.2
  obtain ⟨v3, M3, c3, l3, u3, D3⟩ := dr (N := n) (b := b + 2386) (by omega) D2.2 (m := 7) (by decide) (by decide)
  obtain ⟨kinds, M4, c4, D4, hkkl, hkk⟩ := pick (N := n) (b := b + 2378) (xs := nk8) (m := v3) (by omega) (by decide) l3 (by omega) D3.2
  have hkl7 : known.length ≤ 7 := by rw [hkl]; simp [nm12]; omega
  have hkkl6 : kinds.length ≤ 6 := by rw [hkkl]; simp [nk8]; omega
  -- the worths
  obtain ⟨s5, M5, acc, e5, D5, q5, ws, rfl, hw1, hw2⟩ := loopH (body := evSs (sig GP n) B83) (τ := τ83 f (.lst (nm12.map .str)) (.lst (known.map .str)) (.lst (kinds.map .str)) (.ref M4.length)) (i := 5) (L := M4.length) (f := f) (K := 47) (fun _ _ => rfl)
    (fun pre acc => ∃ ws : List (Str × Say), acc = ws.map wsD ∧ ws.map (fun p => D.str p.1) = pre ∧ ∀ p ∈ ws, SayOk (· ∈ known) true 3 p.2) ((sortT known).map .str)
    (fun b x pre acc M hL hF hJ hx hp => by
      obtain ⟨ws, rfl, h1, h2⟩ := hJ
      obtain ⟨nm, rfl, hnm⟩ := strs_in x hx
      simp at hp
      have hlen : ws.length = pre.length := by rw [← h1]; simp
      obtain ⟨M1, s, e, D, q, hs⟩ := told_step (N := n) (nm := nm) (d1 := .lst (nm12.map .str)) (d3 := .lst (kinds.map .str)) (by omega) (known := known) (by omega) hL (ws := ws) (by omega) hF
      exact ⟨_, M1, _, e, D, q, ws ++ [(nm, s)], rfl, by simp [h1], fun d hd' => by
        rcases List.mem_append.mp hd' with h | h
        · exact h2 d h
        · rw [List.mem_singleton.mp h]; exact hs⟩)
    ((sortT known).map .str) [] (b + 2049) [] none M4 rfl rfl (D4.2.mono (by simp; omega)) ⟨[], rfl, rfl, fun d h => by cases h⟩
  -- the kinds
  obtain ⟨zs, M6, e6, D6, q6, ks, hks, hk1, hk2⟩ := lcG (bnd := fun x => (T.name 5).bind x (wipe (τ83 f (.lst (nm12.map .str)) (.lst (known.map .str)) (.lst (kinds.map .str)) (.ref M4.length) s5) [5])) (cond := fun σ1 M2 => evC (sig GP n) .nil σ1 M2) (elt := fun σ1 M2 => evE (sig GP n) (.call 82 false (.cons (.var 0) (.cons (.var 5) (.cons (.var 2) (.cons (.var 3) .nil))))) σ1 M2) (f := f) (K := 170) (L := M4.length) (X := [.lst (ws.map wsD)])
    (fun pre ys => ∃ ks : List Knd, ys = ks.map Knd.d ∧ ks.map (fun k => D.str k.nm) = pre ∧ ∀ k ∈ ks, KindOk known kinds k) ((sortT kinds).map .str)
    (fun b x pre ys M hL hF hJ hx => by
      obtain ⟨ks, rfl, h1, h2⟩ := hJ
      obtain ⟨nm, rfl, hnm⟩ := strs_in x hx
      obtain ⟨k, M', c, D, hn, hk⟩ := kind_sp (N := n) (b := b) (M := M ++ [.lst (ws.map wsD)]) (name := nm) (known := known) (kinds := kinds) (by omega) (by omega) (by omega) ((hF.app _).mono (by omega))
      obtain ⟨M1, rfl, D1, hl⟩ := D.unapp hF.lt
      refine ⟨_, k.d, M1, rfl, by simp, ?_, D1, hl, ks ++ [k], by simp, by simp [h1, hn], fun d hd' => ?_⟩
      · simp [τ83, c]
      · rcases List.mem_append.mp hd' with h | h
        · exact h2 d h
        · rw [List.mem_singleton.mp h]; exact hk)
    ((sortT kinds).map .str) [] (b + 1000) [] M5 rfl (by omega) (D5.2.mono (by simp; omega)) ⟨[], rfl, rfl, fun d h => by cases h⟩
  obtain ⟨v7, M7, c7, l7, u7, D7, q7⟩ := drA (N := n) (b := b + 999) [.lst (ws.map wsD), .lst []] (by omega) D6.2 (m := 6) (by decide) (by decide)
  obtain ⟨hn, M8, c8, D8, q8, hhl, hhp⟩ := pickA (N := n) (b := b + 993) [.lst (ws.map wsD), .lst []] (xs := nh6) (m := v7) (by omega) (by decide) l7 (by omega) D7.2
  have hhl6 : hn.length ≤ 6 := by rw [hhl]; simp [nh6]; omega
  obtain ⟨s9, M9', acc, e9, D9', q9', hs, rfl, hh1, hh2⟩ := loopH (body := evSs (sig GP n) B83h) (τ := fun s => [some (.ref f), some (.lst (nm12.map .str)), some (.lst (known.map .str)), some (.lst (kinds.map .str)), some (.ref M4.length), s, some (.lst (ks.map Knd.d)), some (.ref (M6.length + 1)), none, none]) (i := 5) (L := M6.length + 1) (f := f) (K := 20) (fun _ _ => rfl)
    (fun pre acc => ∃ hs : List (Str × List Act), acc = hs.map hpD ∧ hs.map (fun p => D.str p.1) = pre ∧ ∀ p ∈ hs, p.2.length ≤ 3 ∧ ∀ a ∈ p.2, ActOk kinds a) ((sortT hn).map .str)
    (fun b x pre acc M hL hF hJ hx hp => by
      obtain ⟨hs, rfl, h1, h2⟩ := hJ
      obtain ⟨nm, rfl, hnm⟩ := strs_in x hx
      simp at hp
      have hlen : hs.length = pre.length := by rw [← h1]; simp
      obtain ⟨as, M', c, D, hal, hao⟩ := acts_sp (N := n) (b := b) (M := M ++ [.lst (hs.map hpD)]) (kinds := kinds) (by omega) (by omega) (hF.app _)
      obtain ⟨M1, rfl, D1, hl⟩ := D.unapp hF.lt
      have d1 := der_at (M := M) (L := M6.length + 1) (by omega) (hs.map hpD)
      have pu := push_at (M := M1) (L := M6.length + 1) (by omega) (acc := hs.map hpD) (x := .tup [.str nm, .tup (as.map Act.d)]) (by simp; omega)
      refine ⟨none, M1, _, ?_, D1, hl, hs ++ [(nm, as)], rfl, by simp [h1], fun d hd' => ?_⟩
      · dsimp only [B83h, fb, b83]
        simp [d1, bmTy, c, pu, hpD]
      · rcases List.mem_append.mp hd' with h | h
        · exact h2 d h
        · rw [List.mem_singleton.mp h]; exact ⟨hal, hao⟩)
    ((sortT hn).map .str) [] (b + 800) [] s5 (M8 ++ [.lst (ws.map wsD)]) rfl (by simp; omega) ((D8.2.app _).mono (by simp; omega)) ⟨[], rfl, rfl, fun d h => by cases h⟩
  obtain ⟨M9, rfl, D9, q9⟩ := D9'.unapp D8.2.lt
  have D10 : Drawn f b M8 M9 := ⟨D9.1, D9.2.mono (by omega)⟩
  have DD := ((((((D1.trans D2).trans D3).trans D4).trans D5).trans D6).trans D7).trans (D8.trans D10)
  rw [List.nil_append] at hw1 hk1 hh1
  rw [List.nil_append] at hks
  subst hks
  let bk : Bk := ⟨ws, ks, hs⟩
  refine ⟨bk, M9, known, kinds, ?_, DD, ?_, fun x hx => nk8_ok x (hkk.sub x hx)⟩
  · have t1 := b1_tuple_at2 (M := M9) (L := M4.length) (by omega) false (ws.map wsD) (hs.map hpD)
    have t2 := b1_tuple_at3 (M := M9) (L := M6.length + 1) (by omega) false (ws.map wsD) (hs.map hpD)
    have st1 := fun M => sort_strs false known M
    have st2 := fun M => sort_strs false kinds M
    have st3 := fun M => sort_strs false hn M
    have kz : kinds.length ≤ 16777216 := by omega
    dsimp only [B83, B83h, fb, b83, τ83, nm12] at e5 e9
    simp only [List.append_assoc, List.cons_append, List.nil_append, List.map] at e9
    simp [τ83, nm12] at e6
    simp [nm12, nk8, nh6] at c2 c4 c8
    simp [nm12] at e5 e9
    have ce : endF (evSs (sig GP n) F83.body ([D.ref f].map some ++ List.replicate (F83.nl - [D.ref f].length) none) M) = .ok bk.d (M9 ++ [.lst (ws.map wsD), .lst (hs.map hpD)]) := by
      simp only [F83, b83]
      simp [c1, c2, c3, c4, st1, itemsOf, e5, st2, kz, e6, c7, c8, st3, e9, b1_tuple, t1, t2, bk, Bk.d]
    rw [ce]
    exact back_app DD _ bk.plain
  · refine ⟨fst_strs hw1, hw2, fst_strs hk1, hk2, ?_, ?_, hh2, hk.nd (by decide), hkk.nd (by decide), hkl7, hkkl6⟩
    · have : hs.map Prod.fst = sortT hn := fst_strs hh1
      show (hs.map Prod.fst).Nodup
      rw [this]
      exact sortT_nodup (hhp.nd (by decide))
    · have : hs.map Prod.fst = sortT hn := fst_strs hh1
      have h2 := congrArg List.length this
      simp at h2
      show hs.length ≤ 6
      omega
/-! of L7 -/
def leftOk (o : Option Int) (l : Option Int) : Prop := match o with | none => l = none | some m => ∃ i, l = some i ∧ 1 ≤ i ∧ i ≤ m
def EfOk (ks : List Knd) (e : Ef) : Prop := ∃ k ∈ ks, e.kind = k.nm ∧ worthI e.given ∧ leftOk k.lasts e.left
def cntE (es : List Ef) (x : Str) : Nat := (es.filter fun e => decide (e.kind = x)).length
def StOk (ks : List Knd) (es : List Ef) : Prop := (∀ e ∈ es, EfOk ks e) ∧ ∀ k ∈ ks, (cntE es k.nm : Int) ≤ k.most
def B84 : Ss := fb 1 b84
theorem itemsB {M : Hh} {L : Nat} (h : M.length = L) (ds : List D) : itemsOf (M ++ [.lst ds]) (.ref L) = some (ds, [(L, ds)]) := by
  subst h
  simp [itemsOf]
theorem locked_at {M : Hh} {L : Nat} (h : M.length = L) (ds : List D) : Locked [(L, ds)] (M ++ [.lst ds]) := by
  subst h
  intro p hp
  simp at hp
  subst hp
  simp
theorem lockB {M : Hh} {L : Nat} (h : M.length = L) (ds : List D) : lockM (.ref L) (M ++ [.lst ds]) = M ++ [.lst ds] := lockM_rl (ds := ds) (by subst h; simp)
theorem filt_len (es : List Ef) (x : Str) : ((es.map Ef.d).filter (firstIs x)).length = cntE es x := by
  unfold cntE
  rw [List.filter_map, List.length_map]
  rfl
theorem ixT {ds : List D} {v : Nat} {d : D} (h : ds[v]? = some d) (M : Hh) : ixD (.tup ds) (.int v) M = .ok d M := by
  obtain ⟨w, hw⟩ := List.getElem?_eq_some_iff.mp h
  simp [ixD, L2.ixN, w, hw]
theorem kd0 (k : Knd) (M : Hh) : ixD k.d (.int 0) M = .ok (.str k.nm) M := ixT (v := 0) rfl M
theorem kd2 (k : Knd) (M : Hh) : ixD k.d (.int 2) M = .ok (oI k.lasts) M := ixT (v := 2) rfl M
theorem kd3 (k : Knd) (M : Hh) : ixD k.d (.int 3) M = .ok (.int k.most) M := ixT (v := 3) rfl M
theorem ef0 (e : Ef) (M : Hh) : ixD e.d (.int 0) M = .ok (.str e.kind) M := ixT (v := 0) rfl M
theorem insert_at {M : Hh} {L : Nat} (h : M.length = L) {acc : List D} {x : D} {v : Int} (hz : acc.length < 16777216) (h0 : 0 ≤ v) (h1 : v < 4611686018427387904) : bmD .linsert (.ref L) [.int v, x] (M ++ [.lst acc]) = .ok .non (M ++ [.lst (acc.take v.toNat ++ [x] ++ acc.drop v.toNat)]) := by
  subst h
  simp [bmD, refL, hz, h0, h1]
theorem state_step {N f L : Nat} (hN : 3 ≤ N) {bk : D} {ks : List Knd} {k : Knd} (hk : k ∈ ks) (hlast : ∀ l, k.lasts = some l → 1 ≤ l ∧ l ≤ 9) (hnd : (ks.map Knd.nm).Nodup) {b : Nat} {M : Hh} {es : List Ef} (hL : M.length = L) (hz : es.length < 1000) (ho : StOk ks es) (hF : Feed f (b + 6) M) :
    ∃ M1 es', evSs (sig GP N) B84 [some (.ref f), some bk, some (.ref L), some k.d, none, none, none] (M ++ [.lst (es.map Ef.d)])
      = .nx [some (.ref f), some bk, some (.ref L), none, none, none, none] (M1 ++ [.lst (es'.map Ef.d)]) ∧ Drawn f b M M1 ∧ M1.length = M.length ∧ StOk ks es' ∧ es'.length ≤ es.length + 1 := by
  have hlc : lcL [(L, es.map Ef.d)] (fun x => (T.name 6).bind x [some (.ref f), some bk, some (.ref L), some k.d, none, none, none]) (fun σ1 M2 => evC (sig GP N) (.cons (.cmp .eq (.ix (.var 6) (.int 0)) (.ix (.var 3) (.int 0))) .nil) σ1 M2) (fun σ1 M2 => evE (sig GP N) (.var 6) σ1 M2) (es.map Ef.d) (M ++ [.lst (es.map Ef.d)]) = .ok ((es.map Ef.d).filter (firstIs k.nm)) (M ++ [.lst (es.map Ef.d)]) := by
    rw [lcL_fm (lk := [(L, es.map Ef.d)]) (locked_at hL _) (firstIs k.nm) (fun d => d) (es.map Ef.d) ?h]
    case h =>
      intro d hd
      obtain ⟨e, he, rfl⟩ := List.mem_map.mp hd
      refine ⟨_, rfl, ?_, fun _ => by simp⟩
      have hf : firstIs k.nm e.d = decide (e.kind = k.nm) := rfl
      simp [ef0, kd0, ceqs, hf]
    simp
  simp at hlc
  have it := itemsB (M := M) (L := L) hL (es.map Ef.d)
  have lkb := lockB (M := M) (L := L) hL (es.map Ef.d)
  have hel : es.length ≤ 16777216 := by omega
  have fl := filt_len es k.nm
  by_cases h1 : (cntE es k.nm : Int) < k.most
  · obtain ⟨v1, M1, c1, l1, u1, D1, q1⟩ := drA (N := N) (b := b + 5) [.lst (es.map Ef.d)] (by omega) hF (m := 5) (by decide) (by decide)
    by_cases h2 : 1 < v1
    · have big : ∀ (o : Option Int), leftOk k.lasts o → ∀ (w v : Int), worthI w → StOk ks (es.take v.toNat ++ [⟨k.nm, w, o⟩] ++ es.drop v.toNat) := by
        intro o ho' w v hw
        constructor
        · intro e he
          simp only [List.mem_append, List.mem_singleton] at he
          rcases he with (h | h) | h
          · exact ho.1 e (List.mem_of_mem_take h)
          · subst h; exact ⟨k, hk, rfl, hw, ho'⟩
          · exact ho.1 e (List.mem_of_mem_drop h)
        · intro j hj
          have hc : cntE (es.take v.toNat ++ [⟨k.nm, w, o⟩] ++ es.drop v.toNat) j.nm = cntE es j.nm + if k.nm = j.nm then 1 else 0 := by
            unfold cntE
            have hsplit : (es.filter fun e => decide (e.kind = j.nm)).length = ((es.take v.toNat).filter fun e => decide (e.kind = j.nm)).length + ((es.drop v.toNat).filter fun e => decide (e.kind = j.nm)).length := by
              rw [← List.length_append, ← List.filter_append, List.take_append_drop]
            rw [hsplit, List.filter_append, List.filter_append, List.length_append, List.length_append]
            by_cases h : k.nm = j.nm
            · simp [h]; omega
            · simp [h]
          rw [hc]
          by_cases h : k.nm = j.nm
          · have : j = k := by
              have e1 := kOf_mem hnd hj
              have e2 := kOf_mem hnd hk
              rw [h, e1] at e2
              exact Option.some.inj e2
            subst this
            simp; omega
          · have := ho.2 j hj
            simp [h]; omega
      cases hla : k.lasts with
      | none =>
        obtain ⟨v3, M3, c3, l3, u3, D3, q3⟩ := drA (N := N) (b := b + 3) [.lst (es.map Ef.d)] (by omega) (D1.2.mono (by omega)) (m := (es.length : Int) + 1) (by omega) (by omega)
        obtain ⟨w, M4, c4, hw, D4, q4⟩ := woA (N := N) (b := b) [.lst (es.map Ef.d)] (by omega) D3.2
        have d1 := der_at (M := M1) (L := L) (by omega) (es.map Ef.d)
        have ln := b1_len_at (M := M1) (L := L) (by omega) false (es.map Ef.d)
        have ins := insert_at (M := M4) (L := L) (by omega) (acc := es.map Ef.d) (x := .tup [.str k.nm, .int w, .non]) (v := v3) (by simp; omega) l3 (by omega)
        refine ⟨M4, es.take v3.toNat ++ [⟨k.nm, w, none⟩] ++ es.drop v3.toNat, ?_, (D1.trans D3).trans D4, by omega, big none (by rw [hla]; rfl) w v3 hw, by simp; omega⟩
        dsimp only [B84, fb, b84]
        simp [lkb, it, hel, hlc, b1_len, fl, kd0, kd2, kd3, clt, h1, c1, cgt, h2, hla, oI, isN, d1, bmTy, ln, binD, addD, c3, c4, ins, Ef.d]
      | some l =>
        have hl9 := hlast l hla
        obtain ⟨v2, M2, c2, l2, u2, D2, q2⟩ := drA (N := N) (b := b + 4) [.lst (es.map Ef.d)] (by omega) (D1.2) (m := l) (by omega) (by omega)
        obtain ⟨v3, M3, c3, l3, u3, D3, q3⟩ := drA (N := N) (b := b + 3) [.lst (es.map Ef.d)] (by omega) (D2.2) (m := (es.length : Int) + 1) (by omega) (by omega)
        obtain ⟨w, M4, c4, hw, D4, q4⟩ := woA (N := N) (b := b) [.lst (es.map Ef.d)] (by omega) D3.2
        have d1 := der_at (M := M2) (L := L) (by omega) (es.map Ef.d)
        have ln := b1_len_at (M := M2) (L := L) (by omega) false (es.map Ef.d)
        have ins := insert_at (M := M4) (L := L) (by omega) (acc := es.map Ef.d) (x := .tup [.str k.nm, .int w, .int (1 + v2)]) (v := v3) (by simp; omega) l3 (by omega)
        refine ⟨M4, es.take v3.toNat ++ [⟨k.nm, w, some (1 + v2)⟩] ++ es.drop v3.toNat, ?_, ((D1.trans D2).trans D3).trans D4, by omega, big (some (1 + v2)) (by rw [hla]; exact ⟨_, rfl, by omega, by omega⟩) w v3 hw, by simp; omega⟩
        dsimp only [B84, fb, b84]
        simp [lkb, it, hel, hlc, b1_len, fl, kd0, kd2, kd3, clt, h1, c1, cgt, h2, hla, oI, isN, c2, d1, bmTy, ln, binD, addD, c3, c4, ins, Ef.d]
    · refine ⟨M1, es, ?_, ⟨D1.1, D1.2.mono (by omega)⟩, q1, ho, by omega⟩
      dsimp only [B84, fb, b84]
      simp [lkb, it, hel, hlc, b1_len, fl, kd0, kd2, kd3, clt, h1, c1, cgt, h2]
  · refine ⟨M, es, ?_, .refl (hF.mono (by omega)), rfl, ho, by omega⟩
    dsimp only [B84, fb, b84]
    simp [lkb, it, hel, hlc, b1_len, fl, kd0, kd2, kd3, clt, h1]
theorem bk1 (b : Bk) (M : Hh) : ixD b.d (.int 1) M = .ok (.tup (b.kinds.map Knd.d)) M := ixT (v := 1) rfl M
theorem drawn_state {N f b : Nat} {M : Hh} {bk : Bk} (hN : 4 ≤ N) (hl : bk.kinds.length ≤ 8) (hlast : ∀ k ∈ bk.kinds, ∀ l, k.lasts = some l → 1 ≤ l ∧ l ≤ 9) (hmost : ∀ k ∈ bk.kinds, 0 ≤ k.most) (hnd : (bk.kinds.map Knd.nm).Nodup) (hF : Feed f (b + 150) M) :
    ∃ es : List Ef, ∃ M', back false M (callF GP N 84 [.ref f, bk.d] M) = .ok (stD es) M' ∧ Drawn f b M M' ∧ StOk bk.kinds es ∧ es.length ≤ 3 * bk.kinds.length := by
  obtain ⟨n, rfl⟩ : ∃ n, N = n + 1 := ⟨N - 1, by omega⟩
  rw [callF_fn g84 rfl]
  let xs := bk.kinds.map Knd.d ++ bk.kinds.map Knd.d ++ bk.kinds.map Knd.d
  have hxl : xs.length ≤ 24 := by simp [xs]; omega
  have hx3 : xs.length = 3 * bk.kinds.length := by simp [xs]; omega
  obtain ⟨M1, acc, e1, D1, q1, es, rfl, ho, hel⟩ := loopG (body := evSs (sig GP n) B84) (σ := [some (.ref f), some bk.d, some (.ref M.length), none, none, none, none]) (i := 3) (L := M.length) (f := f) (K := 6)
    (fun pre acc => ∃ es : List Ef, acc = es.map Ef.d ∧ StOk bk.kinds es ∧ es.length ≤ pre.length) xs
    (fun b x pre acc M hL hF hJ hx hp => by
      obtain ⟨es, rfl, h1, h2⟩ := hJ
      obtain ⟨k, hk, rfl⟩ : ∃ k ∈ bk.kinds, x = k.d := by
        simp [xs] at hx
        obtain ⟨k, hk, rfl⟩ := hx
        exact ⟨k, hk, rfl⟩
      obtain ⟨M1, es', e, D, q, ho', hl'⟩ := state_step (N := n) (bk := bk.d) (by omega) hk (hlast k hk) hnd hL (es := es) (by omega) h1 hF
      exact ⟨M1, _, e, D, q, es', rfl, ho', by simp; omega⟩)
    xs [] b [] M rfl rfl (hF.mono (by omega)) ⟨[], rfl, ⟨(fun e h => by cases h), fun k hk => by simpa [cntE] using hmost k hk⟩, Nat.le_refl _⟩
  rw [List.nil_append] at hel
  refine ⟨es, M1, ?_, D1, ho, by omega⟩
  have tL := b1_tuple_at (M := M1) (L := M.length) (by omega) false (es.map Ef.d)
  have ce : endF (evSs (sig GP n) F84.body ([D.ref f, bk.d].map some ++ List.replicate (F84.nl - [D.ref f, bk.d].length) none) M) = .ok (stD es) (M1 ++ [.lst (es.map Ef.d)]) := by
    dsimp only [B84, fb, b84, xs] at e1
    have q1 : bk.kinds.length + bk.kinds.length ≤ 16777216 := by omega
    have q2 : bk.kinds.length + (bk.kinds.length + bk.kinds.length) ≤ 16777216 := by omega
    have q3 : bk.kinds.length + bk.kinds.length + bk.kinds.length ≤ 16777216 := by omega
    simp only [List.append_assoc] at e1
    simp [F84, b84, bk1, binD, addD, q1, q2, q3, itemsOf, e1, tL, stD]
  rw [ce]
  exact back_app D1 _ (by simp)
/-! of L10 -/

/-! of L11 -/
theorem sLen_app (x y : Str) : (x ++ y).length = x.length + y.length := by
  show (x.cps ++ y.cps).size = _
  rw [Array.size_append]; rfl
theorem join_len : ∀ ys : List Str, (∀ y ∈ ys, y.length = 1) → (Str.join ⟨#[]⟩ ys).length = ys.length
  | [], _ => rfl
  | [y], h => by simpa [Str.join] using h y (by simp)
  | x :: y :: r, h => by
    have ih := join_len (y :: r) fun z hz => h z (List.mem_cons_of_mem _ hz)
    show (x ++ ⟨#[]⟩ ++ Str.join ⟨#[]⟩ (y :: r)).length = _
    rw [sLen_app, sLen_app, ih, h x (by simp)]
    show 1 + 0 + (r.length + 1) = r.length + 1 + 1
    omega
theorem strsOf_map (ys : List Str) : strsOf (ys.map D.str) = some ys := by
  induction ys with
  | nil => rfl
  | cons y ys ih => simp [strsOf, ih]
def abc : Str := "abcdefghijklmnopqrstuvwxyz"
def Low (x : Str) : Prop := ∀ c ∈ x.cps.toList, 97 ≤ c ∧ c ≤ 122
theorem Low.app {x y : Str} (h : Low x) (k : Low y) : Low (x ++ y) := fun c hc => by
  have e : (x ++ y).cps.toList = x.cps.toList ++ y.cps.toList := by
    show (x.cps ++ y.cps).toList = _
    simp
  rw [e] at hc
  rcases List.mem_append.mp hc with h1 | h1
  · exact h c h1
  · exact k c h1
theorem Low.nil : Low ⟨#[]⟩ := fun c hc => by simp at hc
theorem Low.join : ∀ ys : List Str, (∀ y ∈ ys, Low y) → Low (Str.join ⟨#[]⟩ ys)
  | [], _ => Low.nil
  | [y], h => h y (by simp)
  | x :: y :: r, h => ((h x (by simp)).app Low.nil).app (Low.join (y :: r) fun z hz => h z (List.mem_cons_of_mem _ hz))
theorem abc_low : ∀ c ∈ abc.cps.toList, 97 ≤ c ∧ c ≤ 122 := by decide
theorem letter_ix {v : Int} (h0 : 0 ≤ v) (h1 : v < 26) (M : Hh) : ∃ c, ixD (.str abc) (.int v) M = .ok (.str c) M ∧ c.length = 1 ∧ Low c := by
  have hl : abc.cps.toList.length = 26 := by decide
  have hlt : v.toNat < abc.cps.toList.length := by omega
  refine ⟨⟨#[abc.cps.toList[v.toNat]]⟩, ?_, rfl, fun c hc => ?_⟩
  · have h2 : v < (abc.cps.toList.length : Int) := by omega
    simp only [ixD, der_D_str, L2.ixN, h0, h2, if_true, Option.bind_some, List.getElem?_eq_getElem hlt]
    rfl
  · simp at hc
    subst hc
    exact abc_low _ (List.getElem_mem hlt)
def wordsD : List Str := (["bring", "end", "pass", "base", "worth", "kind", "deed", "at", "plus", "own", "below", "least", "fresh"] : List Str) ++ (["book", "sheet", "lean", "read", "copy", "away", "tell", "forget", "untell", "books", "sheets"] : List Str) ++ (["show", "state", "why", "ring", "never", "when", "apart", "reach", "idle", "parted"] : List Str)
def σ228 (f L : Nat) (m : D) (k size name : Option D) : Lo := [some (.ref f), some m, some (.str abc), some (.lst (wordsD.map .str)), some (.ref L), k, size, name, none, none]
/-! of L12 -/
def N8 (x : Str) : Prop := (1 ≤ x.length ∧ Low x) ∧ x.length ≤ 8
def stAt : Nat → Ss → S
  | 0, .cons s _ => s
  | n + 1, .cons _ r => stAt n r
  | _, .nil => .wipe []
theorem ix_at {M : Hh} {L : Nat} (h : M.length = L) (ds : List D) (i : D) : ixD (.ref L) i (M ++ [.lst ds]) = (match i with | .int _ => ixD (.lst ds) i (M ++ [.lst ds]) | _ => ixD (.ref L) i (M ++ [.lst ds])) := by
  cases i with
  | int i => unfold ixD; rw [der_at h]; rfl
  | _ => rfl
theorem ixS_at {M : Hh} {L : Nat} (h : M.length = L) {xs : List Str} {v : Int} (h0 : 0 ≤ v) (h1 : v < xs.length) : ∃ x ∈ xs, ixD (.ref L) (.int v) (M ++ [.lst (xs.map .str)]) = .ok (.str x) (M ++ [.lst (xs.map .str)]) := by
  obtain ⟨x, hx, e⟩ := ixS (xs := xs) h0 h1 (M ++ [.lst (xs.map .str)])
  exact ⟨x, hx, by rw [ix_at h]; exact e⟩
theorem ne_at {M : Hh} {L : Nat} (h : M.length = L) (neg : Bool) (xs : List Str) : cmpD (if neg then .ne else .eq) (.ref L) (.lst []) (M ++ [.lst (xs.map .str)]) = .ok (.bl (if neg then !xs.isEmpty else xs.isEmpty)) (M ++ [.lst (xs.map .str)]) := by
  cases neg <;> simp [cmpD, der_at h, ne_nil]
theorem in_strs (x : Str) (xs : List Str) : inSeq (.str x) (xs.map .str) = decide (x ∈ xs) := by
  rw [Bool.eq_iff_iff]
  simp only [inSeq, List.any_map, List.any_eq_true, decide_eq_true_eq, Function.comp]
  constructor
  · rintro ⟨y, hy, h⟩
    rw [eqv_strs, decide_eq_true_eq] at h
    exact h ▸ hy
  · intro h
    exact ⟨x, h, by rw [eqv_strs]; simp⟩
theorem in_at {M : Hh} {L : Nat} (h : M.length = L) (x : Str) (xs : List Str) : ∃ b, (b = decide (x ∈ xs)) ∧ cmpD .isin (.str x) (.ref L) (M ++ [.lst (xs.map .str)]) = .ok (.bl b) (M ++ [.lst (xs.map .str)]) ∧ cmpD .notin (.str x) (.ref L) (M ++ [.lst (xs.map .str)]) = .ok (.bl (!b)) (M ++ [.lst (xs.map .str)]) := by
  refine ⟨inSeq (.str x) (xs.map .str), in_strs x xs, ?_, ?_⟩ <;> simp [cmpD, inD, der_at h, depths_strs]
theorem sliceS (x : Str) {a : Int} (h : 0 ≤ a) (M : Hh) : ∃ y, sliceD false (.str x) none (some a) M = .ok (.str y) M ∧ y.length = min a.toNat x.length ∧ (Low x → Low y) := by
  have ct := cut_to x.cps.toList h
  refine ⟨⟨(x.cps.toList.take a.toNat).toArray⟩, by simp [sliceD, ct], ?_, fun h c hc => h c ?_⟩
  · simp [Str.length]
  · have hc : c ∈ x.cps.toList.take a.toNat := by simpa using hc
    exact List.mem_of_mem_take hc
theorem words8 : ∀ x ∈ wordsD, N8 x := by
  intro x hx
  have : (wordsD.all fun x => decide ((1 ≤ x.length ∧ ∀ c ∈ x.cps.toList, 97 ≤ c ∧ c ≤ 122) ∧ x.length ≤ 8)) = true := by decide
  have := List.all_eq_true.mp this x hx
  have := of_decide_eq_true this
  exact this
/-! of L13 -/

/-! of L14 -/
structure At (f L : Nat) (ns : List Str) (M : Hh) : Prop where
  ne : L ≠ f
  at_ : M[L]? = some (.lst (ns.map .str))
theorem At.drawn {f L b : Nat} {ns : List Str} {M M' : Hh} (h : At f L ns M) (D : Drawn f b M M') : At f L ns M' := by
  obtain ⟨⟨xs, a, r, rfl⟩, _⟩ := D
  exact ⟨h.ne, by rw [List.getElem?_set_ne h.ne.symm]; exact h.at_⟩
theorem At.app {f L : Nat} {ns : List Str} {M : Hh} (h : At f L ns M) (X : Hh) : At f L ns (M ++ X) :=
  ⟨h.ne, by rw [List.getElem?_append_left (List.getElem?_eq_some_iff.mp h.at_).1]; exact h.at_⟩
theorem At.der {f L : Nat} {ns : List Str} {M : Hh} (h : At f L ns M) : Mi.der M (.ref L) = .lst (ns.map .str) := der_refL h.at_
theorem At.ne_nil {f L : Nat} {ns : List Str} {M : Hh} (h : At f L ns M) : cmpD .ne (.ref L) (.lst []) M = .ok (.bl (!ns.isEmpty)) M := by
  simp [cmpD, h.der, Mi.ne_nil]
theorem At.eq_nil {f L : Nat} {ns : List Str} {M : Hh} (h : At f L ns M) : cmpD .eq (.ref L) (.lst []) M = .ok (.bl ns.isEmpty) M := by
  simp [cmpD, h.der, Mi.ne_nil]
theorem At.len {f L : Nat} {ns : List Str} {M : Hh} (h : At f L ns M) (m : Bool) : b1D m .len (.ref L) M = .ok (.int ns.length) M := by
  simp [b1D, h.der]
theorem At.ix {f L : Nat} {ns : List Str} {M : Hh} (h : At f L ns M) {v : Int} (h0 : 0 ≤ v) (h1 : v < ns.length) : ∃ x ∈ ns, ixD (.ref L) (.int v) M = .ok (.str x) M := by
  obtain ⟨x, hx, e⟩ := ixS (xs := ns) h0 h1 M
  refine ⟨x, hx, ?_⟩
  rw [← e]
  unfold ixD; rw [h.der]; rfl
def zqL : List Str := ["zq"]
def PSay (ns : List Str) (pl : Bool) (n : Nat) (s : Say) : Prop := s.ok (· ∈ ns) (fun x => x ∈ ns ∨ x = "zq") pl ∧ s.dep ≤ n
/-! of L15 -/
def waysL : List Str := ["add", "times", "over", "set", "least", "most"]
structure PDeed (ns : List Str) (d : Deed) : Prop where
  w : d.w ∈ ns
  layer : 0 ≤ d.layer ∧ d.layer ≤ 9
  way : d.way.length ≤ 8
  s : PSay ns false 6 d.s
  wi : d.way ∈ waysL
structure PKind (ns kinds : List Str) (k : Knd) : Prop where
  wt : 0 ≤ k.wt ∧ k.wt ≤ 9
  lasts : ∀ l, k.lasts = some l → 1 ≤ l ∧ l ≤ 9
  most : 1 ≤ k.most ∧ k.most ≤ 4
  reach : k.reach.length ≤ 8
  bars : ∀ x ∈ k.bars, x ∈ kinds
  barsl : k.bars.length ≤ kinds.length
  deeds : ∀ d ∈ k.deeds, PDeed ns d
  deedsl : k.deeds.length ≤ 6
theorem loopP {body : Lo → Hh → RS} {σ : Lo} {i L f K : Nat} (Pm : Hh → Prop) (hP : ∀ M M' b, Pm M → Drawn f b M M' → Pm M') (J : List D → List D → Prop) (xs0 : List D)
    (step : ∀ b x pre acc M, M.length = L → Pm M → Feed f (b + K) M → J pre acc → x ∈ xs0 → pre.length < xs0.length → ∃ M1 acc', body (σ.set i (some x)) (M ++ [.lst acc]) = .nx σ (M1 ++ [.lst acc']) ∧ Drawn f b M M1 ∧ M1.length = M.length ∧ J (pre ++ [x]) acc') :
    ∀ xs pre b acc M, xs0 = pre ++ xs → M.length = L → Pm M → Feed f (b + K * xs.length) M → J pre acc → ∃ M1 acc', forL [] (.name i) body xs σ (M ++ [.lst acc]) = .nx σ (M1 ++ [.lst acc']) ∧ Drawn f b M M1 ∧ M1.length = M.length ∧ J (pre ++ xs) acc'
  | [], pre, b, acc, M, _, _, _, hF, hJ => ⟨M, acc, by simp, .refl (by simpa using hF), rfl, by simpa using hJ⟩
  | x :: xs, pre, b, acc, M, h0, hL, hM, hF, hJ => by
    obtain ⟨M1, acc1, e1, D1, l1, J1⟩ := step (b + K * xs.length) x pre acc M hL hM (hF.mono (by simp [Nat.mul_succ]; omega)) hJ (by rw [h0]; simp) (by rw [h0]; simp)
    obtain ⟨M2, acc2, e2, D2, l2, J2⟩ := loopP Pm hP J xs0 step xs (pre ++ [x]) b acc1 M1 (by simpa using h0) (by omega) (hP _ _ _ hM D1) D1.2 J1
    exact ⟨M2, acc2, by simp [e1, e2], D1.trans D2, by omega, by simpa using J2⟩
/-! of L16 -/
theorem lcP {lk : List (Nat × List D)} {bnd : D → Option Lo} {cond : Lo → Hh → R Bool} {elt : Lo → Hh → R D} {f K : Nat} (Pm : Hh → Prop) (hP : ∀ M M' b, Pm M → Drawn f b M M' → Pm M') (hlk : ∀ M, Pm M → Locked lk M) (J : List D → List D → Prop) (xs0 : List D)
    (step : ∀ b x pre ys M, Pm M → Feed f (b + K) M → J pre ys → x ∈ xs0 → pre.length < xs0.length → ∃ σ d M1, bnd x = some σ ∧ cond σ M = .ok true M ∧ elt σ M = .ok d M1 ∧ Drawn f b M M1 ∧ J (pre ++ [x]) (ys ++ [d])) :
    ∀ xs pre b ys M, xs0 = pre ++ xs → Pm M → Feed f (b + K * xs.length) M → J pre ys → ∃ zs M1, lcL lk bnd cond elt xs M = .ok zs M1 ∧ Drawn f b M M1 ∧ J (pre ++ xs) (ys ++ zs)
  | [], pre, b, ys, M, _, hM, hF, hJ => ⟨[], M, by simp [lcL, hlk M hM], .refl (by simpa using hF), by simpa using hJ⟩
  | x :: xs, pre, b, ys, M, h0, hM, hF, hJ => by
    obtain ⟨σ, d, M1, a1, a2, a3, D1, J1⟩ := step (b + K * xs.length) x pre ys M hM (hF.mono (by simp [Nat.mul_succ]; omega)) hJ (by rw [h0]; simp) (by rw [h0]; simp)
    obtain ⟨zs, M2, e2, D2, J2⟩ := lcP Pm hP hlk J xs0 step xs (pre ++ [x]) b (ys ++ [d]) M1 (by simpa using h0) (hP _ _ _ hM D1) D1.2 J1
    exact ⟨d :: zs, M2, by simp [lcL, hlk M hM, a1, a2, a3, e2], D1.trans D2, by simpa using J2⟩
theorem loopQ {lk : List (Nat × List D)} {body : Lo → Hh → RS} {σ : Lo} {i L f K : Nat} (Pm : Hh → Prop) (hP : ∀ M M' b, Pm M → Drawn f b M M' → Pm M') (hlk : ∀ M X, Pm M → Locked lk (M ++ X)) (J : List D → List D → Prop) (xs0 : List D)
    (step : ∀ b x pre acc M, M.length = L → Pm M → Feed f (b + K) M → J pre acc → x ∈ xs0 → pre.length < xs0.length → ∃ M1 acc', body (σ.set i (some x)) (M ++ [.lst acc]) = .nx σ (M1 ++ [.lst acc']) ∧ Drawn f b M M1 ∧ M1.length = M.length ∧ J (pre ++ [x]) acc') :
    ∀ xs pre b acc M, xs0 = pre ++ xs → M.length = L → Pm M → Feed f (b + K * xs.length) M → J pre acc → ∃ M1 acc', forL lk (.name i) body xs σ (M ++ [.lst acc]) = .nx σ (M1 ++ [.lst acc']) ∧ Drawn f b M M1 ∧ M1.length = M.length ∧ J (pre ++ xs) acc'
  | [], pre, b, acc, M, _, _, hM, hF, hJ => ⟨M, acc, by simp [forL, hlk M _ hM], .refl (by simpa using hF), rfl, by simpa using hJ⟩
  | x :: xs, pre, b, acc, M, h0, hL, hM, hF, hJ => by
    obtain ⟨M1, acc1, e1, D1, l1, J1⟩ := step (b + K * xs.length) x pre acc M hL hM (hF.mono (by simp [Nat.mul_succ]; omega)) hJ (by rw [h0]; simp) (by rw [h0]; simp)
    obtain ⟨M2, acc2, e2, D2, l2, J2⟩ := loopQ Pm hP hlk J xs0 step xs (pre ++ [x]) b acc1 M1 (by simpa using h0) (by omega) (hP _ _ _ hM D1) D1.2 J1
    refine ⟨M2, acc2, ?_, D1.trans D2, by omega, by simpa using J2⟩
    rw [forL, if_pos (hlk M _ hM)]
    simp [e1, e2]
def PAct (ns : List Str) (a : Act) : Prop := (∃ k n, a = .bring k n ∧ k ∈ ns ∧ worthI n) ∨ (∃ k, a = .fin k ∧ k ∈ ns) ∨ ∃ n, a = .pass n ∧ 1 ≤ n ∧ n ≤ 9
structure PBook (b : Bk) (ws ks : List Str) : Prop where
  w8 : ∀ x ∈ ws, N8 x
  k8 : ∀ x ∈ ks, N8 x
  wl : ws.length ≤ 12
  kl : ks.length ≤ 12
  wnd : ws.Nodup
  knd : ks.Nodup
  hnd : (b.haps.map Prod.fst).Nodup
  wn : b.worths.map Prod.fst = ws
  wp : ∀ p ∈ b.worths, PSay ws true 6 p.2
  kn : b.kinds.map Knd.nm = ks
  kp : ∀ k ∈ b.kinds, PKind ws ks k
  h8 : ∀ p ∈ b.haps, N8 p.1 ∧ p.2.length ≤ 6 ∧ ∀ a ∈ p.2, PAct ks a
  hl : b.haps.length ≤ 12
structure Sizes (s0 s1 s2 s3 s4 : Int) : Prop where
  a : 0 ≤ s0 ∧ s0 ≤ 12
  b : 0 ≤ s1 ∧ s1 ≤ 12
  c : 0 ≤ s2 ∧ s2 ≤ 12
  d : 0 ≤ s3 ∧ s3 ≤ 6
  e : 0 ≤ s4 ∧ s4 ≤ 6
/-! of L17 -/
theorem locked_of {f L : Nat} {ns : List Str} {M : Hh} (h : At f L ns M) (X : Hh) : Locked [(L, ns.map .str)] (M ++ X) := fun p hp => by
  simp at hp; subst hp; exact (h.app X).at_
end Mi
end
section
set_option Elab.async false
set_option linter.all false
set_option maxRecDepth 100000
/-! WP: what a run ends with, by readings (for simp, step by step). -/
namespace Mi
open PySem L2
def WR {α : Type} (r : R α) (Q : α → Hh → Prop) : Prop := match r with | .ok a M => Q a M | _ => False
def WS (r : RS) (N : Lo → Hh → Prop) (Rt : D → Hh → Prop) : Prop := match r with | .nx σ M => N σ M | .rt d M => Rt d M | _ => False
theorem WR_congr {α : Type} {r r' : R α} {Q : α → Hh → Prop} (h : r = r') : WR r Q = WR r' Q := by rw [h]
theorem WS_congr {r r' : RS} {N : Lo → Hh → Prop} {Rt : D → Hh → Prop} (h : r = r') : WS r N Rt = WS r' N Rt := by rw [h]
theorem WR_ok {α : Type} {a : α} {M : Hh} {Q : α → Hh → Prop} : WR (.ok a M) Q = Q a M := rfl
theorem WR_bind {α β : Type} {r : R α} {f : α → Hh → R β} {Q : β → Hh → Prop} : WR (r.bind f) Q = WR r (fun a M => WR (f a M) Q) := by cases r <;> rfl
theorem WR_ite {α : Type} {c : Prop} [Decidable c] {a b : R α} {Q : α → Hh → Prop} : WR (if c then a else b) Q = if c then WR a Q else WR b Q := by split <;> rfl
theorem WS_ite {c : Prop} [Decidable c] {a b : RS} {N : Lo → Hh → Prop} {Rt : D → Hh → Prop} : WS (if c then a else b) N Rt = if c then WS a N Rt else WS b N Rt := by split <;> rfl
theorem WS_nx {σ : Lo} {M : Hh} {N : Lo → Hh → Prop} {Rt : D → Hh → Prop} : WS (.nx σ M) N Rt = N σ M := rfl
theorem WS_rt {d : D} {M : Hh} {N : Lo → Hh → Prop} {Rt : D → Hh → Prop} : WS (.rt d M) N Rt = Rt d M := rfl
theorem WS_then {r : RS} {f : Lo → Hh → RS} {N : Lo → Hh → Prop} {Rt : D → Hh → Prop} : WS (r.then f) N Rt = WS r (fun σ M => WS (f σ M) N Rt) Rt := by cases r <;> rfl
theorem WS_st {r : R D} {σ : Lo} {f : D → Hh → RS} {N : Lo → Hh → Prop} {Rt : D → Hh → Prop} : WS (r.st σ f) N Rt = WR r (fun d M => WS (f d M) N Rt) := by cases r <;> rfl
theorem WR_bno {α β : Type} {r : R α} {f : α → Hh → R β} {Q : β → Hh → Prop} : WR (r.bno f) Q = WR r (fun a M => WR (f a M) Q) := by cases r <;> rfl
theorem WS_stX {r : R D} {σ : Lo} {f : D → Hh → RS} {N : Lo → Hh → Prop} {Rt : D → Hh → Prop} : WS (r.stX σ f) N Rt = WR r (fun d M => WS (f d M) N Rt) := by cases r <;> rfl
theorem WR_endF {r : RS} {Q : D → Hh → Prop} : WR (endF r) Q = WS r (fun _ M => Q .non M) Q := by cases r <;> rfl
theorem WR_eq {α : Type} {r : R α} {Q : α → Hh → Prop} (h : WR r Q) : ∃ d M, r = .ok d M ∧ Q d M := by
  cases r with
  | ok a M => exact ⟨a, M, rfl, h⟩
  | _ => exact h.elim
theorem WR_of {α : Type} {r : R α} {d : α} {M : Hh} {Q : α → Hh → Prop} (h : r = .ok d M) (q : Q d M) : WR r Q := by rw [h]; exact q
theorem WR.mono {α : Type} {r : R α} {Q Q' : α → Hh → Prop} (h : WR r Q) (k : ∀ d M, Q d M → Q' d M) : WR r Q' := by
  cases r with
  | ok a M => exact k _ _ h
  | _ => exact h.elim
theorem WS.mono {r : RS} {N N' : Lo → Hh → Prop} {Rt Rt' : D → Hh → Prop} (h : WS r N Rt) (k : ∀ σ M, N σ M → N' σ M) (k2 : ∀ d M, Rt d M → Rt' d M) : WS r N' Rt' := by
  cases r with
  | nx σ M => exact k _ _ h
  | rt d M => exact k2 _ _ h
  | _ => exact h.elim
theorem WS_for {t : Mi.T} {it : It} {b : Ss} {G : Sg} {σ : Lo} {M : Hh} {N : Lo → Hh → Prop} {Rt : D → Hh → Prop} : WS (evS G (.for_ t it b) σ M) N Rt = WR (evIt G it σ M) (fun p M1 => WS (forL p.2 t (evSs G b) p.1 σ M1) N Rt) := by
  rw [es_for]
  cases evIt G it σ M <;> rfl
theorem WS_while {c : E} {b : Ss} {G : Sg} {σ : Lo} {M : Hh} {N : Lo → Hh → Prop} {Rt : D → Hh → Prop} : WS (evS G (.while_ c b) σ M) N Rt = WS (whL (fun σ1 M1 => (evE G c σ1 M1).bind fun d M2 => asBool d M2) (evSs G b) G.wh σ M) N Rt := by rw [evS]
/-! ### loops -/
theorem for_w {lk : List (Nat × List D)} {t : Mi.T} {body : Lo → Hh → RS} {xs : List D} {σ : Lo} {M : Hh} {N : Lo → Hh → Prop} {Rt : D → Hh → Prop} (J : List D → Lo → Hh → Prop) (h0 : J [] σ M) (hl : ∀ pre σ M, J pre σ M → Locked lk M)
    (hs : ∀ pre x post σ M, xs = pre ++ x :: post → J pre σ M → ∃ σ1, t.bind x σ = some σ1 ∧ WS (body σ1 M) (fun σ' M' => J (pre ++ [x]) σ' M') Rt) (hN : ∀ σ M, J xs σ M → N σ M) : WS (forL lk t body xs σ M) N Rt := by
  suffices H : ∀ (post pre : List D) (σ : Lo) (M : Hh), xs = pre ++ post → J pre σ M → WS (forL lk t body post σ M) N Rt from H xs [] σ M rfl h0
  intro post
  induction post with
  | nil =>
    intro pre σ M e hJ
    rw [forL, if_pos (hl _ _ _ hJ)]
    rw [List.append_nil] at e
    exact hN _ _ (e ▸ hJ)
  | cons x post ih =>
    intro pre σ M e hJ
    rw [forL, if_pos (hl _ _ _ hJ)]
    obtain ⟨σ1, e1, h⟩ := hs pre x post σ M e hJ
    rw [e1]
    dsimp only
    rw [WS_then]
    exact h.mono (fun σ' M' q => ih (pre ++ [x]) σ' M' (by rw [e]; simp) q) fun _ _ q => q
/-- .. whose names come back the same -/
theorem for_s {lk : List (Nat × List D)} {i : Nat} {body : Lo → Hh → RS} {xs : List D} {σ : Lo} {M : Hh} {N : Lo → Hh → Prop} {Rt : D → Hh → Prop} (J : List D → Hh → Prop) (h0 : J [] M) (hl : ∀ pre M, J pre M → Locked lk M)
    (hs : ∀ pre x post M, xs = pre ++ x :: post → J pre M → WS (body (σ.set i (some x)) M) (fun σ' M' => σ' = σ ∧ J (pre ++ [x]) M') Rt) (hN : ∀ M, J xs M → N σ M) : WS (forL lk (.name i) body xs σ M) N Rt :=
  for_w (fun pre σ' M' => σ' = σ ∧ J pre M') ⟨rfl, h0⟩ (fun pre σ M h => hl _ _ h.2) (fun pre x post σ' M' e ⟨h1, h2⟩ => ⟨σ.set i (some x), by rw [h1]; rfl, hs pre x post M' e h2⟩) (fun σ' M' ⟨h1, h2⟩ => h1 ▸ hN _ h2)
/-- .. over typed things -/
theorem for_t {β : Type} {lk : List (Nat × List D)} {t : Mi.T} {body : Lo → Hh → RS} {f : β → D} {xs : List β} {σ : Lo} {M : Hh} {N : Lo → Hh → Prop} {Rt : D → Hh → Prop} (J : List β → Lo → Hh → Prop) (h0 : J [] σ M) (hl : ∀ pre σ M, J pre σ M → Locked lk M)
    (hs : ∀ pre x post σ M, xs = pre ++ x :: post → J pre σ M → ∃ σ1, t.bind (f x) σ = some σ1 ∧ WS (body σ1 M) (fun σ' M' => J (pre ++ [x]) σ' M') Rt) (hN : ∀ σ M, J xs σ M → N σ M) : WS (forL lk t body (xs.map f) σ M) N Rt := by
  suffices H : ∀ (post pre : List β) (σ : Lo) (M : Hh), xs = pre ++ post → J pre σ M → WS (forL lk t body (post.map f) σ M) N Rt from H xs [] σ M rfl h0
  intro post
  induction post with
  | nil =>
    intro pre σ M e hJ
    rw [List.map_nil, forL, if_pos (hl _ _ _ hJ)]
    rw [List.append_nil] at e
    exact hN _ _ (e ▸ hJ)
  | cons x post ih =>
    intro pre σ M e hJ
    rw [List.map_cons, forL, if_pos (hl _ _ _ hJ)]
    obtain ⟨σ1, e1, h⟩ := hs pre x post σ M e hJ
    rw [e1]
    dsimp only
    rw [WS_then]
    exact h.mono (fun σ' M' q => ih (pre ++ [x]) σ' M' (by rw [e]; simp) q) fun _ _ q => q
theorem for_ts {β : Type} {lk : List (Nat × List D)} {i : Nat} {body : Lo → Hh → RS} {f : β → D} {xs : List β} {σ : Lo} {M : Hh} {N : Lo → Hh → Prop} {Rt : D → Hh → Prop} (J : List β → Hh → Prop) (h0 : J [] M) (hl : ∀ pre M, J pre M → Locked lk M)
    (hs : ∀ pre x post M, xs = pre ++ x :: post → J pre M → WS (body (σ.set i (some (f x))) M) (fun σ' M' => σ' = σ ∧ J (pre ++ [x]) M') Rt) (hN : ∀ M, J xs M → N σ M) : WS (forL lk (.name i) body (xs.map f) σ M) N Rt :=
  for_t (fun pre σ' M' => σ' = σ ∧ J pre M') ⟨rfl, h0⟩ (fun pre σ M h => hl _ _ h.2) (fun pre x post σ' M' e ⟨h1, h2⟩ => ⟨σ.set i (some (f x)), by rw [h1]; rfl, hs pre x post M' e h2⟩) (fun σ' M' ⟨h1, h2⟩ => h1 ▸ hN _ h2)
theorem lc_w {lk : List (Nat × List D)} {bnd : D → Option Lo} {cond : Lo → Hh → R Bool} {elt : Lo → Hh → R D} {xs : List D} {M : Hh} {Q : List D → Hh → Prop} (J : List D → List D → Hh → Prop) (h0 : J [] [] M) (hl : ∀ pre ys M, J pre ys M → Locked lk M)
    (hs : ∀ pre x post ys M, xs = pre ++ x :: post → J pre ys M → ∃ σ, bnd x = some σ ∧ WR (cond σ M) (fun b M' => if b = true then WR (elt σ M') (fun y M2 => J (pre ++ [x]) (ys ++ [y]) M2) else J (pre ++ [x]) ys M')) (hQ : ∀ ys M, J xs ys M → Q ys M) : WR (lcL lk bnd cond elt xs M) Q := by
  suffices H : ∀ (post pre ys : List D) (M : Hh) (Q' : List D → Hh → Prop), xs = pre ++ post → J pre ys M → (∀ zs M, J xs (ys ++ zs) M → Q' zs M) → WR (lcL lk bnd cond elt post M) Q' from H xs [] [] M Q rfl h0 (fun zs M h => hQ _ _ (by simpa using h))
  intro post
  induction post with
  | nil =>
    intro pre ys M Q' e hJ k
    rw [lcL, if_pos (hl _ _ _ hJ), WR_ok]
    rw [List.append_nil] at e
    exact k _ _ (by rw [List.append_nil, e]; exact hJ)
  | cons x post ih =>
    intro pre ys M Q' e hJ k
    rw [lcL, if_pos (hl _ _ _ hJ)]
    obtain ⟨σ, e1, h⟩ := hs pre x post ys M e hJ
    rw [e1]
    dsimp only
    rw [WR_bind]
    refine h.mono fun b M' q => ?_
    cases b with
    | true =>
      rw [if_pos rfl] at q ⊢
      rw [WR_bind]
      refine q.mono fun y M2 q => ?_
      rw [WR_bind]
      exact ih (pre ++ [x]) (ys ++ [y]) M2 _ (by rw [e]; simp) q fun zs M h => k _ _ (by simpa using h)
    | false =>
      simp only [Bool.false_eq_true, if_false] at q ⊢
      exact ih (pre ++ [x]) ys M' _ (by rw [e]; simp) q k
/-- a comprehension that changes nothing -/
theorem lc_p {lk : List (Nat × List D)} {bnd : D → Option Lo} {cond : Lo → Hh → R Bool} {elt : Lo → Hh → R D} {xs : List D} {M : Hh} {Q : List D → Hh → Prop} (p : D → Bool) (f : D → D) (hl : Locked lk M)
    (hs : ∀ x ∈ xs, ∃ σ, bnd x = some σ ∧ cond σ M = .ok (p x) M ∧ (p x = true → elt σ M = .ok (f x) M)) (hQ : Q ((xs.filter p).map f) M) : WR (lcL lk bnd cond elt xs M) Q := by
  rw [lcL_fm hl p f xs hs]; exact hQ
theorem lc_m {lk : List (Nat × List D)} {bnd : D → Option Lo} {cond : Lo → Hh → R Bool} {elt : Lo → Hh → R D} {xs : List D} {M : Hh} {Q : List D → Hh → Prop} (f : D → D) (hl : Locked lk M)
    (hs : ∀ x ∈ xs, ∃ σ, bnd x = some σ ∧ cond σ M = .ok true M ∧ elt σ M = .ok (f x) M) (hQ : Q (xs.map f) M) : WR (lcL lk bnd cond elt xs M) Q := by
  rw [lcL_map hl f xs hs]; exact hQ
theorem lc_tp {β : Type} {lk : List (Nat × List D)} {bnd : D → Option Lo} {cond : Lo → Hh → R Bool} {elt : Lo → Hh → R D} {f : β → D} {xs : List β} {M : Hh} {Q : List D → Hh → Prop} (p : β → Bool) (g : β → D) (hl : Locked lk M)
    (hs : ∀ x ∈ xs, ∃ σ, bnd (f x) = some σ ∧ cond σ M = .ok (p x) M ∧ (p x = true → elt σ M = .ok (g x) M)) (hQ : Q ((xs.filter p).map g) M) : WR (lcL lk bnd cond elt (xs.map f) M) Q := by
  suffices H : lcL lk bnd cond elt (xs.map f) M = .ok ((xs.filter p).map g) M by rw [H]; exact hQ
  clear hQ
  induction xs with
  | nil => simp [lcL, hl]
  | cons x xs ih =>
    obtain ⟨σ, h1, h2, h3⟩ := hs x (by simp)
    have ih := ih fun y hy => hs y (List.mem_cons_of_mem _ hy)
    simp only [List.map_cons, lcL, if_pos hl, h1, h2, R.bind_ok]
    cases hp : p x with
    | true => simp [h3 hp, ih, hp]
    | false => simp [ih, hp]
theorem lc_tm {β : Type} {lk : List (Nat × List D)} {bnd : D → Option Lo} {cond : Lo → Hh → R Bool} {elt : Lo → Hh → R D} {f : β → D} {xs : List β} {M : Hh} {Q : List D → Hh → Prop} (g : β → D) (hl : Locked lk M)
    (hs : ∀ x ∈ xs, ∃ σ, bnd (f x) = some σ ∧ cond σ M = .ok true M ∧ elt σ M = .ok (g x) M) (hQ : Q (xs.map g) M) : WR (lcL lk bnd cond elt (xs.map f) M) Q :=
  lc_tp (fun _ => true) g hl (fun x hx => let ⟨σ, a, b, c⟩ := hs x hx; ⟨σ, a, b, fun _ => c⟩) (by rw [List.filter_eq_self.mpr fun _ _ => rfl]; exact hQ)
/-- while: by a measure -/
theorem wh_w {c : Lo → Hh → R Bool} {body : Lo → Hh → RS} {k : Nat} {σ : Lo} {M : Hh} {N : Lo → Hh → Prop} {Rt : D → Hh → Prop} (J : Nat → Lo → Hh → Prop) (m : Nat) (hm : m < k) (h0 : J m σ M)
    (hs : ∀ m σ M, J m σ M → WR (c σ M) (fun b M' => if b = true then 0 < m ∧ WS (body σ M') (fun σ' M2 => J (m - 1) σ' M2) Rt else N σ M')) : WS (whL c body k σ M) N Rt := by
  induction k generalizing m σ M with
  | zero => omega
  | succ k ih =>
    rw [whL]
    have h := hs m σ M h0
    cases e : c σ M with
    | ok b M1 =>
      rw [e] at h
      have h : (if b = true then 0 < m ∧ WS (body σ M1) (fun σ' M2 => J (m - 1) σ' M2) Rt else N σ M1) := h
      dsimp only
      cases b with
      | true =>
        rw [if_pos rfl] at h ⊢
        rw [WS_then]
        exact h.2.mono (fun σ' M' q => ih (m - 1) (by omega) q) fun _ _ q => q
      | false =>
        simp only [Bool.false_eq_true, if_false] at h ⊢
        exact h
    | exc _ _ => rw [e] at h; exact h.elim
    | bad => rw [e] at h; exact h.elim
/-! ### calls -/
theorem call_w {N i : Nat} {f : Fn} {ds : List D} {M : Hh} {Q : D → Hh → Prop} (hN : 0 < N) (h : GP.fns i = f) (hl : ds.length = f.ar) (q : WS (evSs (sig GP (N - 1)) f.body (ds.map some ++ List.replicate (f.nl - ds.length) none) M) (fun _ M => Q .non M) Q) : WR (callF GP N i ds M) Q := by
  rw [callF_gt hN h hl, WR_endF]; exact q
/-- a call that draws, its new things laid behind -/
theorem back_w {M : Hh} {r : R D} {Q : D → Hh → Prop} (f b : Nat) (h : WR r (fun d M' => ∃ M1 X, M' = M1 ++ X ∧ Drawn f b M M1 ∧ d.plain = true ∧ Q d M1)) : WR (back false M r) Q := by
  obtain ⟨d, M', e, M1, X, rfl, D, hp, q⟩ := WR_eq h
  rw [e]
  exact WR_of (back_app D X hp) q
theorem still_app {M X : Hh} {d : D} (h : d.still = true) : back false M (R.ok d (M ++ X)) = .ok d M := by
  simp only [back, Bool.false_eq_true, if_false]
  rw [frz_still _ _ d h]
  simp only [if_pos (stood_app M X), List.take_left]
/-- .. that draws nothing -/
theorem back_p {M : Hh} {r : R D} {Q : D → Hh → Prop} (h : WR r (fun d M' => (∃ X, M' = M ++ X) ∧ d.still = true ∧ Q d M)) : WR (back false M r) Q := by
  obtain ⟨d, M', e, ⟨X, rfl⟩, hp, q⟩ := WR_eq h
  rw [e]
  exact WR_of (still_app hp) q
end Mi
namespace Mi
open PySem L2
theorem WR_bad {α : Type} {Q : α → Hh → Prop} : WR (.bad : R α) Q = False := rfl
theorem WS_bad {N : Lo → Hh → Prop} {Rt : D → Hh → Prop} : WS .bad N Rt = False := rfl
@[simp] theorem ei_zip2 {G : Sg} {σ : Lo} {M : Hh} (a b : E) : evIt G (.zip2 a b) σ M = (evE G a σ M).bind fun x M1 => (evE G b σ M1).bind fun y M2 => match itemsL M2 x, itemsL M2 y with
      | some p, some q => .ok ((p.1.zip q.1).map fun r => .tup [r.1, r.2], p.2 ++ q.2) M2
      | _, _ => .bad := by first | (rw [evIt]; done) | (rw [evIt]; rfl)
@[simp] theorem ei_range2 {G : Sg} {σ : Lo} {M : Hh} (a b : E) : evIt G (.range2 a b) σ M = (evE G a σ M).bind fun x M1 => (evE G b σ M1).bind fun y M2 => match x, y with
      | .int i, .int j => if rOk i && rOk j then .ok (rangeL i (j - i).toNat, []) M2 else .bad
      | _, _ => .bad := by first | (rw [evIt]; done) | (rw [evIt]; rfl)
@[simp] theorem ei_range3 {G : Sg} {σ : Lo} {M : Hh} (a b c : E) : evIt G (.range3 a b c) σ M = (evE G a σ M).bind fun x M1 => (evE G b σ M1).bind fun y M2 => (evE G c σ M2).bind fun z M3 => match x, y, z with
      | .int i, .int j, .int k => if rOk i && rOk j && decide (k = -1) then .ok (rangeN i (i - j).toNat, []) M3 else .bad
      | _, _, _ => .bad := by first | (rw [evIt]; done) | (rw [evIt]; rfl)
theorem iteT {p q : Prop} : (if True then p else q) = p := if_pos trivial
end Mi
end
section
set_option Elab.async false
set_option linter.all false
set_option maxRecDepth 100000
/-! C1: states and companies by the pen (634, 635). -/
namespace Mi
open PySem L2
theorem PBook.nm {bk : Bk} {ws ks : List Str} (hb : PBook bk ws ks) : (bk.kinds.map Knd.nm).Nodup := by rw [hb.kn]; exact hb.knd
theorem PBook.klen {bk : Bk} {ws ks : List Str} (hb : PBook bk ws ks) : bk.kinds.length ≤ 12 := by have h := congrArg List.length hb.kn; simp at h; have := hb.kl; omega
/-- one more effect at the end -/
theorem StOk.more {ks : List Knd} (hnd : (ks.map Knd.nm).Nodup) {es : List Ef} (h : StOk ks es) {k : Knd} (hk : k ∈ ks) (hc : (cntE es k.nm : Int) < k.most) {w : Int} (hw : worthI w) {o : Option Int} (ho : leftOk k.lasts o) : StOk ks (es ++ [⟨k.nm, w, o⟩]) := by
  constructor
  · intro e he
    rcases List.mem_append.mp he with h1 | h1
    · exact h.1 e h1
    · rw [List.mem_singleton.mp h1]; exact ⟨k, hk, rfl, hw, ho⟩
  · intro j hj
    have e1 : cntE (es ++ [⟨k.nm, w, o⟩]) j.nm = cntE es j.nm + if k.nm = j.nm then 1 else 0 := by
      unfold cntE
      rw [List.filter_append, List.length_append]
      by_cases h2 : k.nm = j.nm <;> simp [h2]
    rw [e1]
    by_cases h2 : k.nm = j.nm
    · have : j = k := by
        have e1 := kOf_mem hnd hj
        have e2 := kOf_mem hnd hk
        rw [h2, e1] at e2
        exact Option.some.inj e2
      subst this
      simp; omega
    · have := h.2 j hj
      simp [h2]; omega
theorem ixK {bk : Bk} {v : Int} (h0 : 0 ≤ v) (h1 : v < bk.kinds.length) : ∃ k ∈ bk.kinds, ∀ M, ixD (.tup (bk.kinds.map Knd.d)) (.int v) M = .ok k.d M := by
  have hlt : v.toNat < bk.kinds.length := by omega
  refine ⟨bk.kinds[v.toNat], List.getElem_mem hlt, fun M => ?_⟩
  simp [ixD, L2.ixN, h0, h1, hlt]
end Mi
end
section
set_option Elab.async false
set_option linter.all false
set_option maxRecDepth 100000
/-! C2: companies by the pen (635). -/
namespace Mi
open PySem L2
def oS : Option Str → D
  | none => .non
  | some i => .str i
@[simp] theorem oS_plain (o : Option Str) : (oS o).plain = true := by cases o <;> simp [oS]
@[simp] theorem oS_depth (o : Option Str) : (oS o).depth = 0 := by cases o <;> simp [oS]
structure Sh where
  nm : Str
  ab : Option Str
  st : List Ef
def Sh.d (s : Sh) : D := .tup [.str s.nm, oS s.ab, stD s.st]
@[simp] theorem Sh.plain (k : Sh) : k.d.plain = true := by simp [Sh.d]
theorem depths_map_le {β : Type} (f : β → D) (n : Nat) (h : ∀ x, (f x).depth ≤ n) (xs : List β) : depths (xs.map f) ≤ n := by
  rw [depths_of]
  intro d hd
  obtain ⟨x, _, rfl⟩ := List.mem_map.mp hd
  exact h x
theorem Ef.dep (k : Ef) : k.d.depth ≤ 1 := by simp [Ef.d]
theorem stD_dep (s : List Ef) : (stD s).depth ≤ 2 := by have := depths_map_le Ef.d 1 Ef.dep s; simp [stD]; omega
theorem Sh.dep (k : Sh) : k.d.depth ≤ 3 := by have := stD_dep k.st; simp [Sh.d]; omega
mutual
theorem alike_self : ∀ d : D, d.plain = true → PySem.W.alike d.py d.py = true
  | .non, _ => by simp [D.py, PySem.W.alike] | .bl _, _ => by simp [D.py, PySem.W.alike] | .int _, _ => by simp [D.py, PySem.W.alike] | .str _, _ => by simp [D.py, PySem.W.alike]
  | .tup ds, h => by rw [D.plain] at h; rw [D.py, PySem.W.alike]; exact alike_selfs ds h
  | .lst ds, h => by rw [D.plain] at h; rw [D.py, PySem.W.alike]; exact alike_selfs ds h
  | .dict _, h => by rw [D.plain] at h; cases h
  | .inst _ _, h => by rw [D.plain] at h; cases h
  | .fn _, h => by rw [D.plain] at h; cases h
  | .scr _, h => by rw [D.plain] at h; cases h
  | .ref _, h => by rw [D.plain] at h; cases h
theorem alike_selfs : ∀ ds : List D, plains ds = true → PySem.W.alikeAll (pys ds) (pys ds) = true
  | [], _ => by simp [pys, PySem.W.alikeAll]
  | d :: ds, h => by
    rw [plains, Bool.and_eq_true] at h
    rw [pys, PySem.W.alikeAll, alike_self d h.1, alike_selfs ds h.2]; rfl
end
noncomputable def sortSh (xs : List Sh) : List Sh := xs.mergeSort fun a b => leS a.nm b.nm
theorem sortSh_perm (xs : List Sh) : (sortSh xs).Perm xs := List.mergeSort_perm xs _
theorem sortSh_mem {xs : List Sh} {x : Sh} : x ∈ sortSh xs ↔ x ∈ xs := (sortSh_perm xs).mem_iff
theorem sortSh_rise (xs : List Sh) : (sortSh xs).Pairwise fun a b => leS a.nm b.nm = true := List.pairwise_mergeSort (le := fun a b : Sh => leS a.nm b.nm) (fun a b c h1 h2 => leS_trans _ _ _ h1 h2) (fun a b => leS_total _ _) xs
theorem Sh.py (s : Sh) : s.d.py = .tuple (.str s.nm :: pys [oS s.ab, stD s.st]) := by simp [Sh.d, D.py, pys]
theorem same_nm {xs : List Sh} (hnd : (xs.map Sh.nm).Nodup) : ∀ {a b : Sh}, a ∈ xs → b ∈ xs → a.nm = b.nm → a = b := by
  induction xs with
  | nil => intro a b h; cases h
  | cons x xs ih =>
    rw [List.map_cons, List.nodup_cons] at hnd
    intro a b ha hb e
    obtain ⟨hn1, hn2⟩ := hnd
    rcases List.mem_cons.mp ha with ha | ha <;> rcases List.mem_cons.mp hb with hb | hb
    · rw [ha, hb]
    · exact absurd (List.mem_map.mpr ⟨b, hb, by rw [← e, ha]⟩) hn1
    · exact absurd (List.mem_map.mpr ⟨a, ha, by rw [e, hb]⟩) hn1
    · exact ih hn2 ha hb e
theorem sort_sh {xs : List Sh} (hnd : (xs.map Sh.nm).Nodup) (m : Bool) (M : Hh) : b1D m .sorted (.lst (xs.map Sh.d)) M = alloc m ((sortSh xs).map Sh.d) M := by
  have e : sortD (xs.map Sh.d) = (sortSh xs).map Sh.d := by
    unfold sortD sortSh
    refine (List.map_mergeSort fun a ha b hb => ?_).symm
    rw [PySem.W.dataLe_eq]
    show leS a.nm b.nm = !PySem.W.dataLt b.d.py a.d.py
    by_cases h : a.nm = b.nm
    · obtain rfl := same_nm hnd ha hb h
      have h1 : PySem.W.dataLt a.d.py a.d.py = false := PyProof.Rows.lex_irrefl _
      rw [h1]
      simp [leS]
    · rw [a.py, b.py, PySem.W.dataLt_tuple, PySem.W.dataLt_cons (by simp [PySem.W.alike]), if_neg (by simp [PyData.eqv]; exact fun e => h e.symm), PySem.W.dataLt_str, PySem.W.not_lt_str]
      rfl
  have c : CanSort (xs.map Sh.d) := by
    refine ⟨plains_map Sh.d Sh.plain xs, .inr ⟨?_, ?_⟩, Nat.le_trans (depths_map_le Sh.d 3 Sh.dep xs) (by omega)⟩
    · intro d hd d' hd'
      simp only [List.map_map, List.mem_map, Function.comp] at hd hd'
      obtain ⟨a, ha, rfl⟩ := hd
      obtain ⟨b, hb, rfl⟩ := hd'
      by_cases h : a.nm = b.nm
      · obtain rfl := same_nm hnd ha hb h
        exact .inl (alike_self _ (Sh.plain a))
      · exact .inr ⟨a.nm, _, b.nm, _, a.py, b.py, h⟩
    · intro d hd
      simp only [List.map_map, List.mem_map, Function.comp] at hd
      obtain ⟨a, ha, rfl⟩ := hd
      exact ⟨a.nm, _, a.py⟩
  have : b1D m .sorted (.lst (xs.map Sh.d)) M = alloc m (sortD (xs.map Sh.d)) M := by
    unfold b1D
    simp only [der_D_lst]
    exact if_pos c
  rw [this, e]
theorem sort_sh_at {xs : List Sh} (hnd : (xs.map Sh.nm).Nodup) {M : Hh} {L : Nat} (h : M.length = L) : b1D false .sorted (.ref L) (M ++ [.lst (xs.map Sh.d)]) = .ok (.lst ((sortSh xs).map Sh.d)) (M ++ [.lst (xs.map Sh.d)]) := by
  have := sort_sh hnd false (M ++ [.lst (xs.map Sh.d)])
  unfold b1D at this ⊢
  rw [der_at h]
  simpa using this
/-- a company as it is drawn -/
structure Comp (bk : Bk) (co : List Sh) : Prop where
  len : co.length ≤ 8
  nm8 : ∀ s ∈ co, N8 s.nm
  st : ∀ s ∈ co, StOk bk.kinds s.st ∧ s.st.length ≤ 48
  nd : (co.map Sh.nm).Nodup
  rise : co.Pairwise fun a b => leS a.nm b.nm = true
  rk : ∃ rk : Str → Nat, (∀ x, rk x ≤ co.length) ∧ ∀ s ∈ co, ∀ a, s.ab = some a → (∃ t ∈ co, t.nm = a) ∧ rk a < rk s.nm
end Mi
end
section
set_option Elab.async false
set_option linter.all false
set_option maxRecDepth 100000
/-! Dk: dicts by their keys. -/
namespace Mi
open PySem L2
theorem eq_of {r : R D} {v : D} {M : Hh} (h : WR r fun d M' => d = v ∧ M' = M) : r = .ok v M := by
  obtain ⟨d, M', e, rfl, rfl⟩ := WR_eq h
  exact e
section
variable {β : Type} {f : β → Str} {g : β → D}
def dkv (f : β → Str) (g : β → D) (xs : List β) : List (D × D) := xs.map fun x => (.str (f x), g x)
theorem look_dkv (xs : List β) (x : Str) : lookD (dkv f g xs) (.str x) = (xs.find? fun y => decide (f y = x)).map g := by
  unfold lookD dkv
  induction xs with
  | nil => rfl
  | cons k ks ih =>
    simp only [List.map_cons, List.find?_cons, eqv_strs]
    by_cases h : f k = x
    · simp [h]
    · simp only [decide_eq_false h]
      exact ih
theorem find_dkv : ∀ {xs : List β}, (xs.map f).Nodup → ∀ {k : β}, k ∈ xs → xs.find? (fun y => decide (f y = f k)) = some k
  | [], _, _, h => by cases h
  | j :: ks, hn, k, h => by
    rw [List.map_cons, List.nodup_cons] at hn
    rw [List.find?_cons]
    rcases List.mem_cons.mp h with rfl | h
    · simp
    · have : f j ≠ f k := fun e => hn.1 (e ▸ List.mem_map.mpr ⟨k, h, rfl⟩)
      simp only [decide_eq_false this]
      exact find_dkv hn.2 h
theorem at_dkv {xs : List β} (hn : (xs.map f).Nodup) {k : β} (h : k ∈ xs) (M : Hh) : ixD (.dict (dkv f g xs)) (.str (f k)) M = .ok (g k) M := by
  simp [ixD, isKey, look_dkv, find_dkv hn h]
theorem pairs_dkv (xs : List β) : pairsIn (xs.map fun x => .tup [.str (f x), g x]) = some (dkv f g xs) := by
  induction xs with
  | nil => rfl
  | cons x xs ih => simp [pairsIn, isKey, ih, dkv]
theorem merge_dkv : ∀ (xs acc : List β), ((acc ++ xs).map f).Nodup → mergeD (dkv f g acc) (dkv f g xs) = dkv f g (acc ++ xs)
  | [], acc, _ => by simp [dkv, mergeD]
  | x :: xs, acc, h => by
    have hni : f x ∉ acc.map f := fun hm => by
      rw [List.map_append, List.nodup_append] at h
      exact h.2.2 _ hm _ (by simp) rfl
    have e : putD (dkv f g acc) (.str (f x)) (g x) = dkv f g (acc ++ [x]) := by
      unfold putD dkv
      rw [if_neg]
      · simp
      · simp only [List.any_eq_true, not_exists, not_and]
        intro p hp
        obtain ⟨j, hj, rfl⟩ := List.mem_map.mp hp
        simp only [eqv_strs, decide_eq_true_eq]
        intro e
        exact hni (List.mem_map.mpr ⟨j, hj, e⟩)
    have := merge_dkv xs (acc ++ [x]) (by simpa using h)
    show mergeD (putD (dkv f g acc) (.str (f x)) (g x)) (dkv f g xs) = _
    rw [e, this]; simp
theorem dict_dkv {xs : List β} (h : (xs.map f).Nodup) (M : Hh) : b1D false .dict (.lst (xs.map fun x => .tup [.str (f x), g x])) M = .ok (.dict (dkv f g xs)) M := by
  have := merge_dkv (g := g) xs [] (by simpa using h)
  simp only [b1D, der_D_lst, pairs_dkv]
  show allocD false (mergeD (dkv f g []) (dkv f g xs)) M = _
  rw [this]; rfl
theorem still_dkv (hg : ∀ x, (g x).still = true) (xs : List β) : (D.dict (dkv f g xs)).still = true := by
  rw [D.still]
  induction xs with
  | nil => simp [dkv, stillK]
  | cons x xs ih => unfold dkv at ih ⊢; rw [List.map_cons, stillK, hg, ih]; rfl
theorem in_dkv (xs : List β) (x : Str) (M : Hh) : cmpD .isin (.str x) (.dict (dkv f g xs)) M = .ok (.bl (decide (x ∈ xs.map f))) M := by
  have : ((xs.find? fun y => decide (f y = x)).map g).isSome = decide (x ∈ xs.map f) := by
    rw [Bool.eq_iff_iff]
    simp
  simp [cmpD, inD, isKey, look_dkv]
  simpa using this
theorem put_dkv {acc : List β} {x : β} (h : f x ∉ acc.map f) : putD (dkv f g acc) (.str (f x)) (g x) = dkv f g (acc ++ [x]) := by
  unfold putD dkv
  rw [if_neg]
  · simp
  · simp only [List.any_eq_true, not_exists, not_and]
    intro p hp
    obtain ⟨j, hj, rfl⟩ := List.mem_map.mp hp
    simp only [eqv_strs, decide_eq_true_eq]
    intro e
    exact h (List.mem_map.mpr ⟨j, hj, e⟩)
end
theorem ixLr {r : Nat} {M : Hh} {ds : List D} (h : M[r]? = some (.lst ds)) {k : Nat} {v : D} (hk : ds[k]? = some v) : ixD (.ref r) (.int k) M = .ok v M := by
  have hl : k < ds.length := (List.getElem?_eq_some_iff.mp hk).1
  simp [ixD, der_refL h, L2.ixN, hl]
  rw [List.getElem?_eq_getElem hl] at hk
  rw [Option.some.inj hk]
theorem der_refD {r : Nat} {M : Hh} {kvs : List (D × D)} (h : M[r]? = some (.dict kvs)) : der M (.ref r) = .dict kvs := by
  simp [der, h]
theorem ixR {r : Nat} {M : Hh} {β : Type} {f : β → Str} {g : β → D} {xs : List β} (h : M[r]? = some (.dict (dkv f g xs))) (hn : (xs.map f).Nodup) {k : β} (hk : k ∈ xs) : ixD (.ref r) (.str (f k)) M = .ok (g k) M := by
  have := at_dkv (g := g) hn hk M
  simp only [ixD, der_refD h]
  simpa only [ixD, der] using this
end Mi
end
section
set_option Elab.async false
set_option linter.all false
set_option maxRecDepth 100000
/-! C3: dicts by texts; lines of sheets (317 to 321, 645). -/
namespace Mi
open PySem L2
/-! ### lines -/
def abKv (co : List Sh) : D := .dict (dkv Sh.nm (fun s => oS s.ab) co)
/-- the sheets from the outermost one down to one -/
inductive Line (co : List Sh) : Str → List Str → Prop
  | top {s : Sh} (h : s ∈ co) (e : s.ab = none) : Line co s.nm [s.nm]
  | more {s : Sh} {a : Str} {l : List Str} (h : s ∈ co) (e : s.ab = some a) (k : Line co a l) : Line co s.nm (l ++ [s.nm])
theorem Line.in_ {co : List Sh} {x : Str} {l : List Str} (h : Line co x l) : ∀ y ∈ l, ∃ s ∈ co, s.nm = y := by
  induction h with
  | top h e => intro y hy; rw [List.mem_singleton.mp hy]; exact ⟨_, h, rfl⟩
  | more h e k ih =>
    intro y hy
    rcases List.mem_append.mp hy with h1 | h1
    · exact ih y h1
    · rw [List.mem_singleton.mp h1]; exact ⟨_, h, rfl⟩
theorem Line.pos {co : List Sh} {x : Str} {l : List Str} (h : Line co x l) : l ≠ [] := by cases h <;> simp
theorem Line.len {co : List Sh} {x : Str} {l : List Str} (h : Line co x l) {rk : Str → Nat} (hr : ∀ s ∈ co, ∀ a, s.ab = some a → (∃ t ∈ co, t.nm = a) ∧ rk a < rk s.nm) : l.length ≤ rk x + 1 := by
  induction h with
  | top h e => simp
  | more h e k ih => have := (hr _ h _ e).2; simp; omega
theorem line_ex {bk : Bk} {co : List Sh} (hc : Comp bk co) : ∀ s ∈ co, ∃ l, Line co s.nm l := by
  obtain ⟨rk, _, hr⟩ := hc.rk
  have : ∀ (n : Nat) (s : Sh), s ∈ co → rk s.nm ≤ n → ∃ l, Line co s.nm l := by
    intro n
    induction n with
    | zero =>
      intro s hs hn
      cases e : s.ab with
      | none => exact ⟨_, .top hs e⟩
      | some a => have := (hr s hs a e).2; omega
    | succ n ih =>
      intro s hs hn
      cases e : s.ab with
      | none => exact ⟨_, .top hs e⟩
      | some a =>
        obtain ⟨⟨t, ht, rfl⟩, h2⟩ := hr s hs a e
        obtain ⟨l, hl⟩ := ih t ht (by omega)
        exact ⟨_, .more hs e hl⟩
  exact fun s hs => this _ s hs (Nat.le_refl _)
theorem insert0 {M : Hh} {L : Nat} (h : M.length = L) {acc : List D} {x : D} (hz : acc.length < 16777216) : bmD .linsert (.ref L) [.int 0, x] (M ++ [.lst acc]) = .ok .non (M ++ [.lst (x :: acc)]) := by
  have := insert_at h (x := x) (v := 0) hz (by decide) (by decide)
  simpa using this
def LnJ (co : List Sh) (l : List Str) (σ0 : Lo) (M : Hh) (m : Nat) (σ : Lo) (M' : Hh) : Prop := ∃ h l1 tail, Line co h l1 ∧ l = l1 ++ tail ∧ m + 1 = l1.length ∧ σ = σ0 ∧ M' = M ++ [.lst (.str h :: tail.map .str)]
end Mi
end
section
set_option Elab.async false
set_option linter.all false
set_option maxRecDepth 100000
/-! C4: one state (319 to 321, 645), are_same (646). -/
namespace Mi
open PySem L2
theorem low_key {x : Str} (h : N8 x) : keyOk (.str x) = true := by
  have h1 := h.2
  have h2 := h.1.2
  simp only [keyOk, Bool.and_eq_true, decide_eq_true_eq]
  constructor
  · unfold PyData.strOk
    rw [Array.all_eq_true']
    intro c hc
    have := h2 c (by simpa using hc)
    simp
    omega
  · have : (8 : Nat) ≤ sizeLine := by decide
    omega
theorem PBook.ksok {bk : Bk} {ws ks : List Str} (hb : PBook bk ws ks) : KsOk bk.kinds where
  len := by have := hb.klen; omega
  nd := hb.nm
  key := fun k hk => low_key (hb.k8 _ (by rw [← hb.kn]; exact List.mem_map.mpr ⟨k, hk, rfl⟩))
  bars := fun k hk => by have := (hb.kp k hk).barsl; have := hb.kl; omega
def belowB (ks : List Knd) (e : Ef) : Bool := match kOf ks e.kind with | some k => decide (k.reach = "below") | none => false
def below (ks : List Knd) (st : List Ef) : List Ef := st.filter (belowB ks)
theorem EfOk.at_ {ks : List Knd} (hnd : (ks.map Knd.nm).Nodup) {e : Ef} (h : EfOk ks e) : ∃ k ∈ ks, e.kind = k.nm ∧ kOf ks e.kind = some k := by
  obtain ⟨k, hk, e1, _⟩ := h
  exact ⟨k, hk, e1, by rw [e1]; exact kOf_mem hnd hk⟩
def belowD (ks : List Knd) (d : D) : Bool := match d with | .tup (.str x :: _) => (match kOf ks x with | some k => decide (k.reach = "below") | none => false) | _ => false
theorem kd5 (k : Knd) (M : Hh) : ixD k.d (.int 5) M = .ok (.str k.reach) M := ixT (v := 5) rfl M
theorem kix {ks : List Knd} {x : Str} {k : Knd} (h : kOf ks x = some k) (M : Hh) : ixD (.dict (kdict ks)) (.str x) M = .ok k.inst M := by
  have lk : lookD (kdict ks) (.str x) = some k.inst := by rw [lookK, h]; rfl
  simp [ixD, isKey, lk]
theorem der_kinst (k : Knd) (M : Hh) : der M k.inst = .inst 10 [(0, .str k.nm), (1, .int k.wt), (2, oI k.lasts), (3, .int k.most), (4, .bl k.fresh), (5, .str k.reach), (6, .tup (k.bars.map .str)), (7, .tup (k.deeds.map Deed.d))] := rfl
theorem filt_below (ks : List Knd) (st : List Ef) : (st.map Ef.d).filter (belowD ks) = (below ks st).map Ef.d := by
  unfold below
  rw [List.filter_map]
  rfl
theorem cut_m1 (ds : List D) : cut ds none (some (-1)) = ds.dropLast := by
  simp [cut, Mi.sIx, HT.sIx, List.dropLast_eq_take]
  congr 1
  omega
theorem ix_m1 {ds : List D} {d : D} (M : Hh) : ixD (.lst (ds ++ [d])) (.int (-1)) M = .ok d M := by
  have h : ixN (ds ++ [d]).length (-1) = some ds.length := by
    simp [L2.ixN]
    omega
  simp only [ixD, der_D_lst, h]
  simp
def stKv (co : List Sh) : D := .dict (dkv Sh.nm (fun s => stD s.st) co)
def stOf (co : List Sh) (x : Str) : List Ef := match co.find? (fun s => decide (s.nm = x)) with | some s => s.st | none => []
theorem stOf_at {co : List Sh} (hn : (co.map Sh.nm).Nodup) {s : Sh} (h : s ∈ co) : stOf co s.nm = s.st := by
  unfold stOf; rw [find_dkv hn h]
def onSt (bk : Bk) (co : List Sh) (pre : List Str) : List Ef := pre.flatMap fun y => below bk.kinds (stOf co y)
theorem below_len (ks : List Knd) (st : List Ef) : (below ks st).length ≤ st.length := List.length_filter_le _ _
theorem onSt_len {bk : Bk} {co : List Sh} (hc : Comp bk co) : ∀ pre : List Str, (∀ y ∈ pre, ∃ s ∈ co, s.nm = y) → (onSt bk co pre).length ≤ 48 * pre.length
  | [], _ => by simp [onSt]
  | y :: pre, h => by
    have ih := onSt_len hc pre fun z hz => h z (List.mem_cons_of_mem _ hz)
    obtain ⟨s, hs, rfl⟩ := h y (by simp)
    have h1 := below_len bk.kinds (stOf co s.nm)
    rw [stOf_at hc.nd hs] at h1
    have h2 := (hc.st s hs).2
    unfold onSt at ih ⊢
    rw [List.flatMap_cons, List.length_append, List.length_cons, stOf_at hc.nd hs]
    omega
theorem add_st (m : Bool) {a b : List Ef} (h : a.length + b.length ≤ 16777216) (M : Hh) : binD m .add (stD a) (stD b) M = .ok (stD (a ++ b)) M := by
  simp [binD, addD, stD, h]
end Mi
end
section
set_option Elab.async false
set_option linter.all false
set_option maxRecDepth 100000
/-! C5: one_state (319, 645), names_in (233), are_same (646), the law's state_on (647). -/
namespace Mi
open PySem L2
theorem Line.form {co : List Sh} {x : Str} {l : List Str} (h : Line co x l) : ∃ pre, l = pre ++ [x] := by
  cases h with
  | top h e => exact ⟨[], rfl⟩
  | more h e k => exact ⟨_, rfl⟩
theorem sh0 (s : Sh) (M : Hh) : ixD s.d (.int 0) M = .ok (.str s.nm) M := ixT (v := 0) rfl M
theorem sh1 (s : Sh) (M : Hh) : ixD s.d (.int 1) M = .ok (oS s.ab) M := ixT (v := 1) rfl M
theorem sh2 (s : Sh) (M : Hh) : ixD s.d (.int 2) M = .ok (stD s.st) M := ixT (v := 2) rfl M
/-! ### are_same of a thing and itself -/
theorem zip_self (ds : List D) : (ds.zip ds).map (fun r => D.tup [r.1, r.2]) = ds.map fun d => .tup [d, d] := by
  induction ds with
  | nil => rfl
  | cons d ds ih => simp [ih]
mutual
/-- all lists within are short -/
def shortB : D → Bool
  | .tup ds => decide (ds.length ≤ 100000) && shortBs ds
  | .lst ds => decide (ds.length ≤ 100000) && shortBs ds
  | _ => true
def shortBs : List D → Bool
  | [] => true
  | d :: ds => shortB d && shortBs ds
end
theorem shortBs_of {ds : List D} : shortBs ds = true ↔ ∀ d ∈ ds, shortB d = true := by
  induction ds with
  | nil => simp [shortBs]
  | cons d ds ih => simp [shortBs, ih]
theorem all_true : ∀ (ds : List D), boolsOf (ds.map fun _ => D.bl true) = some (ds.map fun _ => true)
  | [] => rfl
  | d :: ds => by rw [List.map_cons, boolsOf, all_true ds]; rfl
/-! ### the law's state_on (647) -/
def LsJ (bk : Bk) (co : List Sh) (x : Str) (pre : List Str) (σ0 : D → D → Lo) (M : Hh) (m : Nat) (σ : Lo) (M' : Hh) : Prop :=
  ∃ l1 tail nd, pre = l1 ++ tail ∧ m = l1.length ∧ ((l1 = [] ∧ nd = .non) ∨ ∃ h, Line co h l1 ∧ nd = .str h) ∧ σ = σ0 nd (stD (onSt bk co tail ++ stOf co x)) ∧ M' = M
end Mi
end
section
set_option Elab.async false
set_option linter.all false
set_option maxRecDepth 100000
/-! C6: acts, happenings (63, 66, 68 to 72; 677, 678). -/
namespace Mi
open PySem L2
theorem kind_of_sp {N : Nat} (hN : 4 ≤ N) (M : Hh) {bk : Bk} {x : Str} {k : Knd} (h : kOf bk.kinds x = some k) : back false M (callF GP N 63 [bk.d, .str x] M) = .ok k.inst M := by
  refine eq_of (back_p (call_w (by omega) g63 rfl ?_))
  dsimp only [F63, b63]
  simp [-Mi.es_for, Mi.WR_ok, Mi.WR_bind, Mi.WR_ite, Mi.WS_ite, Mi.WS_nx, Mi.WS_rt, Mi.WS_then, Mi.WS_st, Mi.WR_endF, Mi.WS_for, Mi.WS_while, Mi.WR_bad, Mi.WS_bad, Mi.WR_bno, Mi.WS_stX, bk1, itemsOf]
  refine for_ts (fun pre M' => M' = M ∧ ∀ k ∈ pre, k.nm ≠ x) ⟨rfl, fun k h => by cases h⟩ (fun _ _ _ => locked_nil _) ?_ ?_
  · rintro pre j post M' hxs ⟨hM, hp⟩
    subst hM
    by_cases hx : j.nm = x
    · have mk := mk_sp (N := N - 1) (by omega) M' j
      have hj : kOf bk.kinds x = some j := by
        unfold kOf
        rw [hxs, List.find?_append, List.find?_eq_none.mpr fun k hk => by simpa using hp k hk]
        simp [hx]
      rw [h] at hj
      cases hj
      simp [-Mi.es_for, Mi.WR_ok, Mi.WR_bind, Mi.WR_ite, Mi.WS_ite, Mi.WS_nx, Mi.WS_rt, Mi.WS_then, Mi.WS_st, Mi.WR_endF, Mi.WS_for, Mi.WS_while, Mi.WR_bad, Mi.WS_bad, Mi.WR_bno, Mi.WS_stX, kd0, ceqs, hx, mk]
    · simp [-Mi.es_for, Mi.WR_ok, Mi.WR_bind, Mi.WR_ite, Mi.WS_ite, Mi.WS_nx, Mi.WS_rt, Mi.WS_then, Mi.WS_st, Mi.WR_endF, Mi.WS_for, Mi.WS_while, Mi.WR_bad, Mi.WS_bad, Mi.WR_bno, Mi.WS_stX, kd0, ceqs, hx]
      intro k hk
      rcases hk with hk | rfl
      · exact hp k hk
      · exact hx
  · rintro M' ⟨rfl, hp⟩
    obtain ⟨h1, h2⟩ := kOf_some h
    exact absurd h2 (hp k h1)
/-! ### typed -/
def rmFirst (x : Str) : List Ef → List Ef
  | [] => []
  | e :: r => if e.kind = x then r else e :: rmFirst x r
def bringT (st : List Ef) (k : Knd) (n : Int) : List Ef :=
  if (cntE st k.nm : Int) < k.most then st ++ [⟨k.nm, n, k.lasts⟩] else if k.fresh then rmFirst k.nm st ++ [⟨k.nm, n, k.lasts⟩] else st
def passE (n : Int) (e : Ef) : Option Ef := match e.left with
  | none => some e
  | some l => if n < l then some ⟨e.kind, e.given, some (l - n)⟩ else none
def passT (st : List Ef) (n : Int) : List Ef := st.filterMap (passE n)
def finT (st : List Ef) (x : Str) : List Ef := st.filter fun e => !decide (e.kind = x)
def actT (ks : List Knd) (st : List Ef) : Act → List Ef
  | .bring x n => (match kOf ks x with | some k => bringT st k n | none => st)
  | .fin x => finT st x
  | .pass n => passT st n
theorem rm_len (x : Str) : ∀ st : List Ef, (rmFirst x st).length ≤ st.length
  | [] => by simp [rmFirst]
  | e :: r => by
    have := rm_len x r
    simp only [rmFirst]; split <;> simp <;> omega
theorem rm_idx {x : Str} : ∀ {st : List Ef} {j : Nat}, st.findIdx? (fun e => decide (e.kind = x)) = some j → st.take j ++ st.drop (j + 1) = rmFirst x st
  | [], j, h => by simp at h
  | e :: r, j, h => by
    rw [List.findIdx?_cons] at h
    by_cases hx : e.kind = x
    · simp [hx] at h
      subst h
      simp [rmFirst, hx]
    · simp only [decide_eq_false hx, Bool.false_eq_true, if_false] at h
      obtain ⟨i, hi, rfl⟩ := Option.map_eq_some_iff.mp h
      simp [rmFirst, hx, rm_idx hi]
theorem cnt_idx {x : Str} {st : List Ef} (h : 0 < cntE st x) : ∃ j, st.findIdx? (fun e => decide (e.kind = x)) = some j ∧ j < st.length := by
  cases e : st.findIdx? (fun e => decide (e.kind = x)) with
  | none =>
    rw [List.findIdx?_eq_none_iff] at e
    unfold cntE at h
    rw [List.filter_eq_nil_iff.mpr fun a ha => by simpa using e a ha] at h
    simp at h
  | some j => exact ⟨j, rfl, (List.findIdx?_eq_some_iff_findIdx_eq.mp e).1⟩
theorem sliT_to (m : Bool) (st : List Ef) (j : Nat) (M : Hh) : sliceD m (stD st) none (some (j : Int)) M = .ok (stD (st.take j)) M := by
  simp only [stD, sliceD, der_D_tup]
  rw [cut_to _ (by omega)]
  simp
theorem sliT_from (m : Bool) (st : List Ef) (j : Nat) (M : Hh) : sliceD m (stD st) (some (j : Int)) none M = .ok (stD (st.drop j)) M := by
  simp only [stD, sliceD, der_D_tup]
  rw [cut_from _ (by omega)]
  simp
theorem without_sp {N : Nat} (hN : 1 ≤ N) (M : Hh) {st : List Ef} {x : Str} (hc : 0 < cntE st x) (hl : st.length ≤ 100000) : back false M (callF GP N 68 [stD st, .str x] M) = .ok (stD (rmFirst x st)) M := by
  refine eq_of (back_p (call_w (by omega) g68 rfl ?_))
  obtain ⟨j, hj, hjl⟩ := cnt_idx hc
  have hz : st.length ≤ 16777216 := by omega
  have hi : bmD .lindex (.lst (st.map fun e => .str e.kind)) [.str x] M = .ok (.int j) M := by
    have e : (st.map fun e => (.str e.kind : D)).findIdx? (fun d => d.eqv (.str x)) = some j := by
      rw [List.findIdx?_map, ← hj]
      congr 1
    have d0 : depths (st.map fun e => (.str e.kind : D)) ≤ 0 := depths_map_le _ 0 (fun e => by simp) st
    have p0 : plains (st.map fun e => (.str e.kind : D)) = true := plains_map _ (fun e => by simp) st
    simp only [bmD, der_D_lst, e, p0]
    simp
    try omega
  have a1 := sliT_to false st j M
  have a2 : sliceD false (stD st) (some ((j : Int) + 1)) none M = _ := sliT_from false st (j + 1) M
  have ad := add_st false (a := st.take j) (b := st.drop (j + 1)) (by simp; omega) M
  rw [rm_idx hj] at ad
  have j1 : binD false .add (.int j) (.int 1) M = .ok (.int ((j : Int) + 1)) M := by simp [binD, addD]
  dsimp only [F68, b68]
  simp [-Mi.es_for, Mi.WR_ok, Mi.WR_bind, Mi.WR_ite, Mi.WS_ite, Mi.WS_nx, Mi.WS_rt, Mi.WS_then, Mi.WS_st, Mi.WR_endF, Mi.WS_for, Mi.WS_while, Mi.WR_bad, Mi.WS_bad, Mi.WR_bno, Mi.WS_stX, stD, itemsOf, hz]
  refine lc_tm (fun e => .str e.kind) (locked_nil _) (fun e he => ⟨_, rfl, by simp, by simp [ef0]⟩) ?_
  have st_ : ∀ st : List Ef, D.tup (st.map Ef.d) = stD st := fun _ => rfl
  simp [-Mi.es_for, Mi.WR_ok, Mi.WR_bind, Mi.WR_ite, Mi.WS_ite, Mi.WS_nx, Mi.WS_rt, Mi.WS_then, Mi.WS_st, Mi.WR_endF, Mi.WS_for, Mi.WS_while, Mi.WR_bad, Mi.WS_bad, Mi.WR_bno, Mi.WS_stX, bmTy, hi, optInt, j1, st_, a1, a2, ad]
  exact plain_still _ (stD_plain _)
theorem brought_sp {N : Nat} (hN : 5 ≤ N) (M : Hh) {bk : Bk} {x : Str} {k : Knd} (h : kOf bk.kinds x = some k) (hm : 1 ≤ k.most) {st : List Ef} (hl : st.length ≤ 100000) (n : Int) : back false M (callF GP N 69 [bk.d, stD st, .str x, .int n] M) = .ok (stD (bringT st k n)) M := by
  refine eq_of (back_p (call_w (by omega) g69 rfl ?_))
  obtain ⟨_, rfl⟩ := kOf_some h
  have r1 := kind_of_sp (N := N - 1) (by omega) M h
  have r2 := many_sp (N := N - 1) (by omega) M (st.map Ef.d) k.nm (by simp; omega) fun d hd => by obtain ⟨e, he, rfl⟩ := List.mem_map.mp hd; exact ⟨_, _, rfl⟩
  have hcn : cnt (st.map Ef.d) k.nm = cntE st k.nm := filt_len st k.nm
  rw [hcn, show D.tup (st.map Ef.d) = stD st from rfl] at r2
  have new_ : D.tup [.str k.nm, .int n, oI k.lasts] = (Ef.mk k.nm n k.lasts).d := rfl
  have one_ : D.tup [(Ef.mk k.nm n k.lasts).d] = stD [⟨k.nm, n, k.lasts⟩] := rfl
  have a1 := add_st false (a := st) (b := [⟨k.nm, n, k.lasts⟩]) (by simp; omega) M
  dsimp only [F69, b69]
  by_cases hc : (cntE st k.nm : Int) < k.most
  · simp [-Mi.es_for, Mi.WR_ok, Mi.WR_bind, Mi.WR_ite, Mi.WS_ite, Mi.WS_nx, Mi.WS_rt, Mi.WS_then, Mi.WS_st, Mi.WR_endF, Mi.WS_for, Mi.WS_while, Mi.WR_bad, Mi.WS_bad, Mi.WR_bno, Mi.WS_stX, r1, der_kinst, List.lookup, r2, clt, hc, new_, one_, a1]
    exact ⟨plain_still _ (stD_plain _), by simp [bringT, hc]⟩
  · cases hf : k.fresh with
    | true =>
      have r3 := without_sp (N := N - 1) (by omega) M (st := st) (x := k.nm) (by omega) hl
      have rl := rm_len k.nm st
      have a2 := add_st false (a := rmFirst k.nm st) (b := [⟨k.nm, n, k.lasts⟩]) (by simp; omega) M
      simp [-Mi.es_for, Mi.WR_ok, Mi.WR_bind, Mi.WR_ite, Mi.WS_ite, Mi.WS_nx, Mi.WS_rt, Mi.WS_then, Mi.WS_st, Mi.WR_endF, Mi.WS_for, Mi.WS_while, Mi.WR_bad, Mi.WS_bad, Mi.WR_bno, Mi.WS_stX, r1, der_kinst, List.lookup, r2, clt, hc, new_, one_, hf, r3, a2]
      exact ⟨plain_still _ (stD_plain _), by simp [bringT, hc, hf]⟩
    | false =>
      simp [-Mi.es_for, Mi.WR_ok, Mi.WR_bind, Mi.WR_ite, Mi.WS_ite, Mi.WS_nx, Mi.WS_rt, Mi.WS_then, Mi.WS_st, Mi.WR_endF, Mi.WS_for, Mi.WS_while, Mi.WR_bad, Mi.WS_bad, Mi.WR_bno, Mi.WS_stX, r1, der_kinst, List.lookup, r2, clt, hc, new_, one_, hf]
      exact ⟨plain_still _ (stD_plain _), by simp [bringT, hc, hf]⟩
end Mi
end
section
set_option Elab.async false
set_option linter.all false
set_option maxRecDepth 100000
/-! C7: passed, acted, happened (70 to 72); the law's own (677, 678). -/
namespace Mi
open PySem L2
theorem st_d (st : List Ef) : D.tup (st.map Ef.d) = stD st := rfl
theorem passT_app (st : List Ef) (e : Ef) (n : Int) : passT (st ++ [e]) n = passT st n ++ (match passE n e with | some e' => [e'] | none => []) := by
  unfold passT
  rw [List.filterMap_append]
  congr 1
  simp [List.filterMap_cons]
  cases passE n e <;> rfl
theorem passT_len (st : List Ef) (n : Int) : (passT st n).length ≤ st.length := List.length_filterMap_le _ _
theorem passed_sp {N : Nat} (hN : 1 ≤ N) (M : Hh) {st : List Ef} (hl : st.length ≤ 100000) (n : Int) : back false M (callF GP N 70 [stD st, .int n] M) = .ok (stD (passT st n)) M := by
  have cl : WR (callF GP N 70 [stD st, .int n] M) (fun d M' => d = stD (passT st n) ∧ ∃ X, M' = M ++ X) := by
    refine call_w (by omega) g70 rfl ?_
    dsimp only [F70, b70]
    have it : ∀ M, itemsOf M (stD st) = some (st.map Ef.d, []) := fun M => by rw [stD, itemsOf]
    have lk : ∀ M, lockM (stD st) M = M := fun M => rfl
    simp [-Mi.es_for, Mi.WR_ok, Mi.WR_bind, Mi.WR_ite, Mi.WS_ite, Mi.WS_nx, Mi.WS_rt, Mi.WS_then, Mi.WS_st, Mi.WR_endF, Mi.WS_for, Mi.WS_while, Mi.WR_bad, Mi.WS_bad, Mi.WR_bno, Mi.WS_stX, it, lk]
    refine for_t (fun pre σ M' => σ = [some (stD st), some (.int n), some (.ref M.length), none, none, none] ∧ M' = M ++ [.lst ((passT pre n).map Ef.d)]) ⟨rfl, rfl⟩ (fun _ _ _ _ => locked_nil _) ?_ ?_
    · rintro pre e post _ M' hxs ⟨rfl, hM⟩
      subst hM
      refine ⟨_, rfl, ?_⟩
      have hp := passT_len pre n
      have hz : ((passT pre n).map Ef.d).length < 16777216 := by have := congrArg List.length hxs; simp at this ⊢; omega
      have d0 := der_at (M := M) (L := M.length) rfl ((passT pre n).map Ef.d)
      have pu := fun x => push_at (M := M) (L := M.length) rfl (x := x) hz
      cases hle : e.left with
      | none =>
        have pe : passE n e = some e := by simp [passE, hle]
        rw [passT_app, pe]
        simp [-Mi.es_for, Mi.WR_ok, Mi.WR_bind, Mi.WR_ite, Mi.WS_ite, Mi.WS_nx, Mi.WS_rt, Mi.WS_then, Mi.WS_st, Mi.WR_endF, Mi.WS_for, Mi.WS_while, Mi.WR_bad, Mi.WS_bad, Mi.WR_bno, Mi.WS_stX, hle, oI, isN, d0, bmTy, pu]
        simp [Ef.d, hle, oI]
      | some l =>
        by_cases hnl : n < l
        · have pe : passE n e = some ⟨e.kind, e.given, some (l - n)⟩ := by simp [passE, hle, hnl]
          rw [passT_app, pe]
          simp [-Mi.es_for, Mi.WR_ok, Mi.WR_bind, Mi.WR_ite, Mi.WS_ite, Mi.WS_nx, Mi.WS_rt, Mi.WS_then, Mi.WS_st, Mi.WR_endF, Mi.WS_for, Mi.WS_while, Mi.WR_bad, Mi.WS_bad, Mi.WR_bno, Mi.WS_stX, hle, oI, isN, cgt, hnl, d0, bmTy, binD, pu]
          simp [Ef.d, oI]
        · have pe : passE n e = none := by simp [passE, hle, hnl]
          rw [passT_app, pe]
          simp [-Mi.es_for, Mi.WR_ok, Mi.WR_bind, Mi.WR_ite, Mi.WS_ite, Mi.WS_nx, Mi.WS_rt, Mi.WS_then, Mi.WS_st, Mi.WR_endF, Mi.WS_for, Mi.WS_while, Mi.WR_bad, Mi.WS_bad, Mi.WR_bno, Mi.WS_stX, hle, oI, isN, cgt, hnl]
    · rintro _ _ ⟨rfl, rfl⟩
      simp [-Mi.es_for, Mi.WR_ok, Mi.WR_bind, Mi.WR_ite, Mi.WS_ite, Mi.WS_nx, Mi.WS_rt, Mi.WS_then, Mi.WS_st, Mi.WR_endF, Mi.WS_for, Mi.WS_while, Mi.WR_bad, Mi.WS_bad, Mi.WR_bno, Mi.WS_stX, b1_tuple_at (M := M) (L := M.length) rfl]
      rfl
  obtain ⟨d, M', e, rfl, X, rfl⟩ := WR_eq cl
  rw [e]
  exact still_app (plain_still _ (stD_plain _))
def ActOn (ks : List Knd) : Act → Prop
  | .bring x _ => ∃ k, kOf ks x = some k ∧ 1 ≤ k.most
  | _ => True
theorem ActOn.nm {ks : List Knd} {x : Str} {n : Int} (h : ActOn ks (.bring x n)) : ∃ k, kOf ks k.nm = some k ∧ k.nm = x ∧ 1 ≤ k.most := by
  obtain ⟨k, h1, h2⟩ := h
  exact ⟨k, by rw [(kOf_some h1).2]; exact h1, (kOf_some h1).2, h2⟩
theorem it_st (st : List Ef) (M : Hh) : itemsOf M (stD st) = some (st.map Ef.d, []) := by rw [stD, itemsOf]
theorem lk_st (st : List Ef) (M : Hh) : lockM (stD st) M = M := rfl
theorem acted_sp {N : Nat} (hN : 6 ≤ N) (M : Hh) {bk : Bk} {a : Act} (h : ActOn bk.kinds a) {st : List Ef} (hl : st.length ≤ 100000) : back false M (callF GP N 71 [bk.d, stD st, a.d] M) = .ok (stD (actT bk.kinds st a)) M := by
  refine eq_of (back_p (call_w (by omega) g71 rfl ?_))
  have hz : st.length ≤ 16777216 := by omega
  have q1 : ("end" : Str) ≠ "bring" := by decide
  have q2 : ("pass" : Str) ≠ "bring" := by decide
  have q3 : ("pass" : Str) ≠ "end" := by decide
  dsimp only [F71, b71]
  cases a with
  | bring x n =>
    obtain ⟨k, h1, h2⟩ := id h
    have r := brought_sp (N := N - 1) (by omega) M h1 h2 hl n
    have i0 : ∀ M, ixD (Act.bring x n).d (.int 0) M = .ok (.str "bring") M := fun M => ixT (v := 0) rfl M
    have i1 : ∀ M, ixD (Act.bring x n).d (.int 1) M = .ok (.str x) M := fun M => ixT (v := 1) rfl M
    have i2 : ∀ M, ixD (Act.bring x n).d (.int 2) M = .ok (.int n) M := fun M => ixT (v := 2) rfl M
    simp [-Mi.es_for, Mi.WR_ok, Mi.WR_bind, Mi.WR_ite, Mi.WS_ite, Mi.WS_nx, Mi.WS_rt, Mi.WS_then, Mi.WS_st, Mi.WR_endF, Mi.WS_for, Mi.WS_while, Mi.WR_bad, Mi.WS_bad, Mi.WR_bno, Mi.WS_stX, i0, ceqs, i1, i2, r]
    exact ⟨plain_still _ (stD_plain _), by simp [actT, h1]⟩
  | fin x =>
    have i0 : ∀ M, ixD (Act.fin x).d (.int 0) M = .ok (.str "end") M := fun M => ixT (v := 0) rfl M
    have i1 : ∀ M, ixD (Act.fin x).d (.int 1) M = .ok (.str x) M := fun M => ixT (v := 1) rfl M
    simp [-Mi.es_for, Mi.WR_ok, Mi.WR_bind, Mi.WR_ite, Mi.WS_ite, Mi.WS_nx, Mi.WS_rt, Mi.WS_then, Mi.WS_st, Mi.WR_endF, Mi.WS_for, Mi.WS_while, Mi.WR_bad, Mi.WS_bad, Mi.WR_bno, Mi.WS_stX, i0, ceqs, q1, i1, it_st, lk_st, hz]
    refine lc_tp (fun e : Ef => !decide (e.kind = x)) (fun e => e.d) (locked_nil _) (fun e he => ⟨_, rfl, by simp [ef0, i1, cnes], fun _ => by simp⟩) ?_
    have : (st.filter fun e : Ef => !decide (e.kind = x)).map (fun e => e.d) = (finT st x).map Ef.d := rfl
    rw [this]
    simp [-Mi.es_for, Mi.WR_ok, Mi.WR_bind, Mi.WR_ite, Mi.WS_ite, Mi.WS_nx, Mi.WS_rt, Mi.WS_then, Mi.WS_st, Mi.WR_endF, Mi.WS_for, Mi.WS_while, Mi.WR_bad, Mi.WS_bad, Mi.WR_bno, Mi.WS_stX, b1_tuple, st_d]
    exact ⟨plain_still _ (stD_plain _), rfl⟩
  | pass n =>
    have r := passed_sp (N := N - 1) (by omega) M hl n
    have i0 : ∀ M, ixD (Act.pass n).d (.int 0) M = .ok (.str "pass") M := fun M => ixT (v := 0) rfl M
    have i1 : ∀ M, ixD (Act.pass n).d (.int 1) M = .ok (.int n) M := fun M => ixT (v := 1) rfl M
    simp [-Mi.es_for, Mi.WR_ok, Mi.WR_bind, Mi.WR_ite, Mi.WS_ite, Mi.WS_nx, Mi.WS_rt, Mi.WS_then, Mi.WS_st, Mi.WR_endF, Mi.WS_for, Mi.WS_while, Mi.WR_bad, Mi.WS_bad, Mi.WR_bno, Mi.WS_stX, i0, ceqs, q2, q3, i1, r]
    exact ⟨plain_still _ (stD_plain _), rfl⟩
/-! ### lengths, states -/
theorem len_of_cnt (b : Nat) : ∀ (nms : List Str) (st : List Ef), (∀ e ∈ st, e.kind ∈ nms) → (∀ x ∈ nms, cntE st x ≤ b) → st.length ≤ b * nms.length
  | [], st, h, _ => by
    cases st with
    | nil => simp
    | cons e r => have := h e (by simp); simp at this
  | x :: nms, st, h, hc => by
    have h1 := len_of_cnt b nms (finT st x) (fun e he => by
      unfold finT at he
      rw [List.mem_filter] at he
      have h2 := h e he.1
      rcases List.mem_cons.mp h2 with rfl | h2
      · simp at he
      · exact h2) (fun y hy => Nat.le_trans (by
        unfold cntE finT
        exact (List.Sublist.filter _ List.filter_sublist).length_le) (hc y (List.mem_cons_of_mem _ hy)))
    have h2 := hc x (by simp)
    have h3 : st.length = cntE st x + (finT st x).length := by
      unfold cntE finT
      clear h hc h1 h2
      induction st with
      | nil => rfl
      | cons e r ih => by_cases he : e.kind = x <;> simp [he] at ih ⊢ <;> omega
    rw [h3, List.length_cons, Nat.mul_succ]
    omega
theorem StOk.len {ks : List Knd} (h : StOk ks es) (hk : ks.length ≤ 12) (hm : ∀ k ∈ ks, k.most ≤ 4) : es.length ≤ 48 := by
  have := len_of_cnt 4 (ks.map Knd.nm) es (fun e he => by obtain ⟨k, hk, e1, _⟩ := h.1 e he; exact List.mem_map.mpr ⟨k, hk, e1.symm⟩) (fun x hx => by
    obtain ⟨k, hk, rfl⟩ := List.mem_map.mp hx
    have := h.2 k hk
    have := hm k hk
    omega)
  rw [List.length_map] at this
  omega
theorem cntE_sub {a b : List Ef} (h : a.Sublist b) (x : Str) : cntE a x ≤ cntE b x := (h.filter _).length_le
theorem StOk.sub {ks : List Knd} {a b : List Ef} (h : StOk ks b) (hs : a.Sublist b) : StOk ks a :=
  ⟨fun e he => h.1 e (hs.subset he), fun k hk => by have := h.2 k hk; have := cntE_sub hs k.nm; omega⟩
theorem rm_sub (x : Str) : ∀ st : List Ef, (rmFirst x st).Sublist st
  | [] => .slnil
  | e :: r => by
    simp only [rmFirst]
    split
    · exact List.sublist_cons_self _ _
    · exact (rm_sub x r).cons_cons _
theorem rm_cnt {x : Str} : ∀ {st : List Ef}, 0 < cntE st x → cntE (rmFirst x st) x + 1 = cntE st x
  | [], h => by simp [cntE] at h
  | e :: r, h => by
    by_cases hx : e.kind = x
    · simp [rmFirst, hx, cntE]
    · simp only [rmFirst, if_neg hx]
      have h' : 0 < cntE r x := by simpa [cntE, hx] using h
      have := rm_cnt h'
      simp [cntE, hx] at this ⊢
      exact this
def KLast (ks : List Knd) : Prop := ∀ k ∈ ks, (∀ l, k.lasts = some l → 1 ≤ l) ∧ 1 ≤ k.most
theorem last_left {ks : List Knd} (hl : KLast ks) {k : Knd} (hk : k ∈ ks) : leftOk k.lasts k.lasts := by
  cases h : k.lasts with
  | none => rfl
  | some l => exact ⟨l, rfl, (hl k hk).1 l h, Int.le_refl _⟩
theorem actT_ok {ks : List Knd} (hnd : (ks.map Knd.nm).Nodup) (hlst : KLast ks) {st : List Ef} (h : StOk ks st) {a : Act} (hw : ∀ x n, a = .bring x n → worthI n) (hp : ∀ n, a = .pass n → 1 ≤ n) : StOk ks (actT ks st a) := by
  cases a with
  | bring x n =>
    simp only [actT]
    cases hk : kOf ks x with
    | none => exact h
    | some k =>
      obtain ⟨hkm, rfl⟩ := kOf_some hk
      simp only [bringT]
      split
      · rename_i hc
        exact h.more hnd hkm hc (hw _ _ rfl) (last_left hlst hkm)
      · rename_i hc
        split
        · have h2 := h.sub (rm_sub k.nm st)
          refine h2.more hnd hkm ?_ (hw _ _ rfl) (last_left hlst hkm)
          have h3 := h.2 k hkm
          have h4 := (hlst k hkm).2
          have := rm_cnt (x := k.nm) (st := st) (by omega)
          omega
        · exact h
  | fin x => exact h.sub (List.filter_sublist)
  | pass n =>
    have hn := hp n rfl
    simp only [actT]
    constructor
    · intro e he
      unfold passT at he
      obtain ⟨e0, he0, h2⟩ := List.mem_filterMap.mp he
      obtain ⟨k, hk, e1, e2, e3⟩ := h.1 e0 he0
      unfold passE at h2
      cases hl : e0.left with
      | none =>
        rw [hl] at h2
        cases h2
        exact ⟨k, hk, e1, e2, e3⟩
      | some l =>
        rw [hl] at h2
        simp only at h2
        split at h2
        · rename_i hnl
          cases h2
          refine ⟨k, hk, e1, e2, ?_⟩
          rw [hl] at e3
          cases hkl : k.lasts with
          | none => rw [hkl] at e3; cases e3
          | some m =>
            rw [hkl] at e3
            obtain ⟨i, h5, h6, h7⟩ := e3
            cases h5
            exact ⟨l - n, rfl, by omega, by omega⟩
        · cases h2
    · intro k hk
      have h3 := h.2 k hk
      have : cntE (passT st n) k.nm ≤ cntE st k.nm := by
        clear h h3
        unfold cntE passT
        induction st with
        | nil => simp
        | cons e r ih =>
          rw [List.filterMap_cons]
          cases hpe : passE n e with
          | none =>
            dsimp only
            refine Nat.le_trans ih ?_
            exact (List.Sublist.filter _ (List.sublist_cons_self e r)).length_le
          | some e' =>
            have hkd : e'.kind = e.kind := by
              unfold passE at hpe
              split at hpe
              · cases hpe; rfl
              · split at hpe
                · cases hpe; rfl
                · cases hpe
            dsimp only
            rw [List.filter_cons, List.filter_cons, hkd]
            split
            · simp only [List.length_cons]; omega
            · exact ih
      omega
end Mi
end
section
set_option Elab.async false
set_option linter.all false
set_option maxRecDepth 100000
/-! H1: happened (72), gone_along (89). -/
namespace Mi
open PySem L2
def happT (ks : List Knd) (st : List Ef) (as : List Act) : List Ef := as.foldl (actT ks) st
theorem actT_len (ks : List Knd) (st : List Ef) (a : Act) : (actT ks st a).length ≤ st.length + 1 := by
  cases a with
  | pass n => exact Nat.le_succ_of_le (passT_len st n)
  | fin x => exact Nat.le_succ_of_le (List.length_filter_le _ _)
  | bring x n =>
    show (match kOf ks x with | some k => bringT st k n | none => st).length ≤ _
    cases kOf ks x with
    | none => simp
    | some k =>
      have := rm_len k.nm st
      show (bringT st k n).length ≤ _
      unfold bringT
      split
      · simp
      · split
        · simp; omega
        · omega
theorem happT_len (ks : List Knd) : ∀ (as : List Act) (st : List Ef), (happT ks st as).length ≤ st.length + as.length
  | [], st => by simp [happT]
  | a :: as, st => by
    have h := happT_len ks as (actT ks st a)
    have h2 := actT_len ks st a
    have e : happT ks st (a :: as) = happT ks (actT ks st a) as := rfl
    rw [e, List.length_cons]
    omega
theorem hp0 (p : Str × List Act) : hpD p = .tup [.str p.1, .tup (p.2.map Act.d)] := rfl
theorem happened_sp {N : Nat} (hN : 8 ≤ N) (M : Hh) {bk : Bk} (hnd : (bk.haps.map Prod.fst).Nodup) (hz : bk.haps.length ≤ 1000) {p : Str × List Act} (hp : p ∈ bk.haps) (ha : ∀ a ∈ p.2, ActOn bk.kinds a) {st : List Ef} (hl : st.length + p.2.length ≤ 100000) :
    back false M (callF GP N 72 [bk.d, stD st, .str p.1] M) = .ok (stD (happT bk.kinds st p.2)) M := by
  refine eq_of (back_p (call_w (by omega) g72 rfl ?_))
  have bk2 : ∀ M, ixD bk.d (.int 2) M = .ok (.tup (bk.haps.map hpD)) M := fun M => ixT (v := 2) rfl M
  have itT : ∀ (ds : List D) (M : Hh), itemsOf M (.tup ds) = some (ds, []) := fun ds M => by rw [itemsOf]
  have hz2 : bk.haps.length ≤ 16777216 := by omega
  have hz3 : p.2.length ≤ 16777216 := by omega
  generalize hS : S.raise 2 = Sr
  dsimp only [F72, b72]
  rw [hS]
  simp [-Mi.es_for, Mi.WR_ok, Mi.WR_bind, Mi.WR_ite, Mi.WS_ite, Mi.WS_nx, Mi.WS_rt, Mi.WS_then, Mi.WS_st, Mi.WR_endF, Mi.WS_for, Mi.WS_while, Mi.WR_bad, Mi.WS_bad, Mi.WR_bno, Mi.WS_stX, bk2, itT, hz2]
  refine for_t (f := hpD) (fun pre σ M' => M = M' ∧ σ = [some bk.d, some (stD st), some (.str p.1), none, none, none] ∧ p.1 ∉ pre.map Prod.fst) ⟨rfl, rfl, by simp⟩ (fun _ _ _ _ => locked_nil _) ?_ ?_
  · rintro pre q post _ M2 hx ⟨rfl, rfl, hni⟩
    refine ⟨[some bk.d, some (stD st), some (.str p.1), some (.str q.1), some (.tup (q.2.map Act.d)), none], rfl, ?_⟩
    by_cases hq : q.1 = p.1
    · have e : q = p := by
        have := find_dkv (f := Prod.fst) hnd hp
        have h2 := find_dkv (f := Prod.fst) hnd (k := q) (by rw [hx]; simp)
        rw [hq, this] at h2
        exact (Option.some.inj h2).symm
      subst e
      simp [-Mi.es_for, Mi.WR_ok, Mi.WR_bind, Mi.WR_ite, Mi.WS_ite, Mi.WS_nx, Mi.WS_rt, Mi.WS_then, Mi.WS_st, Mi.WR_endF, Mi.WS_for, Mi.WS_while, Mi.WR_bad, Mi.WS_bad, Mi.WR_bno, Mi.WS_stX, tyOk, isTy, ceqs, itT, hz3]
      refine for_t (f := Act.d) (fun pr σ M' => M = M' ∧ σ = [some bk.d, some (stD (happT bk.kinds st pr)), some (.str q.1), some (.str q.1), some (.tup (q.2.map Act.d)), none]) ⟨rfl, rfl⟩ (fun _ _ _ _ => locked_nil _) ?_ ?_
      · rintro pr a po _ M2 hxa ⟨rfl, rfl⟩
        have hl2 := happT_len bk.kinds pr st
        have hpl : pr.length ≤ q.2.length := by rw [hxa]; simp
        have ac := acted_sp (N := N - 1) (by omega) M (bk := bk) (ha a (by rw [hxa]; simp)) (st := happT bk.kinds st pr) (by omega)
        refine ⟨_, rfl, ?_⟩
        simp [-Mi.es_for, Mi.WR_ok, Mi.WR_bind, Mi.WR_ite, Mi.WS_ite, Mi.WS_nx, Mi.WS_rt, Mi.WS_then, Mi.WS_st, Mi.WR_endF, Mi.WS_for, Mi.WS_while, Mi.WR_bad, Mi.WS_bad, Mi.WR_bno, Mi.WS_stX, ac]
        simp [happT]
      · rintro _ M2 ⟨rfl, rfl⟩
        simp [-Mi.es_for, Mi.WR_ok, Mi.WR_bind, Mi.WR_ite, Mi.WS_ite, Mi.WS_nx, Mi.WS_rt, Mi.WS_then, Mi.WS_st, Mi.WR_endF, Mi.WS_for, Mi.WS_while, Mi.WR_bad, Mi.WS_bad, Mi.WR_bno, Mi.WS_stX]
        exact plain_still _ (stD_plain _)
    · simp [-Mi.es_for, Mi.WR_ok, Mi.WR_bind, Mi.WR_ite, Mi.WS_ite, Mi.WS_nx, Mi.WS_rt, Mi.WS_then, Mi.WS_st, Mi.WR_endF, Mi.WS_for, Mi.WS_while, Mi.WR_bad, Mi.WS_bad, Mi.WR_bno, Mi.WS_stX, tyOk, isTy, ceqs, hq]
      refine ⟨fun x hx => hni (List.mem_map.mpr ⟨_, hx, rfl⟩), fun h => hq h.symm⟩
  · rintro _ M2 ⟨rfl, rfl, hni⟩
    exact absurd (List.mem_map.mpr ⟨p, hp, rfl⟩) hni
/-- a row of happenings, each with its acts -/
theorem gone_sp {N : Nat} (hN : 10 ≤ N) (M : Hh) {bk : Bk} (hnd : (bk.haps.map Prod.fst).Nodup) (hz : bk.haps.length ≤ 1000) (ha : ∀ p ∈ bk.haps, p.2.length ≤ 100 ∧ ∀ a ∈ p.2, ActOn bk.kinds a) {ps : List (Str × List Act)} (hp : ∀ p ∈ ps, p ∈ bk.haps) (hl : ps.length ≤ 500) :
    back false M (callF GP N 89 [bk.d, .tup (ps.map fun p => .str p.1)] M) = .ok (stD (ps.foldl (fun st p => happT bk.kinds st p.2) [])) M := by
  have fl : ∀ (ps : List (Str × List Act)) (st : List Ef), (∀ p ∈ ps, p ∈ bk.haps) → (ps.foldl (fun st p => happT bk.kinds st p.2) st).length ≤ st.length + 100 * ps.length := by
    intro ps
    induction ps with
    | nil => intro st _; simp
    | cons p ps ih =>
      intro st h
      have h1 := ih (happT bk.kinds st p.2) fun q hq => h q (List.mem_cons_of_mem _ hq)
      have h2 := happT_len bk.kinds p.2 st
      have h3 := (ha p (h p (by simp))).1
      rw [List.foldl_cons, List.length_cons]
      omega
  refine eq_of (back_p (call_w (by omega) g89 rfl ?_))
  have itT : ∀ (ds : List D) (M : Hh), itemsOf M (.tup ds) = some (ds, []) := fun ds M => by rw [itemsOf]
  have hz2 : ps.length ≤ 16777216 := by omega
  dsimp only [F89, b89]
  simp [-Mi.es_for, Mi.WR_ok, Mi.WR_bind, Mi.WR_ite, Mi.WS_ite, Mi.WS_nx, Mi.WS_rt, Mi.WS_then, Mi.WS_st, Mi.WR_endF, Mi.WS_for, Mi.WS_while, Mi.WR_bad, Mi.WS_bad, Mi.WR_bno, Mi.WS_stX, itT, hz2]
  refine for_t (f := fun p : Str × List Act => D.str p.1) (fun pr σ M' => M = M' ∧ σ = [some bk.d, some (.tup (ps.map fun p => .str p.1)), some (stD (pr.foldl (fun st p => happT bk.kinds st p.2) [])), none]) ⟨rfl, rfl⟩ (fun _ _ _ _ => locked_nil _) ?_ ?_
  · rintro pr q po _ M2 hx ⟨rfl, rfl⟩
    have hq : q ∈ bk.haps := hp q (by rw [hx]; simp)
    have h1 := fl pr [] fun p h => hp p (by rw [hx]; simp [h])
    have h2 : pr.length ≤ 500 := by have := congrArg List.length hx; simp at this; omega
    have h3 := (ha q hq).1
    have hs := happened_sp (N := N - 1) (by omega) M hnd hz hq (ha q hq).2 (st := pr.foldl (fun st p => happT bk.kinds st p.2) []) (by simp at h1; omega)
    refine ⟨_, rfl, ?_⟩
    simp [-Mi.es_for, Mi.WR_ok, Mi.WR_bind, Mi.WR_ite, Mi.WS_ite, Mi.WS_nx, Mi.WS_rt, Mi.WS_then, Mi.WS_st, Mi.WR_endF, Mi.WS_for, Mi.WS_while, Mi.WR_bad, Mi.WS_bad, Mi.WR_bno, Mi.WS_stX, hs]
  · rintro _ M2 ⟨rfl, rfl⟩
    simp [-Mi.es_for, Mi.WR_ok, Mi.WR_bind, Mi.WR_ite, Mi.WS_ite, Mi.WS_nx, Mi.WS_rt, Mi.WS_then, Mi.WS_st, Mi.WR_endF, Mi.WS_for, Mi.WS_while, Mi.WR_bad, Mi.WS_bad, Mi.WR_bno, Mi.WS_stX]
    exact plain_still _ (stD_plain _)
end Mi
end
section
set_option Elab.async false
set_option linter.all false
set_option maxRecDepth 100000
/-! Rp: things whose text can be told (repr). -/
namespace Mi
open PySem L2
def okS (x : Str) : Prop := PyData.strOk x = true
theorem okS_iff {x : Str} : okS x ↔ ∀ c ∈ x.cps.toList, c < 0x110000 := by
  unfold okS PyData.strOk
  rw [Array.all_eq_true']
  simp
theorem okS_app {x y : Str} (hx : okS x) (hy : okS y) : okS (x ++ y) := by
  rw [okS_iff] at *
  intro c hc
  have : (x ++ y).cps = x.cps ++ y.cps := rfl
  rw [this] at hc
  rcases List.mem_append.mp (by simpa using hc : c ∈ x.cps.toList ++ y.cps.toList) with h | h
  · exact hx c h
  · exact hy c h
theorem okS_of (z : String) : okS (Str.ofString z) := strOk_of z
theorem okS_join {s : Str} (hs : okS s) : ∀ xs : List Str, (∀ x ∈ xs, okS x) → okS (Str.join s xs)
  | [], _ => okS_of ""
  | [x], h => h x (by simp)
  | x :: y :: r, h => okS_app (okS_app (h x (by simp)) hs) (okS_join hs (y :: r) fun z hz => h z (List.mem_cons_of_mem _ hz))
theorem okS_from : ∀ (ts : List Str) (k : Nat) (acc : Str), okS acc → (∀ x ∈ ts, okS x) → okS (textFrom k acc ts)
  | [], _, _, h, _ => h
  | t :: ts, k, acc, h, ht => by
    unfold textFrom
    exact okS_from ts _ _ (okS_app (okS_app h (okS_of _)) (ht t (by simp))) fun z hz => ht z (List.mem_cons_of_mem _ hz)
theorem hex_ok (c w : Nat) : ∀ y ∈ (let d := (Nat.toDigits 16 c).map Char.toNat; List.replicate (w - d.length) 48 ++ d), y < 0x110000 := by
  intro y hy
  simp only [List.mem_append, List.mem_replicate, List.mem_map] at hy
  rcases hy with ⟨_, rfl⟩ | ⟨ch, _, rfl⟩
  · omega
  · have := ch.valid
    show ch.val.toNat < _
    rcases this with h | ⟨_, h⟩
    · exact Nat.lt_trans h (by decide)
    · exact h
theorem sign_ok {q c : Nat} (hq : q < 0x110000) (hc : c < 0x110000) : ∀ y ∈ Builtin.Str.reprChar q c, y < 0x110000 := by
  intro y hy
  have h2 := hex_ok c 2
  have h4 := hex_ok c 4
  have h8 := hex_ok c 8
  unfold Builtin.Str.reprChar at hy
  dsimp only at hy h2 h4 h8
  repeat' split at hy
  all_goals first
    | (simp only [List.mem_cons, List.not_mem_nil, or_false] at hy; omega)
    | (rcases List.mem_append.mp hy with h | h
       · simp only [List.mem_cons, List.not_mem_nil, or_false] at h; omega
       · first | exact h2 y h | exact h4 y h | exact h8 y h)
theorem signs_ok {q : Nat} (hq : q < 0x110000) : ∀ (l : List Nat) (acc : Array Nat), (∀ c ∈ l, c < 0x110000) → (∀ c ∈ acc.toList, c < 0x110000) →
    ∀ c ∈ (l.foldl (fun out c => out ++ (Builtin.Str.reprChar q c).toArray) acc).toList, c < 0x110000
  | [], acc, _, h => h
  | c :: r, acc, hl, h => by
    rw [List.foldl_cons]
    refine signs_ok hq r _ (fun d hd => hl d (List.mem_cons_of_mem _ hd)) fun d hd => ?_
    rw [Array.toList_append] at hd
    rcases List.mem_append.mp hd with h1 | h1
    · exact h d h1
    · exact sign_ok hq (hl c (by simp)) d (by simpa using h1)
theorem quote_ok (x : Str) : reprQuote x < 0x110000 := by
  unfold reprQuote
  split <;> omega
theorem okS_repr {x : Str} (h : okS x) : okS (reprText x) := by
  rw [okS_iff] at *
  intro c hc
  unfold reprText at hc
  rw [Array.toList_push] at hc
  rcases List.mem_append.mp hc with h1 | h1
  · rw [← Array.foldl_toList] at h1
    exact signs_ok (quote_ok x) x.cps.toList _ h (by intro c hc; simp at hc; subst hc; exact quote_ok x) c h1
  · simp at h1; subst h1; exact quote_ok x
/-! ### what is small enough -/
mutual
def D.rok : D → Bool
  | .non => true | .bl _ => true | .int i => decide (-10000000000 ≤ i ∧ i ≤ 10000000000) | .str x => PyData.strOk x
  | .tup ds => roks ds
  | .lst ds => roks ds
  | .dict _ => false | .inst _ _ => false | .fn _ => false | .scr _ => false | .ref _ => false
def roks : List D → Bool
  | [] => true
  | d :: ds => d.rok && roks ds
end
mutual
def D.bk : D → Nat
  | .non => 0 | .bl _ => 0 | .int _ => 0 | .str x => x.cps.size
  | .tup ds => bks ds
  | .lst ds => bks ds
  | .dict _ => 0 | .inst _ _ => 0 | .fn _ => 0 | .scr _ => 0 | .ref _ => 0
def bks : List D → Nat
  | [] => 0
  | d :: ds => d.bk + 1 + bks ds
end
theorem roks_all : ∀ ds : List D, roks ds = ds.all D.rok
  | [] => rfl
  | d :: ds => by rw [roks, roks_all ds, List.all_cons]
theorem roks_map {β : Type} (f : β → D) (xs : List β) (h : ∀ x ∈ xs, (f x).rok = true) : roks (xs.map f) = true := by
  rw [roks_all, List.all_eq_true]
  intro d hd
  obtain ⟨x, hx, rfl⟩ := List.mem_map.mp hd
  exact h x hx
theorem bks_map {β : Type} (f : β → D) {n : Nat} : ∀ xs : List β, (∀ x ∈ xs, (f x).bk ≤ n) → bks (xs.map f) ≤ (n + 1) * xs.length
  | [], _ => Nat.le_refl _
  | x :: xs, h => by
    have h1 := bks_map f xs fun y hy => h y (List.mem_cons_of_mem _ hy)
    have h2 := h x (by simp)
    rw [List.map_cons, bks, List.length_cons, Nat.mul_add]
    omega
mutual
theorem bk_py : ∀ d : D, d.py.bulk = d.bk
  | .non => rfl | .bl _ => rfl | .int _ => rfl | .str x => rfl
  | .tup ds => by simp only [D.py, PyData.bulk, D.bk, bks_py ds]
  | .lst ds => by simp only [D.py, PyData.bulk, D.bk, bks_py ds]
  | .dict _ => rfl | .inst _ _ => rfl | .fn _ => rfl | .scr _ => rfl | .ref _ => rfl
theorem bks_py : ∀ ds : List D, PyData.bulkAll (pys ds) = bks ds
  | [] => rfl
  | d :: ds => by simp only [pys, PyData.bulkAll, bks, bk_py d, bks_py ds]
end
theorem ilen {i : Int} (h : -10000000000 ≤ i ∧ i ≤ 10000000000) : (Str.ofString (toString i)).length ≤ 32 := by
  have h1 : i.natAbs < 10 ^ 31 := by omega
  have := int_text_length_le10 (k := 31) (by decide) h1
  rw [ofString_length]; omega
mutual
theorem rok_py : ∀ d : D, d.rok = true → d.py.showable = true ∧ d.py.leavesShort 32 = true ∧ okS d.py.shown
  | .non, _ => ⟨rfl, rfl, okS_of _⟩
  | .bl b, _ => ⟨rfl, rfl, by cases b <;> exact okS_of _⟩
  | .int i, h => by
    rw [D.rok, decide_eq_true_eq] at h
    refine ⟨?_, ?_, okS_of _⟩
    · rw [D.py, PyData.showable, decide_eq_true_eq]
      rcases Nat.eq_zero_or_pos i.natAbs with h0 | h0
      · rw [h0]; decide
      · have : i.natAbs.log2 < 40 := (Nat.log2_lt (by omega)).mpr (by omega)
        omega
    · rw [D.py, PyData.leavesShort, decide_eq_true_eq]
      exact ilen h
  | .str x, h => by
    rw [D.rok] at h
    refine ⟨rfl, ?_, okS_repr h⟩
    rw [D.py, PyData.leavesShort, List.all_eq_true]
    intro c hc
    have := okS_iff.mp h c hc
    rw [decide_eq_true_eq]; omega
  | .tup ds, h => by
    obtain ⟨h1, h2, h3⟩ := roks_py ds (by rw [D.rok] at h; exact h)
    refine ⟨by rw [D.py, PyData.showable]; exact h1, by rw [D.py, PyData.leavesShort]; exact h2, ?_⟩
    rw [D.py, PyData.shown]
    unfold tupleText
    exact okS_app (okS_app (okS_of _) (okS_join (okS_of _) _ h3)) (okS_of _)
  | .lst ds, h => by
    obtain ⟨h1, h2, h3⟩ := roks_py ds (by rw [D.rok] at h; exact h)
    refine ⟨by rw [D.py, PyData.showable]; exact h1, by rw [D.py, PyData.leavesShort]; exact h2, ?_⟩
    rw [D.py, PyData.shown]
    unfold listText
    exact okS_app (okS_from _ _ _ (okS_of _) h3) (okS_of _)
  | .dict _, h => by simp [D.rok] at h
  | .inst _ _, h => by simp [D.rok] at h
  | .fn _, h => by simp [D.rok] at h
  | .scr _, h => by simp [D.rok] at h
  | .ref _, h => by simp [D.rok] at h
theorem roks_py : ∀ ds : List D, roks ds = true → PyData.showableAll (pys ds) = true ∧ PyData.leavesShortAll 32 (pys ds) = true ∧ ∀ x ∈ PyData.shownAll (pys ds), okS x
  | [], _ => ⟨rfl, rfl, fun x hx => by cases hx⟩
  | d :: ds, h => by
    rw [roks, Bool.and_eq_true] at h
    obtain ⟨a1, a2, a3⟩ := rok_py d h.1
    obtain ⟨b1, b2, b3⟩ := roks_py ds h.2
    refine ⟨by rw [pys, PyData.showableAll, a1, b1]; rfl, by rw [pys, PyData.leavesShortAll, a2, b2]; rfl, fun x hx => ?_⟩
    rw [pys, PyData.shownAll] at hx
    rcases List.mem_cons.mp hx with rfl | hx
    · exact a3
    · exact b3 x hx
end
theorem repOk_of {d : D} (h1 : d.plain = true) (h2 : d.depth ≤ 60) (h3 : d.rok = true) (h4 : d.bk ≤ 400000) : RepOk d := by
  obtain ⟨a1, a2, a3⟩ := rok_py d h3
  refine ⟨h1, h2, a1, ?_, a3⟩
  have := PyData.shown_le_bulk 32 (by omega) d.py a2
  rw [bk_py] at this
  omega
theorem repr_tup {ds : List D} (m : Bool) (M : Hh) (h : RepOk (.tup ds)) : b1D m .repr (.tup ds) M = .ok (.str (D.tup ds).py.shown) M := by
  have : b1D m .repr (.tup ds) M = reprD (.tup ds) M := rfl
  rw [this]; unfold reprD; rw [if_pos h]
end Mi
end
section
set_option Elab.async false
set_option linter.all false
set_option maxRecDepth 100000
/-! Q0: books drawn by the feed (333 to 343): draws, names, numbers, sizes. -/
namespace Mi
open PySem L2
/-- the first n statements, then others; what is behind the first n -/
def apS : Nat → Ss → Ss → Ss
  | 0, _, t => t
  | n + 1, .cons a r, t => .cons a (apS n r t)
  | _ + 1, .nil, t => t
def tlS : Nat → Ss → Ss
  | 0, s => s
  | n + 1, .cons _ r => tlS n r
  | _ + 1, .nil => .nil
theorem Drawn.le {f b b' : Nat} {M M' : Hh} (D : Drawn f b M M') (h : b' ≤ b) : Drawn f b' M M' := ⟨D.1, D.2.mono h⟩
/-- a call that draws at most c times and hands back what holds P -/
def GenP (f b : Nat) (M : Hh) (P : D → Prop) (d : D) (M' : Hh) : Prop := ∃ M1 X, M' = M1 ++ X ∧ Drawn f b M M1 ∧ d.plain = true ∧ P d
theorem GenP.mk {f b b' : Nat} {M M1 X : Hh} {P : D → Prop} {d : D} (D : Drawn f b' M M1) (hb : b ≤ b') (hp : d.plain = true) (h : P d) : GenP f b M P d (M1 ++ X) := ⟨M1, X, rfl, D.le hb, hp, h⟩
theorem GenP.mk0 {f b b' : Nat} {M M1 : Hh} {P : D → Prop} {d : D} (D : Drawn f b' M M1) (hb : b ≤ b') (hp : d.plain = true) (h : P d) : GenP f b M P d M1 := ⟨M1, [], by simp, D.le hb, hp, h⟩
def Gen (N i f c : Nat) (as : List D) (P : D → Prop) : Prop := ∀ (B : Nat) (M : Hh), c ≤ B → Feed f B M → WR (callF GP N i as M) (GenP f (B - c) M P)
theorem Gen.w {N i f c B : Nat} {as : List D} {P : D → Prop} (g : Gen N i f c as P) {M X : Hh} {Q : D → Hh → Prop} (hF : Feed f B M) (hB : c ≤ B) (q : ∀ d M1, P d → Drawn f (B - c) M M1 → M1.length = M.length → Q d (M1 ++ X)) :
    WR (back false (M ++ X) (callF GP N i as (M ++ X))) Q := by
  refine back_w f (B - c) ((g B (M ++ X) hB (hF.app X)).mono fun d M' => ?_)
  rintro ⟨M1, Y, rfl, D, hp, hP⟩
  obtain ⟨M2, rfl, D2, hl⟩ := D.unapp hF.lt
  exact ⟨M2 ++ X, Y, rfl, D, hp, q d M2 hP D2 hl⟩
theorem Gen.w0 {N i f c B : Nat} {as : List D} {P : D → Prop} (g : Gen N i f c as P) {M : Hh} {Q : D → Hh → Prop} (hF : Feed f B M) (hB : c ≤ B) (q : ∀ d M1, P d → Drawn f (B - c) M M1 → M1.length = M.length → Q d M1) :
    WR (back false M (callF GP N i as M)) Q := by
  have := g.w (X := []) (Q := Q) hF hB (by simpa using q)
  simpa using this
theorem Gen.mono {N i f c c' : Nat} {as : List D} {P P' : D → Prop} (g : Gen N i f c as P) (hc : c ≤ c') (h : ∀ d, P d → P' d) : Gen N i f c' as P' := fun B M hB hF =>
  (g B M (by omega) hF).mono fun d M' ⟨M1, X, e, D, hp, hP⟩ => ⟨M1, X, e, D.le (by omega), hp, h d hP⟩
theorem draw_g {N f : Nat} (hN : 1 ≤ N) {m : Int} (h0 : 0 < m) (h1 : m < 1073741824) : Gen N 9 f 1 [.ref f, .int m] fun d => ∃ v : Int, d = .int v ∧ 0 ≤ v ∧ v < m := by
  intro B M hB hF
  obtain ⟨b, rfl⟩ : ∃ b, B = b + 1 := ⟨B - 1, by omega⟩
  obtain ⟨n, rfl⟩ : ∃ n, N = n + 1 := ⟨N - 1, by omega⟩
  obtain ⟨v, M', c, l, u, D⟩ := draw_ok gd9 hF h0 h1 n
  exact WR_of c (.mk0 D (by omega) rfl ⟨v, rfl, l, u⟩)
theorem q_w {N f B : Nat} {M X : Hh} {m : Int} {Q : D → Hh → Prop} (hF : Feed f B M) (hN : 1 ≤ N) (hB : 1 ≤ B) (h0 : 0 < m) (h1 : m < 1073741824) (h : ∀ v M1, 0 ≤ v → v < m → Drawn f (B - 1) M M1 → M1.length = M.length → Q (.int v) (M1 ++ X)) :
    WR (back false (M ++ X) (callF GP N 9 [.ref f, .int m] (M ++ X))) Q :=
  (draw_g hN h0 h1).w hF hB fun d M1 ⟨v, e, l, u⟩ D hl => by subst e; exact h v M1 l u D hl
theorem q_w0 {N f B : Nat} {M : Hh} {m : Int} {Q : D → Hh → Prop} (hF : Feed f B M) (hN : 1 ≤ N) (hB : 1 ≤ B) (h0 : 0 < m) (h1 : m < 1073741824) (h : ∀ v M1, 0 ≤ v → v < m → Drawn f (B - 1) M M1 → M1.length = M.length → Q (.int v) M1) :
    WR (back false M (callF GP N 9 [.ref f, .int m] M)) Q :=
  (draw_g hN h0 h1).w0 hF hB fun d M1 ⟨v, e, l, u⟩ D hl => by subst e; exact h v M1 l u D hl
/-! ### numbers -/
theorem pow6 (M : Hh) : binD false .pow (.int 10) (.int 6) M = .ok (.int 1000000) M := by simp [binD]
theorem pow9 (M : Hh) : binD false .pow (.int 10) (.int 9) M = .ok (.int 1000000000) M := by simp [binD]
/-! ### sizes -/
/-! ### names -/
def qA : List Str := ["a", "b", "zz", "might", "aa", "z", "abcdefgh", "abcdefgi", "own", "x", "add", "ab", "ba", "given", "end"]
def qB : List Str := ["q", "set", "m", "is", "go", "one", "xy", "above", "number", "n", "plus", "ax", "bx", "cx", "dx"]
def qC : List Str := ["ey", "fy", "gy", "hy", "iy", "jy", "ky", "ly", "my", "ny", "oy"]
def qAB : List Str := qA ++ qB
def qL : List Str := qAB ++ qC
theorem qL_len : qL.length = 41 := by decide
theorem qL_nd : qL.Nodup := by decide
theorem qL_8 : ∀ x ∈ qL, N8 x := by
  intro x hx
  have : (qL.all fun x => decide ((1 ≤ x.length ∧ ∀ c ∈ x.cps.toList, 97 ≤ c ∧ c ≤ 122) ∧ x.length ≤ 8)) = true := by decide
  have := List.all_eq_true.mp this x hx
  have := of_decide_eq_true this
  exact this
theorem step_inj : ∀ s ∈ ([1, 3, 7, 11, 13, 40] : List Nat), ∀ i j : Fin 41, (s * i.val) % 41 = (s * j.val) % 41 → i = j := by decide
def qnm (a s k : Nat) : Str := qL.getD ((a + s * k) % 41) ""
theorem qnm_mem (a s k : Nat) : qnm a s k ∈ qL := by
  have h : (a + s * k) % 41 < qL.length := by rw [qL_len]; exact Nat.mod_lt _ (by decide)
  unfold qnm
  rw [List.getD_eq_getElem?_getD, List.getElem?_eq_getElem h]
  exact List.getElem_mem h
theorem qnm_inj {a s i j : Nat} (hs : s ∈ ([1, 3, 7, 11, 13, 40] : List Nat)) (hi : i < 41) (hj : j < 41) (h : qnm a s i = qnm a s j) : i = j := by
  have h1 : (a + s * i) % 41 < qL.length := by rw [qL_len]; exact Nat.mod_lt _ (by decide)
  have h2 : (a + s * j) % 41 < qL.length := by rw [qL_len]; exact Nat.mod_lt _ (by decide)
  unfold qnm at h
  rw [List.getD_eq_getElem?_getD, List.getD_eq_getElem?_getD, List.getElem?_eq_getElem h1, List.getElem?_eq_getElem h2] at h
  have h : qL[(a + s * i) % 41] = qL[(a + s * j) % 41] := h
  have e : (a + s * i) % 41 = (a + s * j) % 41 := by
    rcases Nat.lt_trichotomy ((a + s * i) % 41) ((a + s * j) % 41) with q | q | q
    · exact absurd h (List.pairwise_iff_getElem.mp qL_nd _ _ h1 h2 q)
    · exact q
    · exact absurd h.symm (List.pairwise_iff_getElem.mp qL_nd _ _ h2 h1 q)
  have e3 : (s * i) % 41 = (s * j) % 41 := by omega
  exact congrArg Fin.val (step_inj s hs ⟨i, hi⟩ ⟨j, hj⟩ e3)
theorem rangeL_map : ∀ (n lo : Nat), rangeL lo n = (List.range' lo n).map fun k : Nat => .int (k : Nat)
  | 0, lo => rfl
  | n + 1, lo => by
    have := rangeL_map n (lo + 1)
    rw [rangeL, List.range'_succ, List.map_cons, ← this]
    simp
theorem add_strs {xs ys : List Str} (h : xs.length + ys.length ≤ 16777216) (M : Hh) : binD false .add (.lst (xs.map .str)) (.lst (ys.map .str)) M = .ok (.lst ((xs ++ ys).map .str)) M := by
  simp only [binD, der_D_lst, addD, List.length_map, if_pos h]
  simp [alloc]
theorem qA_len : qA.length = 15 := rfl
theorem qB_len : qB.length = 15 := rfl
theorem qC_len : qC.length = 11 := rfl
theorem q_ad1 (M : Hh) : binD false .add (.lst (qA.map .str)) (.lst (qB.map .str)) M = .ok (.lst (qAB.map .str)) M := add_strs (by rw [qA_len, qB_len]; omega) M
theorem q_ad2 (M : Hh) : binD false .add (.lst (qAB.map .str)) (.lst (qC.map .str)) M = .ok (.lst (qL.map .str)) M := add_strs (by rw [qAB, List.length_append, qA_len, qB_len, qC_len]; omega) M
end Mi
end
section
set_option Elab.async false
set_option linter.all false
set_option maxRecDepth 100000
/-! K9A: effects behind an act, told by the law (90, 91). -/
namespace Mi
open PySem L2
mutual
theorem eqv_self9 : ∀ d : D, d.plain = true → d.eqv d = true
  | .non, _ => rfl | .bl _, _ => by simp [D.eqv] | .int _, _ => by simp [D.eqv] | .str _, _ => by simp [D.eqv]
  | .tup ds, h => by rw [D.plain] at h; rw [D.eqv]; exact eqvs_self9 ds h
  | .lst ds, h => by rw [D.plain] at h; rw [D.eqv]; exact eqvs_self9 ds h
  | .dict _, h => by rw [D.plain] at h; cases h
  | .inst _ _, h => by rw [D.plain] at h; cases h
  | .fn _, h => by rw [D.plain] at h; cases h
  | .scr _, h => by rw [D.plain] at h; cases h
  | .ref _, h => by rw [D.plain] at h; cases h
theorem eqvs_self9 : ∀ ds : List D, plains ds = true → eqvs ds ds = true
  | [], _ => rfl
  | d :: ds, h => by rw [plains, Bool.and_eq_true] at h; rw [eqvs, eqv_self9 d h.1, eqvs_self9 ds h.2]; rfl
end
theorem exc_back9 (M : Hh) (c : Nat) : back false M (.exc c M) = .exc c M := by
  have := stood_app M []
  rw [List.append_nil] at this
  simp only [back, Bool.false_eq_true, if_false, if_pos this, List.take_length]
theorem cutTk9 (ds : List D) (k : Nat) : cut ds none (some (k : Int)) = ds.take k := by
  unfold cut
  show (ds.drop (HT.sIx ds.length 0 none)).take (HT.sIx ds.length ds.length (some (k : Int)) - HT.sIx ds.length 0 none) = _
  rw [HT.sIx_nat, HT.sIx_none, List.drop_zero, Nat.sub_zero]
  by_cases h : k ≤ ds.length
  · rw [Nat.min_eq_left h]
  · rw [Nat.min_eq_right (by omega), List.take_of_length_le (Nat.le_refl _), List.take_of_length_le (by omega)]
theorem bk2Q9 (b : Bk) (M : Hh) : ixD b.d (.int 2) M = .ok (.tup (b.haps.map hpD)) M := ixT (v := 2) rfl M
theorem hpD_plain9 (p : Str × List Act) : (hpD p).plain = true := by
  simp only [hpD, plain_tup, plains_cons, plains_nil, plain_str, Bool.and_true, Bool.true_and]
  exact plains_map _ (fun x => by simp) _
def QAct9 (ks : List Str) (a : Act) : Prop := (∃ k n, a = .bring k n ∧ k ∈ ks ∧ worthI n) ∨ (∃ k, a = .fin k ∧ k ∈ ks) ∨ ∃ n, a = .pass n ∧ 1 ≤ n ∧ n ≤ 9
theorem less_sp {N : Nat} (hN : 1 ≤ N) (o : Option Int) (n : Int) (M : Hh) : back false M (callF GP N 91 [oI o, .int n] M) = .ok (oI (o.map fun l => l - n)) M := by
  refine eq_of (back_p (call_w (by omega) g91 rfl ?_))
  have sb : ∀ l : Int, binD false .sub (.int l) (.int n) M = .ok (.int (l - n)) M := fun l => rfl
  dsimp only [F91, b91]
  cases o with
  | none => simp [-Mi.es_for, Mi.WR_ok, Mi.WR_bind, Mi.WR_ite, Mi.WS_ite, Mi.WS_nx, Mi.WS_rt, Mi.WS_then, Mi.WS_st, Mi.WR_endF, Mi.WS_for, Mi.WS_while, Mi.WR_bad, Mi.WS_bad, Mi.WR_bno, Mi.WS_stX, oI, isN]
  | some l => simp [-Mi.es_for, Mi.WR_ok, Mi.WR_bind, Mi.WR_ite, Mi.WS_ite, Mi.WS_nx, Mi.WS_rt, Mi.WS_then, Mi.WS_st, Mi.WR_endF, Mi.WS_for, Mi.WS_while, Mi.WR_bad, Mi.WS_bad, Mi.WR_bno, Mi.WS_stX, oI, isN, sb]
def psC (n : Int) (e : Ef) : Bool := match e.left with | none => true | some l => decide (n < l)
def lessE (n : Int) (e : Ef) : Ef := ⟨e.kind, e.given, e.left.map fun l => l - n⟩
theorem pass_fm (n : Int) : ∀ st : List Ef, passT st n = (st.filter (psC n)).map (lessE n)
  | [] => rfl
  | e :: st => by
    have ih := pass_fm n st
    unfold passT at ih ⊢
    obtain ⟨k, g, l⟩ := e
    cases l with
    | none =>
      have h1 : psC n ⟨k, g, none⟩ = true := rfl
      rw [List.filterMap_cons, List.filter_cons_of_pos h1, List.map_cons, ih]
      rfl
    | some l =>
      by_cases h : n < l
      · have h1 : psC n ⟨k, g, some l⟩ = true := by simp [psC, h]
        have h2 : passE n ⟨k, g, some l⟩ = some ⟨k, g, some (l - n)⟩ := by simp [passE, h]
        rw [List.filterMap_cons, List.filter_cons_of_pos h1, List.map_cons, ih, h2]
        rfl
      · have h1 : ¬ psC n ⟨k, g, some l⟩ = true := by simp [psC, h]
        have h2 : passE n ⟨k, g, some l⟩ = none := by simp [passE, h]
        rw [List.filterMap_cons, List.filter_cons_of_neg h1, ih, h2]
theorem rem_ef {x : Str} {e0 : Ef} : ∀ {st r : List Ef}, st.filter (fun e => decide (e.kind = x)) = e0 :: r → ∃ j, (st.map Ef.d).findIdx? (fun d => d.eqv e0.d) = some j ∧ (st.map Ef.d).eraseIdx j = (rmFirst x st).map Ef.d
  | [], r, h => by cases h
  | e :: st, r, h => by
    by_cases hx : e.kind = x
    · rw [List.filter_cons_of_pos (by simpa using hx)] at h
      cases h
      refine ⟨0, ?_, ?_⟩
      · rw [List.map_cons, List.findIdx?_cons, eqv_self9 e0.d (by simp [Ef.d])]; rfl
      · simp [rmFirst, hx]
    · rw [List.filter_cons_of_neg (by simpa using hx)] at h
      obtain ⟨j, h1, h2⟩ := rem_ef h
      have h0 : e0.kind = x := by
        have : e0 ∈ st.filter (fun e => decide (e.kind = x)) := by rw [h]; simp
        simpa using (List.mem_filter.mp this).2
      have he : e.d.eqv e0.d = false := by
        have : ¬ e.kind = e0.kind := by rw [h0]; exact hx
        simp [Ef.d, D.eqv, eqvs, this]
      refine ⟨j + 1, ?_, ?_⟩
      · rw [List.map_cons, List.findIdx?_cons, he, h1]; rfl
      · rw [List.map_cons, List.eraseIdx_cons_succ, h2, rmFirst, if_neg hx, List.map_cons]
/-- what stands for a state -/
def StV (st : List Ef) (s : D) : Prop := s = stD st ∨ s = .lst (st.map Ef.d)
theorem StV.it {st : List Ef} {s : D} (h : StV st s) (M : Hh) : itemsOf M s = some (st.map Ef.d, []) := by
  rcases h with rfl | rfl
  · exact it_st st M
  · rw [itemsOf]
theorem StV.lk {st : List Ef} {s : D} (h : StV st s) (M : Hh) : lockM s M = M := by rcases h with rfl | rfl <;> rfl
theorem StV.len {st : List Ef} {s : D} (h : StV st s) (M : Hh) : b1D false .len s M = .ok (.int st.length) M := by rcases h with rfl | rfl <;> simp [stD, b1D]
theorem StV.list {st : List Ef} {s : D} (h : StV st s) (M : Hh) : b1D false .list s M = .ok (.lst (st.map Ef.d)) M := by rcases h with rfl | rfl <;> simp [stD, b1D]
theorem StV.listT {st : List Ef} {s : D} (h : StV st s) (M : Hh) : b1D true .list s M = .ok (.ref M.length) (M ++ [.lst (st.map Ef.d)]) := by rcases h with rfl | rfl <;> simp [stD, b1D]
section
variable {N : Nat} {bk : Bk} {st : List Ef} {s : D} {M : Hh}
theorem ef0Q (e : Ef) (M : Hh) : ixD e.d (.int 0) M = .ok (.str e.kind) M := ixT (v := 0) rfl M
theorem ef2Q (e : Ef) (M : Hh) : ixD e.d (.int 2) M = .ok (oI e.left) M := ixT (v := 2) rfl M
theorem acted_p (hN : 2 ≤ N) (hs : StV st s) (hl : st.length ≤ 10000) (n : Int) : back false M (callF GP N 90 [bk.d, s, (Act.pass n).d] M) = .ok (.lst ((passT st n).map Ef.d)) M := by
  refine eq_of (back_p (call_w (by omega) g90 rfl ?_))
  have i0 : ∀ M, ixD (Act.pass n).d (.int 0) M = .ok (.str "pass") M := fun M => rfl
  have i1 : ∀ M, ixD (Act.pass n).d (.int 1) M = .ok (.int n) M := fun M => rfl
  have it := fun M => hs.it M
  have lk := fun M => hs.lk M
  have lz : st.length ≤ 16777216 := by omega
  have ls := fun o M => less_sp (N := N - 1) (by omega) o n M
  rw [pass_fm]
  generalize (Act.pass n).d = a at *
  generalize bk.d = b
  dsimp only [F90, b90]
  simp [-Mi.es_for, Mi.WR_ok, Mi.WR_bind, Mi.WR_ite, Mi.WS_ite, Mi.WS_nx, Mi.WS_rt, Mi.WS_then, Mi.WS_st, Mi.WR_endF, Mi.WS_for, Mi.WS_while, Mi.WR_bad, Mi.WS_bad, Mi.WR_bno, Mi.WS_stX, i0, ceqs, it, lk, lz]
  refine lc_tp (f := Ef.d) (psC n) Ef.d (locked_nil _) (fun e he => ⟨_, rfl, ?_, fun _ => by simp⟩) ?_
  · obtain ⟨k, g, l⟩ := e
    have e2 : ∀ M, ixD (Ef.mk k g l).d (.int 2) M = .ok (oI l) M := fun M => rfl
    cases l with
    | none => simp [e2, oI, isN, psC]
    | some l => simp [e2, oI, isN, psC, i1, cgt]
  · have dr := der_at (M := M) rfl ((st.filter (psC n)).map Ef.d)
    have itr : itemsOf (M ++ [.lst ((st.filter (psC n)).map Ef.d)]) (.ref M.length) = some ((st.filter (psC n)).map Ef.d, [(M.length, (st.filter (psC n)).map Ef.d)]) := itemsB rfl _
    have lkr : lockM (.ref M.length) (M ++ [.lst ((st.filter (psC n)).map Ef.d)]) = M ++ [.lst ((st.filter (psC n)).map Ef.d)] := lockM_rl (ds := (st.filter (psC n)).map Ef.d) (by simp)
    have lz2 : (st.filter (psC n)).length ≤ 16777216 := Nat.le_trans (List.length_filter_le _ _) lz
    have lo := locked_at (M := M) rfl ((st.filter (psC n)).map Ef.d)
    generalize st.filter (psC n) = fs at *
    simp [-Mi.es_for, Mi.WR_ok, Mi.WR_bind, Mi.WR_ite, Mi.WS_ite, Mi.WS_nx, Mi.WS_rt, Mi.WS_then, Mi.WS_st, Mi.WR_endF, Mi.WS_for, Mi.WS_while, Mi.WR_bad, Mi.WS_bad, Mi.WR_bno, Mi.WS_stX, alloc, itr, lkr, lz2]
    refine lc_tm (f := Ef.d) (fun e => (lessE n e).d) lo (fun e he => ⟨_, rfl, by simp, by simp [i1, ls, lessE, Ef.d]⟩) ?_
    have em : (fs.map fun e => (lessE n e).d) = (fs.map (lessE n)).map Ef.d := by rw [List.map_map]; rfl
    rw [em]
    have pl : (D.lst ((fs.map (lessE n)).map Ef.d)).plain = true := by rw [D.plain]; exact plains_map Ef.d (fun e => by simp [Ef.d]) _
    generalize D.lst ((fs.map (lessE n)).map Ef.d) = r at *
    simp [-Mi.es_for, Mi.WR_ok, Mi.WR_bind, Mi.WR_ite, Mi.WS_ite, Mi.WS_nx, Mi.WS_rt, Mi.WS_then, Mi.WS_st, Mi.WR_endF, Mi.WS_for, Mi.WS_while, Mi.WR_bad, Mi.WS_bad, Mi.WR_bno, Mi.WS_stX]
    exact plain_still _ pl
end
end Mi
end
section
set_option Elab.async false
set_option linter.all false
set_option maxRecDepth 100000
/-! K9B: effects behind an act, told by the law (90): end, bring. -/
namespace Mi
open PySem L2
section
variable {N : Nat} {bk : Bk} {st : List Ef} {s : D} {M : Hh}
def R90 : E := .lc false [7] (.name 7) (.val (.var 1)) (.cons (.cmp .ne (.ix (.var 7) (.int 0)) (.ix (.var 2) (.int 1))) .nil) (.var 7)
theorem rest90 {G : Sg} (hs : StV st s) (hl : st.length ≤ 10000) {a b : D} {x : Str} (i1 : ∀ M, ixD a (.int 1) M = .ok (.str x) M) {a3 a4 a5 a6 : Option D} : evE G R90 [some b, some s, some a, a3, a4, a5, a6, none, none, none, none, none] M = .ok (.lst ((finT st x).map Ef.d)) M := by
  have it := fun M => hs.it M
  have lk := fun M => hs.lk M
  have lz : st.length ≤ 16777216 := by omega
  refine eq_of ?_
  unfold R90
  simp [-Mi.es_for, Mi.WR_ok, Mi.WR_bind, Mi.WR_ite, Mi.WS_ite, Mi.WS_nx, Mi.WS_rt, Mi.WS_then, Mi.WS_st, Mi.WR_endF, Mi.WS_for, Mi.WS_while, Mi.WR_bad, Mi.WS_bad, Mi.WR_bno, Mi.WS_stX, it, lk, lz]
  refine lc_tp (f := Ef.d) (fun e => !decide (e.kind = x)) Ef.d (locked_nil _) (fun e he => ⟨_, rfl, by simp [ef0Q, i1, cnes], fun _ => by simp⟩) ?_
  have : (st.filter fun e => !decide (e.kind = x)) = finT st x := rfl
  rw [this]
  simp [-Mi.es_for, Mi.WR_ok, Mi.WR_bind, Mi.WR_ite, Mi.WS_ite, Mi.WS_nx, Mi.WS_rt, Mi.WS_then, Mi.WS_st, Mi.WR_endF, Mi.WS_for, Mi.WS_while, Mi.WR_bad, Mi.WS_bad, Mi.WR_bno, Mi.WS_stX]
def F90e : E := .lc false [7] (.name 7) (.val (.var 1)) (.cons (.cmp .eq (.ix (.var 7) (.int 0)) (.ix (.var 2) (.int 1))) .nil) (.var 7)
theorem first90 {G : Sg} (hs : StV st s) (hl : st.length ≤ 10000) {a b : D} {x : Str} (i1 : ∀ M, ixD a (.int 1) M = .ok (.str x) M) {a3 a4 a5 a6 : Option D} : evE G F90e [some b, some s, some a, a3, a4, a5, a6, none, none, none, none, none] M = .ok (.lst ((st.filter fun e => decide (e.kind = x)).map Ef.d)) M := by
  have it := fun M => hs.it M
  have lk := fun M => hs.lk M
  have lz : st.length ≤ 16777216 := by omega
  refine eq_of ?_
  unfold F90e
  simp [-Mi.es_for, Mi.WR_ok, Mi.WR_bind, Mi.WR_ite, Mi.WS_ite, Mi.WS_nx, Mi.WS_rt, Mi.WS_then, Mi.WS_st, Mi.WR_endF, Mi.WS_for, Mi.WS_while, Mi.WR_bad, Mi.WS_bad, Mi.WR_bno, Mi.WS_stX, it, lk, lz]
  refine lc_tp (f := Ef.d) (fun e => decide (e.kind = x)) Ef.d (locked_nil _) (fun e he => ⟨_, rfl, by simp [ef0Q, i1, ceqs], fun _ => by simp⟩) ?_
  simp [-Mi.es_for, Mi.WR_ok, Mi.WR_bind, Mi.WR_ite, Mi.WS_ite, Mi.WS_nx, Mi.WS_rt, Mi.WS_then, Mi.WS_st, Mi.WR_endF, Mi.WS_for, Mi.WS_while, Mi.WR_bad, Mi.WS_bad, Mi.WR_bno, Mi.WS_stX]
def T90 : E := .lc false [11] (.name 11) (.val (.ix (.var 0) (.int 1))) (.cons (.cmp .eq (.ix (.var 11) (.int 0)) (.ix (.var 2) (.int 1))) .nil) (.var 11)
theorem told90 {G : Sg} (hk : bk.kinds.length ≤ 1000) {a s : D} {x : Str} (i1 : ∀ M, ixD a (.int 1) M = .ok (.str x) M) {a3 a4 a5 a6 : Option D} : evE G T90 [some bk.d, some s, some a, a3, a4, a5, a6, none, none, none, none, none] M = .ok (.lst ((bk.kinds.filter fun k => decide (k.nm = x)).map Knd.d)) M := by
  have itT : ∀ (ds : List D) (M : Hh), itemsOf M (.tup ds) = some (ds, []) := fun ds M => by rw [itemsOf]
  have lz : bk.kinds.length ≤ 16777216 := by omega
  have kd : ∀ (k : Knd) M, ixD k.d (.int 0) M = .ok (.str k.nm) M := fun k M => rfl
  refine eq_of ?_
  unfold T90
  simp [-Mi.es_for, Mi.WR_ok, Mi.WR_bind, Mi.WR_ite, Mi.WS_ite, Mi.WS_nx, Mi.WS_rt, Mi.WS_then, Mi.WS_st, Mi.WR_endF, Mi.WS_for, Mi.WS_while, Mi.WR_bad, Mi.WS_bad, Mi.WR_bno, Mi.WS_stX, bk1, itT, lz]
  refine lc_tp (f := Knd.d) (fun k => decide (k.nm = x)) Knd.d (locked_nil _) (fun k hk => ⟨_, rfl, by simp [kd, i1, ceqs], fun _ => by simp⟩) ?_
  simp [-Mi.es_for, Mi.WR_ok, Mi.WR_bind, Mi.WR_ite, Mi.WS_ite, Mi.WS_nx, Mi.WS_rt, Mi.WS_then, Mi.WS_st, Mi.WR_endF, Mi.WS_for, Mi.WS_while, Mi.WR_bad, Mi.WS_bad, Mi.WR_bno, Mi.WS_stX]
theorem stL_plain (st : List Ef) : (D.lst (st.map Ef.d)).plain = true := by rw [D.plain]; exact plains_map Ef.d (fun e => by simp [Ef.d]) _
theorem acted_f (hN : 2 ≤ N) (hs : StV st s) (hl : st.length ≤ 10000) (x : Str) : back false M (callF GP N 90 [bk.d, s, (Act.fin x).d] M) = .ok (.lst ((finT st x).map Ef.d)) M := by
  refine eq_of (back_p (call_w (by omega) g90 rfl ?_))
  have i0 : ∀ M, ixD (Act.fin x).d (.int 0) M = .ok (.str "end") M := fun M => rfl
  have i1 : ∀ M, ixD (Act.fin x).d (.int 1) M = .ok (.str x) M := fun M => rfl
  have rs := rest90 (G := sig GP (N - 1)) (b := bk.d) (M := M) hs hl i1 (a3 := none) (a4 := none) (a5 := none) (a6 := none)
  have pl := stL_plain (finT st x)
  generalize (Act.fin x).d = a at *
  generalize bk.d = b at *
  generalize D.lst ((finT st x).map Ef.d) = r at *
  have c1 : ∀ M, cmpD .eq (.str "end") (.str "pass") M = .ok (.bl false) M := fun M => by rw [ceqs]; rfl
  have c2 : ∀ M, cmpD .eq (.str "end") (.str "end") M = .ok (.bl true) M := fun M => by rw [ceqs]; rfl
  dsimp only [F90]
  rw [show b90 = .cons (stAt 0 b90) (.cons (.set (.name 3) R90) (.cons (stAt 2 b90) (tlS 3 b90))) from rfl]
  generalize R90 = RR at *
  generalize tlS 3 b90 = TT
  dsimp only [stAt, b90]
  simp [-Mi.es_for, Mi.WR_ok, Mi.WR_bind, Mi.WR_ite, Mi.WS_ite, Mi.WS_nx, Mi.WS_rt, Mi.WS_then, Mi.WS_st, Mi.WR_endF, Mi.WS_for, Mi.WS_while, Mi.WR_bad, Mi.WS_bad, Mi.WR_bno, Mi.WS_stX, i0, c1, c2, rs]
  exact plain_still _ pl
end
end Mi
end
section
set_option Elab.async false
set_option linter.all false
set_option maxRecDepth 100000
/-! K9C: effects behind an act, told by the law (90): bring; all. -/
namespace Mi
open PySem L2
theorem cnt_fin (x : Str) : ∀ st : List Ef, (finT st x).length + cntE st x = st.length
  | [] => rfl
  | e :: st => by
    have ih := cnt_fin x st
    unfold finT cntE at ih ⊢
    by_cases h : e.kind = x
    · rw [List.filter_cons_of_neg (by simp [h]), List.filter_cons_of_pos (by simp [h])]
      simp only [List.length_cons]; omega
    · rw [List.filter_cons_of_pos (by simp [h]), List.filter_cons_of_neg (by simp [h])]
      simp only [List.length_cons]; omega
theorem stL_dep (st : List Ef) : depths (st.map Ef.d) ≤ 60 := by
  refine Nat.le_trans (depths_map_le Ef.d 1 (fun e => ?_) st) (by decide)
  obtain ⟨k, g, l⟩ := e
  cases l <;> simp [Ef.d, oI]
section
variable {N : Nat} {bk : Bk} {st : List Ef} {s : D} {M : Hh}
theorem acted_b (hN : 2 ≤ N) (hs : StV st s) (hl : st.length ≤ 10000) (hkl : bk.kinds.length ≤ 1000) {x : Str} {k : Knd} (hk : kOf bk.kinds x = some k) (hm : 1 ≤ k.most) (hc : (cntE st x : Int) ≤ k.most) (n : Int) : back false M (callF GP N 90 [bk.d, s, (Act.bring x n).d] M) = .ok (.lst ((bringT st k n).map Ef.d)) M := by
  refine eq_of (back_p (call_w (by omega) g90 rfl ?_))
  obtain ⟨hkm, hkn⟩ := kOf_some hk
  have i0 : ∀ M, ixD (Act.bring x n).d (.int 0) M = .ok (.str "bring") M := fun M => rfl
  have i1 : ∀ M, ixD (Act.bring x n).d (.int 1) M = .ok (.str x) M := fun M => rfl
  have i2 : ∀ M, ixD (Act.bring x n).d (.int 2) M = .ok (.int n) M := fun M => rfl
  have k2 : ∀ M, ixD k.d (.int 2) M = .ok (oI k.lasts) M := fun M => rfl
  have k3 : ∀ M, ixD k.d (.int 3) M = .ok (.int k.most) M := fun M => rfl
  have k4 : ∀ M, ixD k.d (.int 4) M = .ok (.bl k.fresh) M := fun M => rfl
  have rs := fun a3 => rest90 (G := sig GP (N - 1)) (b := bk.d) (M := M) hs hl i1 (a3 := a3) (a4 := none) (a5 := none) (a6 := none)
  have tl := fun a3 => told90 (G := sig GP (N - 1)) (s := s) (M := M) hkl i1 (a3 := a3) (a4 := none) (a5 := none) (a6 := none)
  have fs := fun a3 a4 a5 a6 M => first90 (G := sig GP (N - 1)) (b := bk.d) (M := M) hs hl i1 (a3 := a3) (a4 := a4) (a5 := a5) (a6 := a6)
  obtain ⟨kr, hkr⟩ : ∃ r, (bk.kinds.filter fun k => decide (k.nm = x)) = k :: r := by
    have h2 : (bk.kinds.filter fun k => decide (k.nm = x)).head? = some k := by rw [List.head?_filter]; exact hk
    cases hh : bk.kinds.filter fun k => decide (k.nm = x) with
    | nil => rw [hh] at h2; cases h2
    | cons a r => rw [hh] at h2; cases h2; exact ⟨r, rfl⟩
  rw [hkr] at tl
  have ixk : ∀ M, ixD (.lst ((k :: kr).map Knd.d)) (.int 0) M = .ok k.d M := fun M => ixn (v := 0) (by decide) rfl M
  have ln1 := fun M => hs.len M
  have ln3 : ∀ M, b1D false .len (.lst ((finT st x).map Ef.d)) M = .ok (.int (finT st x).length) M := fun M => by simp [b1D]
  have lst_ := fun M => hs.list M
  have lstT := hs.listT M
  have cf := cnt_fin x st
  have sb : ∀ M, binD false .sub (.int st.length) (.int (finT st x).length) M = .ok (.int (cntE st x)) M := fun M => by
    have : ((st.length : Int) - (finT st x).length) = (cntE st x : Int) := by omega
    rw [← this]; rfl
  have pl : (D.lst ((bringT st k n).map Ef.d)).plain = true := stL_plain _
  have brl : (bringT st k n).length ≤ st.length + 1 := by
    have := rm_len k.nm st
    unfold bringT
    split
    · simp
    · split
      · simp; omega
      · omega
  have nw : D.tup [.str x, .int n, oI k.lasts] = (Ef.mk x n k.lasts).d := rfl
  have c1 : ∀ M, cmpD .eq (.str "bring") (.str "pass") M = .ok (.bl false) M := fun M => by rw [ceqs]; rfl
  have c2 : ∀ M, cmpD .eq (.str "bring") (.str "end") M = .ok (.bl false) M := fun M => by rw [ceqs]; rfl
  have addL : ∀ (M : Hh) (st' : List Ef), st'.length ≤ 10000 → binD false .add (.ref M.length) (.lst [(Ef.mk x n k.lasts).d]) (M ++ [.lst (st'.map Ef.d)]) = .ok (.lst ((st' ++ [Ef.mk x n k.lasts]).map Ef.d)) (M ++ [.lst (st'.map Ef.d)]) := fun M st' h => by
    have d1 := der_at (M := M) rfl (st'.map Ef.d)
    simp only [binD, d1, der_D_lst, addD]
    rw [if_pos (by simp; omega)]
    simp [alloc]
  obtain ⟨e, he⟩ : ∃ e, e = decide ((cntE st x : Int) = k.most) := ⟨_, rfl⟩
  have ce : ∀ M, cmpD .eq (.int (cntE st x)) (.int k.most) M = .ok (.bl e) M := fun M => by rw [ceq, he]
  have rem : e = true → ∃ e0 r, (st.filter fun e => decide (e.kind = x)) = e0 :: r ∧ bmD .lremove (.ref M.length) [e0.d] (M ++ [.lst (st.map Ef.d)]) = .ok .non (M ++ [.lst ((rmFirst x st).map Ef.d)]) := fun h => by
    rw [he, decide_eq_true_eq] at h
    cases hf : st.filter fun e => decide (e.kind = x) with
    | nil =>
      have : cntE st x = 0 := by unfold cntE; rw [hf]; rfl
      omega
    | cons e0 r =>
      refine ⟨e0, r, rfl, ?_⟩
      obtain ⟨j, h1, h2⟩ := rem_ef hf
      have p1 : plains (st.map Ef.d) = true := plains_map Ef.d (fun e => by simp [Ef.d]) _
      have p2 := stL_dep st
      have g : (M ++ [MO.lst (st.map Ef.d)])[M.length]? = some (.lst (st.map Ef.d)) := by simp
      have p3 : e0.d.depth ≤ 60 := by
        obtain ⟨k, g, l⟩ := e0
        cases l <;> simp [Ef.d, oI]
      simp only [bmD, refL, g]
      rw [if_pos ⟨by simp [Ef.d], p1, p2, p3⟩, h1]
      dsimp only
      rw [h2]
      simp
  have ixf : ∀ e0 r, (st.filter fun e => decide (e.kind = x)) = e0 :: r → ∀ M, ixD (.lst ((st.filter fun e => decide (e.kind = x)).map Ef.d)) (.int 0) M = .ok e0.d M := fun e0 r h M => by rw [h]; exact ixn (v := 0) (by decide) rfl M
  have hb : (e = true → k.fresh = false → bringT st k n = st) ∧ (e = true → k.fresh = true → bringT st k n = rmFirst x st ++ [Ef.mk x n k.lasts]) ∧ (e = false → bringT st k n = st ++ [Ef.mk x n k.lasts]) := by
    unfold bringT
    rw [hkn]
    refine ⟨fun h hf => ?_, fun h hf => ?_, fun h => ?_⟩
    · rw [he, decide_eq_true_eq] at h
      rw [if_neg (by omega), if_neg (by simp [hf])]
    · rw [he, decide_eq_true_eq] at h
      rw [if_neg (by omega), if_pos hf]
    · rw [he, decide_eq_false_iff_not] at h
      rw [if_pos (by omega)]
  have rl := rm_len x st
  have dref := der_at (M := M) rfl (st.map Ef.d)
  generalize hact : (Act.bring x n).d = a at *
  generalize hbk : bk.d = b at *
  generalize hkd : k.d = kd at *
  generalize hres : D.lst ((finT st x).map Ef.d) = rst at *
  generalize hkk : D.lst ((k :: kr).map Knd.d) = kl at *
  generalize hfl : D.lst ((st.filter fun e => decide (e.kind = x)).map Ef.d) = fl at *
  dsimp only [F90]
  rw [show b90 = .cons (stAt 0 b90) (.cons (.set (.name 3) R90) (.cons (stAt 2 b90) (.cons (.set (.name 4) (.ix T90 (.int 0))) (.cons (stAt 4 b90) (.cons (stAt 5 b90) (.cons (stAt 6 b90) (.cons (.ite (.cmp .eq (.var 5) (.ix (.var 4) (.int 3))) (.cons (.expr (.bm .lremove (.var 6) (.cons (.ix F90e (.int 0)) .nil))) .nil) .nil) (.cons (stAt 8 b90) .nil)))))))) from rfl]
  generalize R90 = RR at *
  generalize T90 = TT at *
  generalize F90e = FF at *
  show WS (evSs (sig GP (N - 1)) _ [some b, some s, some a, none, none, none, none, none, none, none, none, none] M) _ _
  have e0 : evS (sig GP (N - 1)) (stAt 0 b90) [some b, some s, some a, none, none, none, none, none, none, none, none, none] M = .nx [some b, some s, some a, none, none, none, none, none, none, none, none, none] M := by
    dsimp only [stAt, b90]
    simp [i0, c1]
  rw [ess_cons, e0, RS.then_nx]
  have e1 : evS (sig GP (N - 1)) (.set (.name 3) RR) [some b, some s, some a, none, none, none, none, none, none, none, none, none] M = .nx [some b, some s, some a, some rst, none, none, none, none, none, none, none, none] M := by
    simp [rs]
  rw [ess_cons, e1, RS.then_nx]
  have e2 : evS (sig GP (N - 1)) (stAt 2 b90) [some b, some s, some a, some rst, none, none, none, none, none, none, none, none] M = .nx [some b, some s, some a, some rst, none, none, none, none, none, none, none, none] M := by
    dsimp only [stAt, b90]
    simp [i0, c2]
  rw [ess_cons, e2, RS.then_nx]
  have e3 : evS (sig GP (N - 1)) (.set (.name 4) (.ix TT (.int 0))) [some b, some s, some a, some rst, none, none, none, none, none, none, none, none] M = .nx [some b, some s, some a, some rst, some kd, none, none, none, none, none, none, none] M := by
    simp [tl, ixk]
  rw [ess_cons, e3, RS.then_nx]
  have e4 : evS (sig GP (N - 1)) (stAt 4 b90) [some b, some s, some a, some rst, some kd, none, none, none, none, none, none, none] M = .nx [some b, some s, some a, some rst, some kd, some (.int (cntE st x)), none, none, none, none, none, none] M := by
    dsimp only [stAt, b90]
    simp [ln1, ln3, sb]
  rw [ess_cons, e4, RS.then_nx]
  have fin : ∀ (H : Hh), (∃ X, H = M ++ X) → ∀ r, r = bringT st k n → ((∃ X, H = M ++ X) ∧ (D.lst (r.map Ef.d)).still = true ∧ D.lst (r.map Ef.d) = D.lst ((bringT st k n).map Ef.d) ∧ M = M) := fun H h r hr => by rw [hr]; exact ⟨h, plain_still _ pl, rfl, rfl⟩
  have h5 : stAt 5 b90 = .ite (.and (.cmp .eq (.var 5) (.ix (.var 4) (.int 3))) (.not (.ix (.var 4) (.int 4)))) (.cons (.ret (.b1 false .list (.var 1))) .nil) .nil := rfl
  have h6 : stAt 6 b90 = .set (.name 6) (.b1 true .list (.var 1)) := rfl
  have h8 : stAt 8 b90 = .ret (.bin false .add (.var 6) (.lst false (.cons (.tup (.cons (.ix (.var 2) (.int 1)) (.cons (.ix (.var 2) (.int 2)) (.cons (.ix (.var 4) (.int 2)) .nil)))) .nil))) := rfl
  have e6 : evS (sig GP (N - 1)) (stAt 6 b90) [some b, some s, some a, some rst, some kd, some (.int (cntE st x)), none, none, none, none, none, none] M = .nx [some b, some s, some a, some rst, some kd, some (.int (cntE st x)), some (.ref M.length), none, none, none, none, none] (M ++ [.lst (st.map Ef.d)]) := by
    rw [h6]
    simp [lstT]
  have e8 : ∀ st' : List Ef, st'.length ≤ 10000 → evS (sig GP (N - 1)) (stAt 8 b90) [some b, some s, some a, some rst, some kd, some (.int (cntE st x)), some (.ref M.length), none, none, none, none, none] (M ++ [.lst (st'.map Ef.d)]) = .rt (.lst ((st' ++ [Ef.mk x n k.lasts]).map Ef.d)) (M ++ [.lst (st'.map Ef.d)]) := fun st' h => by
    rw [h8]
    have ad := addL M st' h
    generalize D.lst ((st' ++ [Ef.mk x n k.lasts]).map Ef.d) = rr at *
    generalize M ++ [MO.lst (st'.map Ef.d)] = H at *
    simp [i1, i2, k2, nw, ad]
  cases hev : e with
  | false =>
    rw [hev] at ce
    have e5 : evS (sig GP (N - 1)) (stAt 5 b90) [some b, some s, some a, some rst, some kd, some (.int (cntE st x)), none, none, none, none, none, none] M = .nx [some b, some s, some a, some rst, some kd, some (.int (cntE st x)), none, none, none, none, none, none] M := by
      rw [h5]
      simp [k3, ce]
    have e7 : evS (sig GP (N - 1)) (.ite (.cmp .eq (.var 5) (.ix (.var 4) (.int 3))) (.cons (.expr (.bm .lremove (.var 6) (.cons (.ix FF (.int 0)) .nil))) .nil) .nil) [some b, some s, some a, some rst, some kd, some (.int (cntE st x)), some (.ref M.length), none, none, none, none, none] (M ++ [.lst (st.map Ef.d)]) = .nx [some b, some s, some a, some rst, some kd, some (.int (cntE st x)), some (.ref M.length), none, none, none, none, none] (M ++ [.lst (st.map Ef.d)]) := by
      generalize M ++ [MO.lst (st.map Ef.d)] = H
      simp [k3, ce]
    rw [ess_cons, e5, RS.then_nx, ess_cons, e6, RS.then_nx, ess_cons, e7, RS.then_nx, ess_cons, e8 st hl]
    exact fin _ ⟨_, rfl⟩ _ (hb.2.2 hev).symm
  | true =>
    rw [hev] at ce
    cases hfr : k.fresh with
    | false =>
      rw [hfr] at k4
      have e5 : evS (sig GP (N - 1)) (stAt 5 b90) [some b, some s, some a, some rst, some kd, some (.int (cntE st x)), none, none, none, none, none, none] M = .rt (.lst (st.map Ef.d)) M := by
        rw [h5]
        have l := lst_ M
        generalize D.lst (st.map Ef.d) = rr at *
        simp [k3, ce, k4, l]
      rw [ess_cons, e5]
      exact fin _ ⟨[], by simp⟩ _ (hb.1 hev hfr).symm
    | true =>
      rw [hfr] at k4
      obtain ⟨ef, r, hr1, hr2⟩ := rem hev
      have xf := ixf ef r hr1
      have e5 : evS (sig GP (N - 1)) (stAt 5 b90) [some b, some s, some a, some rst, some kd, some (.int (cntE st x)), none, none, none, none, none, none] M = .nx [some b, some s, some a, some rst, some kd, some (.int (cntE st x)), none, none, none, none, none, none] M := by
        rw [h5]
        simp [k3, ce, k4]
      have e7 : evS (sig GP (N - 1)) (.ite (.cmp .eq (.var 5) (.ix (.var 4) (.int 3))) (.cons (.expr (.bm .lremove (.var 6) (.cons (.ix FF (.int 0)) .nil))) .nil) .nil) [some b, some s, some a, some rst, some kd, some (.int (cntE st x)), some (.ref M.length), none, none, none, none, none] (M ++ [.lst (st.map Ef.d)]) = .nx [some b, some s, some a, some rst, some kd, some (.int (cntE st x)), some (.ref M.length), none, none, none, none, none] (M ++ [.lst ((rmFirst x st).map Ef.d)]) := by
        have f1 := fs (some rst) (some kd) (some (.int (cntE st x))) (some (.ref M.length)) (M ++ [.lst (st.map Ef.d)])
        have ce1 := ce (M ++ [.lst (st.map Ef.d)])
        have k31 := k3 (M ++ [.lst (st.map Ef.d)])
        have xf1 := xf (M ++ [.lst (st.map Ef.d)])
        generalize M ++ [MO.lst (st.map Ef.d)] = H at *
        simp [k31, ce1, dref, bmTy, f1, xf1, hr2]
      rw [ess_cons, e5, RS.then_nx, ess_cons, e6, RS.then_nx, ess_cons, e7, RS.then_nx, ess_cons, e8 _ (by omega)]
      exact fin _ ⟨_, rfl⟩ _ (hb.2.1 hev hfr).symm
/-- an act of a book -/
theorem acted90 (hN : 2 ≤ N) (hs : StV st s) (hl : st.length ≤ 10000) (hkl : bk.kinds.length ≤ 1000) (hc : ∀ k ∈ bk.kinds, (cntE st k.nm : Int) ≤ k.most) {a : Act} (ha : ActOn bk.kinds a) : back false M (callF GP N 90 [bk.d, s, a.d] M) = .ok (.lst ((actT bk.kinds st a).map Ef.d)) M := by
  cases a with
  | pass n => exact acted_p hN hs hl n
  | fin x => exact acted_f hN hs hl x
  | bring x n =>
    obtain ⟨k, hk, hm⟩ := ha
    have h := kOf_some hk
    have := acted_b (M := M) hN hs hl hkl hk hm (by rw [← h.2]; exact hc k h.1) n
    show _ = R.ok (D.lst ((match kOf bk.kinds x with | some k => bringT st k n | none => st).map Ef.d)) M
    rw [hk]
    exact this
end
end Mi
end
section
set_option Elab.async false
set_option linter.all false
set_option maxRecDepth 100000
/-! K9D: what is no happening (72, 89, 92, 93). -/
namespace Mi
open PySem L2
theorem sig_xs (P : Pg) (n : Nat) : (sig P n).xs = P.xs := rfl
theorem forL_stay {t : Mi.T} {body : Lo → Hh → RS} {σ : Lo} {M : Hh} : ∀ {xs : List D}, (∀ x ∈ xs, ∃ σ1, t.bind x σ = some σ1 ∧ body σ1 M = .nx σ M) → forL [] t body xs σ M = .nx σ M
  | [], _ => forL_nil0 _ _ _ _
  | x :: xs, h => by
    obtain ⟨σ1, e1, e2⟩ := h x (by simp)
    rw [forL_cons0, e1]
    dsimp only
    rw [e2, RS.then_nx]
    exact forL_stay fun y hy => h y (List.mem_cons_of_mem _ hy)
section
variable {N : Nat} {bk : Bk}
def B72 : Ss := fb 0 b72
theorem b72_eq : b72 = .cons (.for_ (.tup [3, 4]) (.val (.ix (.var 0) (.int 2))) B72) (.cons (.raise 2) .nil) := rfl
theorem odd_72 (hN : 2 ≤ N) (M : Hh) (hz : bk.haps.length ≤ 1000) {s d : D} (hd : d.plain = true) (hn : ∀ p ∈ bk.haps, d ≠ .str p.1) : callF GP N 72 [bk.d, s, d] M = .exc 2 M := by
  have bk2 : ∀ M, ixD bk.d (.int 2) M = .ok (.tup (bk.haps.map hpD)) M := fun M => ixT (v := 2) rfl M
  have itT : ∀ (ds : List D) (M : Hh), itemsOf M (.tup ds) = some (ds, []) := fun ds M => by rw [itemsOf]
  have hz2 : bk.haps.length ≤ 16777216 := by omega
  rw [callF_gt (by omega) g72 rfl]
  dsimp only [F72]
  rw [b72_eq]
  show endF (evSs (sig GP (N - 1)) _ [some bk.d, some s, some d, none, none, none] M) = _
  have step : ∀ x ∈ bk.haps.map hpD, ∃ σ1, (Mi.T.tup [3, 4]).bind x [some bk.d, some s, some d, none, none, none] = some σ1 ∧ evSs (sig GP (N - 1)) B72 σ1 M = .nx [some bk.d, some s, some d, none, none, none] M := fun x hx => by
    obtain ⟨p, hp, rfl⟩ := List.mem_map.mp hx
    refine ⟨[some bk.d, some s, some d, some (.str p.1), some (.tup (p.2.map Act.d)), none], rfl, ?_⟩
    have h := hn p hp
    dsimp only [B72, fb, b72]
    cases d with
    | str y =>
      have hy : ¬ p.1 = y := fun e => h (by rw [e])
      have c := ceqs p.1 y M
      rw [decide_eq_false hy] at c
      simp [tyOk, isTy, c, wipe]
    | non => simp [tyOk, isTy, wipe]
    | bl b => simp [tyOk, isTy, wipe]
    | int i => simp [tyOk, isTy, wipe]
    | tup ds => simp [tyOk, isTy, wipe]
    | lst ds => simp [tyOk, isTy, wipe]
    | dict kv => simp [D.plain] at hd
    | inst c fs => simp [D.plain] at hd
    | fn f => simp [D.plain] at hd
    | scr ns => simp [D.plain] at hd
    | ref i => simp [D.plain] at hd
  have ei : evIt (sig GP (N - 1)) (.val (.ix (.var 0) (.int 2))) [some bk.d, some s, some d, none, none, none] M = .ok (bk.haps.map hpD, []) M := by simp [bk2, itT]
  have ef : evS (sig GP (N - 1)) (.for_ (.tup [3, 4]) (.val (.ix (.var 0) (.int 2))) B72) [some bk.d, some s, some d, none, none, none] M = .nx [some bk.d, some s, some d, none, none, none] M := by
    rw [es_for, ei]
    exact forL_stay step
  rw [ess_cons, ef, RS.then_nx]
  simp [sig_xs, endF]
  try decide
theorem odd_72b (hN : 2 ≤ N) (M : Hh) (hz : bk.haps.length ≤ 1000) {s d : D} (hd : d.plain = true) (hn : ∀ p ∈ bk.haps, d ≠ .str p.1) : back false M (callF GP N 72 [bk.d, s, d] M) = .exc 2 M := by
  rw [odd_72 hN M hz hd hn, exc_back9]
end
end Mi
end
section
set_option Elab.async false
set_option linter.all false
set_option maxRecDepth 100000
/-! K9E: rows with what is no happening (89), met, gone, an act drawn (92, 93, 94). -/
namespace Mi
open PySem L2
structure HapOk (bk : Bk) : Prop where
  nd : (bk.haps.map Prod.fst).Nodup
  hz : bk.haps.length ≤ 1000
  ha : ∀ p ∈ bk.haps, p.2.length ≤ 100 ∧ ∀ a ∈ p.2, ActOn bk.kinds a
section
variable {N : Nat} {bk : Bk}
def B89 : Ss := fb 1 b89
def σ89 (b row : D) (st : List Ef) : Lo := [some b, some row, some (stD st), none]
theorem gone_forL (hN : 10 ≤ N) (M : Hh) (h : HapOk bk) {row : D} {rest : List D} : ∀ (ps : List (Str × List Act)) (st : List Ef), (∀ p ∈ ps, p ∈ bk.haps) → st.length + 100 * ps.length ≤ 50000 → forL [] (.name 3) (evSs (sig GP N) B89) (ps.map (fun p => D.str p.1) ++ rest) (σ89 bk.d row st) M = forL [] (.name 3) (evSs (sig GP N) B89) rest (σ89 bk.d row (ps.foldl (fun st p => happT bk.kinds st p.2) st)) M
  | [], st, _, _ => rfl
  | p :: ps, st, hp, hl => by
    have hpm := hp p (by simp)
    have h3 := (h.ha p hpm).1
    have hs := happened_sp (N := N) (by omega) M h.nd h.hz hpm (h.ha p hpm).2 (st := st) (by simp only [List.length_cons] at hl; omega)
    have h2 := happT_len bk.kinds p.2 st
    rw [List.map_cons, List.cons_append, forL_cons0]
    have eb : (Mi.T.name 3).bind (.str p.1) (σ89 bk.d row st) = some [some bk.d, some row, some (stD st), some (.str p.1)] := rfl
    rw [eb]
    dsimp only
    have e1 : evSs (sig GP N) B89 [some bk.d, some row, some (stD st), some (.str p.1)] M = .nx (σ89 bk.d row (happT bk.kinds st p.2)) M := by
      dsimp only [B89, fb, b89]
      simp [hs, σ89, wipe]
    rw [e1, RS.then_nx, List.foldl_cons]
    exact gone_forL hN M h ps _ (fun q hq => hp q (List.mem_cons_of_mem _ hq)) (by simp only [List.length_cons] at hl; omega)
theorem odd_89 (hN : 11 ≤ N) (M : Hh) (h : HapOk bk) {ps : List (Str × List Act)} (hp : ∀ p ∈ ps, p ∈ bk.haps) (hl : ps.length ≤ 400) {d : D} (hd : d.plain = true) (hn : ∀ p ∈ bk.haps, d ≠ .str p.1) {rest : List D} (hr : rest.length ≤ 400) : back false M (callF GP N 89 [bk.d, .tup (ps.map (fun p => D.str p.1) ++ d :: rest)] M) = .exc 2 M := by
  have e : callF GP N 89 [bk.d, .tup (ps.map (fun p => D.str p.1) ++ d :: rest)] M = .exc 2 M := by
    rw [callF_gt (by omega) g89 rfl]
    dsimp only [F89]
    have itT : ∀ (ds : List D) (M : Hh), itemsOf M (.tup ds) = some (ds, []) := fun ds M => by rw [itemsOf]
    generalize hrow : D.tup (ps.map (fun p => D.str p.1) ++ d :: rest) = row
    show endF (evSs (sig GP (N - 1)) b89 [some bk.d, some row, none, none] M) = _
    rw [show b89 = .cons (.set (.name 2) (.tup .nil)) (.cons (.for_ (.name 3) (.val (.var 1)) B89) (.cons (.ret (.var 2)) .nil)) from rfl]
    have e0 : evS (sig GP (N - 1)) (.set (.name 2) (.tup .nil)) [some bk.d, some row, none, none] M = .nx (σ89 bk.d row []) M := by
      simp [σ89, stD]
    rw [ess_cons, e0, RS.then_nx]
    have ei : evIt (sig GP (N - 1)) (.val (.var 1)) (σ89 bk.d row []) M = .ok (ps.map (fun p => D.str p.1) ++ d :: rest, []) M := by
      have hi : itemsOf M row = some (ps.map (fun p => D.str p.1) ++ d :: rest, []) := by rw [← hrow]; exact itT _ M
      have hk : lockM row M = M := by rw [← hrow]; rfl
      have hz : (ps.map (fun p => D.str p.1) ++ d :: rest).length ≤ 16777216 := by simp; omega
      generalize ps.map (fun p => D.str p.1) ++ d :: rest = items at *
      simp [σ89, hi, hk]
    have ef : evS (sig GP (N - 1)) (.for_ (.name 3) (.val (.var 1)) B89) (σ89 bk.d row []) M = .exc 2 [some bk.d, some row, some (stD (ps.foldl (fun st p => happT bk.kinds st p.2) [])), some d] M := by
      rw [es_for, ei]
      dsimp only
      rw [gone_forL (N := N - 1) (by omega) M h ps [] hp (by simp; omega), forL_cons0]
      have od := odd_72b (N := N - 1) (by omega) M h.hz (s := stD (ps.foldl (fun st p => happT bk.kinds st p.2) [])) hd hn
      have e1 : evSs (sig GP (N - 1)) B89 [some bk.d, some row, some (stD (ps.foldl (fun st p => happT bk.kinds st p.2) [])), some d] M = .exc 2 [some bk.d, some row, some (stD (ps.foldl (fun st p => happT bk.kinds st p.2) [])), some d] M := by
        generalize stD (ps.foldl (fun st p => happT bk.kinds st p.2) []) = ss at *
        dsimp only [B89, fb, b89]
        simp [od]
      show (evSs (sig GP (N - 1)) B89 [some bk.d, some row, some (stD (ps.foldl (fun st p => happT bk.kinds st p.2) [])), some d] M).then _ = _
      rw [e1]
      rfl
    rw [ess_cons, ef]
    rfl
  rw [e, exc_back9]
theorem met92_ok (hN : 2 ≤ N) {b s w Y : D} {M : Hh} (hy : Y.plain = true) (c : back false M (callF GP (N - 1) 72 [b, s, w] M) = .ok Y M) : back false M (callF GP N 92 [b, s, w] M) = .ok Y M := by
  have e : callF GP N 92 [b, s, w] M = .ok Y M := by
    rw [callF_gt (by omega) g92 rfl]
    dsimp only [F92, b92]
    simp [es_try, c, isN]
  have := still_app (M := M) (X := []) (plain_still _ hy)
  rw [List.append_nil] at this
  rw [e, this]
theorem met92_x (hN : 2 ≤ N) {b s w : D} {M : Hh} (c : back false M (callF GP (N - 1) 72 [b, s, w] M) = .exc 2 M) : back false M (callF GP N 92 [b, s, w] M) = .ok (.str "no name") M := by
  have i1 : ∀ (a b : D) M, ixD (.lst [a, b]) (.int 1) M = .ok b M := fun a b M => ixn (v := 1) (by decide) rfl M
  have e : callF GP N 92 [b, s, w] M = .ok (.str "no name") M := by
    rw [callF_gt (by omega) g92 rfl]
    dsimp only [F92, b92]
    simp (decide := true) [es_try, ceq, c, isN, sig_xs, suite, i1, b1_intb]
  have := still_app (M := M) (X := []) (d := .str "no name") rfl
  rw [List.append_nil] at this
  rw [e, this]
theorem gone93_x (hN : 2 ≤ N) {b r : D} {M : Hh} (c : back false M (callF GP (N - 1) 89 [b, r] M) = .exc 2 M) : back false M (callF GP N 93 [b, r] M) = .ok (.str "no name") M := by
  have i1 : ∀ (a b : D) M, ixD (.lst [a, b]) (.int 1) M = .ok b M := fun a b M => ixn (v := 1) (by decide) rfl M
  have e : callF GP N 93 [b, r] M = .ok (.str "no name") M := by
    rw [callF_gt (by omega) g93 rfl]
    dsimp only [F93, b93]
    simp (decide := true) [es_try, ceq, c, isN, sig_xs, suite, i1, b1_intb]
  have := still_app (M := M) (X := []) (d := .str "no name") rfl
  rw [List.append_nil] at this
  rw [e, this]
end
theorem wor_g {N f : Nat} (hN : 2 ≤ N) : Gen N 10 f 3 [.ref f] fun d => ∃ v : Int, d = .int v ∧ worthI v := by
  intro B M hB hF
  obtain ⟨b, rfl⟩ : ∃ b, B = b + 3 := ⟨B - 3, by omega⟩
  obtain ⟨n, rfl⟩ : ∃ n, N = n + 2 := ⟨N - 2, by omega⟩
  obtain ⟨v, M', c, h, D⟩ := worth_ok gd9 g10 n f b M hF
  exact WR_of c (.mk0 D (by omega) rfl ⟨v, rfl, by unfold worthI; omega⟩)
theorem act94_g {N f : Nat} (hN : 4 ≤ N) {kinds : List Str} (hl : kinds.length ≤ 1000) : Gen N 94 f 6 [.ref f, .lst (kinds.map .str)] fun d => ∃ a : Act, d = a.d ∧ QAct9 kinds a := by
  intro B M hB hF
  refine call_w (by omega) g94 rfl ?_
  have ln : ∀ M, b1D false .len (.lst (kinds.map .str)) M = .ok (.int kinds.length) M := fun M => by simp [b1D]
  have em : ∀ M, cmpD .eq (.lst (kinds.map .str)) (.lst []) M = .ok (.bl kinds.isEmpty) M := fun M => by cases kinds <;> simp [cmpD, eqD, D.eqv, eqvs]
  have ad : ∀ a b : Int, ∀ M, binD false .add (.int a) (.int b) M = .ok (.int (a + b)) M := fun a b M => rfl
  dsimp only [F94, b94]
  simp [-Mi.es_for, Mi.WR_ok, Mi.WR_bind, Mi.WR_ite, Mi.WS_ite, Mi.WS_nx, Mi.WS_rt, Mi.WS_then, Mi.WS_st, Mi.WR_endF, Mi.WS_for, Mi.WS_while, Mi.WR_bad, Mi.WS_bad, Mi.WR_bno, Mi.WS_stX]
  refine q_w0 hF (by omega) (by omega) (by omega) (by omega) fun v M1 l u D1 q1 => ?_
  by_cases h0 : v = 0
  · simp [-Mi.es_for, Mi.WR_ok, Mi.WR_bind, Mi.WR_ite, Mi.WS_ite, Mi.WS_nx, Mi.WS_rt, Mi.WS_then, Mi.WS_st, Mi.WR_endF, Mi.WS_for, Mi.WS_while, Mi.WR_bad, Mi.WS_bad, Mi.WR_bno, Mi.WS_stX, ceq, h0]
    refine q_w0 D1.2 (by omega) (by omega) (by omega) (by omega) fun v2 M2 l2 u2 D2 q2 => ?_
    simp [-Mi.es_for, Mi.WR_ok, Mi.WR_bind, Mi.WR_ite, Mi.WS_ite, Mi.WS_nx, Mi.WS_rt, Mi.WS_then, Mi.WS_st, Mi.WR_endF, Mi.WS_for, Mi.WS_while, Mi.WR_bad, Mi.WS_bad, Mi.WR_bno, Mi.WS_stX, ad]
    exact .mk0 (D1.trans D2) (by omega) (by simp) ⟨.pass (1 + v2), rfl, .inr (.inr ⟨_, rfl, by omega, by omega⟩)⟩
  by_cases he : kinds = []
  · subst he
    have em0 : ∀ M, cmpD .eq (.lst []) (.lst []) M = .ok (.bl true) M := fun M => by simp [cmpD, eqD, D.eqv, eqvs]
    simp [-Mi.es_for, Mi.WR_ok, Mi.WR_bind, Mi.WR_ite, Mi.WS_ite, Mi.WS_nx, Mi.WS_rt, Mi.WS_then, Mi.WS_st, Mi.WR_endF, Mi.WS_for, Mi.WS_while, Mi.WR_bad, Mi.WS_bad, Mi.WR_bno, Mi.WS_stX, ceq, h0, em0]
    refine q_w0 D1.2 (by omega) (by omega) (by omega) (by omega) fun v2 M2 l2 u2 D2 q2 => ?_
    simp [-Mi.es_for, Mi.WR_ok, Mi.WR_bind, Mi.WR_ite, Mi.WS_ite, Mi.WS_nx, Mi.WS_rt, Mi.WS_then, Mi.WS_st, Mi.WR_endF, Mi.WS_for, Mi.WS_while, Mi.WR_bad, Mi.WS_bad, Mi.WR_bno, Mi.WS_stX, ad]
    exact .mk0 (D1.trans D2) (by omega) (by simp) ⟨.pass (1 + v2), rfl, .inr (.inr ⟨_, rfl, by omega, by omega⟩)⟩
  have hp : 0 < kinds.length := List.length_pos_iff.mpr he
  have em : ∀ M, cmpD .eq (.lst (kinds.map .str)) (.lst []) M = .ok (.bl false) M := fun M => by rw [em]; cases kinds with | nil => exact absurd rfl he | cons _ _ => rfl
  simp [-Mi.es_for, Mi.WR_ok, Mi.WR_bind, Mi.WR_ite, Mi.WS_ite, Mi.WS_nx, Mi.WS_rt, Mi.WS_then, Mi.WS_st, Mi.WR_endF, Mi.WS_for, Mi.WS_while, Mi.WR_bad, Mi.WS_bad, Mi.WR_bno, Mi.WS_stX, ceq, h0, em, ln]
  refine q_w0 D1.2 (by omega) (by omega) (by omega) (by omega) fun v2 M2 l2 u2 D2 q2 => ?_
  obtain ⟨x, hx, e⟩ := ixS (xs := kinds) l2 u2 M2
  by_cases h1 : v = 1
  · simp [-Mi.es_for, Mi.WR_ok, Mi.WR_bind, Mi.WR_ite, Mi.WS_ite, Mi.WS_nx, Mi.WS_rt, Mi.WS_then, Mi.WS_st, Mi.WR_endF, Mi.WS_for, Mi.WS_while, Mi.WR_bad, Mi.WS_bad, Mi.WR_bno, Mi.WS_stX, e, ceq, h1]
    exact .mk0 (D1.trans D2) (by omega) (by simp) ⟨.fin x, rfl, .inr (.inl ⟨x, rfl, hx⟩)⟩
  · simp [-Mi.es_for, Mi.WR_ok, Mi.WR_bind, Mi.WR_ite, Mi.WS_ite, Mi.WS_nx, Mi.WS_rt, Mi.WS_then, Mi.WS_st, Mi.WR_endF, Mi.WS_for, Mi.WS_while, Mi.WR_bad, Mi.WS_bad, Mi.WR_bno, Mi.WS_stX, e, ceq, h1]
    refine (wor_g (by omega)).w0 D2.2 (by omega) fun d M3 hd D3 q3 => ?_
    obtain ⟨n, rfl, hn⟩ := hd
    exact .mk0 ((D1.trans D2).trans D3) (by omega) (by simp) ⟨.bring x n, rfl, .inl ⟨x, n, rfl, hx, hn⟩⟩
end Mi
end
section
set_option Elab.async false
set_option linter.all false
set_option maxRecDepth 100000
/-! K9F: what of a drawn book and its states is asked (k09). -/
namespace Mi
open PySem L2
structure B9 (bk : Bk) : Prop where
  ko : KsOk bk.kinds
  nd : (bk.kinds.map Knd.nm).Nodup
  most : ∀ k ∈ bk.kinds, 1 ≤ k.most ∧ k.most ≤ 4
  last : KLast bk.kinds
  l9 : ∀ k ∈ bk.kinds, ∀ l, k.lasts = some l → 1 ≤ l ∧ l ≤ 9
  nm : ∀ k ∈ bk.kinds, NmOk k.nm
  kl : bk.kinds.length ≤ 8
  hn : (bk.haps.map Prod.fst).Nodup
  hl : bk.haps.length ≤ 10
  ha : ∀ p ∈ bk.haps, p.2.length ≤ 3 ∧ ∀ a ∈ p.2, QAct9 (bk.kinds.map Knd.nm) a
theorem BookOk.b9 {bk : Bk} {known kinds : List Str} (h : BookOk bk known kinds) (hn : ∀ x ∈ kinds, NmOk x) : B9 bk := by
  have hl : bk.kinds.length = kinds.length := by
    have := congrArg List.length h.kn
    simpa using this
  have hmem : ∀ k ∈ bk.kinds, k.nm ∈ kinds := fun k hk => sortT_mem.mp (by rw [← h.kn]; exact List.mem_map.mpr ⟨k, hk, rfl⟩)
  have hnd : (bk.kinds.map Knd.nm).Nodup := by rw [h.kn]; exact sortT_nodup h.kkd
  refine ⟨⟨by have := h.kkl; omega, hnd, fun k hk => (hn _ (hmem k hk)).2, fun k hk => by have := (h.ks k hk).barsl; have := h.kkl; omega⟩, hnd, fun k hk => (h.ks k hk).most, fun k hk => ⟨fun l e => ((h.ks k hk).lasts l e).1, ((h.ks k hk).most).1⟩, fun k hk l e => (h.ks k hk).lasts l e, fun k hk => hn _ (hmem k hk), by have := h.kkl; omega, h.hn, by have := h.hl; omega, fun p hp => ⟨(h.ha p hp).1, fun a ha => ?_⟩⟩
  have := (h.ha p hp).2 a ha
  rw [h.kn]
  cases a with
  | bring x n => exact .inl ⟨x, n, rfl, sortT_mem.mpr this.1, this.2⟩
  | fin x => exact .inr (.inl ⟨x, rfl, sortT_mem.mpr this⟩)
  | pass n => exact .inr (.inr ⟨n, rfl, this.1, by have := this.2; omega⟩)
theorem stL_dep1 (st : List Ef) : depths (st.map Ef.d) ≤ 1 := depths_map_le Ef.d 1 (fun e => by
  obtain ⟨k, g, l⟩ := e
  cases l <;> simp [Ef.d, oI]) st
section
variable {bk : Bk}
theorem QAct9.on (h : B9 bk) {a : Act} (ha : QAct9 (bk.kinds.map Knd.nm) a) : ActOn bk.kinds a := by
  rcases ha with ⟨x, n, rfl, hx, _⟩ | ⟨x, rfl, _⟩ | ⟨n, rfl, _⟩
  · obtain ⟨k, hk, rfl⟩ := List.mem_map.mp hx
    exact ⟨k, kOf_mem h.nd hk, (h.most k hk).1⟩
  · trivial
  · trivial
theorem B9.hap (h : B9 bk) : HapOk bk := ⟨h.hn, by have := h.hl; omega, fun p hp => ⟨by have := (h.ha p hp).1; omega, fun a ha => ((h.ha p hp).2 a ha).on h⟩⟩
theorem B9.act (h : B9 bk) {st : List Ef} (hs : StOk bk.kinds st) {a : Act} (ha : QAct9 (bk.kinds.map Knd.nm) a) : StOk bk.kinds (actT bk.kinds st a) :=
  actT_ok h.nd h.last hs (fun x n e => by
    rcases ha with ⟨x', n', rfl, _, hw⟩ | ⟨x', rfl, _⟩ | ⟨n', rfl, _⟩
    · cases e; exact hw
    · cases e
    · cases e) (fun n e => by
    rcases ha with ⟨x', n', rfl, _, hw⟩ | ⟨x', rfl, _⟩ | ⟨n', rfl, hw, _⟩
    · cases e
    · cases e
    · cases e; exact hw)
theorem B9.len (h : B9 bk) {st : List Ef} (hs : StOk bk.kinds st) : st.length ≤ 48 := hs.len (by have := h.kl; omega) fun k hk => (h.most k hk).2
theorem B9.acts (h : B9 bk) : ∀ (as : List Act) {st : List Ef}, StOk bk.kinds st → (∀ a ∈ as, QAct9 (bk.kinds.map Knd.nm) a) → StOk bk.kinds (happT bk.kinds st as)
  | [], st, hs, _ => hs
  | a :: as, st, hs, ha => h.acts as (h.act hs (ha a (by simp))) fun x hx => ha x (List.mem_cons_of_mem _ hx)
theorem B9.rep (h : B9 bk) {st : List Ef} (hs : StOk bk.kinds st) : RepOk (stD st) := by
  have hl := h.len hs
  refine repOk_of (stD_plain st) (by have := stL_dep1 st; unfold stD; rw [D.depth]; omega) ?_ ?_
  · unfold stD
    rw [D.rok]
    refine roks_map _ _ fun e he => ?_
    obtain ⟨k, hk, h1, h2, h3⟩ := hs.1 e he
    have hn := h.nm k hk
    have h9 := h.l9 k hk
    obtain ⟨ek, eg, el⟩ := e
    dsimp only at h1 h2 h3
    subst h1
    have s1 : PyData.strOk k.nm = true := by
      have := hn.2
      simp only [keyOk, Bool.and_eq_true] at this
      exact this.1
    unfold worthI at h2
    have s3 : (oI el).rok = true := by
      cases hla : k.lasts with
      | none => rw [hla] at h3; simp only [leftOk] at h3; rw [h3]; rfl
      | some m =>
        rw [hla] at h3
        obtain ⟨i, hi, h4, h5⟩ := h3
        have := h9 m hla
        rw [hi]
        show decide _ = true
        rw [decide_eq_true_eq]; omega
    simp only [Ef.d, D.rok, roks, s1, s3, Bool.true_and, Bool.and_true, decide_eq_true_eq]
    omega
  · unfold stD
    rw [D.bk]
    have := bks_map Ef.d (n := 64) st fun e he => by
      obtain ⟨k, hk, h1, _⟩ := hs.1 e he
      have hn := (h.nm k hk).1
      have hs : k.nm.cps.size ≤ 60 := hn
      obtain ⟨ek, eg, el⟩ := e
      dsimp only at h1
      subst h1
      cases el <;> simp [Ef.d, oI, D.bk, bks] <;> omega
    omega
end
end Mi
end
section
set_option Elab.async false
set_option linter.all false
set_option maxRecDepth 100000
/-! K9G: a bout (95), a turn. -/
namespace Mi
open PySem L2
def T95 : Ss := fb 3 b95
def A95 : Ss := fb 2 T95
def I95 : Ss := match stAt 4 T95 with | .ite _ a _ => a | _ => .nil
def C95 : Ss := fb 2 I95
def G95 : Ss := fb 4 I95
def N95 : Ss := fb 6 b95
def knL (bk : Bk) : List D := bk.kinds.map fun k => D.str k.nm
def rwL (ps : List (Str × List Act)) : List D := ps.map fun p => D.str p.1
def efL (st : List Ef) : D := .lst (st.map Ef.d)
def σ95 (f : Nat) (bk : Bk) (st : List Ef) (ps : List (Str × List Act)) (gn : List Ef) (a6 a10 a11 a12 a13 a14 a15 : Option D) : Lo := [some (.ref f), some bk.d, some (.lst (knL bk)), some (stD st), some (.tup (rwL ps)), some (efL gn), a6, none, none, none, a10, a11, a12, a13, a14, a15]
theorem cne9 (a : Str) (M : Hh) : cmpD .ne (.str a) (.str a) M = .ok (.bl false) M := by simp [cmpD, eqD, D.eqv]
theorem tup9 (st : List Ef) (M : Hh) : b1D false .tuple (efL st) M = .ok (stD st) M := by unfold efL; simp [b1D, stD]
theorem er2 {G : Sg} (σ : Lo) (M : Hh) : evIt G (.range1 (.int 2)) σ M = .ok ([.int 0, .int 1], []) M := by
  have ro : rOk 2 = true := by decide
  have h2 : (Int.toNat 2) = 2 := rfl
  rw [ei_range1]
  simp only [ev_int, R.bind_ok, ro, if_true, h2]
  rfl
theorem actT_len9 (ks : List Knd) (st : List Ef) (a : Act) : (actT ks st a).length ≤ st.length + 1 := actT_len ks st a
section
variable {N f : Nat} {bk : Bk} {st gn : List Ef} {ps : List (Str × List Act)} {a6 a10 a11 a13 a14 a15 : Option D} {M : Hh} {Rt : D → Hh → Prop}
/-- the same again: of an act -/
theorem again95 (hN : 20 ≤ N) {B : Ss} (hB : B = A95) (h : B9 bk) (hs : StOk bk.kinds st) {a : Act} (ha : QAct9 (bk.kinds.map Knd.nm) a) {x : D} :
    WS (evSs (sig GP N) B (σ95 f bk st ps gn a6 (some a.d) (some (efL (actT bk.kinds st a))) (some x) a13 a14 a15) M) (fun σ' M' => σ' = σ95 f bk st ps gn a6 (some a.d) (some (efL (actT bk.kinds st a))) none a13 a14 a15 ∧ M = M') Rt := by
  subst hB
  have hl := h.len hs
  have c := acted_sp (N := N) (by omega) M (ha.on h) (st := st) (by omega)
  have r := repr_tup false M (h.rep (h.act hs ha))
  have r' : b1D false .repr (stD (actT bk.kinds st a)) M = .ok (.str (stD (actT bk.kinds st a)).py.shown) M := r
  have n1 := cne9 (stD (actT bk.kinds st a)).py.shown M
  have t := tup9 (actT bk.kinds st a) M
  generalize (stD (actT bk.kinds st a)).py.shown = tx at *
  generalize stD (actT bk.kinds st a) = sd at *
  generalize efL (actT bk.kinds st a) = sl at *
  have hA : A95 = .cons (.ite (.cmp .ne (.b1 false .repr (.call 71 false (.cons (.var 1) (.cons (.var 3) (.cons (.var 10) .nil))))) (.b1 false .repr (.b1 false .tuple (.var 11)))) (.cons (.ret (.bl false)) .nil) .nil) (.cons (.wipe [12]) .nil) := rfl
  rw [hA]
  dsimp only [σ95]
  simp [-Mi.es_for, Mi.WR_ok, Mi.WR_bind, Mi.WR_ite, Mi.WS_ite, Mi.WS_nx, Mi.WS_rt, Mi.WS_then, Mi.WS_st, Mi.WR_endF, Mi.WS_for, Mi.WS_while, Mi.WR_bad, Mi.WS_bad, Mi.WR_bno, Mi.WS_stX, c, t, r', n1]
/-- an act of a happening -/
theorem acts95 (hN : 20 ≤ N) {B : Ss} (hB : B = C95) (h : B9 bk) {d1 gn : List Ef} (hs : StOk bk.kinds d1) (hg : StOk bk.kinds gn) {a : Act} (ha : QAct9 (bk.kinds.map Knd.nm) a) :
    WS (evSs (sig GP N) B (σ95 f bk st ps gn a6 a10 (some (efL d1)) none a13 a14 (some a.d)) M) (fun σ' M' => σ' = σ95 f bk st ps (actT bk.kinds gn a) a6 a10 (some (efL (actT bk.kinds d1 a))) none a13 a14 (some a.d) ∧ M = M') Rt := by
  subst hB
  have hl := h.len hs
  have hl2 := h.len hg
  have hkl := h.kl
  have c1 : back false M (callF GP N 90 [bk.d, efL d1, a.d] M) = .ok (efL (actT bk.kinds d1 a)) M := acted90 (by omega) (.inr rfl) (by omega) (by omega) (fun k hk => hs.2 k hk) (ha.on h)
  have c2 : back false M (callF GP N 90 [bk.d, efL gn, a.d] M) = .ok (efL (actT bk.kinds gn a)) M := acted90 (by omega) (.inr rfl) (by omega) (by omega) (fun k hk => hg.2 k hk) (ha.on h)
  have hA : C95 = .cons (.set (.name 11) (.call 90 false (.cons (.var 1) (.cons (.var 11) (.cons (.var 15) .nil))))) (.cons (.set (.name 5) (.call 90 false (.cons (.var 1) (.cons (.var 5) (.cons (.var 15) .nil))))) .nil) := rfl
  rw [hA]
  dsimp only [σ95]
  simp [-Mi.es_for, Mi.WR_ok, Mi.WR_bind, Mi.WR_ite, Mi.WS_ite, Mi.WS_nx, Mi.WS_rt, Mi.WS_then, Mi.WS_st, Mi.WR_endF, Mi.WS_for, Mi.WS_while, Mi.WR_bad, Mi.WS_bad, Mi.WR_bno, Mi.WS_stX, c1, c2]
/-- the same again: of a happening, of the row -/
theorem gone95 (hN : 20 ≤ N) {B : Ss} (hB : B = G95) (h : B9 bk) (hs : StOk bk.kinds st) {p : Str × List Act} (hp : p ∈ bk.haps) (hps : ∀ q ∈ ps, q ∈ bk.haps) (hpl : ps.length ≤ 100) (hg : StOk bk.kinds (ps.foldl (fun st p => happT bk.kinds st p.2) [])) {x : D} :
    WS (evSs (sig GP N) B (σ95 f bk st ps (ps.foldl (fun st p => happT bk.kinds st p.2) []) a6 a10 (some (efL (happT bk.kinds st p.2))) (some x) (some (.str p.1)) a14 a15) M) (fun σ' M' => σ' = σ95 f bk st ps (ps.foldl (fun st p => happT bk.kinds st p.2) []) a6 a10 (some (efL (happT bk.kinds st p.2))) none (some (.str p.1)) a14 a15 ∧ M = M') Rt := by
  subst hB
  have hl := h.len hs
  have hh := h.hap
  have h3 := (h.ha p hp).1
  have c1 := met92_ok (N := N) (by omega) (stD_plain _) (happened_sp (N := N - 1) (by omega) M hh.nd hh.hz hp (hh.ha p hp).2 (st := st) (by omega))
  have c2 := gone_sp (N := N) (by omega) M hh.nd hh.hz hh.ha hps (by omega)
  have r1 : b1D false .repr (stD (happT bk.kinds st p.2)) M = .ok (.str (stD (happT bk.kinds st p.2)).py.shown) M := repr_tup false M (h.rep (h.acts p.2 hs (h.ha p hp).2))
  have r2 : b1D false .repr (stD (ps.foldl (fun st p => happT bk.kinds st p.2) [])) M = .ok (.str (stD (ps.foldl (fun st p => happT bk.kinds st p.2) [])).py.shown) M := repr_tup false M (h.rep hg)
  have n1 := cne9 (stD (happT bk.kinds st p.2)).py.shown M
  have n2 := cne9 (stD (ps.foldl (fun st p => happT bk.kinds st p.2) [])).py.shown M
  have t1 := tup9 (happT bk.kinds st p.2) M
  have t2 := tup9 (ps.foldl (fun st p => happT bk.kinds st p.2) []) M
  have hrw : (D.tup (ps.map fun p => .str p.1)) = .tup (rwL ps) := rfl
  rw [hrw] at c2
  generalize ps.foldl (fun st p => happT bk.kinds st p.2) [] = g at *
  generalize happT bk.kinds st p.2 = d1 at *
  generalize (stD d1).py.shown = x1 at *
  generalize (stD g).py.shown = x2 at *
  generalize stD d1 = s1 at *
  generalize stD g = s2 at *
  generalize efL d1 = l1 at *
  generalize hl2 : efL g = l2 at *
  have hA : G95 = .cons (.ite (.cmp .ne (.b1 false .repr (.call 92 false (.cons (.var 1) (.cons (.var 3) (.cons (.var 13) .nil))))) (.b1 false .repr (.b1 false .tuple (.var 11)))) (.cons (.ret (.bl false)) .nil) .nil) (.cons (.ite (.cmp .ne (.b1 false .repr (.call 89 false (.cons (.var 1) (.cons (.var 4) .nil)))) (.b1 false .repr (.b1 false .tuple (.var 5)))) (.cons (.ret (.bl false)) .nil) .nil) (.cons (.wipe [12]) .nil)) := rfl
  rw [hA]
  dsimp only [σ95]
  rw [hl2]
  generalize D.tup (rwL ps) = rr at *
  simp [-Mi.es_for, Mi.WR_ok, Mi.WR_bind, Mi.WR_ite, Mi.WS_ite, Mi.WS_nx, Mi.WS_rt, Mi.WS_then, Mi.WS_st, Mi.WR_endF, Mi.WS_for, Mi.WS_while, Mi.WR_bad, Mi.WS_bad, Mi.WR_bno, Mi.WS_stX, c1, t1, r1, n1, c2, t2, r2, n2]
end
end Mi
end
section
set_option Elab.async false
set_option linter.all false
set_option maxRecDepth 100000
/-! K9H: a turn of a bout (95). -/
namespace Mi
open PySem L2
theorem ixH9 {bk : Bk} {v : Int} (h0 : 0 ≤ v) (h1 : v < bk.haps.length) (M : Hh) : ∃ p ∈ bk.haps, ixD (.tup (bk.haps.map hpD)) (.int v) M = .ok (hpD p) M := by
  obtain ⟨n, rfl⟩ := Int.eq_ofNat_of_zero_le h0
  have hn : n < bk.haps.length := by omega
  exact ⟨bk.haps[n], List.getElem_mem hn, ixT (by simp [hn]) M⟩
def gnF (bk : Bk) (ps : List (Str × List Act)) : List Ef := ps.foldl (fun st p => happT bk.kinds st p.2) []
theorem gnF_snoc (bk : Bk) (ps : List (Str × List Act)) (p : Str × List Act) : gnF bk (ps ++ [p]) = happT bk.kinds (gnF bk ps) p.2 := by unfold gnF; rw [List.foldl_append]; rfl
theorem T95_eq : T95 = .cons (stAt 0 T95) (.cons (stAt 1 T95) (.cons (.for_ (.name 12) (.range1 (.int 2)) A95) (.cons (stAt 3 T95) (.cons (.ite (.cmp .ne (.ix (.var 1) (.int 2)) (.tup .nil)) I95 .nil) (.cons (stAt 5 T95) .nil))))) := rfl
theorem I95_eq : I95 = .cons (stAt 0 I95) (.cons (stAt 1 I95) (.cons (.for_ (.name 15) (.val (.var 14)) C95) (.cons (stAt 3 I95) (.cons (.for_ (.name 12) (.range1 (.int 2)) G95) (.cons (stAt 5 I95) .nil))))) := rfl
section
variable {N f B0 : Nat} {bk : Bk} {st : List Ef} {ps : List (Str × List Act)} {a6 a10 a11 a15 : Option D} {M : Hh} {Rt : D → Hh → Prop}
/-- a happening -/
theorem happ95 (hN : 20 ≤ N) {B : Ss} (hB : B = I95) (h : B9 bk) (hne : bk.haps ≠ []) (hs : StOk bk.kinds st) (hps : ∀ q ∈ ps, q ∈ bk.haps) (hpl : ps.length ≤ 50) (hg : StOk bk.kinds (gnF bk ps)) (hF : Feed f B0 M) (hB0 : 1 ≤ B0) :
    WS (evSs (sig GP N) B (σ95 f bk st ps (gnF bk ps) a6 a10 a11 none none none a15) M) (fun σ' M' => ∃ (st' : List Ef) (p : Str × List Act) (a11 a13 a14 a15 : Option D), σ' = σ95 f bk st' (ps ++ [p]) (gnF bk (ps ++ [p])) a6 a10 a11 none a13 a14 a15 ∧ StOk bk.kinds st' ∧ p ∈ bk.haps ∧ StOk bk.kinds (gnF bk (ps ++ [p])) ∧ Drawn f (B0 - 1) M M' ∧ M'.length = M.length) Rt := by
  subst hB
  have hh10 := h.hl
  have bk2 := fun M => bk2Q9 bk M
  have hpos : 0 < bk.haps.length := List.length_pos_iff.mpr hne
  rw [I95_eq]
  generalize hC : C95 = C
  generalize hG : G95 = G
  generalize k1 : stAt 1 I95 = S1
  generalize k3 : stAt 3 I95 = S3
  generalize k5 : stAt 5 I95 = S5
  rw [ess_cons, WS_then]
  have e0 : WS (evS (sig GP N) (stAt 0 I95) (σ95 f bk st ps (gnF bk ps) a6 a10 a11 none none none a15) M) (fun σ' M' => ∃ p : Str × List Act, σ' = σ95 f bk st ps (gnF bk ps) a6 a10 a11 none (some (.str p.1)) (some (.tup (p.2.map Act.d))) a15 ∧ p ∈ bk.haps ∧ Drawn f (B0 - 1) M M' ∧ M'.length = M.length) Rt := by
    have : stAt 0 I95 = .set (.tup [13, 14]) (.ix (.ix (.var 1) (.int 2)) (.call 9 false (.cons (.var 0) (.cons (.b1 false .len (.ix (.var 1) (.int 2))) .nil)))) := rfl
    rw [this]
    have ln : ∀ M, b1D false .len (.tup (bk.haps.map hpD)) M = .ok (.int bk.haps.length) M := fun M => by simp [b1D]
    have ixx := fun v l u M => ixH9 (bk := bk) (v := v) l u M
    generalize D.tup (bk.haps.map hpD) = hp at *
    generalize hr : D.tup (rwL ps) = rr
    generalize hl : efL (gnF bk ps) = gl
    generalize hss : stD st = ss
    dsimp only [σ95]
    rw [hr, hl, hss]
    simp [-Mi.es_for, Mi.WR_ok, Mi.WR_bind, Mi.WR_ite, Mi.WS_ite, Mi.WS_nx, Mi.WS_rt, Mi.WS_then, Mi.WS_st, Mi.WR_endF, Mi.WS_for, Mi.WS_while, Mi.WR_bad, Mi.WS_bad, Mi.WR_bno, Mi.WS_stX, bk2, ln]
    refine q_w0 hF (by omega) (by omega) (by omega) (by omega) fun v M1 l u D1 q1 => ?_
    obtain ⟨p, hp, e⟩ := ixx v l u M1
    simp [-Mi.es_for, Mi.WR_ok, Mi.WR_bind, Mi.WR_ite, Mi.WS_ite, Mi.WS_nx, Mi.WS_rt, Mi.WS_then, Mi.WS_st, Mi.WR_endF, Mi.WS_for, Mi.WS_while, Mi.WR_bad, Mi.WS_bad, Mi.WR_bno, Mi.WS_stX, e, hp0]
    exact ⟨p.1, p.2, ⟨rfl, rfl⟩, hp, D1, q1⟩
  refine e0.mono ?_ fun _ _ q => q
  rintro _ M1 ⟨p, rfl, hp, D1, q1⟩
  have h3 := h.ha p hp
  have e1 : evS (sig GP N) S1 (σ95 f bk st ps (gnF bk ps) a6 a10 a11 none (some (.str p.1)) (some (.tup (p.2.map Act.d))) a15) M1 = .nx (σ95 f bk st ps (gnF bk ps) a6 a10 (some (efL st)) none (some (.str p.1)) (some (.tup (p.2.map Act.d))) a15) M1 := by
    rw [← k1]
    have : stAt 1 I95 = .set (.name 11) (.b1 false .list (.var 3)) := rfl
    rw [this]
    have bl : ∀ M, b1D false .list (stD st) M = .ok (efL st) M := fun M => by simp [b1D, stD, efL]
    generalize hr : D.tup (rwL ps) = rr
    generalize hl : efL (gnF bk ps) = gl
    generalize hss : stD st = ss at *
    generalize hee : efL st = ee at *
    dsimp only [σ95]
    rw [hr, hl, hss]
    simp [bl]
  rw [ess_cons, e1, RS.then_nx, ess_cons, WS_then, WS_for]
  have itT : ∀ (ds : List D) (M : Hh), itemsOf M (.tup ds) = some (ds, []) := fun ds M => by rw [itemsOf]
  have ei : ∀ a11, evIt (sig GP N) (.val (.var 14)) (σ95 f bk st ps (gnF bk ps) a6 a10 a11 none (some (.str p.1)) (some (.tup (p.2.map Act.d))) a15) M1 = .ok (p.2.map Act.d, []) M1 := fun a11 => by
    generalize p.2.map Act.d = as
    simp [σ95, itT]
  rw [ei, WR_ok]
  have f3 : ∀ a15, evIt (sig GP N) (.val (.var 14)) a15 M1 = evIt (sig GP N) (.val (.var 14)) a15 M1 := fun _ => rfl
  refine for_t (f := Act.d) (fun pre σ' M' => (∃ a15, σ' = σ95 f bk st ps (happT bk.kinds (gnF bk ps) pre) a6 a10 (some (efL (happT bk.kinds st pre))) none (some (.str p.1)) (some (.tup (p.2.map Act.d))) a15) ∧ M1 = M' ∧ StOk bk.kinds (happT bk.kinds (gnF bk ps) pre) ∧ StOk bk.kinds (happT bk.kinds st pre)) ⟨⟨a15, rfl⟩, rfl, hg, hs⟩ (fun _ _ _ _ => locked_nil _) ?_ ?_
  · rintro pre a post _ _ hx ⟨⟨b15, rfl⟩, rfl, g1, g2⟩
    have ha := h3.2 a (by rw [hx]; simp)
    refine ⟨σ95 f bk st ps (happT bk.kinds (gnF bk ps) pre) a6 a10 (some (efL (happT bk.kinds st pre))) none (some (.str p.1)) (some (.tup (p.2.map Act.d))) (some a.d), rfl, ?_⟩
    refine (acts95 (N := N) hN hC.symm h g2 g1 ha).mono ?_ fun _ _ q => q
    rintro _ _ ⟨rfl, rfl⟩
    have e : ∀ s, happT bk.kinds s (pre ++ [a]) = actT bk.kinds (happT bk.kinds s pre) a := fun s => by unfold happT; rw [List.foldl_append]; rfl
    rw [e, e]
    exact ⟨⟨_, rfl⟩, rfl, h.act g1 ha, h.act g2 ha⟩
  rintro _ _ ⟨⟨b15, rfl⟩, rfl, g1, g2⟩
  have hsn : happT bk.kinds (gnF bk ps) p.2 = gnF bk (ps ++ [p]) := (gnF_snoc bk ps p).symm
  rw [hsn] at g1 ⊢
  have e3 : evS (sig GP N) S3 (σ95 f bk st ps (gnF bk (ps ++ [p])) a6 a10 (some (efL (happT bk.kinds st p.2))) none (some (.str p.1)) (some (.tup (p.2.map Act.d))) b15) M1 = .nx (σ95 f bk st (ps ++ [p]) (gnF bk (ps ++ [p])) a6 a10 (some (efL (happT bk.kinds st p.2))) none (some (.str p.1)) (some (.tup (p.2.map Act.d))) b15) M1 := by
    rw [← k3]
    have : stAt 3 I95 = .set (.name 4) (.bin false .add (.var 4) (.tup (.cons (.var 13) .nil))) := rfl
    rw [this]
    have ad : ∀ M, binD false .add (.tup (rwL ps)) (.tup [.str p.1]) M = .ok (.tup (rwL (ps ++ [p]))) M := fun M => by
      simp only [binD, der_D_tup, addD]
      rw [if_pos (by simp [rwL]; omega)]
      simp [rwL]
    generalize hgn : efL (gnF bk (ps ++ [p])) = gl
    generalize he11 : efL (happT bk.kinds st p.2) = l11
    generalize hr2 : D.tup (rwL (ps ++ [p])) = r2 at *
    generalize hr1 : D.tup (rwL ps) = r1 at *
    generalize hss : stD st = ss
    generalize h14 : D.tup (p.2.map Act.d) = t14
    dsimp only [σ95]
    rw [hgn, hss, hr1, hr2]
    simp [ad]
  rw [ess_cons, e3, RS.then_nx, ess_cons, WS_then, WS_for, er2, WR_ok]
  refine for_s (fun pre M' => M1 = M') rfl (fun _ _ _ => locked_nil _) ?_ ?_
  · rintro pre d post _ hx rfl
    have hps' : ∀ q ∈ ps ++ [p], q ∈ bk.haps := fun q hq => by
      rcases List.mem_append.mp hq with q1 | q1
      · exact hps q q1
      · rw [List.mem_singleton.mp q1]; exact hp
    exact gone95 (N := N) hN hG.symm h hs hp hps' (by simp; omega) g1
  · rintro _ rfl
    have e5 : evS (sig GP N) S5 (σ95 f bk st (ps ++ [p]) (gnF bk (ps ++ [p])) a6 a10 (some (efL (happT bk.kinds st p.2))) none (some (.str p.1)) (some (.tup (p.2.map Act.d))) b15) M1 = .nx (σ95 f bk (happT bk.kinds st p.2) (ps ++ [p]) (gnF bk (ps ++ [p])) a6 a10 (some (efL (happT bk.kinds st p.2))) none (some (.str p.1)) (some (.tup (p.2.map Act.d))) b15) M1 := by
      rw [← k5]
      have : stAt 5 I95 = .set (.name 3) (.b1 false .tuple (.var 11)) := rfl
      rw [this]
      have tp := tup9 (happT bk.kinds st p.2) M1
      generalize hgn : efL (gnF bk (ps ++ [p])) = gl
      generalize he11 : efL (happT bk.kinds st p.2) = l11 at *
      generalize hr2 : D.tup (rwL (ps ++ [p])) = r2 at *
      generalize hss : stD st = ss
      generalize hs2 : stD (happT bk.kinds st p.2) = s2 at *
      generalize h14 : D.tup (p.2.map Act.d) = t14
      dsimp only [σ95]
      rw [hgn, hss, hr2, hs2]
      simp [tp]
    rw [ess_cons, e5, RS.then_nx, ess_nil, WS_nx]
    exact ⟨_, p, _, _, _, _, rfl, g2, hp, g1, D1, q1⟩
end
end Mi
end
section
set_option Elab.async false
set_option linter.all false
set_option maxRecDepth 100000
/-! K9I: a turn of a bout (95), whole. -/
namespace Mi
open PySem L2
section
variable {N f B0 : Nat} {bk : Bk} {st : List Ef} {ps : List (Str × List Act)} {a6 a10 a11 a15 : Option D} {M : Hh} {Rt : D → Hh → Prop}
theorem turn95 (hN : 20 ≤ N) {B : Ss} (hB : B = T95) (h : B9 bk) (hs : StOk bk.kinds st) (hps : ∀ q ∈ ps, q ∈ bk.haps) (hpl : ps.length ≤ 50) (hg : StOk bk.kinds (gnF bk ps)) (hF : Feed f B0 M) (hB0 : 7 ≤ B0) :
    WS (evSs (sig GP N) B (σ95 f bk st ps (gnF bk ps) a6 none none none none none a15) M) (fun σ' M' => ∃ (st' : List Ef) (ps' : List (Str × List Act)) (a15 : Option D), σ' = σ95 f bk st' ps' (gnF bk ps') none none none none none none a15 ∧ StOk bk.kinds st' ∧ (∀ q ∈ ps', q ∈ bk.haps) ∧ ps'.length ≤ ps.length + 1 ∧ StOk bk.kinds (gnF bk ps') ∧ Drawn f (B0 - 7) M M' ∧ M'.length = M.length) Rt := by
  subst hB
  have hkl := h.kl
  rw [T95_eq]
  generalize hA : A95 = A
  generalize hI : I95 = I
  generalize k1 : stAt 1 T95 = S1
  generalize k3 : stAt 3 T95 = S3
  generalize k5 : stAt 5 T95 = S5
  rw [ess_cons, WS_then]
  have e0 : WS (evS (sig GP N) (stAt 0 T95) (σ95 f bk st ps (gnF bk ps) a6 none none none none none a15) M) (fun σ' M' => ∃ a : Act, σ' = σ95 f bk st ps (gnF bk ps) a6 (some a.d) none none none none a15 ∧ QAct9 (bk.kinds.map Knd.nm) a ∧ Drawn f (B0 - 6) M M' ∧ M'.length = M.length) Rt := by
    have : stAt 0 T95 = .set (.name 10) (.call 94 false (.cons (.var 0) (.cons (.var 2) .nil))) := rfl
    rw [this]
    have hk : knL bk = (bk.kinds.map Knd.nm).map .str := by unfold knL; rw [List.map_map]; rfl
    have g := act94_g (N := N) (f := f) (kinds := bk.kinds.map Knd.nm) (by omega) (by simp; omega)
    rw [← hk] at g
    generalize hr : D.tup (rwL ps) = rr
    generalize hl : efL (gnF bk ps) = gl
    generalize hss : stD st = ss
    generalize hkk : D.lst (knL bk) = kk at *
    dsimp only [σ95]
    rw [hr, hl, hss, hkk]
    simp [-Mi.es_for, Mi.WR_ok, Mi.WR_bind, Mi.WR_ite, Mi.WS_ite, Mi.WS_nx, Mi.WS_rt, Mi.WS_then, Mi.WS_st, Mi.WR_endF, Mi.WS_for, Mi.WS_while, Mi.WR_bad, Mi.WS_bad, Mi.WR_bno, Mi.WS_stX]
    refine g.w0 hF (by omega) ?_
    rintro _ M1 ⟨a, rfl, ha⟩ D1 q1
    exact ⟨a, rfl, ha, D1, q1⟩
  refine e0.mono ?_ fun _ _ q => q
  rintro _ M1 ⟨a, rfl, ha, D1, q1⟩
  have hs2 := h.act hs ha
  have hl := h.len hs
  have e1 : evS (sig GP N) S1 (σ95 f bk st ps (gnF bk ps) a6 (some a.d) none none none none a15) M1 = .nx (σ95 f bk st ps (gnF bk ps) a6 (some a.d) (some (efL (actT bk.kinds st a))) none none none a15) M1 := by
    rw [← k1]
    have : stAt 1 T95 = .set (.name 11) (.call 90 false (.cons (.var 1) (.cons (.var 3) (.cons (.var 10) .nil)))) := rfl
    rw [this]
    have c1 : back false M1 (callF GP N 90 [bk.d, stD st, a.d] M1) = .ok (efL (actT bk.kinds st a)) M1 := acted90 (by omega) (.inl rfl) (by omega) (by omega) (fun k hk => hs.2 k hk) (ha.on h)
    generalize hr : D.tup (rwL ps) = rr
    generalize hl : efL (gnF bk ps) = gl
    generalize hss : stD st = ss at *
    generalize hee : efL (actT bk.kinds st a) = ee at *
    generalize hkk : D.lst (knL bk) = kk at *
    dsimp only [σ95]
    rw [hr, hl, hss, hkk]
    simp [c1]
  rw [ess_cons, e1, RS.then_nx, ess_cons, WS_then, WS_for, er2, WR_ok]
  refine for_s (fun pre M' => M1 = M') rfl (fun _ _ _ => locked_nil _) ?_ ?_
  · rintro pre d post _ hx rfl
    exact again95 (N := N) hN hA.symm h hs ha
  rintro _ rfl
  have e3 : evS (sig GP N) S3 (σ95 f bk st ps (gnF bk ps) a6 (some a.d) (some (efL (actT bk.kinds st a))) none none none a15) M1 = .nx (σ95 f bk (actT bk.kinds st a) ps (gnF bk ps) a6 (some a.d) (some (efL (actT bk.kinds st a))) none none none a15) M1 := by
    rw [← k3]
    have : stAt 3 T95 = .set (.name 3) (.b1 false .tuple (.var 11)) := rfl
    rw [this]
    have tp := tup9 (actT bk.kinds st a) M1
    generalize hr : D.tup (rwL ps) = rr
    generalize hl : efL (gnF bk ps) = gl
    generalize hss : stD st = ss
    generalize hs2 : stD (actT bk.kinds st a) = s2 at *
    generalize hee : efL (actT bk.kinds st a) = ee at *
    generalize hkk : D.lst (knL bk) = kk at *
    dsimp only [σ95]
    rw [hr, hl, hss, hkk, hs2]
    simp [tp]
  rw [ess_cons, e3, RS.then_nx]
  have e5 : ∀ (st' : List Ef) (ps' : List (Str × List Act)) (a10 a11 a13 a14 a15 : Option D) M, evSs (sig GP N) (.cons S5 .nil) (σ95 f bk st' ps' (gnF bk ps') a6 a10 a11 none a13 a14 a15) M = .nx (σ95 f bk st' ps' (gnF bk ps') none none none none none none a15) M := fun st' ps' a10 a11 a13 a14 a15 M => by
    rw [← k5]
    have : stAt 5 T95 = .wipe [6, 10, 11, 12, 13, 14] := rfl
    rw [this]
    simp [σ95, wipe]
  generalize actT bk.kinds st a = st1 at *
  generalize efL st1 = l1
  have ne : ∀ M, cmpD .ne (.tup (bk.haps.map hpD)) (.tup []) M = .ok (.bl (!bk.haps.isEmpty)) M := fun M => by
    cases hh : bk.haps with
    | nil => simp [cmpD, eqD, D.eqv, eqvs]
    | cons p r =>
      have pl : plains ((p :: r).map hpD) = true := plains_map _ (fun p => hpD_plain9 p) _
      rw [List.map_cons] at pl ⊢
      simp [cmpD, eqD, D.eqv, eqvs, pl]
  rw [ess_cons, WS_then]
  have bk2 := fun M => bk2Q9 bk M
  have eT : (!bk.haps.isEmpty) = true → evS (sig GP N) (.ite (.cmp .ne (.ix (.var 1) (.int 2)) (.tup .nil)) I .nil) (σ95 f bk st1 ps (gnF bk ps) a6 (some a.d) (some l1) none none none a15) M1 = evSs (sig GP N) I (σ95 f bk st1 ps (gnF bk ps) a6 (some a.d) (some l1) none none none a15) M1 := fun hh => by
    rw [hh] at ne
    generalize D.tup (bk.haps.map hpD) = hp at *
    generalize hS : σ95 f bk st1 ps (gnF bk ps) a6 (some a.d) (some l1) none none none a15 = S
    have h1 : S[1]? = some (some bk.d) := by rw [← hS]; rfl
    simp [h1, bk2, ne]
  have eF : (!bk.haps.isEmpty) = false → evS (sig GP N) (.ite (.cmp .ne (.ix (.var 1) (.int 2)) (.tup .nil)) I .nil) (σ95 f bk st1 ps (gnF bk ps) a6 (some a.d) (some l1) none none none a15) M1 = .nx (σ95 f bk st1 ps (gnF bk ps) a6 (some a.d) (some l1) none none none a15) M1 := fun hh => by
    rw [hh] at ne
    generalize D.tup (bk.haps.map hpD) = hp at *
    generalize hS : σ95 f bk st1 ps (gnF bk ps) a6 (some a.d) (some l1) none none none a15 = S
    have h1 : S[1]? = some (some bk.d) := by rw [← hS]; rfl
    simp [h1, bk2, ne]
  by_cases hne : bk.haps = []
  · rw [eF (by simp [hne]), WS_nx, e5, WS_nx]
    exact ⟨st1, ps, a15, rfl, hs2, hps, by omega, hg, D1.le (by omega), q1⟩
  · rw [eT (by cases hh : bk.haps with | nil => exact absurd hh hne | cons _ _ => rfl)]
    refine (happ95 (N := N) hN hI.symm h hne hs2 hps hpl hg D1.2 (by omega)).mono ?_ fun _ _ q => q
    rintro _ M2 ⟨st', p, b11, b13, b14, b15, rfl, g1, g2, g3, D2, q2⟩
    rw [e5, WS_nx]
    refine ⟨st', ps ++ [p], b15, rfl, g1, fun q hq => ?_, by simp, g3, (D1.trans D2).le (by omega), by omega⟩
    rcases List.mem_append.mp hq with q1 | q1
    · exact hps q q1
    · rw [List.mem_singleton.mp q1]; exact g2
end
end Mi
end
section
set_option Elab.async false
set_option linter.all false
set_option maxRecDepth 100000
/-! K9J: a bout (95), whole. -/
namespace Mi
open PySem L2
def τ95 (f : Nat) (bk : Bk) (st : List Ef) (ps : List (Str × List Act)) (gn : List Ef) (a7 a8 a9 a15 : Option D) : Lo := [some (.ref f), some bk.d, some (.lst (knL bk)), some (stD st), some (.tup (rwL ps)), some (efL gn), none, a7, a8, a9, none, none, none, none, none, a15]
theorem notin_hap {bk : Bk} {d : D} (hd : d.plain = true) (hdd : d.depth ≤ 60) (M : Hh) : ∃ nb, cmpD .notin d (.lst (rwL bk.haps)) M = .ok (.bl nb) M ∧ (nb = true → ∀ p ∈ bk.haps, d ≠ .str p.1) := by
  refine ⟨!inSeq d (rwL bk.haps), ?_, fun h p hp e => ?_⟩
  · have e : der M d = d := by cases d <;> first | rfl | (simp [D.plain] at hd)
    have p1 : plains (rwL bk.haps) = true := plains_map _ (fun p => by simp) _
    simp only [cmpD, e, der_D_lst, inD]
    rw [if_pos ⟨hd, p1, by omega⟩]
    simp
  · have : inSeq d (rwL bk.haps) = true := by
      unfold inSeq rwL
      rw [List.any_eq_true]
      exact ⟨.str p.1, List.mem_map.mpr ⟨p, hp, rfl⟩, by rw [e]; simp⟩
    rw [this] at h
    cases h
section
variable {N f B0 : Nat} {bk : Bk} {st : List Ef} {ps : List (Str × List Act)} {a15 : Option D} {M : Hh} {Rt : D → Hh → Prop}
theorem cut9T (xs : List D) (k : Nat) (M : Hh) : sliceD false (.tup xs) none (some (k : Int)) M = .ok (.tup (xs.take k)) M := by
  simp only [sliceD, der_D_tup, cutTk9]
theorem cut9F (xs : List D) (k : Nat) (M : Hh) : sliceD false (.tup xs) (some (k : Int)) none M = .ok (.tup (xs.drop k)) M := by
  simp only [sliceD, der_D_tup]
  rw [cut_from _ (Int.natCast_nonneg k)]; rfl
theorem no95 (hN : 20 ≤ N) {B : Ss} (hB : B = N95) (h : B9 bk) (hps : ∀ q ∈ ps, q ∈ bk.haps) (hpl : ps.length ≤ 50) {gn : List Ef} {k : Nat} {d : D} (hd : d.plain = true) (hdd : d.depth ≤ 60) :
    WS (evSs (sig GP N) B (τ95 f bk st ps gn (some (.lst (rwL bk.haps))) (some (.int k)) (some d) a15) M) (fun σ' M' => σ' = τ95 f bk st ps gn (some (.lst (rwL bk.haps))) (some (.int k)) none a15 ∧ M = M') Rt := by
  subst hB
  obtain ⟨nb, hnb, hno⟩ := notin_hap (bk := bk) hd hdd M
  have hh := h.hap
  have c1 : nb = true → back false M (callF GP N 92 [bk.d, stD st, d] M) = .ok (.str "no name") M := fun e => met92_x (N := N) (by omega) (odd_72b (N := N - 1) (by omega) M hh.hz hd (hno e))
  have c2 : nb = true → back false M (callF GP N 93 [bk.d, .tup ((rwL ps).take k ++ [d] ++ (rwL ps).drop k)] M) = .ok (.str "no name") M := fun e => by
    have o := odd_89 (N := N - 1) (by omega) M hh (ps := ps.take k) (fun q hq => hps q (List.mem_of_mem_take hq)) (by rw [List.length_take]; omega) hd (hno e) (rest := (rwL ps).drop k) (by unfold rwL; simp; omega)
    have e2 : ((ps.take k).map fun p => D.str p.1) = (rwL ps).take k := by unfold rwL; rw [List.map_take]
    rw [e2] at o
    have e3 : (rwL ps).take k ++ [d] ++ (rwL ps).drop k = (rwL ps).take k ++ d :: (rwL ps).drop k := by simp
    rw [e3]
    exact gone93_x (N := N) (by omega) o
  have s1 := cut9T (rwL ps) k M
  have s2 := cut9F (rwL ps) k M
  have rl : (rwL ps).length ≤ 50 := by unfold rwL; rw [List.length_map]; exact hpl
  have ad1 : binD false .add (.tup ((rwL ps).take k)) (.tup [d]) M = .ok (.tup ((rwL ps).take k ++ [d])) M := by
    simp only [binD, der_D_tup, addD]
    rw [if_pos (by simp; omega)]
  have ad2 : binD false .add (.tup ((rwL ps).take k ++ [d])) (.tup ((rwL ps).drop k)) M = .ok (.tup ((rwL ps).take k ++ [d] ++ (rwL ps).drop k)) M := by
    simp only [binD, der_D_tup, addD]
    rw [if_pos (by simp; omega)]
  have o0 : optInt [] = some none := rfl
  have oo : ∀ k : Int, optInt [D.int k] = some (some k) := fun k => rfl
  have nn := cne9 "no name" M
  generalize D.tup ((rwL ps).take k ++ [d] ++ (rwL ps).drop k) = r3 at *
  generalize D.tup ((rwL ps).take k ++ [d]) = r2 at *
  generalize D.tup ((rwL ps).take k) = r1 at *
  generalize D.tup ((rwL ps).drop k) = r4 at *
  generalize hrr : D.tup (rwL ps) = rr at *
  generalize D.lst (rwL bk.haps) = hp at *
  generalize hss : stD st = ss at *
  generalize hgl : efL gn = gl
  generalize hkk : D.lst (knL bk) = kk
  have hN9 : N95 = .cons (stAt 0 N95) (.cons (stAt 1 N95) (.cons (.wipe [9]) .nil)) := rfl
  rw [hN9]
  generalize k0 : stAt 0 N95 = S0
  generalize k1 : stAt 1 N95 = S1
  generalize hS : τ95 f bk st ps gn (some hp) (some (.int k)) (some d) a15 = S
  have g1 : S[1]? = some (some bk.d) := by rw [← hS]; rfl
  have g3 : S[3]? = some (some ss) := by rw [← hS, ← hss]; rfl
  have g4 : S[4]? = some (some rr) := by rw [← hS, ← hrr]; rfl
  have g7 : S[7]? = some (some hp) := by rw [← hS]; rfl
  have g8 : S[8]? = some (some (.int k)) := by rw [← hS]; rfl
  have g9 : S[9]? = some (some d) := by rw [← hS]; rfl
  have e0 : evS (sig GP N) S0 S M = .nx S M := by
    rw [← k0]
    have : stAt 0 N95 = .ite (.and (.cmp .notin (.var 9) (.var 7)) (.cmp .ne (.call 92 false (.cons (.var 1) (.cons (.var 3) (.cons (.var 9) .nil)))) (.str "no name"))) (.cons (.ret (.bl false)) .nil) .nil := rfl
    rw [this]
    cases nb with
    | false => simp [g9, g7, hnb]
    | true => simp [g9, g7, hnb, g1, g3, c1 rfl, nn]
  have e1 : evS (sig GP N) S1 S M = .nx S M := by
    rw [← k1]
    have : stAt 1 N95 = .ite (.and (.cmp .notin (.var 9) (.var 7)) (.cmp .ne (.call 93 false (.cons (.var 1) (.cons (.bin false .add (.bin false .add (.slice false (.var 4) .nil (.cons (.var 8) .nil)) (.tup (.cons (.var 9) .nil))) (.slice false (.var 4) (.cons (.var 8) .nil) .nil)) .nil))) (.str "no name"))) (.cons (.ret (.bl false)) .nil) .nil := rfl
    rw [this]
    cases nb with
    | false => simp [g9, g7, hnb]
    | true => simp [g9, g7, hnb, g1, g4, g8, o0, oo, s1, s2, ad1, ad2, c2 rfl, nn]
  rw [ess_cons, e0, RS.then_nx, ess_cons, e1, RS.then_nx, ← hS]
  have e2 : evSs (sig GP N) (.cons (.wipe [9]) .nil) (τ95 f bk st ps gn (some hp) (some (.int k)) (some d) a15) M = .nx (τ95 f bk st ps gn (some hp) (some (.int k)) none a15) M := by simp [τ95, wipe]
  rw [e2, WS_nx]
  exact ⟨rfl, rfl⟩
def noL9 : List D := [.str "none", .str "", .non, .int 5, .tup [.str "a"], .lst [.str "a"], .bl true, .str "Dawn"]
theorem noL9_ok : ∀ d ∈ noL9, d.plain = true ∧ d.depth ≤ 60 := by
  intro d hd
  simp only [noL9, List.mem_cons, List.not_mem_nil, or_false] at hd
  rcases hd with rfl | rfl | rfl | rfl | rfl | rfl | rfl | rfl <;> exact ⟨by simp [D.plain, plains], by simp [D.depth, depths]⟩
end
end Mi
end
section
set_option Elab.async false
set_option linter.all false
set_option maxRecDepth 100000
/-! K09: law k09, acts and happenings (95, 96). -/
namespace Mi
open PySem L2
theorem b95_eq : b95 = .cons (stAt 0 b95) (.cons (stAt 1 b95) (.cons (stAt 2 b95) (.cons (.for_ (.name 6) (.range1 (.int 10)) T95) (.cons (stAt 4 b95) (.cons (stAt 5 b95) (.cons (.for_ (.name 9) (.val (.tup (.cons (.str "none") (.cons (.str "") (.cons .non (.cons (.int 5) (.cons (.tup (.cons (.str "a") .nil)) (.cons (.lst false (.cons (.str "a") .nil)) (.cons (.bl true) (.cons (.str "Dawn") .nil)))))))))) N95) (.cons (stAt 7 b95) .nil))))))) := rfl
theorem bout_g {N f : Nat} (hN : 30 ≤ N) : Gen N 95 f 2700 [.ref f] fun d => d = .bl true := by
  intro B M hB hF
  refine call_w (by omega) g95 rfl ?_
  show WS (evSs (sig GP (N - 1)) b95 [some (.ref f), none, none, none, none, none, none, none, none, none, none, none, none, none, none, none] M) _ _
  rw [b95_eq]
  generalize hT : T95 = T
  generalize hNN : N95 = NN
  generalize k1 : stAt 1 b95 = S1
  generalize k2 : stAt 2 b95 = S2
  generalize k4 : stAt 4 b95 = S4
  generalize k5 : stAt 5 b95 = S5
  generalize k7 : stAt 7 b95 = S7
  generalize hR : GenP f (B - 2700) M (fun d => d = .bl true) = Rt
  obtain ⟨bk, M1, known, kinds, c83, D1, hb, hnm⟩ := book_sp (N := N - 1) (f := f) (b := B - 2400) (M := M) (by omega) (by rw [show B - 2400 + 2400 = B by omega]; exact hF)
  have h := hb.b9 hnm
  have hkl := h.kl
  have hhl := h.hl
  have e0 : evS (sig GP (N - 1)) (stAt 0 b95) [some (.ref f), none, none, none, none, none, none, none, none, none, none, none, none, none, none, none] M = .nx [some (.ref f), some bk.d, none, none, none, none, none, none, none, none, none, none, none, none, none, none] M1 := by
    have : stAt 0 b95 = .set (.name 1) (.call 83 false (.cons (.var 0) .nil)) := rfl
    rw [this]
    simp [c83]
  rw [ess_cons, e0, RS.then_nx, ess_cons, WS_then]
  have itT : ∀ (ds : List D) (M : Hh), itemsOf M (.tup ds) = some (ds, []) := fun ds M => by rw [itemsOf]
  have e1 : WS (evS (sig GP (N - 1)) S1 [some (.ref f), some bk.d, none, none, none, none, none, none, none, none, none, none, none, none, none, none] M1) (fun σ' M' => σ' = [some (.ref f), some bk.d, some (.lst (knL bk)), none, none, none, none, none, none, none, none, none, none, none, none, none] ∧ M1 = M') Rt := by
    rw [← k1]
    have : stAt 1 b95 = .set (.name 2) (.lc false [15] (.name 15) (.val (.ix (.var 1) (.int 1))) .nil (.ix (.var 15) (.int 0))) := rfl
    rw [this]
    have kd : ∀ (k : Knd) M, ixD k.d (.int 0) M = .ok (.str k.nm) M := fun k M => rfl
    have lz : bk.kinds.length ≤ 16777216 := by omega
    simp [-Mi.es_for, Mi.WR_ok, Mi.WR_bind, Mi.WR_ite, Mi.WS_ite, Mi.WS_nx, Mi.WS_rt, Mi.WS_then, Mi.WS_st, Mi.WR_endF, Mi.WS_for, Mi.WS_while, Mi.WR_bad, Mi.WS_bad, Mi.WR_bno, Mi.WS_stX, bk1, itT, lz]
    refine lc_tm (f := Knd.d) (fun k => .str k.nm) (locked_nil _) (fun k hk => ⟨_, rfl, by simp, by simp [kd]⟩) ?_
    have : (bk.kinds.map fun k => D.str k.nm) = knL bk := rfl
    rw [this]
    simp [-Mi.es_for, Mi.WR_ok, Mi.WR_bind, Mi.WR_ite, Mi.WS_ite, Mi.WS_nx, Mi.WS_rt, Mi.WS_then, Mi.WS_st, Mi.WR_endF, Mi.WS_for, Mi.WS_while, Mi.WR_bad, Mi.WS_bad, Mi.WR_bno, Mi.WS_stX]
  refine e1.mono ?_ fun _ _ q => q
  rintro _ _ ⟨rfl, rfl⟩
  obtain ⟨st, M2, c84, D2, hst, hsl⟩ := drawn_state (N := N - 1) (f := f) (b := B - 2550) (M := M1) (bk := bk) (by omega) hkl h.l9 (fun k hk => by have := (h.most k hk).1; omega) h.nd (by rw [show B - 2550 + 150 = B - 2400 by omega]; exact D1.2)
  have e2 : evS (sig GP (N - 1)) S2 [some (.ref f), some bk.d, some (.lst (knL bk)), none, none, none, none, none, none, none, none, none, none, none, none, none] M1 = .nx (σ95 f bk st [] (gnF bk []) none none none none none none none) M2 := by
    rw [← k2]
    have : stAt 2 b95 = .set (.tup [3, 4, 5]) (.tup (.cons (.call 84 false (.cons (.var 0) (.cons (.var 1) .nil))) (.cons (.tup .nil) (.cons (.lst false .nil) .nil)))) := rfl
    rw [this]
    have g0 : efL (gnF bk []) = .lst [] := rfl
    have r0 : D.tup (rwL []) = .tup [] := rfl
    simp [c84, σ95, g0, r0]
  rw [ess_cons, e2, RS.then_nx, ess_cons, WS_then, WS_for]
  have er : ∀ (σ : Lo) (M : Hh), evIt (sig GP (N - 1)) (.range1 (.int 10)) σ M = .ok (rangeL 0 10, []) M := fun σ M => by
    have ro : rOk 10 = true := by decide
    have h2 : (Int.toNat 10) = 10 := rfl
    rw [ei_range1]
    simp only [ev_int, R.bind_ok, ro, if_true, h2]
  rw [er, WR_ok]
  have D12 : Drawn f (B - 2550) M M2 := (D1.trans D2).le (by omega)
  have g00 : StOk bk.kinds (gnF bk []) := ⟨fun e he => (by cases he), fun k hk => by have := (h.most k hk).1; show ((cntE [] k.nm : Nat) : Int) ≤ _; unfold cntE; simp; omega⟩
  refine for_w (fun pre σ' M' => (∃ (st : List Ef) (ps : List (Str × List Act)) (a15 : Option D), σ' = σ95 f bk st ps (gnF bk ps) none none none none none none a15 ∧ StOk bk.kinds st ∧ (∀ q ∈ ps, q ∈ bk.haps) ∧ ps.length ≤ pre.length ∧ StOk bk.kinds (gnF bk ps)) ∧ Drawn f (B - 2550 - 7 * pre.length) M M') ⟨⟨st, [], none, rfl, hst, (fun q hq => by cases hq), by simp, g00⟩, by simpa using D12⟩ (fun _ _ _ _ => locked_nil _) ?_ ?_
  · rintro pre x post _ M3 hx ⟨⟨st, ps, a15, rfl, s1, s2, s3, s4⟩, D3⟩
    have hlen := congrArg List.length hx
    rw [rangeL_len, List.length_append, List.length_cons] at hlen
    refine ⟨σ95 f bk st ps (gnF bk ps) (some x) none none none none none a15, rfl, ?_⟩
    refine (turn95 (N := N - 1) (by omega) hT.symm h s1 s2 (by omega) s4 D3.2 (by omega)).mono ?_ fun _ _ q => q
    rintro _ M4 ⟨st', ps', b15, rfl, u1, u2, u3, u4, D4, q4⟩
    refine ⟨⟨st', ps', b15, rfl, u1, u2, by simp; omega, u4⟩, (D3.trans D4).le (by simp; omega)⟩
  rintro _ M3 ⟨⟨st, ps, a15, rfl, s1, s2, s3, s4⟩, D3⟩
  rw [rangeL_len] at s3
  rw [ess_cons, WS_then]
  have e4 : WS (evS (sig GP (N - 1)) S4 (σ95 f bk st ps (gnF bk ps) none none none none none none a15) M3) (fun σ' M' => σ' = τ95 f bk st ps (gnF bk ps) (some (.lst (rwL bk.haps))) none none a15 ∧ M3 = M') Rt := by
    rw [← k4]
    have : stAt 4 b95 = .set (.name 7) (.lc false [15] (.name 15) (.val (.ix (.var 1) (.int 2))) .nil (.ix (.var 15) (.int 0))) := rfl
    rw [this]
    have hd0 : ∀ (p : Str × List Act) M, ixD (hpD p) (.int 0) M = .ok (.str p.1) M := fun p M => rfl
    have lz : bk.haps.length ≤ 16777216 := by omega
    have bk2 := fun M => bk2Q9 bk M
    generalize hgl : efL (gnF bk ps) = gl
    generalize hrr : D.tup (rwL ps) = rr
    generalize hss : stD st = ss
    dsimp only [σ95, τ95]
    rw [hgl, hrr, hss]
    simp [-Mi.es_for, Mi.WR_ok, Mi.WR_bind, Mi.WR_ite, Mi.WS_ite, Mi.WS_nx, Mi.WS_rt, Mi.WS_then, Mi.WS_st, Mi.WR_endF, Mi.WS_for, Mi.WS_while, Mi.WR_bad, Mi.WS_bad, Mi.WR_bno, Mi.WS_stX, bk2, itT, lz]
    refine lc_tm (f := hpD) (fun p => .str p.1) (locked_nil _) (fun k hk => ⟨_, rfl, by simp, by simp [hd0]⟩) ?_
    have : (bk.haps.map fun p => D.str p.1) = rwL bk.haps := rfl
    rw [this]
    simp [-Mi.es_for, Mi.WR_ok, Mi.WR_bind, Mi.WR_ite, Mi.WS_ite, Mi.WS_nx, Mi.WS_rt, Mi.WS_then, Mi.WS_st, Mi.WR_endF, Mi.WS_for, Mi.WS_while, Mi.WR_bad, Mi.WS_bad, Mi.WR_bno, Mi.WS_stX]
  refine e4.mono ?_ fun _ _ q => q
  rintro _ _ ⟨rfl, rfl⟩
  rw [ess_cons, WS_then]
  have e5 : WS (evS (sig GP (N - 1)) S5 (τ95 f bk st ps (gnF bk ps) (some (.lst (rwL bk.haps))) none none a15) M3) (fun σ' M' => ∃ k : Nat, σ' = τ95 f bk st ps (gnF bk ps) (some (.lst (rwL bk.haps))) (some (.int k)) none a15 ∧ Drawn f (B - 2700) M M') Rt := by
    rw [← k5]
    have : stAt 5 b95 = .set (.name 8) (.call 9 false (.cons (.var 0) (.cons (.bin false .add (.b1 false .len (.var 4)) (.int 1)) .nil))) := rfl
    rw [this]
    have ln : ∀ M, b1D false .len (.tup (rwL ps)) M = .ok (.int ps.length) M := fun M => by simp [b1D, rwL]
    have ad : ∀ M, binD false .add (.int ps.length) (.int 1) M = .ok (.int ((ps.length : Int) + 1)) M := fun M => rfl
    generalize hgl : efL (gnF bk ps) = gl
    generalize hrr : D.tup (rwL ps) = rr at *
    generalize hss : stD st = ss
    generalize D.lst (rwL bk.haps) = hp
    dsimp only [τ95]
    rw [hgl, hrr, hss]
    simp [-Mi.es_for, Mi.WR_ok, Mi.WR_bind, Mi.WR_ite, Mi.WS_ite, Mi.WS_nx, Mi.WS_rt, Mi.WS_then, Mi.WS_st, Mi.WR_endF, Mi.WS_for, Mi.WS_while, Mi.WR_bad, Mi.WS_bad, Mi.WR_bno, Mi.WS_stX, ln, ad]
    refine q_w0 D3.2 (by omega) (by rw [rangeL_len]; omega) (by omega) (by omega) fun v M4 l u D4 q4 => ?_
    simp [-Mi.es_for, Mi.WR_ok, Mi.WR_bind, Mi.WR_ite, Mi.WS_ite, Mi.WS_nx, Mi.WS_rt, Mi.WS_then, Mi.WS_st, Mi.WR_endF, Mi.WS_for, Mi.WS_while, Mi.WR_bad, Mi.WS_bad, Mi.WR_bno, Mi.WS_stX]
    exact ⟨⟨v.toNat, by omega⟩, (D3.trans D4).le (by rw [rangeL_len]; omega)⟩
  refine e5.mono ?_ fun _ _ q => q
  rintro _ M4 ⟨k, rfl, D4⟩
  rw [ess_cons, WS_then, WS_for]
  have ei : ∀ σ : Lo, evIt (sig GP (N - 1)) (.val (.tup (.cons (.str "none") (.cons (.str "") (.cons .non (.cons (.int 5) (.cons (.tup (.cons (.str "a") .nil)) (.cons (.lst false (.cons (.str "a") .nil)) (.cons (.bl true) (.cons (.str "Dawn") .nil)))))))))) σ M4 = .ok (noL9, []) M4 := fun σ => by
    rw [ei_val]
    simp [itT, noL9]
  rw [ei, WR_ok]
  refine for_w (fun pre σ' M' => σ' = τ95 f bk st ps (gnF bk ps) (some (.lst (rwL bk.haps))) (some (.int k)) none a15 ∧ M4 = M') ⟨rfl, rfl⟩ (fun _ _ _ _ => locked_nil _) ?_ ?_
  · rintro pre d post _ _ hx ⟨rfl, rfl⟩
    obtain ⟨p1, p2⟩ := noL9_ok d (by have hx' : noL9 = pre ++ d :: post := hx; rw [hx']; simp)
    refine ⟨τ95 f bk st ps (gnF bk ps) (some (.lst (rwL bk.haps))) (some (.int k)) (some d) a15, rfl, ?_⟩
    exact no95 (N := N - 1) (by omega) hNN.symm h s2 (by omega) p1 p2
  · rintro _ _ ⟨rfl, rfl⟩
    have hh := h.hap
    have g0 : back false M4 (callF GP (N - 1) 89 [bk.d, .tup []] M4) = .ok (.tup []) M4 := gone_sp (N := N - 1) (by omega) M4 hh.nd hh.hz hh.ha (ps := []) (fun p hp => by cases hp) (by simp)
    have ce : cmpD .eq (.tup []) (.tup []) M4 = .ok (.bl true) M4 := by simp [cmpD, eqD, D.eqv, eqvs]
    rw [← k7]
    have : stAt 7 b95 = .ret (.cmp .eq (.call 89 false (.cons (.var 1) (.cons (.tup .nil) .nil))) (.tup .nil)) := rfl
    rw [this]
    have fin : Rt (.bl true) M4 := by rw [← hR]; exact .mk0 D4 (by omega) rfl rfl
    generalize hS : τ95 f bk st ps (gnF bk ps) (some (.lst (rwL bk.haps))) (some (.int k)) none a15 = S
    have g1 : S[1]? = some (some bk.d) := by rw [← hS]; rfl
    have e7 : evSs (sig GP (N - 1)) (.cons (.ret (.cmp .eq (.call 89 false (.cons (.var 1) (.cons (.tup .nil) .nil))) (.tup .nil))) .nil) S M4 = .rt (.bl true) M4 := by simp [g1, g0, ce]
    rw [e7]
    exact fin
def level : Nat := 100
theorem law_ev (ns : List Int) (hl : ns.length ≤ 63) : ∃ M, callF GP level 96 [.scr ns] [] = .ok (.bl true) M := by
  have hF := feed_start ns hl 1000000 (by decide)
  have hfe := feed_ok (P := GP) (i := 8) rfl 98 ns hl
  suffices h : WR (callF GP level 96 [.scr ns] []) fun d M => d = .bl true by
    obtain ⟨d, M, e, rfl⟩ := WR_eq h
    exact ⟨M, e⟩
  refine call_w (by decide) g96 rfl ?_
  show WS (evSs (sig GP 99) b96 [some (.scr ns), none, none] []) _ _
  rw [show b96 = .cons (stAt 0 b96) (.cons (.for_ (.name 2) (.range1 (.int 3)) (fb 1 b96)) (.cons (stAt 2 b96) .nil)) from rfl]
  generalize hB : fb 1 b96 = BB
  generalize h2 : stAt 2 b96 = S2
  rw [ess_cons, WS_then]
  have e0 : WS (evS (sig GP 99) (stAt 0 b96) [some (.scr ns), none, none] []) (fun σ' M' => σ' = [some (.scr ns), some (.ref 0), none] ∧ Feed 0 1000000 M') (fun d M => d = .bl true) := by
    dsimp only [stAt, b96]
    simp [-Mi.es_for, Mi.WR_ok, Mi.WR_bind, Mi.WR_ite, Mi.WS_ite, Mi.WS_nx, Mi.WS_rt, Mi.WS_then, Mi.WS_st, Mi.WR_endF, Mi.WS_for, Mi.WS_while, Mi.WR_bad, Mi.WS_bad, Mi.WR_bno, Mi.WS_stX, hfe, back]
    exact hF
  refine e0.mono ?_ fun _ _ q => q
  rintro _ M0 ⟨rfl, hF0⟩
  rw [ess_cons, WS_then, WS_for]
  have er : ∀ (σ : Lo) (M : Hh), evIt (sig GP 99) (.range1 (.int 3)) σ M = .ok (rangeL 0 3, []) M := fun σ M => by
    have ro : rOk 3 = true := by decide
    have h2 : (Int.toNat 3) = 3 := rfl
    rw [ei_range1]
    simp only [ev_int, R.bind_ok, ro, if_true, h2]
  rw [er, WR_ok]
  refine for_w (fun pre σ M' => σ = [some (.scr ns), some (.ref 0), none] ∧ Feed 0 (10000 - 2700 * pre.length) M') ⟨rfl, hF0.mono (by simp)⟩ (fun _ _ _ _ => locked_nil _) ?_ ?_
  · rintro pre x post _ M' hx ⟨rfl, hF'⟩
    have hlen := congrArg List.length hx
    rw [rangeL_len, List.length_append, List.length_cons] at hlen
    refine ⟨[some (.scr ns), some (.ref 0), some x], rfl, ?_⟩
    have hB1 : fb 1 b96 = .cons (.ite (.not (.call 95 false (.cons (.var 1) .nil))) (.cons (.ret (.bl false)) .nil) .nil) (.cons (.wipe [2]) .nil) := rfl
    rw [← hB, hB1]
    simp [-Mi.es_for, Mi.WR_ok, Mi.WR_bind, Mi.WR_ite, Mi.WS_ite, Mi.WS_nx, Mi.WS_rt, Mi.WS_then, Mi.WS_st, Mi.WR_endF, Mi.WS_for, Mi.WS_while, Mi.WR_bad, Mi.WS_bad, Mi.WR_bno, Mi.WS_stX]
    refine (bout_g (N := 99) (by omega)).w0 hF' (by omega) ?_
    rintro _ M1 rfl D1 q1
    simp [-Mi.es_for, Mi.WR_ok, Mi.WR_bind, Mi.WR_ite, Mi.WS_ite, Mi.WS_nx, Mi.WS_rt, Mi.WS_then, Mi.WS_st, Mi.WR_endF, Mi.WS_for, Mi.WS_while, Mi.WR_bad, Mi.WS_bad, Mi.WR_bno, Mi.WS_stX]
    exact D1.2.mono (by omega)
  · rintro _ M' ⟨rfl, _⟩
    rw [← h2]
    have : stAt 2 b96 = .ret (.bl true) := rfl
    rw [this]
    simp [-Mi.es_for, Mi.WR_ok, Mi.WR_bind, Mi.WR_ite, Mi.WS_ite, Mi.WS_nx, Mi.WS_rt, Mi.WS_then, Mi.WS_st, Mi.WR_endF, Mi.WS_for, Mi.WS_while, Mi.WR_bad, Mi.WS_bad, Mi.WR_bno, Mi.WS_stX]
end Mi
end
section
open PySem PySem.W PySem.Calls PyProof.Rows
set_option maxRecDepth 100000 in
set_option maxHeartbeats 8000000 in
theorem PySem.Challenge.cw_worthsheets_k09_acts_and_happenings_holds : PySem.Challenge.rw_worthsheets_k09_acts_and_happenings.Holds := by
  w_on; o_law
  refine HandSHeadRun.head_any (r := OpenLaw.row PySem.Challenge.rw_worthsheets_k09_acts_and_happenings) (q := view (OpenLaw.row PySem.Challenge.rw_worthsheets_k09_acts_and_happenings).prog [33]) (H := Mi.hookM 6 C.cl) (ob := Mi.obM 6 C.cl) (M := 6000) (loose := C.names) (d := HandSHeadRun.topDef (OpenLaw.row PySem.Challenge.rw_worthsheets_k09_acts_and_happenings).prog 33) (kwd := []) Mi.obM_eq
    (by kernel_rfl) (fun s => by kernel_rfl) C.run (by kernel_rfl) (by kernel_rfl) (by kernel_rfl) (by rfl) (by first | assumption | decide +kernel) (by decide +kernel) ⟨rfl, rfl, rfl, rfl, rfl, by decide +kernel⟩ ?hw ?hc
  case hw => w_witness2
  case hc =>
    refine Mi.walkG (l := PySem.Challenge.rw_worthsheets_k09_acts_and_happenings) (n := 63) (k := Mi.level) (x := "_law_script") rfl (by decide) (by kernel_rfl) ⟨⟨rfl, by decide, by decide⟩, rfl⟩ ?F
    intro w mg fa h Y G hmg0
    have hmg : mg ("law" : PySem.Str) = some (.ref fa) := by rw [← C.name_is]; exact hmg0
    exact Mi.law_F (q := C.q96) (iL := 96) C.text_ok C.binds_ok rfl rfl rfl Mi.law_ev Y G hmg
end
