import PyProof.Rows.All
import KE.SortData
import KE.KDictList
import KE.KDictSum
import KE.LtSeq
import HandS.ForMost
import HandS.Wide
import HandS.EndBits
import HandS.HeadEnd
import HandS.HeadHook1
import HandS.HeadHook2
import HandS.HeadHook3
import HandS.Head2
import HandS.TupAny
import HandS.TupMul
import HandS.Deep
import HandS.IsInst
import HandS.Dict
import HandS.Text
import HandS.Flow
import HandS.TupLe
import HandS.TupLen
import HandS.RaiseMore
import HandS.Iter
import KE.KDictDisplayH
import HandS.CallLocal
import HandS.More
import PySem.Challenge.RW_farleases_k55_whole_copies_are_what_the
set_option Elab.async false
set_option linter.all false
set_option maxRecDepth 100000
set_option maxHeartbeats 4000000
/-! Rs1: sorting rows of tuples, empty ones among them. -/
namespace PySem.SeqAt
open PySem PySem.Calls PyProof.Rows
section
variable {A : Around} {s : Shared}
theorem call_tuple_ltR {prog : Program} {w : World} {E : Value → Shared → Prop} {Q : Value → Shared → Prop} {l b : Addr} {items items2 : Array Value} {e r : Nat → Bool} (hl : s.heap.IsTuple l items) (hb : s.heap.IsTuple b items2)
    (he : ∀ j (h1 : j < items.size) (h2 : j < items2.size), EqAt A.in1 s items[j] items2[j] (e j)) (hr : ∀ j (h1 : j < items.size) (h2 : j < items2.size), e j = false → RcLt A.in1 s items[j] items2[j] (r j))
    (h : Q (.bool (firstLt e r (decide (items.size < items2.size)) (List.range (min items.size items2.size)))) s) : wpAny (model prog w) A (call (.builtin "tuple.__lt__") [.ref l, .ref b]) Q E s := by
  obtain ⟨⟨cls, dd, data, sl⟩, ho, hc, n, hd⟩ := id hl
  obtain ⟨⟨cls2, dd2, data2, sl2⟩, ho2, hc2, n2, hd2⟩ := id hb
  simp only at hc hd hc2 hd2
  subst hc hd hc2 hd2
  exact call_meets F.slot_tuple_lt ⟨_, ho, rfl⟩ F.entry_tuple_lt (F.args_tuple_lt_2 _ _) (tuple_ltAt l b items items2 n n2 dd dd2 sl sl2 e r) ⟨ho, ho2, he, hr, h⟩
end
end PySem.SeqAt
namespace PySem.W
open PySem PySem.Calls PyProof.Rows PySem.SeqAt
section
variable {prog : Program} {w : World} {A : Around} {E : Value → Shared → Prop} {s : Shared}
theorem oneLt_tupR {xs ys : List PyData} {a b : Value} {as bs : List Addr} {Q : Bool → Shared → Prop} (ra : Reads s.heap a (.tuple xs) as) (rb : Reads s.heap b (.tuple ys) bs) (h : alike (.tuple xs) (.tuple ys) = true)
    (hu : A.units + min (PyData.tuple xs).depth (PyData.tuple ys).depth < cLine) (hq : Q (dataLt (.tuple xs) (.tuple ys)) s) : wpAny (model prog w) A (oneLt' true a b) Q E s := by
  have hal : alikeAll xs ys = true := by simpa [alike] using h
  cases ra with
  | @tuple l o vs n _ as₁ h1 h2 h3 h4 =>
    cases rb with
    | @tuple l' o' vs' n' _ bs₁ k1 k2 k3 k4 =>
      have n1 : vs.size = xs.length := by simpa using SeqAt.ReadsAll.length _ _ _ h4
      have n2 : vs'.size = ys.length := by simpa using SeqAt.ReadsAll.length _ _ _ k4
      rw [dataLt_tuple, ← firstLt_toks xs ys hal, ← n1, ← n2] at hq
      rw [oneLt'_eq]
      simp only [if_true]
      refine wpAny_bind (wpAny_cRoomFor (SeqAt.room_here hu) ?_)
      refine wpAny_bind (wpAny_callSpecialIfBound?_slot (T := "tuple") ⟨_, h1, h2⟩ F.slot_tuple_lt (call_tuple_ltR (e := pairEq xs ys) (r := fun j => dataLt (xs.getD j .none) (ys.getD j .none)) ⟨_, h1, h2, _, h3⟩ ⟨_, k1, k2, _, k3⟩ (fun j j1 j2 => ?_) (fun j j1 j2 hj => ?_) ?_))
      · have := eqAt_alikeAll xs ys A.in1 s vs.toList vs'.toList _ _ h4 k4 hal (SeqAt.room_in hu) j (by simpa using j1) (by simpa using j2)
        simpa using this
      · have := rcLt_alikeAll xs ys A.in1 s vs.toList vs'.toList _ _ h4 k4 hal (SeqAt.room_in hu) j (by simpa using j1) (by simpa using j2) hj
        simpa using this
      · exact wpAny_truthy_bool hq
end
end PySem.W
namespace PySem.W
open PySem PySem.Calls PyProof.Rows PySem.SeqAt
section
variable {prog : Program} {w : World} {A : Around} {E : Value → Shared → Prop} {s : Shared}
def neT : PyData → Bool
  | .tuple (_ :: _) => true
  | _ => false
theorem firstsO : ∀ {vs : List Value} {ds : List PyData} {Q : List (Option Value) → Shared → Prop}, EachIs (fun v d => ∃ as, Reads s.heap v d as) vs ds → (∀ d, d ∈ ds → ∃ r, d = .tuple r) →
    (∀ fs : List (Option Value), fs.map (·.isSome) = ds.map neT → Q fs s) → wpAny (model prog w) A (vs.mapM firstOfTuple') Q E s
  | _, _, Q, .nil, _, h => by rw [List.mapM_nil]; exact wpAny_pure (h [] rfl)
  | _, _, Q, .cons (b := d) ⟨as, r⟩ t, ht, h => by
    obtain ⟨xs, rfl⟩ := ht d (List.mem_cons_self ..)
    cases r with
    | @tuple a o its n _ _ ho hc hd hr =>
      rw [List.mapM_cons]
      refine wpAny_bind ?_
      rw [kas_first_eq]
      refine wpAny_bind (Looks.here (show Looks (model prog w) s.heap (typeOf (.ref a)) o.cls from (Looks.ld ho).andThen .now) ?_)
      rw [hc, if_neg (by first | decide | simp)]
      refine wpAny_bind (listItems_at ho hd (wpAny_pure ?_))
      refine wpAny_bind (firstsO t (fun d hd => ht d (List.mem_cons_of_mem _ hd)) fun fs hfs => wpAny_pure (h _ ?_))
      rw [List.map_cons, List.map_cons, hfs]
      congr 1
      cases xs with
      | nil =>
        cases q : its.toList with
        | nil => rw [← Array.getElem?_toList, q]; rfl
        | cons f fr => rw [q] at hr; cases hr
      | cons x xs =>
        cases q : its.toList with
        | nil => rw [q] at hr; cases hr
        | cons f fr => rw [← Array.getElem?_toList, q]; rfl
theorem SortsAt.tupE {vs : List Value} {ds : List PyData} (e : EachIs (fun v d => ∃ as, Reads s.heap v d as) vs ds) (hal : AllAlike ds) (ht : ∀ d, d ∈ ds → ∃ r, d = .tuple r) (hem : ds.all neT = false) (hu : ∀ d, d ∈ ds → A.units + d.depth < cLine) : SortsAt prog w A s (dataKind s.heap ds) vs := by
  have room : ∀ {d d' : PyData}, d ∈ ds → A.units + min d.depth d'.depth < cLine := fun {d d'} hd => Nat.lt_of_le_of_lt (Nat.add_le_add_left (Nat.min_le_left _ _) _) (hu d hd)
  refine ⟨fun v hv => ?_, ?_⟩
  · obtain ⟨d, hd, as, r⟩ := e.left v hv
    exact ⟨_, dataKind_some hal hd r⟩
  · cases ds with
    | nil => simp at hem
    | cons d₀ ds₀ =>
      have ltG : H.LtAt prog w A s (dataKind s.heap (d₀ :: ds₀)) general' := by
        intro E x y a b Q ha hb hq
        obtain ⟨d, as, hd, ra, rfl⟩ := dataKind_inv ha
        obtain ⟨d', as', hd', rb, rfl⟩ := dataKind_inv hb
        obtain ⟨r, rfl⟩ := ht d hd
        show wpAny _ _ (oneLt' false x y) _ _ _
        exact oneLt_alike (fun z => by cases z) ra rb (hal _ hd d' hd') (fun z => by cases z) (room hd) hq
      have ltO : H.LtAt prog w A s (dataKind s.heap (d₀ :: ds₀)) oneType' := by
        intro E x y a b Q ha hb hq
        obtain ⟨d, as, hd, ra, rfl⟩ := dataKind_inv ha
        obtain ⟨d', as', hd', rb, rfl⟩ := dataKind_inv hb
        obtain ⟨r, rfl⟩ := ht d hd
        obtain ⟨r', rfl⟩ := ht d' hd'
        rw [keyLt'_oneType]
        exact oneLt_tupR ra rb (hal _ hd _ hd') (room hd) hq
      have kind : ∀ (E : Value → Shared → Prop) {Q : SortKind → Shared → Prop}, Q (if neT d₀ then general' else oneType') s → wpAny (model prog w) A (keyKind' vs.toArray) Q E s := by
        intro E Q hq
        rw [keyKind'_eq, List.mapM_toArray, map_eq_pure_bind]
        refine wpAny_bind (wpAny_bind (firstsO e ht fun fs hfs => wpAny_pure ?_))
        have hall : (fs.toArray.all fun x => x.isSome) = false := by
          have h1 : fs.all (fun x => x.isSome) = (d₀ :: ds₀).all neT := by
            have h2 : (fs.map (·.isSome)).all id = ((d₀ :: ds₀).map neT).all id := by rw [hfs]
            simpa [List.all_map, Function.comp_def] using h2
          rw [List.all_toArray, h1, hem]
        rw [if_neg (by rw [hall]; exact Bool.false_ne_true)]
        have h0 : (fs.toArray[0]?.bind id).isSome = neT d₀ := by
          cases fs with
          | nil => cases hfs
          | cons f fr =>
            have : f.isSome = neT d₀ := (List.cons.inj hfs).1
            simpa using this
        cases hd : neT d₀
        · rw [if_neg (by rw [h0, hd]; exact Bool.false_ne_true)]
          rw [hd] at hq
          rw [oneTypeOnly'_eq, List.mapM_toArray, map_eq_pure_bind]
          refine wpAny_bind (wpAny_bind (wpAny_bind (kas_mapM (r := Value.type "tuple") _ (fun v hv Q' hq => ?_) (wpAny_pure ?_))))
          · obtain ⟨d, hd, as, r⟩ := e.left v hv
            obtain ⟨xs, rfl⟩ := ht d hd
            exact (looks_reads (M := model prog w) r).here hq
          · have hall2 : ((List.map (fun _ => Value.type "tuple") vs).toArray.all fun x => x == Value.type "tuple") = true := by
              simp only [List.all_toArray, List.all_map, List.all_eq_true]
              intro _ _
              rfl
            cases e with
            | cons h t =>
              have h0 : ∀ (v : Value) (l : List Value), (List.map (fun _ => Value.type "tuple") (v :: l)).toArray[0]? = some (Value.type "tuple") := fun _ _ => rfl
              rw [h0]
              simp only [hall2, if_true]
              exact wpAny_pure (wpAny_pure hq)
        · rw [if_pos (by rw [h0, hd])]
          rw [hd] at hq
          exact wpAny_pure hq
      cases hd : neT d₀
      · exact ⟨oneType', ltO, fun _ E Q hq => kind E (by rw [hd]; exact hq)⟩
      · exact ⟨general', ltG, fun _ E Q hq => kind E (by rw [hd]; exact hq)⟩
/-- data that a sort takes: alike, and all tuples or none -/
def SortOk (ds : List PyData) : Prop := AllAlike ds ∧ (Sortable ds ∨ ((∀ d, d ∈ ds → ∃ r, d = .tuple r) ∧ ds.all neT = false))
theorem SortsAt.ok {vs : List Value} {ds : List PyData} (e : EachIs (fun v d => ∃ as, Reads s.heap v d as) vs ds) (h : SortOk ds) (hu : ∀ d, d ∈ ds → A.units + d.depth < cLine) : SortsAt prog w A s (dataKind s.heap ds) vs := by
  rcases h with ⟨h1, h2 | ⟨h2, h3⟩⟩
  · exact SortsAt.data e h1 h2 hu
  · exact SortsAt.tupE e h1 h2 h3 hu
section
variable {β : Type} {vs : List Value} {bs : List β} {enc : β → PyData} {R : Value → β → Prop}
/-- sorted(xs) -/
theorem sorted_dataR {l : Addr} {Q : Value → Shared → Prop} (hl : s.heap.IsList l vs.toArray) (e : EachIs R vs bs) (er : EachIs (fun v b => ∃ as, Reads s.heap v (enc b) as) vs bs) (hk : SortOk (bs.map enc)) (hL : bs.length ≤ sizeLine)
    (hu : ∀ b, b ∈ bs → A.units + 2 + (enc b).depth < cLine) (h : ∀ out, out.length = bs.length → EachIs R out (bs.mergeSort (dataLe false enc)) → Q (.ref (s.heap.objs.size + 1)) { s with heap := sortedAll s.heap vs (List.toArray out) }) :
    wpAny (model prog w) A (call (.builtin "sorted") [.ref l]) Q E s := by
  have er' : EachIs (fun v b => ∃ as, Reads (sortingHeap (copyHeap s.heap vs) (s.heap.objs.size + 1) vs) v (enc b) as) vs bs := er.mono fun _ _ ⟨as, r⟩ => ⟨as, PyProof.Rows.Reads.keeps (fun _ _ => sorting_copy_old) r⟩
  exact sorted_vals hl (SortsAt.ok (s := { s with heap := sortingHeap (copyHeap s.heap vs) (s.heap.objs.size + 1) vs }) (each_map (R := fun v d => ∃ as, Reads (sortingHeap (copyHeap s.heap vs) (s.heap.objs.size + 1) vs) v d as) enc er') hk (bound_map hu)) (by rw [e.length]; exact hL)
    (h _ (by rw [sortVals_length false rfl]; exact e.length) (sortVals_data false e er' hk.1))
/-- xs.sort() -/
theorem list_sort_dataR {a : Addr} {n : Nat} {Q : Value → Shared → Prop} (ho : s.heap.get? a = some (seqObj "list" vs.toArray n)) (e : EachIs R vs bs) (er : EachIs (fun v b => ∃ as, Reads s.heap v (enc b) as ∧ a ∉ as) vs bs) (hk : SortOk (bs.map enc)) (hL : bs.length ≤ sizeLine)
    (hu : ∀ b, b ∈ bs → A.units + 1 + (enc b).depth < cLine) (h : ∀ out, out.length = bs.length → EachIs R out (bs.mergeSort (dataLe false enc)) → Q .none { s with heap := sortedHeap s.heap a vs (List.toArray out) }) :
    wpAny (model prog w) A (call (.builtin "list.sort") [.ref a]) Q E s := by
  have er' : EachIs (fun v b => ∃ as, Reads (sortingHeap s.heap a vs) v (enc b) as) vs bs := each_keepBut (h' := sortingHeap s.heap a vs) (fun _ _ hb q => sortingHeap_old hb q) (fun o q => by rw [ho] at q; rw [← Option.some.inj q]) hk.1 er
  refine wpAny_call_entry slot_list_sort ⟨_, ho, rfl⟩ entry_list_sort (list_sort_vals (κ := dataKind (sortingHeap s.heap a vs) (bs.map enc)) ho (SortsAt.ok (s := { s with heap := sortingHeap s.heap a vs }) (each_map (R := fun v d => ∃ as, Reads (sortingHeap s.heap a vs) v d as) enc er') hk (bound_map hu)) (by rw [e.length]; exact hL) ⟨.none, rfl, ?_⟩) (args_list_sort _)
  exact h _ (by rw [sortVals_length false rfl]; exact e.length) (sortVals_data false e er' hk.1)
end
end
end PySem.W

set_option Elab.async false
set_option linter.all false
set_option maxRecDepth 100000
/-! Rf1: values, the small language, its evaluator. -/
namespace Rf
open PySem PySem.Spec PyProof.Rows L2

/-- ktu: a tuple of the module. values: tuples, frozen lists and dicts as trees; ref: a changing object of the store; glo: what a module's name stands for; scr: the script -/
inductive D where
  | non | bl (b : Bool) | int (i : Int) | str (x : Str)
  | tup (l : List D) | ktu (l : List D) | lst (l : List D) | scr (l : List D) | dk (l : List (Key × D)) | dt (l : List (List Key × D))
  | ref (m : Nat) | glo (x : Str) | ty (t : String) | nop
instance : Inhabited D := ⟨.non⟩
/-- lkd: a dict that is walked: nothing may look at it -/
inductive MO where
  | lst (l : List D) | dk (l : List (Key × D)) | dt (l : List (List Key × D)) | lkd
abbrev Store := List MO
abbrev Env := List (Option D)

inductive R (α : Type) where
  | ok (a : α) (s : Store) | exc (x : Str) (l : List D) (s : Store) | bad
def R.bnd {α β : Type} : R α → (α → Store → R β) → R β
  | .ok a s, f => f a s
  | .exc x l s, _ => .exc x l s
  | .bad, _ => .bad
theorem R.bnd_ok {α β : Type} {r : R α} {f : α → Store → R β} {b : β} {s : Store} (h : r.bnd f = .ok b s) : ∃ a s1, r = .ok a s1 ∧ f a s1 = .ok b s := by
  cases r with
  | ok a s1 => exact ⟨a, s1, rfl, h⟩
  | exc x l s1 => cases h
  | bad => cases h

/-- targets: a name; a row of names -/
inductive TGT where
  | nm (i : Nat) | tp (is : List Nat)
  deriving DecidableEq

/-- built-in functions and types that are called -/
inductive BI where
  | len | tuple | list | abs | int | max | min | isinst | all | any | sorted | sum | str
  deriving DecidableEq
inductive MT where
  | append
  deriving DecidableEq
/-- methods that change nothing -/
inductive PM where
  | split | join | index
  deriving DecidableEq
/-- what is walked as it goes -/
inductive ITF where
  | zip | enum | rng3
  deriving DecidableEq

mutual
inductive ME where
  | bad
  | slot (i : Nat)
  | cst (d : D)
  | glob (x : Str)
  | bty (t : String)
  | tup (es : MEs)
  | lst (mu : Bool) (es : MEs)
  | dnew (t : Bool)
  | dsing (k v : ME)
  | dget (o k : ME)
  | dget2 (o k d : ME)
  | ddisp (kvs : MEs)
  | cget (x : Str) (l : List (Str × Str)) (k : ME)
  | cin (neg : Bool) (x : Str) (l : List (Str × Str)) (k : ME)
  | callv (i : Nat) (es : MEs)
  | pm (m : PM) (o a : ME)
  | mxd (e d : ME)
  | itf (b : ITF) (es : MEs)
  | bin (o : Operator) (a b : ME)
  | neg (a : ME)
  | cmp (o : CmpOp) (a b : ME)
  | chain (o o' : CmpOp) (a b c : ME)
  | and_ (es : MEs)
  | or_ (es : MEs)
  | not_ (a : ME)
  | ife (c a b : ME)
  | ix (a i : ME)
  | slc (a lo hi : ME)
  | nop
  | call (x : Str) (es : MEs)
  | bi (b : BI) (es : MEs)
  | meth (m : MT) (o : ME) (es : MEs)
  | rng (es : MEs)
  | lc (elt : ME) (tg : TGT) (it : ME) (ifs : MEs) (own : List Nat)
  | lcd (elt : ME) (tg : TGT) (it : ME) (ifs : MEs) (own : List Nat)
inductive MEs where
  | nil
  | cons (e : ME) (r : MEs)
end
def MEs.list : MEs → List ME
  | .nil => []
  | .cons e r => e :: r.list
def MEs.length : MEs → Nat
  | .nil => 0
  | .cons _ r => r.length + 1

/-- targets that may be places of an object -/
inductive MTs where
  | nil
  | nm (i : Nat) (r : MTs)
  | ix (o i : ME) (r : MTs)
mutual
inductive MSt where
  | bad
  | asg (t : TGT) (e : ME)
  | par (is : List Nat) (es : MEs)
  | asgM (ts : MTs) (e : ME)
  | asgIx (o i e : ME)
  | aug (i : Nat) (o : Operator) (e : ME)
  | expr (e : ME)
  | ret (e : ME)
  | retN
  | ife (c : ME) (a b : MSts)
  | fr (t : TGT) (it : ME) (b : MSts)
  | wh (c : ME) (b : MSts)
  | bk
  | ct
  | ps
inductive MSts where
  | nil
  | cons (e : MSt) (r : MSts)
end

/-! ### operations -/
/-- the most items that a sequence may have -/
abbrev LINE : Nat := 16777216

def deref (s : Store) : D → D
  | .ref m => match s[m]? with
    | some (.lst l) => .lst l
    | some (.dk l) => .dk l
    | some (.dt l) => .dt l
    | some .lkd => .ref m
    | none => .ref m
  | d => d

def isLst (s : Store) : D → Option Unit
  | .ref m => match s[m]? with
    | some (.lst _) => some ()
    | _ => none
  | _ => none
def isDct (s : Store) : D → Option Unit
  | .ref m => match s[m]? with
    | some (.dk _) => some ()
    | some (.dt _) => some ()
    | _ => none
  | _ => none
def truth (s : Store) (d : D) : Option Bool := match deref s d with
  | .non => some false
  | .bl b => some b
  | .int i => some (i != 0)
  | .str x => if x.length ≤ LINE then some ((x.length : Int) != 0) else none
  | .tup l => some (!l.isEmpty)
  | .ktu l => some (!l.isEmpty)
  | .lst l => some (!l.isEmpty)
  | .dk l => some (!l.isEmpty)
  | .scr l => some (!l.isEmpty)
  | _ => none

/-- an int's bits, some more -/
def bitsI (i : Int) : Nat := i.natAbs.log2 + 1
def binD (o : Operator) (x y : D) : Option D := match o, x, y with
  | .Add, .int i, .int j => some (.int (i + j))
  | .Add, .str a, .str b => if a.length + b.length ≤ LINE then some (.str (a ++ b)) else none
  | .Add, .tup a, .tup b => if a.length + b.length ≤ LINE then some (.tup (a ++ b)) else none
  | .Add, .lst a, .lst b => if a.length + b.length ≤ LINE then some (.lst (a ++ b)) else none
  | .Sub, .int i, .int j => some (.int (i - j))
  | .Mult, .int i, .int j => if bitsI i + bitsI j ≤ 100000000 then some (.int (i * j)) else none
  | .Mult, .tup a, .int j => if a.isEmpty = false ∧ 2 ≤ j ∧ j ≤ 1000 ∧ a.length ≤ 1000 then some (.tup (List.replicate j.toNat a).flatten) else none
  | .FloorDiv, .int i, .int j => if 0 < j ∧ j < 18446744073709551616 then some (.int (i / j)) else none
  | .Mod, .int i, .int j => if 0 < j then some (.int (i % j)) else none
  | .Pow, .int i, .int j => if 0 ≤ j ∧ j ≤ 1000 ∧ i.natAbs < 2 ^ 60 then some (.int (i ^ j.toNat)) else none
  | _, _, _ => none

/-- a value that == looks through: at most n deep -/
def shp : Nat → D → Bool
  | 0, _ => false
  | n + 1, d => match d with
    | .non => true
    | .bl _ => true
    | .int _ => true
    | .str _ => true
    | .tup l => l.all (shp n)
    | .ktu l => l.all (shp n)
    | .lst l => l.all (shp n)
    | _ => false
def natsEq : List Nat → List Nat → Bool
  | [], [] => true
  | x :: xs, y :: ys => Nat.beq x y && natsEq xs ys
  | _, _ => false
def strEq (x y : Str) : Bool := natsEq x.cps.toList y.cps.toList
def allEq (f : D → D → Bool) : List D → List D → Bool
  | [], [] => true
  | x :: xs, y :: ys => f x y && allEq f xs ys
  | _, _ => false
def eqF : Nat → D → D → Bool
  | 0, _, _ => false
  | n + 1, x, y => match x, y with
    | .non, .non => true
    | .bl a, .bl b => a == b
    | .bl a, .int j => (if a then 1 else 0) == j
    | .int i, .bl b => i == (if b then 1 else 0)
    | .int i, .int j => i == j
    | .str a, .str b => strEq a b
    | .tup a, .tup b => allEq (eqF n) a b
    | .tup a, .ktu b => allEq (eqF n) a b
    | .ktu a, .tup b => allEq (eqF n) a b
    | .ktu a, .ktu b => allEq (eqF n) a b
    | .lst a, .lst b => allEq (eqF n) a b
    | _, _ => false
def DEEP : Nat := 60
def eqD (x y : D) : Option Bool := if shp DEEP x && shp DEEP y then some (eqF DEEP x y) else none

/-! dicts -/
def keyK : D → Option Key
  | .int i => some (.inl i)
  | .str x => some (.inr x)
  | _ => none
def keysK : List D → Option (List Key)
  | [] => some []
  | d :: r => match keyK d, keysK r with
    | some k, some ks => some (k :: ks)
    | _, _ => none
def keyT : D → Option (List Key)
  | .tup l => keysK l
  | _ => none
def keyD : Key → D
  | .inl i => .int i
  | .inr x => .str x
def kOk : Key → Bool
  | .inl _ => true
  | .inr x => PyData.strOk x
def keyDT (ks : List Key) : D := .tup (ks.map keyD)
def valD {κ : Type} [DecidableEq κ] (kvs : List (κ × D)) (k : κ) : Option D := (kvs.find? fun kv => decide (kv.1 = k)).map (·.2)
def putD {κ : Type} [DecidableEq κ] (kvs : List (κ × D)) (k : κ) (v : D) : List (κ × D) :=
  if (kvs.any fun kv => decide (kv.1 = k)) = true then kvs.map (fun kv => if kv.1 = k then (kv.1, v) else kv) else kvs ++ [(k, v)]
/-- is there a key -/
def hasD (x y : D) : Option Bool := match y with
  | .dk l => (keyK x).map fun k => (valD l k).isSome
  | .dt l => (keyT x).map fun k => (valD l k).isSome
  | _ => none
/-- what stands at a key, if it stands there -/
def atD (x y : D) : Option (Option D) := match x with
  | .dk l => (keyK y).map (valD l)
  | .dt l => (keyT y).map (valD l)
  | _ => none
def natsLt : List Nat → List Nat → Bool
  | _, [] => false
  | [], _ :: _ => true
  | x :: xs, y :: ys => Nat.blt x y || (Nat.beq x y && natsLt xs ys)
def strLt (x y : Str) : Bool := natsLt x.cps.toList y.cps.toList
/-- is a sign among these -/
def signIn (x y : Str) : Option Bool := match x.cps.toList with
  | [c] => some (y.cps.toList.any fun d => Nat.beq c d)
  | _ => none
def cmpD (o : CmpOp) (x y : D) : Option Bool := match o with
  | .Eq => eqD x y
  | .NotEq => (eqD x y).map (!·)
  | .Lt => match x, y with
    | .int i, .int j => some (decide (i < j))
    | .str a, .str b => some (strLt a b)
    | _, _ => none
  | .LtE => match x, y with
    | .int i, .int j => some (decide (i ≤ j))
    | .str a, .str b => some (!strLt b a)
    | _, _ => none
  | .Gt => match x, y with
    | .int i, .int j => some (decide (j < i))
    | .str a, .str b => some (strLt b a)
    | _, _ => none
  | .GtE => match x, y with
    | .int i, .int j => some (decide (j ≤ i))
    | .str a, .str b => some (!strLt a b)
    | _, _ => none
  | .Is => match x, y with
    | .non, .non => some true
    | _, .non => some false
    | .bl a, .bl b => some (a == b)
    | _, _ => none
  | .IsNot => match x, y with
    | .non, .non => some false
    | _, .non => some true
    | .bl a, .bl b => some (!(a == b))
    | _, _ => none
  | .In => match y with
    | .dk _ => hasD x y
    | .dt _ => hasD x y
    | .tup l => if shp DEEP x && shp DEEP y then some (l.any fun d => eqF DEEP d x) else none
    | .ktu l => if shp DEEP x && shp DEEP y then some (l.any fun d => eqF DEEP d x) else none
    | .lst l => if shp DEEP x && shp DEEP y then some (l.any fun d => eqF DEEP d x) else none
    | .str b => match x with
      | .str a => signIn a b
      | _ => none
    | _ => none
  | .NotIn => match y with
    | .dk _ => (hasD x y).map (!·)
    | .dt _ => (hasD x y).map (!·)
    | .tup l => if shp DEEP x && shp DEEP y then some (!(l.any fun d => eqF DEEP d x)) else none
    | .ktu l => if shp DEEP x && shp DEEP y then some (!(l.any fun d => eqF DEEP d x)) else none
    | .lst l => if shp DEEP x && shp DEEP y then some (!(l.any fun d => eqF DEEP d x)) else none
    | .str b => match x with
      | .str a => (signIn a b).map (!·)
      | _ => none
    | _ => none

/-- an item's place -/
def ixD (x : D) (i : Int) : Option D := match x with
  | .tup l => atI l i
  | .ktu l => atI l i
  | .lst l => atI l i
  | .str z => if z.length ≤ LINE then (atI z.cps.toList i).map fun c => .str ⟨#[c]⟩ else none
  | _ => none
def cutD (l : List D) (lo hi : Option Int) : List D := (l.drop (HT.sIx l.length 0 lo)).take (HT.sIx l.length l.length hi - HT.sIx l.length 0 lo)
def cutSt (z : Str) (lo hi : Option Int) : Str :=
  ⟨((z.cps.toList.drop (HT.sIx z.length 0 lo)).take (HT.sIx z.length z.length hi - HT.sIx z.length 0 lo)).toArray⟩
def slcD (x : D) (lo hi : Option Int) : Option D := match x with
  | .tup l => some (.tup (cutD l lo hi))
  | .ktu l => if HT.sIx l.length 0 lo = 0 ∧ HT.sIx l.length l.length hi = l.length then some (.ktu l) else some (.tup (cutD l lo hi))
  | .str z => if z.length ≤ LINE then some (.str (cutSt z lo hi)) else none
  | .lst l => some (.lst (cutD l lo hi))
  | _ => none
/-- x[y] -/
def ixV (x y : D) : Option D := match x with
  | .dk _ => (atD x y).bind id
  | .dt _ => (atD x y).bind id
  | x => match y with
    | .int k => ixD x k
    | _ => none
/-- x[y] = v, of an object -/
def putO (o : MO) (y v : D) : Option MO := match o with
  | .lst l => match y with
    | .int j => (ixN l.length j).map fun p => .lst (l.set p v)
    | _ => none
  | .dk l => (keyK y).bind fun k => if l.length < LINE then some (.dk (putD l k v)) else none
  | .dt l => (keyT y).bind fun k => if l.length < LINE then some (.dt (putD l k v)) else none
  | .lkd => none
def partD : D → Option (Option Int)
  | .int i => some (some i)
  | .nop => some none
  | _ => none

def allInt : List D → Option (List Int)
  | [] => some []
  | .int i :: r => (allInt r).map (i :: ·)
  | _ :: _ => none
def allBl : List D → Option (List Bool)
  | [] => some []
  | .bl b :: r => (allBl r).map (b :: ·)
  | _ :: _ => none
def maxL : List Int → Option Int
  | [] => none
  | x :: r => some (r.foldl (fun a b => if b > a then b else a) x)
def minL : List Int → Option Int
  | [] => none
  | x :: r => some (r.foldl (fun a b => if b < a then b else a) x)
def isTy (d : D) (t : String) : Option Bool := match d with
  | .non => if t = "tuple" then some false else if t = "str" then some false else if t = "bool" then some false else if t = "int" then some false else none
  | .bl _ => if t = "tuple" then some false else if t = "str" then some false else if t = "bool" then some true else if t = "int" then some true else none
  | .int _ => if t = "tuple" then some false else if t = "str" then some false else if t = "bool" then some false else if t = "int" then some true else none
  | .str _ => if t = "tuple" then some false else if t = "str" then some true else if t = "bool" then some false else if t = "int" then some false else none
  | .ktu _ => if t = "tuple" then some true else if t = "str" then some false else if t = "bool" then some false else if t = "int" then some false else none
  | .tup _ => if t = "tuple" then some true else if t = "str" then some false else if t = "bool" then some false else if t = "int" then some false else none
  | .lst _ => if t = "tuple" then some false else if t = "str" then some false else if t = "bool" then some false else if t = "int" then some false else none
  | _ => none

/-! sorting -/
mutual
def toPD : D → Option PyData
  | .int i => some (.int i)
  | .str x => some (.str x)
  | .tup l => (toPDs l).map .tuple
  | .ktu l => (toPDs l).map .tuple
  | _ => none
def toPDs : List D → Option (List PyData)
  | [] => some []
  | d :: r => match toPD d, toPDs r with
    | some x, some xs => some (x :: xs)
    | _, _ => none
end
def neTup : PyData → Bool
  | .tuple (_ :: _) => true
  | _ => false
def isTup : PyData → Bool
  | .tuple _ => true
  | _ => false
def isAtm : PyData → Bool
  | .int _ => true
  | .str _ => true
  | _ => false
/-- alike, all tuples or none, not deep -/
def sortOk (ps : List PyData) : Bool := (ps.all fun p => ps.all fun q => PySem.W.alike p q) && (ps.all isTup || ps.all isAtm) && ps.all fun p => decide (p.depth ≤ 20)
def encD (d : D) : PyData := (toPD d).getD .none
def leD : D → D → Bool := PySem.W.dataLe false encD
def insB {α : Type} (le : α → α → Bool) (x : α) : List α → List α
  | [] => [x]
  | y :: r => if le x y then x :: y :: r else y :: insB le x r
def isortB {α : Type} (le : α → α → Bool) : List α → List α
  | [] => []
  | x :: r => insB le x (isortB le r)
def sortL (l : List D) : Option (List D) := match toPDs l with
  | some ps => if sortOk ps then some (isortB leD l) else none
  | none => none
/-- a number's signs -/
def digF : Nat → Nat → List Nat → List Nat
  | 0, n, acc => (48 + n) :: acc
  | f + 1, n, acc => if Nat.blt n 10 then (48 + n) :: acc else digF f (n / 10) ((48 + n % 10) :: acc)
def biD (b : BI) (ds : List D) : Option D := match b, ds with
  | .sorted, [.lst l] => (sortL l).map .lst
  | .sorted, [.dt l] => if l.all (fun kv => kv.1.all kOk) then (sortL (l.map fun kv => keyDT kv.1)).map .lst else none
  | .len, [.tup l] => some (.int l.length)
  | .len, [.ktu l] => some (.int l.length)
  | .len, [.dk l] => some (.int l.length)
  | .len, [.dt l] => some (.int l.length)
  | .len, [.lst l] => some (.int l.length)
  | .len, [.scr l] => some (.int l.length)
  | .len, [.str x] => if x.length ≤ LINE then some (.int x.length) else none
  | .tuple, [.lst l] => some (.tup l)
  | .tuple, [.tup l] => some (.tup l)
  | .tuple, [.ktu l] => some (.ktu l)
  | .list, [.lst l] => some (.lst l)
  | .list, [.scr l] => some (.lst l)
  | .list, [.tup l] => some (.lst l)
  | .list, [.ktu l] => some (.lst l)
  | .abs, [.int i] => some (.int (if i < 0 then -i else i))
  | .int, [.int i] => some (.int i)
  | .max, [.lst l] => ((allInt l).bind maxL).map .int
  | .min, [.lst l] => ((allInt l).bind minL).map .int
  | .str, [.int i] => if 0 ≤ i ∧ i < 2 ^ 60 then some (.str ⟨(digF 20 i.toNat []).toArray⟩) else none
  | .str, [.str x] => some (.str x)
  | .max, [.int i, .int j] => some (.int (if j > i then j else i))
  | .min, [.int i, .int j] => some (.int (if j < i then j else i))
  | .isinst, [d, .ty t] => (isTy d t).map .bl
  | .all, [.lst l] => (allBl l).map fun bs => .bl (bs.all id)
  | .any, [.lst l] => (allBl l).map fun bs => .bl (bs.any id)
  | .sum, [.lst l] => (allInt l).map fun bs => .int bs.sum
  | _, _ => none

def ofO {α : Type} (o : Option α) (s : Store) : R α := match o with
  | some a => .ok a s
  | none => .bad

/-- a place of the environment -/
def putN (ρ : Env) : List Nat → List D → Env
  | i :: is, d :: ds => putN (ρ.set i (some d)) is ds
  | _, _ => ρ
def asgT (s : Store) (t : TGT) (d : D) (ρ : Env) : Option Env := match t with
  | .nm i => some (ρ.set i (some d))
  | .tp is => match d with
    | .tup ds => if ds.length = is.length then some (putN ρ is ds) else none
    | .ktu ds => if ds.length = is.length then some (putN ρ is ds) else none
    | _ => none
def wipeE (ρ : Env) : List Nat → Env
  | [] => ρ
  | v :: vs => (wipeE ρ vs).set v none

/-- what is walked: a row of values as it stands, or an object of the store as it stands at each turn -/
inductive IS where
  | snap (l : List D) | live (m : Nat)
def iterD (s : Store) (d : D) : Option IS := match d with
  | .tup l => some (.snap l)
  | .ktu l => some (.snap l)
  | .lst l => some (.snap l)
  | .scr l => some (.snap l)
  | .str x => some (.snap (x.cps.toList.map fun c => .str ⟨#[c]⟩))
  | .ref m => (isLst s d).map fun _ => .live m
  | _ => none
/-- the item at a turn: none: stop; some none: bad -/
def itemAt (it : IS) (s : Store) (i : Nat) : Option (Option D) := match it with
  | .snap l => some l[i]?
  | .live m => match s[m]? with
    | some (.lst l) => some l[i]?
    | _ => none
def rngD (ds : List D) : Option (List D) := match ds with
  | [.int j] => if -(2 ^ 62) ≤ j ∧ j < 2 ^ 62 then some ((List.range j.toNat).map fun (k : Nat) => .int (0 + (k : Int))) else none
  | [.int i, .int j] => if (-(2 ^ 62) ≤ i ∧ i < 2 ^ 62) ∧ (-(2 ^ 62) ≤ j ∧ j < 2 ^ 62) then some ((List.range (j - i).toNat).map fun (k : Nat) => .int (i + (k : Int))) else none
  | _ => none

def seqL : D → Option (List D)
  | .tup l => some l
  | .ktu l => some l
  | .lst l => some l
  | _ => none
def isTupD : D → Bool
  | .tup _ => true
  | .ktu _ => true
  | _ => false
def zipL : List D → List D → List D
  | x :: xs, y :: ys => .tup [x, y] :: zipL xs ys
  | _, _ => []
def enumL (i : Nat) : List D → List D
  | [] => []
  | x :: xs => .tup [.int (i : Nat), x] :: enumL (i + 1) xs
/-- the items that are drawn -/
def itfD (b : ITF) (ds : List D) : Option (List D) := match b, ds with
  | .zip, [x, y] => if isTupD x = isTupD y then (match seqL x, seqL y with
    | some l, some l' => some (zipL l l')
    | _, _ => none) else none
  | .enum, [.lst l] => some (enumL 0 l)
  | .enum, [.tup l] => some (enumL 0 l)
  | .enum, [.ktu l] => some (enumL 0 l)
  | .rng3, [.int i, .int j, .int (-1)] => if (-(2 ^ 62) ≤ i ∧ i < 2 ^ 62) ∧ (-(2 ^ 62) ≤ j ∧ j < 2 ^ 62) then some ((List.range (i - j).toNat).map fun (k : Nat) => .int (i + (k : Int) * (-1))) else none
  | _, _ => none
def allStr : List D → Option (List Str)
  | [] => some []
  | .str x :: r => (allStr r).map (x :: ·)
  | _ :: _ => none
def idxN (f : D → Bool) : List D → Option Nat
  | [] => none
  | x :: r => if f x then some 0 else (idxN f r).map (· + 1)
/-- pairs of a display -/
def pairK : List D → Option (List (Key × D))
  | [] => some []
  | x :: y :: r => (keyK x).bind fun k => (pairK r).map fun l => (k, y) :: l
  | [_] => none
def pairT : List D → Option (List (List Key × D))
  | [] => some []
  | x :: y :: r => (keyT x).bind fun k => (pairT r).map fun l => (k, y) :: l
  | [_] => none
/-- the object of a display -/
def pairO (l : List D) : Option MO := match pairK l with
  | some l => some (.dk (l.foldl (fun acc kv => putD acc kv.1 kv.2) []))
  | none => (pairT l).map fun l => .dt (l.foldl (fun acc kv => putD acc kv.1 kv.2) [])
/-- a module's table of defs -/
def cgetD (l : List (Str × Str)) (y : D) : Option D := match y with
  | .str z => (l.find? fun kv => strEq kv.1 z).map fun kv => .glo kv.2
  | _ => none
def cinD (l : List (Str × Str)) (y : D) : Option Bool := match y with
  | .str z => some (l.any fun kv => strEq kv.1 z)
  | _ => none
def pmOn (m : PM) (x : D) : Option Unit := match m, x with
  | .split, .str _ => some ()
  | .join, .str _ => some ()
  | .index, .str _ => some ()
  | .index, .tup _ => some ()
  | .index, .ktu _ => some ()
  | _, _ => none
/-- a text cut at each sign c -/
def splitN (c : Nat) : List Nat → List Nat × List (List Nat)
  | [] => ([], [])
  | x :: xs => match splitN c xs with
    | (a, r) => if Nat.beq x c then ([], a :: r) else (x :: a, r)
def joinN (b : List Nat) : List (List Nat) → List Nat
  | [] => []
  | [x] => x
  | x :: y :: r => x ++ (b ++ joinN b (y :: r))
def toStr (l : List Nat) : Str := ⟨l.toArray⟩
def pmD (m : PM) (x y : D) : Option D := match m, x, y with
  | .split, .str a, .str b => (match b.cps.toList with
    | [c] => if a.length + 2 ≤ LINE then some (.lst (((splitN c a.cps.toList).1 :: (splitN c a.cps.toList).2).map fun z => .str (toStr z))) else none
    | _ => none)
  | .join, .str b, .lst l => (allStr l).bind fun ys => if (ys.map (·.length)).sum + ys.length * b.length ≤ LINE then some (.str (toStr (joinN b.cps.toList (ys.map fun z => z.cps.toList)))) else none
  | .join, .str b, .tup l => (allStr l).bind fun ys => if (ys.map (·.length)).sum + ys.length * b.length ≤ LINE then some (.str (toStr (joinN b.cps.toList (ys.map fun z => z.cps.toList)))) else none
  | _, _, _ => none
def mxdD (x y : D) : Option D := match x, y with
  | .lst l, .int d => (allInt l).map fun is => .int ((maxL is).getD d)
  | _, _ => none
/-- a dict's keys -/
def keysOf (s : Store) (m : Nat) : Option (MO × List D) := match s[m]? with
  | some (.dk l) => if l.all (fun kv => kOk kv.1) then some (.dk l, l.map fun kv => keyD kv.1) else none
  | some (.dt l) => if l.all (fun kv => kv.1.all kOk) then some (.dt l, l.map fun kv => keyDT kv.1) else none
  | _ => none
/-- one turn of a comprehension, and the rest; from a row of values -/
def lcSnap (f : D → Store → R (Option D)) : List D → Store → R (List D)
  | [], s => .ok [] s
  | d :: r, s => (f d s).bnd fun o s1 => (lcSnap f r s1).bnd fun ys s2 => match o with
    | some y => .ok (y :: ys) s2
    | none => .ok ys s2
def lcLive (f : D → Store → R (Option D)) (m : Nat) : Nat → Nat → Store → R (List D)
  | 0, _, _ => .bad
  | n + 1, i, s => match itemAt (.live m) s i with
    | none => .bad
    | some none => .ok [] s
    | some (some d) => (f d s).bnd fun o s1 => (lcLive f m n (i + 1) s1).bnd fun ys s2 => match o with
      | some y => .ok (y :: ys) s2
      | none => .ok ys s2

section
variable (C : Str → List D → Store → R D) (G : Str → Option D) (F : Nat)
mutual
def ev : ME → Env → Store → R D
  | .bad, _, _ => .bad
  | .slot i, ρ, s => match ρ[i]? with
    | some (some d) => .ok d s
    | _ => .bad
  | .cst d, _, s => .ok d s
  | .glob x, _, s => ofO (G x) s
  | .bty t, _, s => .ok (.ty t) s
  | .tup es, ρ, s => (evs es ρ s).bnd fun ds s1 => .ok (.tup ds) s1
  | .lst mu es, ρ, s => (evs es ρ s).bnd fun ds s1 => if mu then .ok (.ref s1.length) (s1 ++ [.lst ds]) else .ok (.lst ds) s1
  | .dnew t, ρ, s => .ok (.ref s.length) (s ++ [if t then .dt [] else .dk []])
  | .dsing k v, ρ, s => (ev k ρ s).bnd fun x s1 => (ev v ρ s1).bnd fun y s2 => (ofO (keyT x) s2).bnd fun ks s3 => .ok (.ref s3.length) (s3 ++ [.dt [(ks, y)]])
  | .dget o k, ρ, s => (ev o ρ s).bnd fun x s1 => (ofO (isDct s1 x) s1).bnd fun _ s1 => (ev k ρ s1).bnd fun y s2 => (ofO (atD (deref s2 x) y) s2).bnd fun o s3 => .ok (o.getD .non) s3
  | .dget2 o k d, ρ, s => (ev o ρ s).bnd fun x s1 => (ofO (isDct s1 x) s1).bnd fun _ s1 => (ev k ρ s1).bnd fun y s2 => (ev d ρ s2).bnd fun z s3 => (ofO (atD (deref s3 x) y) s3).bnd fun o s4 => .ok (o.getD z) s4
  | .ddisp es, ρ, s => (evs es ρ s).bnd fun ds s1 => (ofO (pairO ds) s1).bnd fun ob s2 => .ok (.ref s2.length) (s2 ++ [ob])
  | .cget x l k, ρ, s => (ev k ρ s).bnd fun y s1 => (ofO (cgetD l y) s1).bnd fun o s2 => .ok o s2
  | .cin neg x l k, ρ, s => (ev k ρ s).bnd fun y s1 => (ofO (cinD l y) s1).bnd fun o s2 => .ok (.bl (if neg then !o else o)) s2
  | .callv i es, ρ, s => match ρ[i]? with
    | some (some (.glo x)) => (evs es ρ s).bnd fun ds s1 => C x ds s1
    | _ => .bad
  | .pm m o a, ρ, s => (ev o ρ s).bnd fun x s1 => (ofO (pmOn m x) s1).bnd fun _ s1 => (ev a ρ s1).bnd fun y s2 => ofO (pmD m x (deref s2 y)) s2
  | .mxd e d, ρ, s => (ev e ρ s).bnd fun x s1 => (ev d ρ s1).bnd fun y s2 => ofO (mxdD (deref s2 x) y) s2
  | .itf b es, ρ, s => (evs es ρ s).bnd fun ds s1 => (ofO (itfD b ds) s1).bnd fun l s2 => .ok (.scr l) s2
  | .bin o a b, ρ, s => (ev a ρ s).bnd fun x s1 => (ev b ρ s1).bnd fun y s2 => ofO (binD o (deref s2 x) (deref s2 y)) s2
  | .neg a, ρ, s => (ev a ρ s).bnd fun x s1 => match x with
    | .int i => .ok (.int (-i)) s1
    | _ => .bad
  | .cmp o a b, ρ, s => (ev a ρ s).bnd fun x s1 => (ev b ρ s1).bnd fun y s2 => (ofO (cmpD o (deref s2 x) (deref s2 y)) s2).bnd fun k s3 => .ok (.bl k) s3
  | .chain o o' a b c, ρ, s => (ev a ρ s).bnd fun x s1 => (ev b ρ s1).bnd fun y s2 => (ofO (cmpD o (deref s2 x) (deref s2 y)) s2).bnd fun k s3 =>
      match k with
      | false => .ok (.bl false) s3
      | true => (ev c ρ s3).bnd fun z s4 => (ofO (cmpD o' (deref s4 y) (deref s4 z)) s4).bnd fun k' s5 => .ok (.bl k') s5
  | .and_ es, ρ, s => evAnd es ρ s
  | .or_ es, ρ, s => evOr es ρ s
  | .not_ a, ρ, s => (ev a ρ s).bnd fun x s1 => (ofO (truth s1 x) s1).bnd fun k s2 => .ok (.bl (!k)) s2
  | .ife c a b, ρ, s => (ev c ρ s).bnd fun x s1 => (ofO (truth s1 x) s1).bnd fun k s2 => match k with
    | true => ev a ρ s2
    | false => ev b ρ s2
  | .ix a i, ρ, s => (ev a ρ s).bnd fun x s1 => (ev i ρ s1).bnd fun y s2 => ofO (ixV (deref s2 x) y) s2
  | .slc a lo hi, ρ, s => (ev a ρ s).bnd fun x s1 => (ev lo ρ s1).bnd fun l s2 => (ev hi ρ s2).bnd fun h s3 => match partD l, partD h with
    | some l', some h' => ofO (slcD (deref s3 x) l' h') s3
    | _, _ => .bad
  | .nop, _, s => .ok .nop s
  | .call x es, ρ, s => (evs es ρ s).bnd fun ds s1 => C x ds s1
  | .bi b es, ρ, s => (evs es ρ s).bnd fun ds s1 => ofO (biD b (ds.map (deref s1))) s1
  | .meth .append o es, ρ, s => (ev o ρ s).bnd fun x s1 => (ofO (isLst s1 x) s1).bnd fun _ s1 => (evs es ρ s1).bnd fun ds s2 => match x, ds with
    | .ref m, [y] => match s2[m]? with
      | some (.lst l) => if l.length < LINE then .ok .non (s2.set m (.lst (l ++ [y]))) else .bad
      | _ => .bad
    | _, _ => .bad
  | .rng es, ρ, s => (evs es ρ s).bnd fun ds s1 => (ofO (rngD ds) s1).bnd fun l s2 => .ok (.scr l) s2
  | .lc elt tg it ifs own, ρ, s => (ev it ρ s).bnd fun di s0 => (ofO (iterD s0 di) s0).bnd fun is s1 =>
      let turn : D → Store → R (Option D) := fun d s2 => match asgT s2 tg d (wipeE ρ own) with
        | none => .bad
        | some ρ' => (evTs ifs ρ' s2).bnd fun k s3 => match k with
          | false => .ok none s3
          | true => (ev elt ρ' s3).bnd fun y s4 => .ok (some y) s4
      (match is with
      | .snap l => lcSnap turn l s1
      | .live m => lcLive turn m F 0 s1).bnd fun ys s2 => if ys.length ≤ LINE then .ok (.lst ys) s2 else .bad
  | .lcd elt tg it ifs own, ρ, s => (ev it ρ s).bnd fun di _ => match di with
    | .ref m => (ofO (keysOf s m) s).bnd fun ok _ => (ev it ρ (s.set m .lkd)).bnd fun di' s1 => match di' with
      | .ref m' => if m' = m then
          let turn : D → Store → R (Option D) := fun d s2 => match asgT s2 tg d (wipeE ρ own) with
            | none => .bad
            | some ρ' => (evTs ifs ρ' s2).bnd fun k s3 => match k with
              | false => .ok none s3
              | true => (ev elt ρ' s3).bnd fun y s4 => .ok (some y) s4
          (lcSnap turn ok.2 s1).bnd fun ys s2 => match s2[m]? with
            | some .lkd => if ys.length ≤ LINE then .ok (.lst ys) (s2.set m ok.1) else .bad
            | _ => .bad
        else .bad
      | _ => .bad
    | _ => .bad
def evs : MEs → Env → Store → R (List D)
  | .nil, _, s => .ok [] s
  | .cons e r, ρ, s => (ev e ρ s).bnd fun d s1 => (evs r ρ s1).bnd fun ds s2 => .ok (d :: ds) s2
/-- a and b and ..: the value of the last one looked at -/
def evAnd : MEs → Env → Store → R D
  | .nil, _, _ => .bad
  | .cons e r, ρ, s => match r with
    | .nil => ev e ρ s
    | .cons .. => (ev e ρ s).bnd fun x s1 => (ofO (truth s1 x) s1).bnd fun k s2 => match k with
      | true => evAnd r ρ s2
      | false => .ok x s2
def evOr : MEs → Env → Store → R D
  | .nil, _, _ => .bad
  | .cons e r, ρ, s => match r with
    | .nil => ev e ρ s
    | .cons .. => (ev e ρ s).bnd fun x s1 => (ofO (truth s1 x) s1).bnd fun k s2 => match k with
      | false => evOr r ρ s2
      | true => .ok x s2
/-- the tests of a comprehension -/
def evTs : MEs → Env → Store → R Bool
  | .nil, _, s => .ok true s
  | .cons e r, ρ, s => (ev e ρ s).bnd fun x s1 => (ofO (truth s1 x) s1).bnd fun k s2 => match k with
    | true => evTs r ρ s2
    | false => .ok false s2
end
end
/-- a statement's end -/
inductive Out where
  | nx (ρ : Env) | rt (d : D) | bk (ρ : Env) | ct (ρ : Env)
def forSnap (body : Env → Store → R Out) (t : TGT) : List D → Env → Store → R Out
  | [], ρ, s => .ok (.nx ρ) s
  | d :: r, ρ, s => match asgT s t d ρ with
    | none => .bad
    | some ρ1 => (body ρ1 s).bnd fun o s1 => match o with
      | .nx ρ2 => forSnap body t r ρ2 s1
      | .ct ρ2 => forSnap body t r ρ2 s1
      | .bk ρ2 => .ok (.nx ρ2) s1
      | .rt d => .ok (.rt d) s1
def forLive (body : Env → Store → R Out) (t : TGT) (m : Nat) : Nat → Nat → Env → Store → R Out
  | 0, _, _, _ => .bad
  | n + 1, i, ρ, s => match itemAt (.live m) s i with
    | none => .bad
    | some none => .ok (.nx ρ) s
    | some (some d) => match asgT s t d ρ with
      | none => .bad
      | some ρ1 => (body ρ1 s).bnd fun o s1 => match o with
        | .nx ρ2 => forLive body t m n (i + 1) ρ2 s1
        | .ct ρ2 => forLive body t m n (i + 1) ρ2 s1
        | .bk ρ2 => .ok (.nx ρ2) s1
        | .rt d => .ok (.rt d) s1
def whileF (c : Env → Store → R D) (body : Env → Store → R Out) : Nat → Env → Store → R Out
  | 0, _, _ => .bad
  | n + 1, ρ, s => (c ρ s).bnd fun x s1 => (ofO (truth s1 x) s1).bnd fun k s2 => match k with
    | false => .ok (.nx ρ) s2
    | true => (body ρ s2).bnd fun o s3 => match o with
      | .nx ρ2 => whileF c body n ρ2 s3
      | .ct ρ2 => whileF c body n ρ2 s3
      | .bk ρ2 => .ok (.nx ρ2) s3
      | .rt d => .ok (.rt d) s3
def augD (o : Operator) (x y : D) : Option D := match o, x, y with
  | .Add, .int i, .int j => some (.int (i + j))
  | _, _, _ => none
section
variable (C : Str → List D → Store → R D) (G : Str → Option D) (F : Nat)
/-- targets, one after another -/
def asgMs : MTs → List D → Env → Store → R Env
  | .nil, [], ρ, s => .ok ρ s
  | .nm i r, d :: ds, ρ, s => asgMs r ds (ρ.set i (some d)) s
  | .ix o i r, d :: ds, ρ, s => (ev C G F o ρ s).bnd fun x s2 => (ev C G F i ρ s2).bnd fun k s3 => match x with
    | .ref m => (ofO ((s3[m]?).bind fun ob => putO ob k d) s3).bnd fun ob s4 => asgMs r ds ρ (s4.set m ob)
    | _ => .bad
  | _, _, _, _ => .bad
def MTs.len : MTs → Nat
  | .nil => 0
  | .nm _ r => r.len + 1
  | .ix _ _ r => r.len + 1
mutual
def ex : MSt → Env → Store → R Out
  | .bad, _, _ => .bad
  | .asg t e, ρ, s => (ev C G F e ρ s).bnd fun d s1 => match asgT s1 t d ρ with
    | some ρ' => .ok (.nx ρ') s1
    | none => .bad
  | .par is es, ρ, s => (evs C G F es ρ s).bnd fun ds s1 => if ds.length = is.length then .ok (.nx (putN ρ is ds)) s1 else .bad
  | .asgM ts e, ρ, s => (ev C G F e ρ s).bnd fun d s1 => match d with
    | .tup ds => if ds.length = ts.len then (asgMs C G F ts ds ρ s1).bnd fun ρ' s2 => .ok (.nx ρ') s2 else .bad
    | _ => .bad
  | .asgIx o i e, ρ, s => (ev C G F e ρ s).bnd fun v s1 => (ev C G F o ρ s1).bnd fun x s2 => (ev C G F i ρ s2).bnd fun k s3 => match x with
    | .ref m => (ofO ((s3[m]?).bind fun ob => putO ob k v) s3).bnd fun ob s4 => .ok (.nx ρ) (s4.set m ob)
    | _ => .bad
  | .aug i o e, ρ, s => match ρ[i]? with
    | some (some x) => (ev C G F e ρ s).bnd fun y s1 => (ofO (augD o x y) s1).bnd fun z s2 => .ok (.nx (ρ.set i (some z))) s2
    | _ => .bad
  | .expr e, ρ, s => (ev C G F e ρ s).bnd fun _ s1 => .ok (.nx ρ) s1
  | .ret e, ρ, s => (ev C G F e ρ s).bnd fun d s1 => .ok (.rt d) s1
  | .retN, _, s => .ok (.rt .non) s
  | .ife c a b, ρ, s => (ev C G F c ρ s).bnd fun x s1 => (ofO (truth s1 x) s1).bnd fun k s2 => match k with
    | true => exs a ρ s2
    | false => exs b ρ s2
  | .fr t it b, ρ, s => (ev C G F it ρ s).bnd fun di s0 => (ofO (iterD s0 di) s0).bnd fun is s1 => match is with
    | .snap l => forSnap (fun ρ s => exs b ρ s) t l ρ s1
    | .live m => forLive (fun ρ s => exs b ρ s) t m F 0 ρ s1
  | .wh c b, ρ, s => whileF (fun ρ s => ev C G F c ρ s) (fun ρ s => exs b ρ s) F ρ s
  | .bk, ρ, s => .ok (.bk ρ) s
  | .ct, ρ, s => .ok (.ct ρ) s
  | .ps, ρ, s => .ok (.nx ρ) s
def exs : MSts → Env → Store → R Out
  | .nil, ρ, s => .ok (.nx ρ) s
  | .cons e r, ρ, s => (ex e ρ s).bnd fun o s1 => match o with
    | .nx ρ' => exs r ρ' s1
    | o => .ok o s1
end
end
mutual
/-- a value without the objects from n on -/
def below (n : Nat) : D → Bool
  | .ref m => decide (m < n)
  | .tup l => belowL n l
  | .ktu l => belowL n l
  | .lst l => belowL n l
  | .scr l => belowL n l
  | .dk _ => false
  | .dt _ => false
  | _ => true
def belowL (n : Nat) : List D → Bool
  | [] => true
  | d :: r => below n d && belowL n r
end
def belowO (n : Nat) : MO → Bool
  | .lst l => belowL n l
  | .dk l => belowL n (l.map (·.2))
  | .dt l => belowL n (l.map (·.2))
  | .lkd => true
/-- a def: parameters, places, body, and whether the objects it makes go at its end -/
structure MFn where
  np : Nat
  ns : Nat
  body : MSts
  drop : Bool
/-- a call: by at most so many calls, one in another -/
def mcall (T : Str → Option MFn) (G : Str → Option D) (F : Nat) : Nat → Str → List D → Store → R D
  | 0, _, _, _ => .bad
  | n + 1, x, ds, s => match T x with
    | none => .bad
    | some f => if ds.length = f.np then
        (exs (mcall T G F n) G F f.body (ds.map some ++ List.replicate (f.ns - f.np) none) s).bnd fun o s1 =>
          (ofO (match o with
            | .rt d => some d
            | .nx _ => some .non
            | _ => none) s1).bnd fun d s2 =>
          if f.drop then (if below s.length d && (s2.take s.length).all (belowO s.length) then .ok d (s2.take s.length) else .bad) else .ok d s2
      else .bad
end Rf

set_option Elab.async false
set_option linter.all false
set_option maxRecDepth 100000
set_option maxHeartbeats 1000000
/-! Rf2: how values stand in the heap; operations. -/
namespace Rf
open PySem PySem.Spec PyProof.Rows L2

/-- a list that nobody writes -/
def SqS (K : PySem.W.Frag) (H : Hp) (a : Addr) (xs : List V) : Prop :=
  (∃ o, H a = some (.frz o (.lst xs))) ∨
    ∃ (o : Obj) (its : Array Value) (n : Nat), K.lookup a = some o ∧ o.cls = .type "list" ∧ o.dict = none ∧ o.data = .seq its n ∧ its.size ≤ sizeLine ∧ Vals xs its.toList
theorem SqS.sqL {K : PySem.W.Frag} {H : Hp} {a : Addr} {xs : List V} (h : SqS K H a xs) : SqL K H a xs := h.elim (fun z => .inl (.inr z)) .inr
/-- a tuple of the module -/
def KTu (K : PySem.W.Frag) (a : Addr) (xs : List V) : Prop := ∃ (o : Obj) (its : Array Value) (n : Nat), K.lookup a = some o ∧ o.cls = .type "tuple" ∧ o.data = .seq its n ∧ its.size ≤ sizeLine ∧ Vals xs its.toList
theorem sqT_of {K : PySem.W.Frag} {H : Hp} {a : Addr} {xs : List V} (h : H a = some (.tup xs)) : SqT K H a xs := .inl (.inl h)
section
variable (K : PySem.W.Frag) (mg : Str → Option Value)
mutual
/-- φ: the addresses of the store's objects; W: other objects that are being made -/
inductive Rep (φ W : List Addr) (H : Hp) : D → V → Prop where
  | non : Rep φ W H .non .non
  | bl (b : Bool) : Rep φ W H (.bl b) (.bl b)
  | int (i : Int) : Rep φ W H (.int i) (.int i)
  | str (x : Str) : PyData.strOk x = true → Rep φ W H (.str x) (.str x)
  | ty (t : String) : Rep φ W H (.ty t) (.ty t)
  | glo {x : Str} {f : Addr} : mg x = some (.ref f) → Rep φ W H (.glo x) (.ref f)
  | ref {m : Nat} {a : Addr} : φ[m]? = some a → Rep φ W H (.ref m) (.ref a)
  | tup {a : Addr} {xs : List V} {ds : List D} : H a = some (.tup xs) → RepL φ W H ds xs → Rep φ W H (.tup ds) (.ref a)
  | ktu {a : Addr} {xs : List V} {ds : List D} : KTu K a xs → RepL φ W H ds xs → Rep φ W H (.ktu ds) (.ref a)
  | lst {a : Addr} {xs : List V} {ds : List D} : H a = some (.lst xs) → a ∉ φ → a ∉ W → RepL φ W H ds xs → Rep φ W H (.lst ds) (.ref a)
  | scr {a : Addr} {xs : List V} {ds : List D} : (SqS K H a xs ∨ KTu K a xs) → RepL φ W H ds xs → Rep φ W H (.scr ds) (.ref a)
inductive RepL (φ W : List Addr) (H : Hp) : List D → List V → Prop where
  | nil : RepL φ W H [] []
  | cons {d : D} {v : V} {ds : List D} {vs : List V} : Rep φ W H d v → RepL φ W H ds vs → RepL φ W H (d :: ds) (v :: vs)
end
/-- keys and values -/
def RepK {κ : Type} (φ W : List Addr) (H : Hp) (l : List (κ × D)) (kvs : List (κ × V)) : Prop := l.map (·.1) = kvs.map (·.1) ∧ RepL K mg φ W H (l.map (·.2)) (kvs.map (·.2))
def MOk (φ W : List Addr) (H : Hp) (a : Addr) : MO → Prop
  | .lst l => ∃ xs, H a = some (.lst xs) ∧ RepL K mg φ W H l xs
  | .dk l => ∃ kvs, H a = some (.dK kvs) ∧ RepK K mg φ W H l kvs
  | .dt l => ∃ kvs, H a = some (.dT kvs) ∧ RepK K mg φ W H l kvs
  | .lkd => ∃ o u, H a = some (.frz o u)
structure StOk (φ W : List Addr) (H : Hp) (s : Store) : Prop where
  nd : φ.Nodup
  len : φ.length = s.length
  obj : ∀ (m : Nat) (a : Addr) (o : MO), φ[m]? = some a → s[m]? = some o → MOk K mg φ W H a o
  w : ∀ a ∈ W, a ∉ φ ∧ ∃ o, H a = some o
structure EnvOk (φ W : List Addr) (H : Hp) (ρ : Env) (σ : L2.St) : Prop where
  len : ρ.length = σ.length
  get : ∀ (i : Nat) (d : D), ρ[i]? = some (some d) → ∃ v, σ[i]? = some (some v) ∧ Rep K mg φ W H d v
end
/-- what stands is left -/
structure Ext (φ : List Addr) (H : Hp) (φ' : List Addr) (H' : Hp) : Prop where
  pre : ∃ l, φ' = φ ++ l
  keep : ∀ a o, H a = some o → a ∉ φ → H' a = some o ∧ a ∉ φ'
  tups : ∀ a xs, H a = some (.tup xs) → H' a = some (.tup xs)
  frzs : ∀ a o u, H a = some (.frz o u) → H' a = some (.frz o u)
  some_ : ∀ a o, H a = some o → ∃ o', H' a = some o'

theorem Ext.refl (φ : List Addr) (H : Hp) : Ext φ H φ H := ⟨⟨[], by simp⟩, fun _ _ h n => ⟨h, n⟩, fun _ _ h => h, fun _ _ _ h => h, fun _ o h => ⟨o, h⟩⟩
theorem Ext.trans {φ φ1 φ2 : List Addr} {H H1 H2 : Hp} (a : Ext φ H φ1 H1) (b : Ext φ1 H1 φ2 H2) : Ext φ H φ2 H2 := by
  obtain ⟨l, e⟩ := a.pre
  obtain ⟨l', e'⟩ := b.pre
  refine ⟨⟨l ++ l', by rw [e', e, List.append_assoc]⟩, fun c o h n => ?_, fun c xs h => b.tups c xs (a.tups c xs h), fun c o u h => b.frzs c o u (a.frzs c o u h), fun c o h => ?_⟩
  · obtain ⟨h1, n1⟩ := a.keep c o h n
    exact b.keep c o h1 n1
  · obtain ⟨o1, h1⟩ := a.some_ c o h
    exact b.some_ c o1 h1
theorem Ext.get {φ φ' : List Addr} {H H' : Hp} (x : Ext φ H φ' H') {m : Nat} {a : Addr} (h : φ[m]? = some a) : φ'[m]? = some a := by
  obtain ⟨l, e⟩ := x.pre
  rw [e]
  exact List.getElem?_append_left (List.getElem?_eq_some_iff.mp h).1 |>.trans h
/-- a new object -/
theorem Ext.new {φ : List Addr} {H : Hp} {p : Addr} {o : HO} (hp : H p = none) : Ext φ H φ (upd H p o) := by
  have hne : ∀ {c u}, H c = some u → c ≠ p := fun h e => by rw [e, hp] at h; cases h
  exact ⟨⟨[], by simp⟩, fun c u h n => ⟨by rw [upd_ne (hne h)]; exact h, n⟩, fun c xs h => by rw [upd_ne (hne h)]; exact h, fun c v u h => by rw [upd_ne (hne h)]; exact h, fun c u h => ⟨u, by rw [upd_ne (hne h)]; exact h⟩⟩
theorem Ext.sqT {φ φ' : List Addr} {H H' : Hp} {K : PySem.W.Frag} (x : Ext φ H φ' H') {a : Addr} {xs : List V} (h : SqT K H a xs) : SqT K H' a xs := by
  rcases h with (h | ⟨o, h⟩) | h
  · exact .inl (.inl (x.tups _ _ h))
  · exact .inl (.inr ⟨o, x.frzs _ _ _ h⟩)
  · exact .inr h
theorem Ext.sqS {φ φ' : List Addr} {H H' : Hp} {K : PySem.W.Frag} (x : Ext φ H φ' H') {a : Addr} {xs : List V} (h : SqS K H a xs) : SqS K H' a xs := by
  rcases h with ⟨o, h⟩ | h
  · exact .inl ⟨o, x.frzs _ _ _ h⟩
  · exact .inr h

theorem nodup_ixA {N : List Addr} (hN : N.Nodup) {i j : Nat} {x : Addr} (a : N[i]? = some x) (b : N[j]? = some x) : i = j := by
  obtain ⟨h1, e1⟩ := List.getElem?_eq_some_iff.mp a
  obtain ⟨h2, e2⟩ := List.getElem?_eq_some_iff.mp b
  exact (List.getElem_inj hN).mp (e1.trans e2.symm)
section
variable {K : PySem.W.Frag} {mg : Str → Option Value} {φ φ' W : List Addr} {H H' : Hp}
mutual
theorem Rep.mono (x : Ext φ H φ' H') : ∀ (d : D) (v : V), Rep K mg φ W H d v → Rep K mg φ' W H' d v
  | .non, _, h => by cases h; exact .non
  | .bl b, _, h => by cases h; exact .bl b
  | .int i, _, h => by cases h; exact .int i
  | .str y, _, h => by cases h with | str _ e => exact .str y e
  | .ty t, _, h => by cases h; exact .ty t
  | .glo y, _, h => by cases h with | glo e => exact .glo e
  | .ref m, _, h => by cases h with | ref e => exact .ref (x.get e)
  | .tup ds, _, h => by cases h with | tup e r => exact .tup (x.tups _ _ e) (RepL.mono x ds _ r)
  | .ktu ds, _, h => by cases h with | ktu e r => exact .ktu e (RepL.mono x ds _ r)
  | .lst ds, _, h => by
    cases h with
    | lst e n n' r => exact .lst (x.keep _ _ e n).1 (x.keep _ _ e n).2 n' (RepL.mono x ds _ r)
  | .scr ds, _, h => by cases h with | scr e r => exact .scr (e.imp x.sqS id) (RepL.mono x ds _ r)
  | .dk _, _, h => by cases h
  | .dt _, _, h => by cases h
  | .nop, _, h => by cases h
theorem RepL.mono (x : Ext φ H φ' H') : ∀ (ds : List D) (vs : List V), RepL K mg φ W H ds vs → RepL K mg φ' W H' ds vs
  | [], _, h => by cases h; exact .nil
  | d :: ds, _, h => by cases h with | cons r t => exact .cons (Rep.mono x d _ r) (RepL.mono x ds _ t)
end
theorem Rep.up (x : Ext φ H φ' H') {d : D} {v : V} (h : Rep K mg φ W H d v) : Rep K mg φ' W H' d v := Rep.mono x d v h
theorem RepL.up (x : Ext φ H φ' H') {ds : List D} {vs : List V} (h : RepL K mg φ W H ds vs) : RepL K mg φ' W H' ds vs := RepL.mono x ds vs h
theorem EnvOk.up (x : Ext φ H φ' H') {ρ : Env} {σ : L2.St} (h : EnvOk K mg φ W H ρ σ) : EnvOk K mg φ' W H' ρ σ :=
  ⟨h.len, fun i d e => let ⟨v, a, b⟩ := h.get i d e; ⟨v, a, b.up x⟩⟩
theorem RepL.length : ∀ {ds : List D} {vs : List V}, RepL K mg φ W H ds vs → ds.length = vs.length
  | [], _, h => by cases h; rfl
  | d :: ds, _, h => by cases h with | cons r t => simp [RepL.length t]
theorem RepL.append : ∀ {ds ds' : List D} {vs vs' : List V}, RepL K mg φ W H ds vs → RepL K mg φ W H ds' vs' → RepL K mg φ W H (ds ++ ds') (vs ++ vs')
  | [], _, _, _, h, h' => by cases h; exact h'
  | d :: ds, _, _, _, h, h' => by cases h with | cons r t => exact .cons r (RepL.append t h')
theorem RepL.take : ∀ {ds : List D} {vs : List V} (n : Nat), RepL K mg φ W H ds vs → RepL K mg φ W H (ds.take n) (vs.take n)
  | [], _, n, h => by cases h; simp; exact .nil
  | d :: ds, _, 0, h => by simp; exact .nil
  | d :: ds, _, n + 1, h => by cases h with | cons r t => exact .cons r (RepL.take n t)
theorem RepL.drop : ∀ {ds : List D} {vs : List V} (n : Nat), RepL K mg φ W H ds vs → RepL K mg φ W H (ds.drop n) (vs.drop n)
  | [], _, n, h => by cases h; simp; exact .nil
  | d :: ds, _, 0, h => h
  | d :: ds, _, n + 1, h => by cases h with | cons r t => exact RepL.drop n t
theorem RepL.get : ∀ {ds : List D} {vs : List V} {i : Nat} {d : D}, RepL K mg φ W H ds vs → ds[i]? = some d → ∃ v, vs[i]? = some v ∧ Rep K mg φ W H d v
  | [], _, _, _, h, e => by simp at e
  | d :: ds, _, 0, _, h, e => by cases h with | cons r t => simp at e; subst e; exact ⟨_, rfl, r⟩
  | d :: ds, _, i + 1, _, h, e => by cases h with | cons r t => simpa using RepL.get (i := i) t (by simpa using e)
theorem RepL.getN {ds : List D} {vs : List V} {i : Nat} (h : RepL K mg φ W H ds vs) (e : ds[i]? = none) : vs[i]? = none := by
  have h1 := h.length
  have h2 : ds.length ≤ i := List.getElem?_eq_none_iff.mp e
  exact List.getElem?_eq_none_iff.mpr (by omega)
theorem RepL.set : ∀ {ds : List D} {vs : List V} {i : Nat} {d : D} {v : V}, RepL K mg φ W H ds vs → Rep K mg φ W H d v → RepL K mg φ W H (ds.set i d) (vs.set i v)
  | [], _, _, _, _, h, r => by cases h; exact .nil
  | d :: ds, _, 0, _, _, h, r => by cases h with | cons r' t => exact .cons r t
  | d :: ds, _, i + 1, _, _, h, r => by cases h with | cons r' t => exact .cons r' (RepL.set t r)
theorem RepL.rep {ds : List D} {vs : List V} (h : RepL K mg φ W H ds vs) : ∀ k : Nat, RepL K mg φ W H (List.replicate k ds).flatten (List.replicate k vs).flatten
  | 0 => .nil
  | k + 1 => by
    rw [List.replicate_succ, List.replicate_succ, List.flatten_cons, List.flatten_cons]
    exact h.append (RepL.rep h k)

/-! ### the store -/
theorem StOk.tracked {s : Store} (h : StOk K mg φ W H s) {a : Addr} (ha : a ∈ φ) : ∃ o, H a = some o ∧ ∀ xs, o ≠ .tup xs := by
  obtain ⟨m, e⟩ := List.mem_iff_getElem?.mp ha
  have hm : m < s.length := by rw [← h.len]; exact (List.getElem?_eq_some_iff.mp e).1
  have q := h.obj m a _ e (List.getElem?_eq_getElem hm)
  cases hs : s[m] with
  | lst l =>
    rw [hs] at q
    obtain ⟨xs, e1, _⟩ := q
    exact ⟨_, e1, fun _ z => nomatch z⟩
  | dk l => rw [hs] at q; obtain ⟨xs, e1, _⟩ := q; exact ⟨_, e1, fun _ z => nomatch z⟩
  | dt l => rw [hs] at q; obtain ⟨xs, e1, _⟩ := q; exact ⟨_, e1, fun _ z => nomatch z⟩
  | lkd => rw [hs] at q; obtain ⟨o, u, e1⟩ := q; exact ⟨_, e1, fun _ z => nomatch z⟩
theorem StOk.mut {s : Store} (h : StOk K mg φ W H s) {m : Nat} {a : Addr} {ob : MO} (e : φ[m]? = some a) (e2 : s[m]? = some ob) (n : ob ≠ .lkd) : ∃ o, H a = some o ∧ Mut (some o) := by
  have q := h.obj m a _ e e2
  cases ob with
  | lst l => obtain ⟨xs, e1, _⟩ := q; exact ⟨_, e1, trivial⟩
  | dk l => obtain ⟨xs, e1, _⟩ := q; exact ⟨_, e1, trivial⟩
  | dt l => obtain ⟨xs, e1, _⟩ := q; exact ⟨_, e1, trivial⟩
  | lkd => exact absurd rfl n
theorem MOk.up {a : Addr} {o : MO} (x : Ext φ H φ' H') (e : H' a = H a) (h : MOk K mg φ W H a o) : MOk K mg φ' W H' a o := by
  cases o with
  | lst l => obtain ⟨xs, e1, r⟩ := h; exact ⟨xs, e.trans e1, r.up x⟩
  | dk l => obtain ⟨xs, e1, r⟩ := h; exact ⟨xs, e.trans e1, r.1, r.2.up x⟩
  | dt l => obtain ⟨xs, e1, r⟩ := h; exact ⟨xs, e.trans e1, r.1, r.2.up x⟩
  | lkd => obtain ⟨o, u, e1⟩ := h; exact ⟨o, u, e.trans e1⟩
/-- a new object, not of the store -/
theorem StOk.new {s : Store} (h : StOk K mg φ W H s) {p : Addr} {o : HO} (hp : H p = none) : StOk K mg φ W (upd H p o) s := by
  have hne : ∀ {c u}, H c = some u → c ≠ p := fun h e => by rw [e, hp] at h; cases h
  refine ⟨h.nd, h.len, fun m a ob e1 e2 => ?_, fun a ha => ?_⟩
  · obtain ⟨o1, h1, _⟩ := h.tracked (List.mem_of_getElem? e1)
    exact (h.obj m a ob e1 e2).up (Ext.new hp) (upd_ne (hne h1))
  · obtain ⟨n, o1, h1⟩ := h.w a ha
    exact ⟨n, o1, by rw [upd_ne (hne h1)]; exact h1⟩
theorem StOk.free {s : Store} (h : StOk K mg φ W H s) {p : Addr} (hp : H p = none) : p ∉ φ ∧ p ∉ W := by
  refine ⟨fun z => ?_, fun z => ?_⟩
  · obtain ⟨o, e, _⟩ := h.tracked z
    rw [hp] at e; cases e
  · obtain ⟨_, o, e⟩ := h.w p z
    rw [hp] at e; cases e
/-- a new object of the store -/
theorem Ext.newS {p : Addr} {o : HO} (hp : H p = none) : Ext φ H (φ ++ [p]) (upd H p o) := by
  have hne : ∀ {c u}, H c = some u → c ≠ p := fun h e => by rw [e, hp] at h; cases h
  exact ⟨⟨[p], rfl⟩, fun c u h n => ⟨by rw [upd_ne (hne h)]; exact h, by simp [n, hne h]⟩, fun c xs h => by rw [upd_ne (hne h)]; exact h, fun c v u h => by rw [upd_ne (hne h)]; exact h, fun c u h => ⟨u, by rw [upd_ne (hne h)]; exact h⟩⟩
theorem StOk.newS' {s : Store} (h : StOk K mg φ W H s) {p : Addr} {ho : HO} {ob : MO} (hp : H p = none) (r : Ext φ H (φ ++ [p]) (upd H p ho) → MOk K mg (φ ++ [p]) W (upd H p ho) p ob) : StOk K mg (φ ++ [p]) W (upd H p ho) (s ++ [ob]) := by
  have hne : ∀ {c u}, H c = some u → c ≠ p := fun h e => by rw [e, hp] at h; cases h
  have x : Ext φ H (φ ++ [p]) (upd H p ho) := Ext.newS hp
  refine ⟨?_, by simp [h.len], fun m a ob e1 e2 => ?_, fun a ha => ?_⟩
  · rw [List.nodup_append]
    exact ⟨h.nd, by simp, fun a ha b hb => by
      have : b = p := by simpa using hb
      subst this
      exact fun e => (h.free hp).1 (e ▸ ha)⟩
  · by_cases hm : m < φ.length
    · rw [List.getElem?_append_left hm] at e1
      rw [List.getElem?_append_left (by rw [← h.len]; exact hm)] at e2
      obtain ⟨o1, h1, _⟩ := h.tracked (List.mem_of_getElem? e1)
      exact (h.obj m a ob e1 e2).up x (upd_ne (hne h1))
    · rw [List.getElem?_append_right (by omega)] at e1
      rw [List.getElem?_append_right (by rw [← h.len]; omega), ← h.len] at e2
      have hm0 : m - φ.length = 0 := by
        have := (List.getElem?_eq_some_iff.mp e1).1
        simp at this
        omega
      rw [hm0] at e1 e2
      simp at e1 e2
      subst e1 e2
      exact r x
  · obtain ⟨n, o1, h1⟩ := h.w a ha
    exact ⟨by simp [n, hne h1], o1, by rw [upd_ne (hne h1)]; exact h1⟩
theorem StOk.newS {s : Store} (h : StOk K mg φ W H s) {p : Addr} {xs : List V} {l : List D} (hp : H p = none) (r : RepL K mg φ W H l xs) : StOk K mg (φ ++ [p]) W (upd H p (.lst xs)) (s ++ [.lst l]) :=
  h.newS' hp fun x => ⟨xs, upd_same, r.up x⟩
/-- an object of the store is written -/
theorem Ext.wr {m : Nat} {a : Addr} {o : HO} (e : φ[m]? = some a) (hmu : ∃ o1, H a = some o1 ∧ Mut (some o1)) : Ext φ H φ (upd H a o) := by
  have ha := List.mem_of_getElem? e
  obtain ⟨o1, h1, hm⟩ := hmu
  refine ⟨⟨[], by simp⟩, fun c u hc n => ⟨by rw [upd_ne (fun (z : c = a) => n (by rw [z]; exact ha))]; exact hc, n⟩, fun c xs hc => ?_, fun c v u hc => ?_, fun c u hc => ?_⟩
  · rw [upd_ne (fun z => by subst z; rw [h1] at hc; cases hc; exact hm)]; exact hc
  · rw [upd_ne (fun z => by subst z; rw [h1] at hc; cases hc; exact hm)]; exact hc
  · by_cases z : c = a
    · subst z; exact ⟨o, upd_same⟩
    · exact ⟨u, by rw [upd_ne z]; exact hc⟩
theorem StOk.wr' {s : Store} (h : StOk K mg φ W H s) {m : Nat} {a : Addr} {ho : HO} {ob : MO} (e : φ[m]? = some a) (hmu : ∃ o1, H a = some o1 ∧ Mut (some o1)) (r : Ext φ H φ (upd H a ho) → MOk K mg φ W (upd H a ho) a ob) : StOk K mg φ W (upd H a ho) (s.set m ob) := by
  have x : Ext φ H φ (upd H a ho) := Ext.wr e hmu
  refine ⟨h.nd, by simp [h.len], fun m' a' ob e1 e2 => ?_, fun c hc => ?_⟩
  · by_cases hm : m' = m
    · subst hm
      rw [e] at e1
      cases e1
      rw [List.getElem?_set_self (by rw [← h.len]; exact (List.getElem?_eq_some_iff.mp e).1)] at e2
      cases e2
      exact r x
    · rw [List.getElem?_set_ne (Ne.symm hm)] at e2
      have hne : a' ≠ a := fun z => by
        subst z
        exact hm (nodup_ixA h.nd e1 e)
      exact (h.obj m' a' ob e1 e2).up x (upd_ne hne)
  · obtain ⟨n, o1, h1⟩ := h.w c hc
    exact ⟨n, o1, by rw [upd_ne (fun (z : c = a) => n (by rw [z]; exact List.mem_of_getElem? e))]; exact h1⟩
theorem StOk.wr {s : Store} (h : StOk K mg φ W H s) {m : Nat} {a : Addr} {xs : List V} {l : List D} (e : φ[m]? = some a) (hmu : ∃ o1, H a = some o1 ∧ Mut (some o1)) (r : RepL K mg φ W H l xs) : StOk K mg φ W (upd H a (.lst xs)) (s.set m (.lst l)) :=
  h.wr' e hmu fun x => ⟨xs, upd_same, r.up x⟩
theorem RepK.up {κ : Type} {l : List (κ × D)} {kvs : List (κ × V)} (x : Ext φ H φ' H') (h : RepK K mg φ W H l kvs) : RepK K mg φ' W H' l kvs := ⟨h.1, h.2.up x⟩
theorem RepK.length {κ : Type} {l : List (κ × D)} {kvs : List (κ × V)} (h : RepK K mg φ W H l kvs) : l.length = kvs.length := by
  have := congrArg List.length h.1
  simpa using this
/-- what stands at a key -/
theorem RepK.val {κ : Type} [DecidableEq κ] (k : κ) : ∀ {l : List (κ × D)} {kvs : List (κ × V)}, RepK K mg φ W H l kvs → (valD l k = none ∧ valV kvs k = none) ∨ ∃ d v, valD l k = some d ∧ valV kvs k = some v ∧ Rep K mg φ W H d v
  | [], [], h => .inl ⟨rfl, rfl⟩
  | [], _ :: _, h => by have := h.length; simp at this
  | _ :: _, [], h => by have := h.length; simp at this
  | (k1, d) :: l, (k2, v) :: kvs, h => by
    obtain ⟨h1, h2⟩ := h
    simp only [List.map_cons, List.cons.injEq] at h1
    obtain ⟨rfl, h1⟩ := h1
    cases h2 with
    | cons r t =>
      by_cases e : k1 = k
      · exact .inr ⟨d, v, by simp [valD, List.find?_cons, e], by simp [valV, List.find?_cons, e], r⟩
      · rcases RepK.val k (l := l) (kvs := kvs) ⟨h1, t⟩ with ⟨a, b⟩ | ⟨d', v', a, b, c⟩
        · exact .inl ⟨by simpa [valD, List.find?_cons, e] using a, by simpa [valV, List.find?_cons, e] using b⟩
        · exact .inr ⟨d', v', by simpa [valD, List.find?_cons, e] using a, by simpa [valV, List.find?_cons, e] using b, c⟩
theorem RepK.any {κ : Type} [DecidableEq κ] (k : κ) {l : List (κ × D)} {kvs : List (κ × V)} (h : l.map (·.1) = kvs.map (·.1)) : (l.any fun kv => decide (kv.1 = k)) = kvs.any fun kv => decide (kv.1 = k) := by
  have e : ∀ {α : Type} (l : List (κ × α)), (l.any fun kv => decide (kv.1 = k)) = (l.map (·.1)).any fun x => decide (x = k) := fun l => by rw [List.any_map]; rfl
  rw [e, e, h]
theorem RepK.mapPut {κ : Type} [DecidableEq κ] (k : κ) {d : D} {v : V} (r : Rep K mg φ W H d v) : ∀ {l : List (κ × D)} {kvs : List (κ × V)}, RepK K mg φ W H l kvs → RepK K mg φ W H (l.map fun kv => if kv.1 = k then (kv.1, d) else kv) (kvs.map fun kv => if kv.1 = k then (kv.1, v) else kv)
  | [], [], h => h
  | [], _ :: _, h => by have := h.length; simp at this
  | _ :: _, [], h => by have := h.length; simp at this
  | (k1, d1) :: l, (k2, v1) :: kvs, h => by
    obtain ⟨h1, h2⟩ := h
    simp only [List.map_cons, List.cons.injEq] at h1
    obtain ⟨rfl, h1⟩ := h1
    cases h2 with
    | cons r1 t =>
      obtain ⟨i1, i2⟩ := RepK.mapPut k r (l := l) (kvs := kvs) ⟨h1, t⟩
      by_cases e : k1 = k
      · simp only [List.map_cons, e, if_true]
        exact ⟨by simp only [List.map_cons, i1], .cons r i2⟩
      · simp only [List.map_cons, e, if_false]
        exact ⟨by simp only [List.map_cons, i1], .cons r1 i2⟩
theorem RepK.put {κ : Type} [DecidableEq κ] (k : κ) {d : D} {v : V} (r : Rep K mg φ W H d v) {l : List (κ × D)} {kvs : List (κ × V)} (h : RepK K mg φ W H l kvs) : RepK K mg φ W H (putD l k d) (putK kvs k v) := by
  unfold putD putK
  rw [RepK.any k h.1]
  split
  · exact RepK.mapPut k r h
  · refine ⟨by simp [h.1], ?_⟩
    rw [List.map_append, List.map_append]
    exact h.2.append (.cons r .nil)
end
end Rf

set_option Elab.async false
set_option linter.all false
set_option maxRecDepth 100000
set_option maxHeartbeats 1000000
/-! Rf3: operations on values keep the relation. -/
namespace Rf
open PySem PySem.Spec PyProof.Rows L2

section
variable (K : PySem.W.Frag) (mg : Str → Option Value)
/-- as Rep, but a list may be one of the store -/
def Sh (φ W : List Addr) (H : Hp) (d : D) (v : V) : Prop := match d with
  | .lst l => ∃ a xs, v = .ref a ∧ H a = some (.lst xs) ∧ RepL K mg φ W H l xs
  | .dk l => ∃ a kvs, v = .ref a ∧ H a = some (.dK kvs) ∧ RepK K mg φ W H l kvs
  | .dt l => ∃ a kvs, v = .ref a ∧ H a = some (.dT kvs) ∧ RepK K mg φ W H l kvs
  | d => Rep K mg φ W H d v
/-- what follows holds of each value that stands for d -/
def Kt (φ W : List Addr) (H : Hp) (s : Store) (d : D) (Q : VK) : Prop := ∀ φ' H' v, Ext φ H φ' H' → StOk K mg φ' W H' s → Rep K mg φ' W H' d v → Q v H'
/-- an expression's reading by a function -/
def tE (f : Env → Store → R D) : TE := fun σ H Q => ∃ φ W ρ s d s', EnvOk K mg φ W H ρ σ ∧ StOk K mg φ W H s ∧ f ρ s = .ok d s' ∧ Kt K mg φ W H s' d Q
def tA (f : Env → Store → R (List D)) : TA := fun σ H Q => ∃ φ W ρ s ds s', EnvOk K mg φ W H ρ σ ∧ StOk K mg φ W H s ∧ f ρ s = .ok ds s' ∧
  ∀ φ' H' vs, Ext φ H φ' H' → StOk K mg φ' W H' s' → RepL K mg φ' W H' ds vs → Q vs H'
def tT (f : Env → Store → R D) : TT := fun σ H Q => ∃ φ W ρ s d s' b, EnvOk K mg φ W H ρ σ ∧ StOk K mg φ W H s ∧ f ρ s = .ok d s' ∧ truth s' d = some b ∧
  ∀ φ' H', Ext φ H φ' H' → StOk K mg φ' W H' s' → Q b H'
end
abbrev PEf (X : Cx) (e : Expr) (f : Env → Store → R D) : Prop := PE X e (tE X.K X.mg f)
abbrev PAf (X : Cx) (es : List Expr) (f : Env → Store → R (List D)) : Prop := PA X es (tA X.K X.mg f)
abbrev PTf (X : Cx) (e : Expr) (f : Env → Store → R D) : Prop := PT X e (tT X.K X.mg f)
theorem _root_.L2.PE.imp {X : Cx} {e : Expr} {t t' : TE} (h : PE X e t) (i : ∀ σ H Q, t' σ H Q → t σ H Q) : PE X e t' := ⟨fun pins s σ H Q I q => h.run pins s σ H Q I (i σ H Q q)⟩
theorem _root_.L2.PA.imp {X : Cx} {e : List Expr} {t t' : TA} (h : PA X e t) (i : ∀ σ H Q, t' σ H Q → t σ H Q) : PA X e t' := ⟨fun pos pins s σ H Q I q => h.run pos pins s σ H Q I (i σ H Q q)⟩
theorem _root_.L2.PT.imp {X : Cx} {e : Expr} {t t' : TT} (h : PT X e t) (i : ∀ σ H Q, t' σ H Q → t σ H Q) : PT X e t' := ⟨fun pins s σ H Q I q => h.run pins s σ H Q I (i σ H Q q)⟩
theorem _root_.L2.PW.imp {X : Cx} {e : Expr} {t t' : TT} (h : PW X e t) (i : ∀ σ H Q, t' σ H Q → t σ H Q) : PW X e t' := ⟨fun wh pins s σ H Q I q => h.run wh pins s σ H Q I (i σ H Q q)⟩

section
variable {K : PySem.W.Frag} {mg : Str → Option Value} {φ φ' W : List Addr} {H H' : Hp} {s : Store} {d : D} {v : V} {Q : VK}
theorem Sh.of (h : StOk K mg φ W H s) (r : Rep K mg φ W H d v) : Sh K mg φ W H (deref s d) v := by
  cases d with
  | ref m =>
    cases r with
    | @ref _ a e =>
      have hm : m < s.length := by rw [← h.len]; exact (List.getElem?_eq_some_iff.mp e).1
      have q := h.obj m a _ e (List.getElem?_eq_getElem hm)
      have g : s[m]? = some s[m] := List.getElem?_eq_getElem hm
      cases hs : s[m] with
      | lst l =>
        rw [hs] at q g
        obtain ⟨xs, e1, r1⟩ := q
        have e2 : deref s (.ref m) = .lst l := by
          show (match s[m]? with | some (.lst l) => D.lst l | some (.dk l) => .dk l | some (.dt l) => .dt l | some .lkd => .ref m | none => .ref m) = _
          rw [g]
        rw [e2]
        exact ⟨a, xs, rfl, e1, r1⟩
      | dk l =>
        rw [hs] at q g
        obtain ⟨xs, e1, r1⟩ := q
        have e2 : deref s (.ref m) = .dk l := by
          show (match s[m]? with | some (.lst l) => D.lst l | some (.dk l) => .dk l | some (.dt l) => .dt l | some .lkd => .ref m | none => .ref m) = _
          rw [g]
        rw [e2]
        exact ⟨a, xs, rfl, e1, r1⟩
      | dt l =>
        rw [hs] at q g
        obtain ⟨xs, e1, r1⟩ := q
        have e2 : deref s (.ref m) = .dt l := by
          show (match s[m]? with | some (.lst l) => D.lst l | some (.dk l) => .dk l | some (.dt l) => .dt l | some .lkd => .ref m | none => .ref m) = _
          rw [g]
        rw [e2]
        exact ⟨a, xs, rfl, e1, r1⟩
      | lkd =>
        rw [hs] at g
        have e2 : deref s (.ref m) = .ref m := by
          show (match s[m]? with | some (.lst l) => D.lst l | some (.dk l) => .dk l | some (.dt l) => .dt l | some .lkd => .ref m | none => .ref m) = _
          rw [g]
        rw [e2]
        exact .ref e
  | lst l =>
    cases r with
    | lst e n n' r => exact ⟨_, _, rfl, e, r⟩
  | dk l => cases r
  | dt l => cases r
  | _ => exact r
theorem Sh.raw (r : Rep K mg φ W H d v) : Sh K mg φ W H d v := by
  cases d with
  | lst l =>
    cases r with
    | lst e n n' r => exact ⟨_, _, rfl, e, r⟩
  | dk l => cases r
  | dt l => cases r
  | _ => exact r
theorem Kt.here (k : Kt K mg φ W H s d Q) (h : StOk K mg φ W H s) (r : Rep K mg φ W H d v) : Q v H := k φ H v (Ext.refl _ _) h r
theorem Kt.up (x : Ext φ H φ' H') (k : Kt K mg φ W H s d Q) : Kt K mg φ' W H' s d Q := fun φ2 H2 v x2 h r => k φ2 H2 v (x.trans x2) h r
theorem Kt.newT {ds : List D} {xs : List V} (k : Kt K mg φ W H s (.tup ds) Q) (h : StOk K mg φ W H s) (r : RepL K mg φ W H ds xs) {p : Addr} (hp : H p = none) : Q (.ref p) (upd H p (.tup xs)) :=
  k φ _ _ (Ext.new hp) (h.new hp) (.tup upd_same (r.up (Ext.new hp)))
theorem Kt.newL {ds : List D} {xs : List V} (k : Kt K mg φ W H s (.lst ds) Q) (h : StOk K mg φ W H s) (r : RepL K mg φ W H ds xs) {p : Addr} (hp : H p = none) : Q (.ref p) (upd H p (.lst xs)) :=
  k φ _ _ (Ext.new hp) (h.new hp) (.lst upd_same (h.free hp).1 (h.free hp).2 (r.up (Ext.new hp)))
theorem LINE_eq : sizeLine = LINE := sizeLine_eq
end

/-- two values in, one out -/
def Op2 (X : Cx) (f : Value → Value → Sem Value) (g : D → D → Option D) : Prop :=
  ∀ (pins : List (Addr × Obj)) (st : Shared) (σ : L2.St) (H : Hp) (x y : V) (v u : Value) (φ W : List Addr) (s : Store) (dx dy d : D) (Q : VK), Inv X pins σ H st → RelV x v → RelV y u →
    StOk X.K X.mg φ W H s → Sh X.K X.mg φ W H dx x → Sh X.K X.mg φ W H dy y → g dx dy = some d → Kt X.K X.mg φ W H s d Q → wpAny (model X.prog X.w) X.A (f v u) (EP X pins σ Q) X.xe st
theorem Op2.of {X : Cx} {f : Value → Value → Sem Value} {g : D → D → Option D} {r : R2} (h : OpR X f r)
    (hh : ∀ φ W H s dx dy x y d Q, StOk X.K X.mg φ W H s → Sh X.K X.mg φ W H dx x → Sh X.K X.mg φ W H dy y → g dx dy = some d → Kt X.K X.mg φ W H s d Q → r x y H Q) : Op2 X f g :=
  fun pins st σ H x y v u φ W s dx dy d Q I rx ry so hx hy e k => h pins st σ H x y v u Q I rx ry (hh φ W H s dx dy x y d Q so hx hy e k)

section
variable {X : Cx}
theorem log2_lt {i : Int} {n : Nat} (h : i.natAbs.log2 + 1 ≤ n) : i.natAbs.log2 < n := by omega
def CMulB (i j : Int) : Prop := i.natAbs.log2 + j.natAbs.log2 < 100000000
theorem CMulB.ok {i j : Int} (h : CMulB i j) : IntMulOk i j := by
  have b : ∀ x : Int, Builtin.Int.intBits x ≤ x.natAbs.log2 + 1 := fun x => by
    unfold Builtin.Int.intBits
    split <;> omega
  have h1 := b i
  have h2 := b j
  have h3 : i.natAbs.log2 + j.natAbs.log2 < 100000000 := h
  have e : bitsLine = 134217728 := by decide
  unfold IntMulOk
  intro z
  rw [Bool.and_eq_true] at z
  have z2 := z.2
  unfold Builtin.Int.intTooBig at z2
  have z3 := of_decide_eq_true z2
  rw [e] at z3
  omega
theorem op_mulB : OpR X (binaryOp .Mult) (rI CMulB fun i j => .int (i * j)) := opI fun _ _ _ _ _ _ _ hc q => mul_int q hc.ok
theorem op_fdivB : OpR X (binaryOp .FloorDiv) (rI (fun _ j => 0 < j ∧ j < 18446744073709551616) fun i j => .int (i / j)) := opI fun i j _ _ _ _ _ hc q => by
  have h1 : (0 : Int) < j := hc.1
  have h3 : j < 18446744073709551616 := hc.2
  have h2 : j.natAbs < 2 ^ 64 := by
    have e : (2 : Nat) ^ 64 = 18446744073709551616 := by decide
    omega
  exact floordiv_int (by omega) (by rw [Int.fdiv_eq_ediv_of_nonneg i (by omega)]; exact q) (.inl (PyProof.noPylong_of_log2 (Nat.lt_trans (PySem.Flt.log2_lt_of (by decide) h2) (by decide))))

theorem o2_add : Op2 X (binaryOp .Add) (binD .Add) := by
  refine Op2.of (op_add.or (op_add_str.or (op_catA.or op_cat))) fun φ W H s dx dy x y d Q so hx hy e k => ?_
  cases dx <;> cases dy <;> simp only [binD, reduceCtorEq] at e
  · cases hx; cases hy
    simp only [Option.some.injEq] at e
    subst e
    exact .inl ⟨_, _, rfl, rfl, k.here so (.int _)⟩
  · cases hx with
    | str _ o1 =>
    cases hy with
    | str _ o2 =>
    split at e
    · rename_i hz
      simp only [Option.some.injEq] at e
      subst e
      refine .inr (.inl ⟨_, _, rfl, rfl, by rw [LINE_eq]; exact hz, k.here so (.str _ ?_)⟩)
      unfold PyData.strOk at *
      show ((_ : Array Nat) ++ _).all _ = true
      rw [Array.all_append, o1, o2]; rfl
    · cases e
  · cases hx with
    | @tup a xs _ ha r =>
    cases hy with
    | @tup b ys _ hb r' =>
    split at e
    · rename_i hz
      simp only [Option.some.injEq] at e
      subst e
      refine .inr (.inr (.inl ⟨a, b, xs, ys, rfl, rfl, sqT_of ha, sqT_of hb, by rw [LINE_eq, ← r.length, ← r'.length]; exact hz, fun e1 => ?_, fun _ e2 => ?_, fun _ _ p hp => k.newT so (r.append r') hp⟩))
      · subst e1
        cases r
        exact k.here so (.tup hb r')
      · subst e2
        cases r'
        refine k.here so (.tup ha ?_)
        rw [List.append_nil]
        exact r
    · cases e
  · obtain ⟨a, xs, rfl, ha, r⟩ := hx
    obtain ⟨b, ys, rfl, hb, r'⟩ := hy
    split at e
    · rename_i hz
      simp only [Option.some.injEq] at e
      subst e
      exact .inr (.inr (.inr ⟨a, b, xs, ys, rfl, rfl, ha, hb, by rw [LINE_eq, ← r.length, ← r'.length]; exact hz, fun p hp => k.newL so (r.append r') hp⟩))
    · cases e
theorem o2_sub : Op2 X (binaryOp .Sub) (binD .Sub) := by
  refine Op2.of op_sub fun φ W H s dx dy x y d Q so hx hy e k => ?_
  cases dx <;> cases dy <;> simp only [binD, reduceCtorEq] at e
  cases hx; cases hy
  simp only [Option.some.injEq] at e
  subst e
  exact ⟨_, _, rfl, rfl, k.here so (.int _)⟩
theorem o2_mul : Op2 X (binaryOp .Mult) (binD .Mult) := by
  refine Op2.of (op_mulB.or op_repT) fun φ W H s dx dy x y d Q so hx hy e k => ?_
  cases dx <;> cases dy <;> simp only [binD, reduceCtorEq] at e
  · cases hx; cases hy
    split at e
    · rename_i hz
      simp only [Option.some.injEq] at e
      subst e
      refine .inl ⟨_, _, rfl, rfl, ?_, k.here so (.int _)⟩
      unfold bitsI at hz
      unfold CMulB
      omega
    · cases e
  · cases hx with
    | @tup a xs _ ha r =>
    cases hy
    split at e
    · rename_i hz
      simp only [Option.some.injEq] at e
      subst e
      obtain ⟨z1, z2, z3, z4⟩ := hz
      refine .inr ⟨a, _, xs, rfl, rfl, sqT_of ha, fun z => ?_, z2, z3, by rw [← r.length]; exact z4, fun p hp => k.newT so (r.rep _) hp⟩
      subst z
      cases r
      simp at z1
    · cases e
theorem o2_fdiv : Op2 X (binaryOp .FloorDiv) (binD .FloorDiv) := by
  refine Op2.of op_fdivB fun φ W H s dx dy x y d Q so hx hy e k => ?_
  cases dx <;> cases dy <;> simp only [binD, reduceCtorEq] at e
  cases hx; cases hy
  split at e
  · rename_i hz
    simp only [Option.some.injEq] at e
    subst e
    exact ⟨_, _, rfl, rfl, hz, k.here so (.int _)⟩
  · cases e
theorem o2_mod : Op2 X (binaryOp .Mod) (binD .Mod) := by
  refine Op2.of op_mod fun φ W H s dx dy x y d Q so hx hy e k => ?_
  cases dx <;> cases dy <;> simp only [binD, reduceCtorEq] at e
  cases hx; cases hy
  split at e
  · rename_i hz
    simp only [Option.some.injEq] at e
    subst e
    exact ⟨_, _, rfl, rfl, hz, k.here so (.int _)⟩
  · cases e
theorem o2_pow : Op2 X (binaryOp .Pow) (binD .Pow) := by
  refine Op2.of op_pow fun φ W H s dx dy x y d Q so hx hy e k => ?_
  cases dx <;> cases dy <;> simp only [binD, reduceCtorEq] at e
  cases hx; cases hy
  split at e
  · rename_i hz
    simp only [Option.some.injEq] at e
    subst e
    obtain ⟨z1, z2, z3⟩ := hz
    exact ⟨_, _, rfl, rfl, ⟨z1, by omega, by omega⟩, k.here so (.int _)⟩
  · cases e
def opServed : Operator → Bool
  | .Add => true | .Sub => true | .Mult => true | .FloorDiv => true | .Mod => true | .Pow => true
  | _ => false
theorem o2_bin {o : Operator} (h : opServed o = true) : Op2 X (binaryOp o) (binD o) := by
  cases o <;> first
    | exact o2_add | exact o2_sub | exact o2_mul | exact o2_fdiv | exact o2_mod | exact o2_pow | cases h
end

/-! ### == -/
def toPy : Nat → D → PyData
  | 0, _ => .none
  | n + 1, d => match d with
    | .non => .none
    | .bl b => .bool b
    | .int i => .int i
    | .str x => .str x
    | .tup l => .tuple (l.map (toPy n))
    | .ktu l => .tuple (l.map (toPy n))
    | .lst l => .list (l.map (toPy n))
    | _ => .none
section
variable {K : PySem.W.Frag} {mg : Str → Option Value} {φ φ' W : List Addr} {H H' : Hp} {s : Store}
theorem dp_of : ∀ (n : Nat) (d : D) (v : V), shp n d = true → Rep K mg φ W H d v → Dp K H v (toPy n d)
  | 0, d, _, h, _ => by cases d <;> cases h
  | n + 1, d, v, h, r => by
    have all : ∀ (l : List D) (xs : List V), l.all (shp n) = true → RepL K mg φ W H l xs → DpAll K H xs (l.map (toPy n)) := by
      intro l
      induction l with
      | nil => intro xs _ r; cases r; exact .nil
      | cons d l ih =>
        intro xs h r
        cases r with
        | cons r1 r2 =>
          simp only [List.all_cons, Bool.and_eq_true] at h
          exact .cons (dp_of n d _ h.1 r1) (ih _ h.2 r2)
    cases d <;> first | (simp only [shp, Bool.false_eq_true] at h; done) | skip
    · cases r; exact .non
    · cases r; exact .bl _
    · cases r; exact .int _
    · cases r; exact .str _
    · cases r with
      | tup e r => exact .tup (sqT_of e) (all _ _ h r)
    · cases r with
      | ktu e r => exact .tup (.inr e) (all _ _ h r)
    · cases r with
      | lst e _ _ r => exact .lst (SqL.of e) (all _ _ h r)
theorem dp_sh {n : Nat} {d : D} {v : V} (h : shp n d = true) (r : Sh K mg φ W H d v) : Dp K H v (toPy n d) := by
  cases n with
  | zero => cases d <;> cases h
  | succ n =>
    have all : ∀ (l : List D) (xs : List V), l.all (shp n) = true → RepL K mg φ W H l xs → DpAll K H xs (l.map (toPy n)) := by
      intro l
      induction l with
      | nil => intro xs _ r; cases r; exact .nil
      | cons d l ih =>
        intro xs h r
        cases r with
        | cons r1 r2 =>
          simp only [List.all_cons, Bool.and_eq_true] at h
          exact .cons (dp_of n d _ h.1 r1) (ih _ h.2 r2)
    cases d with
    | lst l =>
      obtain ⟨a, xs, rfl, e, r⟩ := r
      exact .lst (SqL.of e) (all _ _ h r)
    | dk l => cases h
    | dt l => cases h
    | _ => exact dp_of _ _ _ h r
theorem lay_of : ∀ (n : Nat) (d : D) (v : V), shp n d = true → Rep K mg φ W H d v → (toPy n d).canLay0 = true
  | 0, d, _, h, _ => by cases d <;> cases h
  | n + 1, d, v, h, r => by
    have all : ∀ (l : List D) (xs : List V), l.all (shp n) = true → RepL K mg φ W H l xs → PyData.canLayAll0 (l.map (toPy n)) = true := by
      intro l
      induction l with
      | nil => intro xs _ r; rfl
      | cons d l ih =>
        intro xs h r
        cases r with
        | cons r1 r2 =>
          simp only [List.all_cons, Bool.and_eq_true] at h
          simp only [List.map_cons, PyData.canLayAll0, Bool.and_eq_true]
          exact ⟨lay_of n d _ h.1 r1, ih _ h.2 r2⟩
    cases d <;> first | (simp only [shp, Bool.false_eq_true] at h; done) | skip
    · rfl
    · rfl
    · rfl
    · cases r with | str _ e => exact e
    · cases r with
      | tup e r => exact all _ _ h r
    · cases r with
      | ktu e r => exact all _ _ h r
    · cases r with
      | lst e _ _ r => exact all _ _ h r
theorem lay_sh {n : Nat} {d : D} {v : V} (h : shp n d = true) (r : Sh K mg φ W H d v) : (toPy n d).canLay0 = true := by
  cases n with
  | zero => cases d <;> cases h
  | succ n =>
    cases d with
    | lst l =>
      obtain ⟨a, xs, rfl, e, r⟩ := r
      have all : ∀ (l : List D) (xs : List V), l.all (shp n) = true → RepL K mg φ W H l xs → PyData.canLayAll0 (l.map (toPy n)) = true := by
        intro l
        induction l with
        | nil => intro xs _ r; rfl
        | cons d l ih =>
          intro xs h r
          cases r with
          | cons r1 r2 =>
            simp only [List.all_cons, Bool.and_eq_true] at h
            simp only [List.map_cons, PyData.canLayAll0, Bool.and_eq_true]
            exact ⟨lay_of n d _ h.1 r1, ih _ h.2 r2⟩
      exact all _ _ h r
    | dk l => cases h
    | dt l => cases h
    | _ => exact lay_of _ _ _ h r
theorem depth_of : ∀ (n : Nat) (d : D), (toPy n d).depth ≤ n
  | 0, d => Nat.zero_le _
  | n + 1, d => by
    have all : ∀ l : List D, PyData.depthAll (l.map (toPy n)) ≤ n := by
      intro l
      induction l with
      | nil => exact Nat.zero_le _
      | cons d l ih =>
        simp only [List.map_cons, PyData.depthAll]
        exact Nat.max_le.mpr ⟨depth_of n d, ih⟩
    cases d <;> simp only [toPy, PyData.depth] <;> first | exact Nat.zero_le _ | exact Nat.succ_le_succ (all _)
theorem natsEq_iff : ∀ a b : List Nat, natsEq a b = true ↔ a = b
  | [], [] => by simp [natsEq]
  | [], _ :: _ => by simp [natsEq]
  | _ :: _, [] => by simp [natsEq]
  | x :: xs, y :: ys => by
    simp only [natsEq, Bool.and_eq_true, Nat.beq_eq, List.cons.injEq]
    rw [natsEq_iff xs ys]
theorem strEq_eq (x y : Str) : strEq x y = (x == y) := by
  rw [Bool.eq_iff_iff]
  unfold strEq
  rw [natsEq_iff, beq_iff_eq]
  cases x; cases y
  simp
theorem eqv_of : ∀ (n : Nat) (x y : D), shp n x = true → shp n y = true → PyData.eqv (toPy n x) (toPy n y) = eqF n x y
  | 0, x, _, h, _ => by cases x <;> cases h
  | n + 1, x, y, h, h' => by
    have all : ∀ (l l' : List D), l.all (shp n) = true → l'.all (shp n) = true → PyData.eqvAll (l.map (toPy n)) (l'.map (toPy n)) = allEq (eqF n) l l' := by
      intro l
      induction l with
      | nil => intro l' _ _; cases l' <;> simp [PyData.eqvAll, allEq]
      | cons d l ih =>
        intro l' h h'
        cases l' with
        | nil => simp [PyData.eqvAll, allEq]
        | cons d' l' =>
          simp only [List.all_cons, Bool.and_eq_true] at h h'
          simp only [List.map_cons, PyData.eqvAll, allEq]
          rw [eqv_of n d d' h.1 h'.1, ih l' h.2 h'.2]
    cases x <;> first | (simp only [shp, Bool.false_eq_true] at h; done) | skip
    all_goals (cases y <;> first | (simp only [shp, Bool.false_eq_true] at h'; done) | skip)
    all_goals first
      | exact all _ _ h h'
      | (simp only [toPy, PyData.eqv, eqF]; done)
      | (simp only [toPy, PyData.eqv, eqF]; exact (strEq_eq _ _).symm)
end
section
variable {X : Cx}
theorem shaped_sh {K : PySem.W.Frag} {mg : Str → Option Value} {φ W : List Addr} {H : Hp} {d : D} {v : V} (h : shp DEEP d = true) (r : Sh K mg φ W H d v) : SeqAt.shaped (toPy DEEP d) = true := by
  unfold SeqAt.shaped
  rw [Bool.and_eq_true]
  exact ⟨lay_sh h r, decide_eq_true (Nat.le_trans (depth_of DEEP d) (by decide))⟩
theorem o2_eq (hu : X.A.units + 64 < cLine) : Op2 X (compareOp .Eq) (fun x y => (cmpD .Eq x y).map .bl) := by
  refine Op2.of (op_eqD hu) fun φ W H s dx dy x y d Q so hx hy e k => ?_
  simp only [cmpD, eqD] at e
  split at e
  · rename_i hz
    rw [Bool.and_eq_true] at hz
    simp only [Option.map_some, Option.some.injEq] at e
    subst e
    refine ⟨_, _, dp_sh hz.1 hx, dp_sh hz.2 hy, shaped_sh hz.1 hx, shaped_sh hz.2 hy, ?_⟩
    rw [eqv_of _ _ _ hz.1 hz.2]
    exact k.here so (.bl _)
  · cases e
theorem o2_ne (hu : X.A.units + 64 < cLine) : Op2 X (compareOp .NotEq) (fun x y => (cmpD .NotEq x y).map .bl) := by
  refine Op2.of (op_neD hu) fun φ W H s dx dy x y d Q so hx hy e k => ?_
  simp only [cmpD, eqD] at e
  split at e
  · rename_i hz
    rw [Bool.and_eq_true] at hz
    simp only [Option.map_some, Option.some.injEq] at e
    subst e
    refine ⟨_, _, dp_sh hz.1 hx, dp_sh hz.2 hy, shaped_sh hz.1 hx, shaped_sh hz.2 hy, ?_⟩
    rw [eqv_of _ _ _ hz.1 hz.2]
    exact k.here so (.bl _)
  · cases e
theorem natsLt_eq : ∀ a b : List Nat, natsLt a b = decide (a < b)
  | [], [] => by simp [natsLt]
  | _ :: _, [] => by simp [natsLt]
  | [], _ :: _ => by simp [natsLt]
  | x :: xs, y :: ys => by
    rw [natsLt, natsLt_eq xs ys, Bool.eq_iff_iff]
    simp only [Bool.or_eq_true, Bool.and_eq_true, Nat.blt_eq, Nat.beq_eq, decide_eq_true_eq, List.cons_lt_cons_iff]
theorem strLt_eq (x y : Str) : strLt x y = decide (x.cps.toList < y.cps.toList) := natsLt_eq _ _
theorem o2_lt : Op2 X (compareOp .Lt) (fun x y => (cmpD .Lt x y).map .bl) := by
  refine Op2.of (op_lt.or op_lt_str) fun φ W H s dx dy x y d Q so hx hy e k => ?_
  cases dx <;> cases dy <;> simp only [cmpD, Option.map_none, reduceCtorEq] at e
  · cases hx; cases hy
    simp only [Option.map_some, Option.some.injEq] at e
    subst e
    exact .inl ⟨_, _, rfl, rfl, k.here so (.bl _)⟩
  · cases hx; cases hy
    simp only [Option.map_some, Option.some.injEq, strLt_eq] at e
    subst e
    exact .inr ⟨_, _, rfl, rfl, k.here so (.bl _)⟩
theorem o2_le : Op2 X (compareOp .LtE) (fun x y => (cmpD .LtE x y).map .bl) := by
  refine Op2.of (op_le.or op_le_str) fun φ W H s dx dy x y d Q so hx hy e k => ?_
  cases dx <;> cases dy <;> simp only [cmpD, Option.map_none, reduceCtorEq] at e
  · cases hx; cases hy
    simp only [Option.map_some, Option.some.injEq] at e
    subst e
    exact .inl ⟨_, _, rfl, rfl, k.here so (.bl _)⟩
  · cases hx; cases hy
    simp only [Option.map_some, Option.some.injEq, strLt_eq] at e
    subst e
    exact .inr ⟨_, _, rfl, rfl, k.here so (.bl _)⟩
theorem o2_gt : Op2 X (compareOp .Gt) (fun x y => (cmpD .Gt x y).map .bl) := by
  refine Op2.of (op_gt.or op_gt_str) fun φ W H s dx dy x y d Q so hx hy e k => ?_
  cases dx <;> cases dy <;> simp only [cmpD, Option.map_none, reduceCtorEq] at e
  · cases hx; cases hy
    simp only [Option.map_some, Option.some.injEq] at e
    subst e
    exact .inl ⟨_, _, rfl, rfl, k.here so (.bl _)⟩
  · cases hx; cases hy
    simp only [Option.map_some, Option.some.injEq, strLt_eq] at e
    subst e
    exact .inr ⟨_, _, rfl, rfl, k.here so (.bl _)⟩
theorem o2_ge : Op2 X (compareOp .GtE) (fun x y => (cmpD .GtE x y).map .bl) := by
  refine Op2.of (op_ge.or op_ge_str) fun φ W H s dx dy x y d Q so hx hy e k => ?_
  cases dx <;> cases dy <;> simp only [cmpD, Option.map_none, reduceCtorEq] at e
  · cases hx; cases hy
    simp only [Option.map_some, Option.some.injEq] at e
    subst e
    exact .inl ⟨_, _, rfl, rfl, k.here so (.bl _)⟩
  · cases hx; cases hy
    simp only [Option.map_some, Option.some.injEq, strLt_eq] at e
    subst e
    exact .inr ⟨_, _, rfl, rfl, k.here so (.bl _)⟩
end
end Rf

set_option Elab.async false
set_option linter.all false
set_option maxRecDepth 100000
set_option maxHeartbeats 1000000
/-! Rf4: more operations; expressions from their parts. -/
namespace Rf
open PySem PySem.Spec PyProof.Rows L2

section
variable {X : Cx}
theorem o2_is : Op2 X (compareOp .Is) (fun x y => (cmpD .Is x y).map .bl) := by
  refine Op2.of (op_isN.or op_is_bl) fun φ W H s dx dy x y d Q so hx hy e k => ?_
  cases dy <;> cases dx <;> simp only [cmpD, Option.map_none, reduceCtorEq] at e
  all_goals (simp only [Option.map_some, Option.some.injEq] at e; subst e)
  case bl.bl b a =>
    cases hx; cases hy
    refine .inr ⟨_, _, rfl, rfl, ?_⟩
    rw [show decide (a = b) = (a == b) by cases a <;> cases b <;> rfl]
    exact k.here so (.bl _)
  all_goals (cases hy; refine .inl ⟨rfl, ?_⟩)
  case non.lst l =>
    obtain ⟨a, xs, rfl, _⟩ := hx
    exact k.here so (.bl _)
  case non.dk l =>
    obtain ⟨a, xs, rfl, _⟩ := hx
    exact k.here so (.bl _)
  case non.dt l =>
    obtain ⟨a, xs, rfl, _⟩ := hx
    exact k.here so (.bl _)
  all_goals (cases hx <;> exact k.here so (.bl _))
theorem o2_isnot : Op2 X (compareOp .IsNot) (fun x y => (cmpD .IsNot x y).map .bl) := by
  refine Op2.of (op_notN.or op_isnot_bl) fun φ W H s dx dy x y d Q so hx hy e k => ?_
  cases dy <;> cases dx <;> simp only [cmpD, Option.map_none, reduceCtorEq] at e
  all_goals (simp only [Option.map_some, Option.some.injEq] at e; subst e)
  case bl.bl b a =>
    cases hx; cases hy
    refine .inr ⟨_, _, rfl, rfl, ?_⟩
    rw [show decide (a = b) = (a == b) by cases a <;> cases b <;> rfl]
    exact k.here so (.bl _)
  all_goals (cases hy; refine .inl ⟨rfl, ?_⟩)
  case non.lst l =>
    obtain ⟨a, xs, rfl, _⟩ := hx
    exact k.here so (.bl _)
  case non.dk l =>
    obtain ⟨a, xs, rfl, _⟩ := hx
    exact k.here so (.bl _)
  case non.dt l =>
    obtain ⟨a, xs, rfl, _⟩ := hx
    exact k.here so (.bl _)
  all_goals (cases hx <;> exact k.here so (.bl _))

theorem shp_up : ∀ (n : Nat) (d : D), shp n d = true → shp (n + 1) d = true ∧ toPy (n + 1) d = toPy n d
  | 0, d, h => by cases d <;> cases h
  | n + 1, d, h => by
    have all : ∀ l : List D, l.all (shp n) = true → l.all (shp (n + 1)) = true ∧ l.map (toPy (n + 1)) = l.map (toPy n) := by
      intro l
      induction l with
      | nil => intro _; exact ⟨rfl, rfl⟩
      | cons d l ih =>
        intro h
        simp only [List.all_cons, Bool.and_eq_true] at h
        obtain ⟨h1, h2⟩ := shp_up n d h.1
        obtain ⟨h3, h4⟩ := ih h.2
        exact ⟨by simp only [List.all_cons, Bool.and_eq_true]; exact ⟨h1, h3⟩, by simp only [List.map_cons, h2, h4]⟩
    cases d <;> first | (simp only [shp, Bool.false_eq_true] at h; done) | skip
    all_goals first
      | exact ⟨rfl, rfl⟩
      | exact ⟨(all _ h).1, congrArg _ (all _ h).2⟩
theorem any_eqv {x : D} (hx : shp DEEP x = true) : ∀ l : List D, l.all (shp 59) = true → ((l.map (toPy 59)).any fun z => PyData.eqv z (toPy DEEP x)) = l.any fun d => eqF DEEP d x
  | [], _ => rfl
  | d :: l, h => by
    simp only [List.all_cons, Bool.and_eq_true] at h
    simp only [List.map_cons, List.any_cons]
    rw [any_eqv hx l h.2]
    obtain ⟨h1, h2⟩ := shp_up 59 d h.1
    have e : PyData.eqv (toPy 59 d) (toPy DEEP x) = eqF DEEP d x := by
      rw [← h2]
      exact eqv_of 60 d x h1 hx
    rw [e]
theorem op_inT (hu : X.A.units + 65 < cLine) : OpR X (compareOp .In) (fun x y H Q => ∃ d ds, Dp X.K H x d ∧ Dp X.K H y (.tuple ds) ∧ SeqAt.shaped d = true ∧ SeqAt.shaped (.tuple ds) = true ∧ Q (.bl (ds.any fun z => PyData.eqv z d)) H) := by
  intro pins s σ H x y v u Q I rx ry h
  obtain ⟨d, ds, hd, he, sd, se, q⟩ := h
  obtain ⟨as, r1⟩ := Dp.reads I d x v hd rx
  obtain ⟨bs, r2⟩ := Dp.reads I (.tuple ds) y u he ry
  exact SeqAt.in_tuple_reads r2 r1 (SeqAt.canLay_of_shaped se) (SeqAt.canLay_of_shaped sd) (PyProof.Rows.room_in_shaped sd hu) ⟨.bl _, H, I, rfl, q⟩
theorem op_notInT (hu : X.A.units + 65 < cLine) : OpR X (compareOp .NotIn) (fun x y H Q => ∃ d ds, Dp X.K H x d ∧ Dp X.K H y (.tuple ds) ∧ SeqAt.shaped d = true ∧ SeqAt.shaped (.tuple ds) = true ∧ Q (.bl (!ds.any fun z => PyData.eqv z d)) H) := by
  intro pins s σ H x y v u Q I rx ry h
  obtain ⟨d, ds, hd, he, sd, se, q⟩ := h
  obtain ⟨as, r1⟩ := Dp.reads I d x v hd rx
  obtain ⟨bs, r2⟩ := Dp.reads I (.tuple ds) y u he ry
  exact SeqAt.notIn_tuple_reads r2 r1 (SeqAt.canLay_of_shaped se) (SeqAt.canLay_of_shaped sd) (PyProof.Rows.room_in_shaped sd hu) ⟨.bl _, H, I, rfl, q⟩
theorem op_inK (hu : X.A.units + 1 < cLine) : OpR X (compareOp .In) (fun x y H Q => ∃ a o, y = .ref a ∧ DGet H a x o ∧ Q (.bl o.isSome) H) := fun pins s σ H x y v u Q I rx ry ⟨a, o, ey, g, q⟩ => by
  subst ey
  cases ry
  exact d_in hu I g rx fun s3 I3 => ⟨.bl o.isSome, H, I3, rfl, q⟩
theorem op_notInK (hu : X.A.units + 1 < cLine) : OpR X (compareOp .NotIn) (fun x y H Q => ∃ a o, y = .ref a ∧ DGet H a x o ∧ Q (.bl (!o.isSome)) H) := fun pins s σ H x y v u Q I rx ry ⟨a, o, ey, g, q⟩ => by
  subst ey
  cases ry
  exact d_notIn hu I g rx fun s3 I3 => ⟨.bl (!o.isSome), H, I3, rfl, q⟩
theorem keyK_rep {K : PySem.W.Frag} {mg : Str → Option Value} {φ W : List Addr} {H : Hp} {d : D} {v : V} {k : Key} (r : Rep K mg φ W H d v) (e : keyK d = some k) : v = kV k := by
  cases d <;> simp only [keyK, reduceCtorEq, Option.some.injEq] at e
  · subst e; cases r; rfl
  · subst e; cases r; rfl
theorem keysK_rep {K : PySem.W.Frag} {mg : Str → Option Value} {φ W : List Addr} {H : Hp} : ∀ {ds : List D} {vs : List V} {ks : List Key}, RepL K mg φ W H ds vs → keysK ds = some ks → vs = ks.map kV
  | [], _, _, r, e => by cases r; cases e; rfl
  | d :: ds, _, _, r, e => by
    cases r with
    | cons r1 r2 =>
      unfold keysK at e
      split at e
      · rename_i k ks h1 h2
        cases e
        rw [keyK_rep r1 h1, keysK_rep r2 h2]
        rfl
      · cases e
theorem keyT_rep {K : PySem.W.Frag} {mg : Str → Option Value} {φ W : List Addr} {H : Hp} {d : D} {v : V} {ks : List Key} (r : Rep K mg φ W H d v) (e : keyT d = some ks) : ∃ b, v = .ref b ∧ H b = some (.tup (ks.map kV)) := by
  cases d <;> simp only [keyT, reduceCtorEq] at e
  cases r with
  | tup h r => rw [keysK_rep r e] at h; exact ⟨_, rfl, h⟩
theorem keyK_sh {K : PySem.W.Frag} {mg : Str → Option Value} {φ W : List Addr} {H : Hp} {d : D} {v : V} {k : Key} (r : Sh K mg φ W H d v) (e : keyK d = some k) : v = kV k := by
  cases d <;> first | (cases e; done) | exact keyK_rep r e
theorem keyT_sh {K : PySem.W.Frag} {mg : Str → Option Value} {φ W : List Addr} {H : Hp} {d : D} {v : V} {ks : List Key} (r : Sh K mg φ W H d v) (e : keyT d = some ks) : ∃ b, v = .ref b ∧ H b = some (.tup (ks.map kV)) := by
  cases d <;> first | (cases e; done) | exact keyT_rep r e
/-- what stands at a key -/
theorem atD_rep {K : PySem.W.Frag} {mg : Str → Option Value} {φ W : List Addr} {H : Hp} {dx dy : D} {x y : V} {o : Option D} (hx : Sh K mg φ W H dx x) (hy : Sh K mg φ W H dy y) (e : atD dx dy = some o) :
    ∃ a ov, x = .ref a ∧ DGet H a y ov ∧ IsD H a ∧ ((o = none ∧ ov = none) ∨ ∃ d v, o = some d ∧ ov = some v ∧ Rep K mg φ W H d v) := by
  cases dx <;> simp only [atD, reduceCtorEq] at e
  · obtain ⟨k, h1, h2⟩ := Option.map_eq_some_iff.mp e
    obtain ⟨a, kvs, rfl, h3, h4⟩ := hx
    subst h2
    refine ⟨a, valV kvs k, rfl, .inl ⟨kvs, k, .inl h3, keyK_sh hy h1, rfl⟩, .inl ⟨_, .inl h3⟩, ?_⟩
    rcases h4.val k with ⟨p, q⟩ | ⟨d, v, p, q, r⟩
    · exact .inl ⟨p, q⟩
    · exact .inr ⟨d, v, p, q, r⟩
  · obtain ⟨k, h1, h2⟩ := Option.map_eq_some_iff.mp e
    obtain ⟨a, kvs, rfl, h3, h4⟩ := hx
    subst h2
    obtain ⟨b, rfl, h5⟩ := keyT_sh hy h1
    refine ⟨a, valV kvs k, rfl, .inr ⟨kvs, k, b, .inl h3, rfl, h5, rfl⟩, .inr ⟨_, .inl h3⟩, ?_⟩
    rcases h4.val k with ⟨p, q⟩ | ⟨d, v, p, q, r⟩
    · exact .inl ⟨p, q⟩
    · exact .inr ⟨d, v, p, q, r⟩
theorem hasD_rep {K : PySem.W.Frag} {mg : Str → Option Value} {φ W : List Addr} {H : Hp} {dx dy : D} {x y : V} {b : Bool} (hx : Sh K mg φ W H dx x) (hy : Sh K mg φ W H dy y) (e : hasD dx dy = some b) :
    ∃ a ov, y = .ref a ∧ DGet H a x ov ∧ b = ov.isSome := by
  have e2 : (atD dy dx).map (·.isSome) = some b := by
    cases dy <;> simp only [hasD, reduceCtorEq] at e <;> simp only [atD, Option.map_map] <;> exact e
  obtain ⟨o, h1, h2⟩ := Option.map_eq_some_iff.mp e2
  obtain ⟨a, ov, h3, h4, _, h5⟩ := atD_rep hy hx h1
  refine ⟨a, ov, h3, h4, ?_⟩
  rcases h5 with ⟨rfl, rfl⟩ | ⟨d, v, rfl, rfl, _⟩
  · exact h2.symm
  · exact h2.symm
theorem signIn_eq {a b : Str} {k : Bool} (h : signIn a b = some k) : ∃ c, a = ⟨#[c]⟩ ∧ k = decide (c ∈ b.cps.toList) := by
  unfold signIn at h
  split at h
  · rename_i c hc
    cases h
    refine ⟨c, ?_, ?_⟩
    · obtain ⟨cps⟩ := a
      congr 1
      apply Array.ext'
      exact hc
    · rw [Bool.eq_iff_iff]
      simp only [List.any_eq_true, decide_eq_true_eq, Nat.beq_eq]
      exact ⟨fun ⟨d, h, e⟩ => by rw [e]; exact h, fun h => ⟨c, h, rfl⟩⟩
  · cases h
theorem o2_in (hu : X.A.units + 65 < cLine) : Op2 X (compareOp .In) (fun x y => (cmpD .In x y).map .bl) := by
  refine Op2.of ((((op_inT hu).or (op_inD hu)).or (op_inK (by omega))).or op_in_sign) fun φ W H s dx dy x y d Q so hx hy e k => ?_
  cases dy <;> simp only [cmpD, Option.map_none, reduceCtorEq] at e
  case str b =>
    cases dx <;> simp only [Option.map_none, reduceCtorEq] at e
    obtain ⟨k', h1, h2⟩ := Option.map_eq_some_iff.mp e
    subst h2
    cases hx; cases hy
    obtain ⟨c, rfl, rfl⟩ := signIn_eq h1
    exact .inr ⟨c, b, rfl, rfl, k.here so (.bl _)⟩
  case tup l =>
    split at e
    · rename_i hz
      rw [Bool.and_eq_true] at hz
      simp only [Option.map_some, Option.some.injEq] at e
      subst e
      refine .inl (.inl (.inl ⟨_, _, dp_sh hz.1 hx, dp_sh hz.2 hy, shaped_sh hz.1 hx, shaped_sh hz.2 hy, ?_⟩))
      rw [any_eqv hz.1 _ hz.2]
      exact k.here so (.bl _)
    · cases e
  case ktu l =>
    split at e
    · rename_i hz
      rw [Bool.and_eq_true] at hz
      simp only [Option.map_some, Option.some.injEq] at e
      subst e
      refine .inl (.inl (.inl ⟨_, _, dp_sh hz.1 hx, dp_sh hz.2 hy, shaped_sh hz.1 hx, shaped_sh hz.2 hy, ?_⟩))
      rw [any_eqv hz.1 _ hz.2]
      exact k.here so (.bl _)
    · cases e
  case lst l =>
    split at e
    · rename_i hz
      rw [Bool.and_eq_true] at hz
      simp only [Option.map_some, Option.some.injEq] at e
      subst e
      refine .inl (.inl (.inr ⟨_, _, dp_sh hz.1 hx, dp_sh hz.2 hy, shaped_sh hz.1 hx, shaped_sh hz.2 hy, ?_⟩))
      rw [any_eqv hz.1 _ hz.2]
      exact k.here so (.bl _)
    · cases e
  all_goals
    obtain ⟨b, h1, h2⟩ := Option.map_eq_some_iff.mp e
    subst h2
    obtain ⟨a, ov, h3, h4, rfl⟩ := hasD_rep hx hy h1
    exact .inl (.inr ⟨a, ov, h3, h4, k.here so (.bl _)⟩)
theorem o2_notin (hu : X.A.units + 65 < cLine) : Op2 X (compareOp .NotIn) (fun x y => (cmpD .NotIn x y).map .bl) := by
  refine Op2.of ((((op_notInT hu).or (op_notInD hu)).or (op_notInK (by omega))).or op_notIn_sign) fun φ W H s dx dy x y d Q so hx hy e k => ?_
  cases dy <;> simp only [cmpD, Option.map_none, reduceCtorEq] at e
  case str b =>
    cases dx <;> simp only [Option.map_none, reduceCtorEq] at e
    obtain ⟨k', h1, h2⟩ := Option.map_eq_some_iff.mp e
    subst h2
    obtain ⟨k2, h3, h4⟩ := Option.map_eq_some_iff.mp h1
    subst h4
    cases hx; cases hy
    obtain ⟨c, rfl, rfl⟩ := signIn_eq h3
    exact .inr ⟨c, b, rfl, rfl, k.here so (.bl _)⟩
  case tup l =>
    split at e
    · rename_i hz
      rw [Bool.and_eq_true] at hz
      simp only [Option.map_some, Option.some.injEq] at e
      subst e
      refine .inl (.inl (.inl ⟨_, _, dp_sh hz.1 hx, dp_sh hz.2 hy, shaped_sh hz.1 hx, shaped_sh hz.2 hy, ?_⟩))
      rw [any_eqv hz.1 _ hz.2]
      exact k.here so (.bl _)
    · cases e
  case ktu l =>
    split at e
    · rename_i hz
      rw [Bool.and_eq_true] at hz
      simp only [Option.map_some, Option.some.injEq] at e
      subst e
      refine .inl (.inl (.inl ⟨_, _, dp_sh hz.1 hx, dp_sh hz.2 hy, shaped_sh hz.1 hx, shaped_sh hz.2 hy, ?_⟩))
      rw [any_eqv hz.1 _ hz.2]
      exact k.here so (.bl _)
    · cases e
  case lst l =>
    split at e
    · rename_i hz
      rw [Bool.and_eq_true] at hz
      simp only [Option.map_some, Option.some.injEq] at e
      subst e
      refine .inl (.inl (.inr ⟨_, _, dp_sh hz.1 hx, dp_sh hz.2 hy, shaped_sh hz.1 hx, shaped_sh hz.2 hy, ?_⟩))
      rw [any_eqv hz.1 _ hz.2]
      exact k.here so (.bl _)
    · cases e
  all_goals
    obtain ⟨b, h1, h2⟩ := Option.map_eq_some_iff.mp e
    subst h2
    obtain ⟨c, g1, g2⟩ := Option.map_eq_some_iff.mp h1
    subst g2
    obtain ⟨a, ov, h3, h4, rfl⟩ := hasD_rep hx hy g1
    exact .inl (.inr ⟨a, ov, h3, h4, k.here so (.bl _)⟩)
theorem o2_cmp (hu : X.A.units + 65 < cLine) (o : CmpOp) : Op2 X (compareOp o) (fun x y => (cmpD o x y).map .bl) := by
  cases o
  · exact o2_eq (by omega)
  · exact o2_ne (by omega)
  · exact o2_lt
  · exact o2_le
  · exact o2_gt
  · exact o2_ge
  · exact o2_is
  · exact o2_isnot
  · exact o2_in hu
  · exact o2_notin hu
/-- an operation's reading -/
def r2 (K : PySem.W.Frag) (mg : Str → Option Value) (g : D → D → Option D) : R2 := fun x y H Q => ∃ φ W s dx dy d, StOk K mg φ W H s ∧ Sh K mg φ W H dx x ∧ Sh K mg φ W H dy y ∧ g dx dy = some d ∧ Kt K mg φ W H s d Q
theorem Op2.r {f : Value → Value → Sem Value} {g : D → D → Option D} (h : Op2 X f g) : OpR X f (r2 X.K X.mg g) := fun pins s σ H x y v u Q I rx ry ⟨φ, W, st, dx, dy, d, so, hx, hy, e, k⟩ =>
  h pins s σ H x y v u φ W st dx dy d Q I rx ry so hx hy e k
end

/-! ### expressions from their parts -/
section
variable {K : PySem.W.Frag} {mg : Str → Option Value} {fa fb fc : Env → Store → R D} {σ : L2.St} {H : Hp} {Q : VK}
theorem ofO_ok {α : Type} {o : Option α} {s s' : Store} {a : α} (h : ofO o s = .ok a s') : o = some a ∧ s' = s := by
  cases o with
  | none => cases h
  | some b => cases h; exact ⟨rfl, rfl⟩
theorem tE1 {r : V → Hp → VK → Prop} {k : D → Store → R D} (h : ∀ φ W H s dx x d s' Q, StOk K mg φ W H s → Rep K mg φ W H dx x → k dx s = .ok d s' → Kt K mg φ W H s' d Q → r x H Q)
    (q : tE K mg (fun ρ s => (fa ρ s).bnd k) σ H Q) : tUn r (tE K mg fa) σ H Q := by
  obtain ⟨φ, W, ρ, s, d, s', eo, so, e, kt⟩ := q
  obtain ⟨dx, s1, e1, e2⟩ := R.bnd_ok e
  exact ⟨φ, W, ρ, s, dx, s1, eo, so, e1, fun φ1 H1 x x1 so1 rx => h φ1 W H1 s1 dx x d s' Q so1 rx e2 (kt.up x1)⟩
theorem tE2 {r : R2} {k : D → D → Store → R D} (h : ∀ φ W H s dx dy x y d s' Q, StOk K mg φ W H s → Rep K mg φ W H dx x → Rep K mg φ W H dy y → k dx dy s = .ok d s' → Kt K mg φ W H s' d Q → r x y H Q)
    (q : tE K mg (fun ρ s => (fa ρ s).bnd fun x s1 => (fb ρ s1).bnd fun y s2 => k x y s2) σ H Q) : tOp r (tE K mg fa) (tE K mg fb) σ H Q := by
  obtain ⟨φ, W, ρ, s, d, s', eo, so, e, kt⟩ := q
  obtain ⟨dx, s1, e1, e2⟩ := R.bnd_ok e
  obtain ⟨dy, s2, e3, e4⟩ := R.bnd_ok e2
  exact ⟨φ, W, ρ, s, dx, s1, eo, so, e1, fun φ1 H1 x x1 so1 rx => ⟨φ1, W, ρ, s1, dy, s2, eo.up x1, so1, e3, fun φ2 H2 y x2 so2 ry => h φ2 W H2 s2 dx dy x y d s' Q so2 (rx.up x2) ry e4 (kt.up (x1.trans x2))⟩⟩
theorem tru_of {φ W : List Addr} {s : Store} {d : D} {v : V} {k : Bool} (so : StOk K mg φ W H s) (r : Rep K mg φ W H d v) (e : truth s d = some k) : TruV K v H k := by
  have q := Sh.of so r
  clear r
  unfold truth at e
  generalize deref s d = d' at e q
  cases d' <;> simp only [reduceCtorEq] at e
  · cases q; simp only [Option.some.injEq] at e; exact e.symm
  · cases q; simp only [Option.some.injEq] at e; exact e.symm
  · cases q; simp only [Option.some.injEq] at e; exact e.symm
  · cases q
    split at e
    · rename_i hz
      simp only [Option.some.injEq] at e
      exact ⟨by rw [LINE_eq]; exact hz, e.symm⟩
    · cases e
  · cases q with
    | tup h r =>
      simp only [Option.some.injEq] at e
      refine .inr (.inl ⟨_, sqT_of h, ?_⟩)
      rw [← e]
      cases r <;> rfl
  · cases q with
    | ktu h r =>
      simp only [Option.some.injEq] at e
      refine .inr (.inl ⟨_, .inr h, ?_⟩)
      rw [← e]
      cases r <;> rfl
  · obtain ⟨a, xs, rfl, h, r⟩ := q
    simp only [Option.some.injEq] at e
    refine .inl ⟨_, SqL.of h, ?_⟩
    rw [← e]
    cases r <;> rfl
  · cases q with
    | scr h r =>
      simp only [Option.some.injEq] at e
      rcases h with h | h
      · refine .inl ⟨_, h.sqL, ?_⟩
        rw [← e]
        cases r <;> rfl
      · refine .inr (.inl ⟨_, .inr h, ?_⟩)
        rw [← e]
        cases r <;> rfl
  · obtain ⟨a, kvs, rfl, h, r⟩ := q
    simp only [Option.some.injEq] at e
    refine .inr (.inr ⟨_, h, ?_⟩)
    rw [← e]
    have hl := r.length
    rename_i l
    cases l <;> cases kvs <;> first | rfl | (simp at hl)
end
section
variable {X : Cx} {fa fb fc f : Env → Store → R D} {a b c : Expr} {pos : Pos} {rest : List Expr}
theorem pef_bin {o : Operator} (ho : opServed o = true) (ha : PEf X a fa) (hb : PEf X b fb) :
    PEf X (.BinOp a o b pos) (fun ρ s => (fa ρ s).bnd fun x s1 => (fb ρ s1).bnd fun y s2 => ofO (binD o (deref s2 x) (deref s2 y)) s2) :=
  (pe_op (o2_bin ho).r ha hb).imp fun σ H Q q => tE2 (fun φ W H s dx dy x y d s' Q so rx ry e k => by
    obtain ⟨e1, rfl⟩ := ofO_ok e
    exact ⟨φ, W, s', _, _, d, so, Sh.of so rx, Sh.of so ry, e1, k⟩) q
theorem cmp_k {φ W : List Addr} {K : PySem.W.Frag} {mg : Str → Option Value} {H : Hp} {s s' : Store} {o : CmpOp} {dx dy d : D} {x y : V} {Q : VK} (so : StOk K mg φ W H s) (rx : Rep K mg φ W H dx x) (ry : Rep K mg φ W H dy y)
    (e : ((ofO (cmpD o (deref s dx) (deref s dy)) s).bnd fun k s3 => R.ok (D.bl k) s3) = .ok d s') (k : Kt K mg φ W H s' d Q) : r2 K mg (fun x y => (cmpD o x y).map .bl) x y H Q := by
  obtain ⟨b, s3, e1, e2⟩ := R.bnd_ok e
  obtain ⟨e3, rfl⟩ := ofO_ok e1
  cases e2
  exact ⟨φ, W, s', _, _, _, so, Sh.of so rx, Sh.of so ry, by show Option.map D.bl (cmpD o (deref s' dx) (deref s' dy)) = _; rw [e3]; rfl, k⟩
theorem pef_cmp {o : CmpOp} (hu : X.A.units + 65 < cLine) (hm : behindInMarks o b = false) (ha : PEf X a fa) (hb : PEf X b fb) :
    PEf X (.Compare a [o] [b] pos) (fun ρ s => (fa ρ s).bnd fun x s1 => (fb ρ s1).bnd fun y s2 => (ofO (cmpD o (deref s2 x) (deref s2 y)) s2).bnd fun k s3 => .ok (.bl k) s3) :=
  (pe_cmpR (o2_cmp hu o).r ha hb hm).imp fun σ H Q q => tE2 (fun φ W H s dx dy x y d s' Q so rx ry e k => cmp_k so rx ry e k) q
theorem ptf_cmp {o : CmpOp} (hu : X.A.units + 65 < cLine) (hm : behindInMarks o b = false) (ha : PEf X a fa) (hb : PEf X b fb) :
    PTf X (.Compare a [o] [b] pos) (fun ρ s => (fa ρ s).bnd fun x s1 => (fb ρ s1).bnd fun y s2 => (ofO (cmpD o (deref s2 x) (deref s2 y)) s2).bnd fun k s3 => .ok (.bl k) s3) :=
  (pt_cmpR (o2_cmp hu o).r ha hb hm).imp fun σ H Q q => by
    obtain ⟨φ, W, ρ, s, d, s', t, eo, so, e, et, kt⟩ := q
    refine tE2 (fun φ W H s dx dy x y d s' Q so rx ry e k => cmp_k so rx ry e k) ⟨φ, W, ρ, s, d, s', eo, so, e, fun φ' H' v x so' r => ?_⟩
    obtain ⟨dx, s1, e1, e2⟩ := R.bnd_ok e
    obtain ⟨dy, s2, e3, e4⟩ := R.bnd_ok e2
    obtain ⟨b, s3, e5, e6⟩ := R.bnd_ok e4
    cases e6
    cases r
    have : b = t := by simpa [truth, deref] using et
    subst this
    exact ⟨b, rfl, kt φ' H' x so'⟩
/-- a test by its value's truth -/
theorem ptf_val (ha : PEf X a f) (he : ∀ whole, isTrue a X.env whole = (do let v ← whole; standAt a.pos; holding [v] (truthy v))) : PTf X a f :=
  (pt_truth ha he).imp fun σ H Q q => by
    obtain ⟨φ, W, ρ, s, d, s', t, eo, so, e, et, kt⟩ := q
    exact ⟨φ, W, ρ, s, d, s', eo, so, e, fun φ' H' v x so' r => ⟨t, tru_of so' r et, kt φ' H' x so'⟩⟩
theorem pef_not (ha : PEf X a fa) : PEf X (.UnaryOp .Not a pos) (fun ρ s => (fa ρ s).bnd fun x s1 => (ofO (truth s1 x) s1).bnd fun k s2 => .ok (.bl (!k)) s2) :=
  (pe_notT ha).imp fun σ H Q q => by
    obtain ⟨φ, W, ρ, s, d, s', eo, so, e, kt⟩ := q
    obtain ⟨dx, s1, e1, e2⟩ := R.bnd_ok e
    obtain ⟨k, s2, e3, e4⟩ := R.bnd_ok e2
    obtain ⟨e5, rfl⟩ := ofO_ok e3
    cases e4
    exact ⟨φ, W, ρ, s, dx, s', eo, so, e1, fun φ' H' v x so' r => ⟨k, tru_of so' r e5, kt φ' H' _ x so' (.bl _)⟩⟩
theorem ptf_not (ha : PTf X a fa) : PTf X (.UnaryOp .Not a pos) (fun ρ s => (fa ρ s).bnd fun x s1 => (ofO (truth s1 x) s1).bnd fun k s2 => .ok (.bl (!k)) s2) :=
  (pt_not ha).imp fun σ H Q q => by
    obtain ⟨φ, W, ρ, s, d, s', t, eo, so, e, et, kt⟩ := q
    obtain ⟨dx, s1, e1, e2⟩ := R.bnd_ok e
    obtain ⟨k, s2, e3, e4⟩ := R.bnd_ok e2
    obtain ⟨e5, rfl⟩ := ofO_ok e3
    cases e4
    have : (!k) = t := by simpa [truth, deref] using et
    subst this
    exact ⟨φ, W, ρ, s, dx, s', k, eo, so, e1, e5, fun φ' H' x so' => kt φ' H' x so'⟩
theorem pef_ife (hc : PTf X c fc) (ha : PEf X a fa) (hb : PEf X b fb) : PEf X (.IfExp c a b pos) (fun ρ s => (fc ρ s).bnd fun x s1 => (ofO (truth s1 x) s1).bnd fun k s2 => match k with
    | true => fa ρ s2
    | false => fb ρ s2) :=
  (pe_ifExp hc ha hb).imp fun σ H Q q => by
    obtain ⟨φ, W, ρ, s, d, s', eo, so, e, kt⟩ := q
    obtain ⟨dx, s1, e1, e2⟩ := R.bnd_ok e
    obtain ⟨k, s2, e3, e4⟩ := R.bnd_ok e2
    obtain ⟨e5, rfl⟩ := ofO_ok e3
    refine ⟨φ, W, ρ, s, dx, s2, k, eo, so, e1, e5, fun φ' H' x so' => ?_⟩
    cases k with
    | true => exact ⟨φ', W, ρ, s2, d, s', eo.up x, so', e4, kt.up x⟩
    | false => exact ⟨φ', W, ρ, s2, d, s', eo.up x, so', e4, kt.up x⟩
theorem pef_one {op : PySem.BoolOp} (ha : PEf X a fa) : PEf X (.BoolOp op [a] pos) fa := pe_one ha
theorem pef_and (ha : PEf X a fa) (hb : PEf X (.BoolOp .And (b :: rest) pos) fb) : PEf X (.BoolOp .And (a :: b :: rest) pos) (fun ρ s => (fa ρ s).bnd fun x s1 => (ofO (truth s1 x) s1).bnd fun k s2 => match k with
    | true => fb ρ s2
    | false => .ok x s2) :=
  (pe_andT ha hb).imp fun σ H Q q => by
    obtain ⟨φ, W, ρ, s, d, s', eo, so, e, kt⟩ := q
    obtain ⟨dx, s1, e1, e2⟩ := R.bnd_ok e
    obtain ⟨k, s2, e3, e4⟩ := R.bnd_ok e2
    obtain ⟨e5, rfl⟩ := ofO_ok e3
    refine ⟨φ, W, ρ, s, dx, s2, eo, so, e1, fun φ' H' v x so' r => ⟨k, tru_of so' r e5, ?_⟩⟩
    cases k with
    | true => exact ⟨φ', W, ρ, s2, d, s', eo.up x, so', e4, kt.up x⟩
    | false => cases e4; exact kt φ' H' v x so' r
theorem pef_or (ha : PEf X a fa) (hb : PEf X (.BoolOp .Or (b :: rest) pos) fb) : PEf X (.BoolOp .Or (a :: b :: rest) pos) (fun ρ s => (fa ρ s).bnd fun x s1 => (ofO (truth s1 x) s1).bnd fun k s2 => match k with
    | false => fb ρ s2
    | true => .ok x s2) :=
  (pe_orT ha hb).imp fun σ H Q q => by
    obtain ⟨φ, W, ρ, s, d, s', eo, so, e, kt⟩ := q
    obtain ⟨dx, s1, e1, e2⟩ := R.bnd_ok e
    obtain ⟨k, s2, e3, e4⟩ := R.bnd_ok e2
    obtain ⟨e5, rfl⟩ := ofO_ok e3
    refine ⟨φ, W, ρ, s, dx, s2, eo, so, e1, fun φ' H' v x so' r => ⟨k, tru_of so' r e5, ?_⟩⟩
    cases k with
    | false => exact ⟨φ', W, ρ, s2, d, s', eo.up x, so', e4, kt.up x⟩
    | true => cases e4; exact kt φ' H' v x so' r
abbrev PWf (X : Cx) (e : Expr) (f : Env → Store → R D) : Prop := PW X e (tT X.K X.mg f)
theorem pwf_and1 (ha : PTf X a fa) : PWf X (.BoolOp .And [a] pos) fa := pw_and1 ha
theorem pwf_or1 (ha : PTf X a fa) : PWf X (.BoolOp .Or [a] pos) fa := pw_or1 ha
theorem pwf_and (ha : PTf X a fa) (hb : PWf X (.BoolOp .And (b :: rest) pos) fb) : PWf X (.BoolOp .And (a :: b :: rest) pos) (fun ρ s => (fa ρ s).bnd fun x s1 => (ofO (truth s1 x) s1).bnd fun k s2 => match k with
    | true => fb ρ s2
    | false => .ok x s2) :=
  (pw_and ha hb).imp fun σ H Q q => by
    obtain ⟨φ, W, ρ, s, d, s', t, eo, so, e, et, kt⟩ := q
    obtain ⟨dx, s1, e1, e2⟩ := R.bnd_ok e
    obtain ⟨k, s2, e3, e4⟩ := R.bnd_ok e2
    obtain ⟨e5, rfl⟩ := ofO_ok e3
    refine ⟨φ, W, ρ, s, dx, s2, k, eo, so, e1, e5, fun φ' H' x so' => ?_⟩
    cases k with
    | true => exact ⟨φ', W, ρ, s2, d, s', t, eo.up x, so', e4, et, fun φ2 H2 x2 so2 => kt φ2 H2 (x.trans x2) so2⟩
    | false =>
      cases e4
      rw [e5] at et
      cases et
      exact kt φ' H' x so'
theorem pwf_or (ha : PTf X a fa) (hb : PWf X (.BoolOp .Or (b :: rest) pos) fb) : PWf X (.BoolOp .Or (a :: b :: rest) pos) (fun ρ s => (fa ρ s).bnd fun x s1 => (ofO (truth s1 x) s1).bnd fun k s2 => match k with
    | false => fb ρ s2
    | true => .ok x s2) :=
  (pw_or ha hb).imp fun σ H Q q => by
    obtain ⟨φ, W, ρ, s, d, s', t, eo, so, e, et, kt⟩ := q
    obtain ⟨dx, s1, e1, e2⟩ := R.bnd_ok e
    obtain ⟨k, s2, e3, e4⟩ := R.bnd_ok e2
    obtain ⟨e5, rfl⟩ := ofO_ok e3
    refine ⟨φ, W, ρ, s, dx, s2, k, eo, so, e1, e5, fun φ' H' x so' => ?_⟩
    cases k with
    | false => exact ⟨φ', W, ρ, s2, d, s', t, eo.up x, so', e4, et, fun φ2 H2 x2 so2 => kt φ2 H2 (x.trans x2) so2⟩
    | true =>
      cases e4
      rw [e5] at et
      cases et
      exact kt φ' H' x so'
theorem pef_neg (ha : PEf X a fa) : PEf X (.UnaryOp .USub a pos) (fun ρ s => (fa ρ s).bnd fun x s1 => match x with
    | .int i => .ok (.int (-i)) s1
    | _ => .bad) :=
  (pe_un un_neg ha).imp fun σ H Q q => tE1 (fun φ W H s dx x d s' Q so rx e k => by
    cases dx <;> simp only [reduceCtorEq, R.ok.injEq] at e
    obtain ⟨rfl, rfl⟩ := e
    cases rx
    exact ⟨_, rfl, k.here so (.int _)⟩) q
theorem ofO_bnd {o : Option D} {s : Store} : ofO o s = (match o with | some a => .ok a s | none => .bad) := by cases o <;> rfl
theorem pef_chain {o o' : CmpOp} (hu : X.A.units + 65 < cLine) (hm : lastMarks [o, o'] [b, c] = false) (ha : PEf X a fa) (hb : PEf X b fb) (hc : PEf X c fc) :
    PEf X (.Compare a [o, o'] [b, c] pos) (fun ρ s => (fa ρ s).bnd fun x s1 => (fb ρ s1).bnd fun y s2 => (ofO (cmpD o (deref s2 x) (deref s2 y)) s2).bnd fun k s3 =>
      match k with
      | false => .ok (.bl false) s3
      | true => (fc ρ s3).bnd fun z s4 => (ofO (cmpD o' (deref s4 y) (deref s4 z)) s4).bnd fun k' s5 => .ok (.bl k') s5) :=
  (pe_chain (o2_cmp hu o).r (o2_cmp hu o').r ha hb hc hm).imp fun σ H Q q => by
    obtain ⟨φ, W, ρ, s, d, s', eo, so, e, kt⟩ := q
    obtain ⟨dx, s1, e1, e2⟩ := R.bnd_ok e
    obtain ⟨dy, s2, e3, e4⟩ := R.bnd_ok e2
    obtain ⟨k, s3, e5, e6⟩ := R.bnd_ok e4
    obtain ⟨e7, rfl⟩ := ofO_ok e5
    refine ⟨φ, W, ρ, s, dx, s1, eo, so, e1, fun φ1 H1 x x1 so1 rx => ⟨φ1, W, ρ, s1, dy, s3, eo.up x1, so1, e3, fun φ2 H2 y x2 so2 ry => ⟨φ2, W, s3, _, _, .bl k, so2, Sh.of so2 (rx.up x2), Sh.of so2 ry, by show Option.map D.bl (cmpD o (deref s3 dx) (deref s3 dy)) = _; rw [e7]; rfl, fun φ3 H3 z x3 so3 rz => ?_⟩⟩⟩
    cases rz
    refine ⟨k, rfl, ?_⟩
    cases k with
    | false =>
      cases e6
      exact kt φ3 H3 _ ((x1.trans x2).trans x3) so3 (.bl _)
    | true =>
      obtain ⟨dz, s4, e8, e9⟩ := R.bnd_ok e6
      exact ⟨φ3, W, ρ, s3, dz, s4, eo.up ((x1.trans x2).trans x3), so3, e8, fun φ4 H4 z x4 so4 rz => cmp_k so4 (ry.up (x3.trans x4)) rz e9 (kt.up (((x1.trans x2).trans x3).trans x4))⟩
end
end Rf

set_option Elab.async false
set_option linter.all false
set_option maxRecDepth 100000
set_option maxHeartbeats 1000000
/-! Rf5: displays, subscripts, slices, built-in calls, append. -/
namespace Rf
open PySem PySem.Spec PyProof.Rows L2

def notStar : Expr → Bool
  | .Starred .. => false
  | _ => true
theorem star_plain {e : Expr} {es : List Expr} {env : PySem.Env} (h : notStar e = true) : starEach (e :: es) env = (false, eval e env) :: starEach es env := by
  cases e <;> first | rfl | cases h
theorem star_any : ∀ {es : List Expr} {env : PySem.Env} {pos : Pos}, es.all notStar = true → (backTo pos (starEach es env)).any (·.1) = false
  | [], _, _, _ => rfl
  | e :: es, env, pos, h => by
    simp only [List.all_cons, Bool.and_eq_true] at h
    rw [star_plain h.1]
    show (false || (backTo pos (starEach es env)).any (·.1)) = false
    rw [star_any h.2]; rfl
theorem star_all : ∀ {es : List Expr} {env : PySem.Env} {pos : Pos}, es.all notStar = true → (backTo pos (starEach es env)).all (fun x => !x.1) = true
  | [], _, _, _ => rfl
  | e :: es, env, pos, h => by
    simp only [List.all_cons, Bool.and_eq_true] at h
    rw [star_plain h.1]
    show (true && (backTo pos (starEach es env)).all (fun x => !x.1)) = true
    rw [star_all h.2]; rfl

section
variable {X : Cx} {fa fb fc f : Env → Store → R D} {fs : Env → Store → R (List D)} {a b c e : Expr} {es : List Expr} {pos : Pos}
theorem paf_nil : PAf X [] (fun _ s => .ok [] s) := pa_nil.imp fun σ H Q q => by
  obtain ⟨φ, W, ρ, s, d, s', eo, so, e, kt⟩ := q
  cases e
  exact kt φ H [] (Ext.refl _ _) so .nil
theorem paf_cons (hs : notStar e = true) (ha : PEf X e fa) (hr : PAf X es fs) : PAf X (e :: es) (fun ρ s => (fa ρ s).bnd fun d s1 => (fs ρ s1).bnd fun ds s2 => .ok (d :: ds) s2) :=
  (pa_cons ha hr (star_plain hs)).imp fun σ H Q q => by
    obtain ⟨φ, W, ρ, s, d, s', eo, so, e, kt⟩ := q
    obtain ⟨dx, s1, e1, e2⟩ := R.bnd_ok e
    obtain ⟨dy, s2, e3, e4⟩ := R.bnd_ok e2
    cases e4
    exact ⟨φ, W, ρ, s, dx, s1, eo, so, e1, fun φ1 H1 x x1 so1 rx => ⟨φ1, W, ρ, s1, dy, s', eo.up x1, so1, e3, fun φ2 H2 ys x2 so2 ry => kt φ2 H2 (x :: ys) (x1.trans x2) so2 (.cons (rx.up x2) ry)⟩⟩
theorem pef_tup {k : Nat} (h : PAf X es fs) (hl : ∀ ρ s ds s', fs ρ s = .ok ds s' → ds.length ≤ LINE) : PEf X (.Tuple es k pos) (fun ρ s => (fs ρ s).bnd fun ds s1 => .ok (.tup ds) s1) :=
  (pe_tup h).imp fun σ H Q q => by
    obtain ⟨φ, W, ρ, s, d, s', eo, so, e, kt⟩ := q
    obtain ⟨ds, s1, e1, e2⟩ := R.bnd_ok e
    cases e2
    refine ⟨φ, W, ρ, s, ds, s', eo, so, e1, fun φ1 H1 xs x1 so1 rx => ⟨by rw [LINE_eq, ← rx.length]; exact hl _ _ _ _ e1, fun p hp => (kt.up x1).newT so1 rx hp⟩⟩
theorem pef_lst {mu : Bool} (h : PAf X es fs) (hl : ∀ ρ s ds s', fs ρ s = .ok ds s' → ds.length ≤ LINE) :
    PEf X (.List es pos) (fun ρ s => (fs ρ s).bnd fun ds s1 => if mu then .ok (.ref s1.length) (s1 ++ [.lst ds]) else .ok (.lst ds) s1) :=
  (pe_lst h).imp fun σ H Q q => by
    obtain ⟨φ, W, ρ, s, d, s', eo, so, e, kt⟩ := q
    obtain ⟨ds, s1, e1, e2⟩ := R.bnd_ok e
    refine ⟨φ, W, ρ, s, ds, s1, eo, so, e1, fun φ1 H1 xs x1 so1 rx => ⟨by rw [LINE_eq, ← rx.length]; exact hl _ _ _ _ e1, fun p hp => ?_⟩⟩
    cases mu with
    | false =>
      cases e2
      exact (kt.up x1).newL so1 rx hp
    | true =>
      cases e2
      refine kt _ _ _ (x1.trans (Ext.newS hp)) (so1.newS hp rx) (.ref ?_)
      rw [← so1.len, List.getElem?_append_right (Nat.le_refl _), Nat.sub_self]
      rfl

/-! ### subscripts -/
theorem atI_rep {K : PySem.W.Frag} {mg : Str → Option Value} {φ W : List Addr} {H : Hp} {ds : List D} {xs : List V} {i : Int} {d : D} (r : RepL K mg φ W H ds xs) (e : atI ds i = some d) : ∃ v, atI xs i = some v ∧ Rep K mg φ W H d v := by
  unfold atI at *
  rw [← r.length]
  cases h : ixN ds.length i with
  | none => rw [h] at e; cases e
  | some j =>
    rw [h] at e
    obtain ⟨v, h1, h2⟩ := r.get (i := j) (d := d) e
    exact ⟨v, h1, h2⟩
theorem ix_dict (hu : X.A.units + 1 < cLine) : IxR X (fun x y H Q => ∃ a v, x = .ref a ∧ DGet H a y (some v) ∧ Q v H) := by
  intro value slice pins s σ H x y v u Q I rx ry h hs
  obtain ⟨a, w, rfl, g, q⟩ := h
  cases rx
  have hT := dict_typeIs I g
  unfold subscriptTail
  refine wpAny_bind ?_
  rw [getitemInPython_of_ne hT.not_modules]
  refine wpAny_bind (wpAny_specialOf hT PySem.F.slot_dict_getitem.lookup ?_)
  have fin : wpAny (model X.prog X.w) X.A (subscripted slice false (.ref a) u) (fun r s₃ => wpAny (model X.prog X.w) X.A (letTemporaryGo value (.ref a) r >>= fun _ => pure r) (EP X pins σ Q) X.xe s₃) X.xe s := by
    rw [hs]
    exact wpAny_operating (d_getItem hu I g ry fun w' s3 I3 rw' => wpAny_bind (wpAny_letTemporaryGo (wpAny_pure ⟨w, H, I3, rw', q⟩)))
  first
    | exact wpAny_pure (wpAny_bind fin)
    | exact wpAny_bind (wpAny_pure (wpAny_bind fin))
    | exact wpAny_bind fin
theorem pef_ix (hu : X.A.units + 1 < cLine) (hs : PlainIx b) (ha : PEf X a fa) (hb : PEf X b fb) : PEf X (.Subscript a b pos) (fun ρ s => (fa ρ s).bnd fun x s1 => (fb ρ s1).bnd fun y s2 => ofO (ixV (deref s2 x) y) s2) :=
  (pe_ix (ix_seq.or (ix_dict hu)) ha hb hs).imp fun σ H Q q => tE2 (fun φ W H s dx dy x y d s' Q so rx ry e k => by
    obtain ⟨e1, rfl⟩ := ofO_ok e
    have hx := Sh.of so rx
    clear rx
    generalize deref s' dx = d' at e1 hx
    have seq : ∀ i : Int, ixD d' i = some d → y = .int i → rIx X.K x y H Q := fun i e1 hy => by
      subst hy
      unfold ixD at e1
      cases d' <;> simp only [reduceCtorEq] at e1
      · cases hx with
        | str _ o1 =>
        split at e1
        · rename_i hz
          obtain ⟨c, h1, h2⟩ := Option.map_eq_some_iff.mp e1
          subst h2
          refine .inr (.inr ⟨_, _, c, rfl, rfl, by rw [LINE_eq]; exact hz, h1, k.here so (.str _ ?_)⟩)
          unfold atI at h1
          obtain ⟨j, _, h4⟩ := Option.bind_eq_some_iff.mp h1
          have hm := Array.mem_toList_iff.mp (List.mem_of_getElem? h4)
          unfold PyData.strOk at *
          have o2 := (Array.all_eq_true_iff_forall_mem.mp o1) c hm
          simpa using o2
        · cases e1
      · cases hx with
        | tup h r =>
          obtain ⟨v, h1, h2⟩ := atI_rep r e1
          exact .inr (.inl ⟨_, _, _, v, rfl, rfl, sqT_of h, h1, k.here so h2⟩)
      · cases hx with
        | ktu h r =>
          obtain ⟨v, h1, h2⟩ := atI_rep r e1
          exact .inr (.inl ⟨_, _, _, v, rfl, rfl, .inr h, h1, k.here so h2⟩)
      · obtain ⟨p, xs, rfl, h, r⟩ := hx
        obtain ⟨v, h1, h2⟩ := atI_rep r e1
        exact .inl ⟨_, _, _, v, rfl, rfl, SqL.of h, h1, k.here so h2⟩
    have dic : (atD d' dy).bind id = some d → ∃ a v, x = .ref a ∧ DGet H a y (some v) ∧ Q v H := fun e1 => by
      obtain ⟨o, h1, h2⟩ := Option.bind_eq_some_iff.mp e1
      obtain ⟨a, ov, rfl, g, _, h3⟩ := atD_rep hx (Sh.raw ry) h1
      rcases h3 with ⟨rfl, _⟩ | ⟨d2, v, rfl, rfl, r⟩
      · cases h2
      · cases h2
        exact ⟨a, v, rfl, g, k.here so r⟩
    cases d' with
    | dk l => exact .inr (dic e1)
    | dt l => exact .inr (dic e1)
    | _ =>
      cases dy <;> first | (cases e1; done) | skip
      all_goals
        cases ry
        exact .inl (seq _ e1 rfl)) q

/-! ### slices -/
abbrev POf (X : Cx) (e : Option Expr) (f : Env → Store → R D) : Prop := PO X e fun σ H Q => ∃ φ W ρ s d s' o, EnvOk X.K X.mg φ W H ρ σ ∧ StOk X.K X.mg φ W H s ∧ f ρ s = .ok d s' ∧ partD d = some o ∧
  ∀ φ' H', Ext φ H φ' H' → StOk X.K X.mg φ' W H' s' → Q o H'
theorem pof_none : POf X none (fun _ s => .ok .nop s) := ⟨fun pins s σ H Q I q => po_none.run pins s σ H Q I (by
  obtain ⟨φ, W, ρ, s, d, s', o, eo, so, e, eo', kt⟩ := q
  cases e
  cases eo'
  exact kt φ H (Ext.refl _ _) so)⟩
theorem pof_some {e : Expr} (h : PEf X e f) : POf X (some e) f := ⟨fun pins s σ H Q I q => (po_some h).run pins s σ H Q I (by
  obtain ⟨φ, W, ρ, s, d, s', o, eo, so, e, eo', kt⟩ := q
  refine ⟨φ, W, ρ, s, d, s', eo, so, e, fun φ1 H1 v x1 so1 r => ?_⟩
  cases d <;> simp only [partD, reduceCtorEq, Option.some.injEq] at eo'
  · cases r
    subst eo'
    exact ⟨_, rfl, kt φ1 H1 x1 so1⟩
  · cases r)⟩
theorem cutD_rep {K : PySem.W.Frag} {mg : Str → Option Value} {φ W : List Addr} {H : Hp} {ds : List D} {xs : List V} {lo hi : Option Int} (r : RepL K mg φ W H ds xs) : RepL K mg φ W H (cutD ds lo hi) (cutV xs lo hi) := by
  unfold cutD cutV
  rw [r.length]
  exact (r.drop _).take _
end
end Rf

set_option Elab.async false
set_option linter.all false
set_option maxRecDepth 100000
set_option maxHeartbeats 1000000
/-! Rf6: slices, built-in calls, append. -/
namespace Rf
open PySem PySem.Spec PyProof.Rows L2

theorem cutD_whole {l : List D} {lo hi : Option Int} (h1 : HT.sIx l.length 0 lo = 0) (h2 : HT.sIx l.length l.length hi = l.length) : cutD l lo hi = l := by
  unfold cutD
  rw [h1, h2, List.drop_zero, Nat.sub_zero, List.take_length]
section
variable {X : Cx} {fa fl fh f : Env → Store → R D} {fs : Env → Store → R (List D)} {a e : Expr} {es : List Expr} {pos : Pos}
theorem pef_slc {lo hi : Option Expr} {p2 : Pos} (ha : PEf X a fa) (hl : POf X lo fl) (hh : POf X hi fh) :
    PEf X (.Subscript a (.Slice lo hi none p2) pos) (fun ρ s => (fa ρ s).bnd fun x s1 => (fl ρ s1).bnd fun l s2 => (fh ρ s2).bnd fun h s3 => match partD l, partD h with
      | some l', some h' => ofO (slcD (deref s3 x) l' h') s3
      | _, _ => .bad) :=
  (pe_slice ((sl_tupA.or sl_list).or sl_str) ha hl hh).imp fun σ H Q q => by
    obtain ⟨φ, W, ρ, s, d, s', eo, so, e, kt⟩ := q
    obtain ⟨dx, s1, e1, e2⟩ := R.bnd_ok e
    obtain ⟨dl, s2, e3, e4⟩ := R.bnd_ok e2
    obtain ⟨dh, s3, e5, e6⟩ := R.bnd_ok e4
    cases pl : partD dl with
    | none => rw [pl] at e6; cases e6
    | some l' =>
      cases ph : partD dh with
      | none => rw [pl, ph] at e6; cases e6
      | some h' =>
        rw [pl, ph] at e6
        obtain ⟨e7, rfl⟩ := ofO_ok e6
        refine ⟨φ, W, ρ, s, dx, s1, eo, so, e1, fun φ1 H1 x x1 so1 rx => ⟨φ1, W, ρ, s1, dl, s2, l', eo.up x1, so1, e3, pl, fun φ2 H2 x2 so2 => ⟨φ2, W, ρ, s2, dh, s', h', eo.up (x1.trans x2), so2, e5, ph, fun φ3 H3 x3 so3 => ?_⟩⟩⟩
        have k := kt.up ((x1.trans x2).trans x3)
        have hx := Sh.of so3 (rx.up (x2.trans x3))
        clear rx
        unfold slcD at e7
        generalize deref s' dx = d' at e7 hx
        cases d' <;> simp only [reduceCtorEq, Option.some.injEq] at e7
        case str z =>
          split at e7
          · rename_i hz
            cases e7
            cases hx with
            | str _ o1 =>
            refine .inr ⟨z, rfl, by rw [LINE_eq]; exact hz, k.here so3 (.str _ ?_)⟩
            unfold PyData.strOk at *
            rw [Array.all_eq_true_iff_forall_mem] at *
            intro c hc
            have h2 : c ∈ ((z.cps.toList.drop (HT.sIx z.length 0 l')).take (HT.sIx z.length z.length h' - HT.sIx z.length 0 l')).toArray := hc
            exact o1 c (Array.mem_toList_iff.mp (List.mem_of_mem_drop (List.mem_of_mem_take (List.mem_toArray.mp h2))))
          · cases e7
        case tup l =>
          cases hx with
          | @tup p xs _ h r =>
          subst e7
          refine .inl (.inl ⟨p, xs, rfl, sqT_of h, fun ⟨z1, z2⟩ => ?_, fun _ p hp => k.newT so3 (cutD_rep r) hp⟩)
          refine k.here so3 (.tup h ?_)
          rw [cutD_whole (by rw [r.length]; exact z1) (by rw [r.length]; exact z2)]
          exact r
        case ktu l =>
          cases hx with
          | @ktu p xs _ h r =>
          split at e7
          · rename_i hz
            cases e7
            refine .inl (.inl ⟨p, xs, rfl, .inr h, fun _ => k.here so3 (.ktu h r), fun hn p hp => absurd ⟨by rw [← r.length]; exact hz.1, by rw [← r.length]; exact hz.2⟩ hn⟩)
          · rename_i hz
            cases e7
            refine .inl (.inl ⟨p, xs, rfl, .inr h, fun hy => absurd ⟨by rw [r.length]; exact hy.1, by rw [r.length]; exact hy.2⟩ hz, fun _ p hp => k.newT so3 (cutD_rep r) hp⟩)
        case lst l =>
          obtain ⟨p, xs, rfl, h, r⟩ := hx
          subst e7
          exact .inl (.inr ⟨p, xs, rfl, SqL.of h, fun p hp => k.newL so3 (cutD_rep r) hp⟩)
end

/-! ### built-in calls -/
def ShA (K : PySem.W.Frag) (mg : Str → Option Value) (φ W : List Addr) (H : Hp) : List D → List V → Prop
  | [], [] => True
  | d :: ds, v :: vs => Sh K mg φ W H d v ∧ ShA K mg φ W H ds vs
  | _, _ => False
theorem ShA.of {K : PySem.W.Frag} {mg : Str → Option Value} {φ W : List Addr} {H : Hp} {s : Store} (so : StOk K mg φ W H s) : ∀ {ds : List D} {vs : List V}, RepL K mg φ W H ds vs → ShA K mg φ W H (ds.map (deref s)) vs
  | [], _, h => by cases h; trivial
  | d :: ds, _, h => by cases h with | cons r t => exact ⟨Sh.of so r, ShA.of so t⟩
def rBI (K : PySem.W.Frag) (mg : Str → Option Value) (b : BI) : List V → Hp → VK → Prop := fun xs H Q => ∃ φ W s ds d, StOk K mg φ W H s ∧ ShA K mg φ W H ds xs ∧ biD b ds = some d ∧ Kt K mg φ W H s d Q
theorem sha1 {K : PySem.W.Frag} {mg : Str → Option Value} {φ W : List Addr} {H : Hp} {d : D} {xs : List V} (h : ShA K mg φ W H [d] xs) : ∃ x, xs = [x] ∧ Sh K mg φ W H d x := by
  match xs, h with
  | [x], h => exact ⟨x, rfl, h.1⟩
theorem sha2 {K : PySem.W.Frag} {mg : Str → Option Value} {φ W : List Addr} {H : Hp} {d d' : D} {xs : List V} (h : ShA K mg φ W H [d, d'] xs) : ∃ x y, xs = [x, y] ∧ Sh K mg φ W H d x ∧ Sh K mg φ W H d' y := by
  match xs, h with
  | [x, y], h => exact ⟨x, y, rfl, h.1, h.2.1⟩
theorem allBl_rep {K : PySem.W.Frag} {mg : Str → Option Value} {φ W : List Addr} {H : Hp} : ∀ {l : List D} {xs : List V} {bs : List Bool}, allBl l = some bs → RepL K mg φ W H l xs → xs = bs.map V.bl
  | [], _, _, h, r => by cases r; cases h; rfl
  | d :: l, _, _, h, r => by
    cases r with
    | cons r1 r2 =>
      cases d <;> simp only [allBl, reduceCtorEq] at h
      obtain ⟨bs', h1, h2⟩ := Option.map_eq_some_iff.mp h
      subst h2
      cases r1
      rw [allBl_rep h1 r2]
      rfl
theorem allInt_rep {K : PySem.W.Frag} {mg : Str → Option Value} {φ W : List Addr} {H : Hp} : ∀ {l : List D} {xs : List V} {bs : List Int}, allInt l = some bs → RepL K mg φ W H l xs → xs = bs.map V.int
  | [], _, _, h, r => by cases r; cases h; rfl
  | d :: l, _, _, h, r => by
    cases r with
    | cons r1 r2 =>
      cases d <;> simp only [allInt, reduceCtorEq] at h
      obtain ⟨bs', h1, h2⟩ := Option.map_eq_some_iff.mp h
      subst h2
      cases r1
      rw [allInt_rep h1 r2]
      rfl
section
variable {X : Cx}
theorem CallR.imp {f : Value} {r r' : List V → Hp → VK → Prop} (h : CallR X f r) (i : ∀ xs H Q, r' xs H Q → r xs H Q) : CallR X f r' := fun pins s σ H xs us Q I rv q => h pins s σ H xs us Q I rv (i xs H Q q)
theorem cr_never {f : Value} {r : List V → Hp → VK → Prop} (h : ∀ xs H Q, r xs H Q → False) : CallR X f r := fun pins s σ H xs us Q I rv q => (h _ _ _ q).elim
theorem c_len : CallR X (.builtin "len") (rBI X.K X.mg .len) := by
  refine CallR.imp (L2.CallR.or (L2.CallR.or (L2.CallR.or call_len_seq call_len_str) call_lenD) call_len_dT) fun xs H Q q => ?_
  obtain ⟨φ, W, s, ds, d, so, sh, e, k⟩ := q
  match ds, e with
  | [dx], e =>
    obtain ⟨x, rfl, hx⟩ := sha1 sh
    cases dx <;> simp only [biD, reduceCtorEq, Option.some.injEq] at e
    case str z =>
      cases hx
      split at e
      · rename_i hz
        cases e
        exact .inl (.inl (.inr ⟨_, rfl, by rw [LINE_eq]; exact hz, k.here so (.int _)⟩))
      · cases e
    case tup l =>
      cases hx with
      | tup h r =>
        subst e
        rw [r.length] at k
        exact .inl (.inl (.inl ⟨_, _, rfl, .inr (sqT_of h), k.here so (.int _)⟩))
    case ktu l =>
      cases hx with
      | ktu h r =>
        subst e
        rw [r.length] at k
        exact .inl (.inl (.inl ⟨_, _, rfl, .inr (.inr h), k.here so (.int _)⟩))
    case lst l =>
      obtain ⟨a, ys, rfl, h, r⟩ := hx
      subst e
      rw [r.length] at k
      exact .inl (.inl (.inl ⟨_, _, rfl, .inl (SqL.of h), k.here so (.int _)⟩))
    case scr l =>
      cases hx with
      | scr h r =>
        subst e
        rw [r.length] at k
        exact .inl (.inl (.inl ⟨_, _, rfl, h.elim (fun h => .inl h.sqL) (fun h => .inr (.inr h)), k.here so (.int _)⟩))
    case dk l =>
      obtain ⟨a, kvs, rfl, h, r⟩ := hx
      subst e
      rw [r.length] at k
      exact .inl (.inr ⟨_, _, rfl, h, k.here so (.int _)⟩)
    case dt l =>
      obtain ⟨a, kvs, rfl, h, r⟩ := hx
      subst e
      rw [r.length] at k
      exact .inr ⟨_, _, rfl, h, k.here so (.int _)⟩
  | [], e => cases e
  | _ :: _ :: _, e => simp [biD] at e
theorem c_tuple : CallR X (.type "tuple") (rBI X.K X.mg .tuple) := by
  refine CallR.imp call_tuple_of fun xs H Q q => ?_
  obtain ⟨φ, W, s, ds, d, so, sh, e, k⟩ := q
  match ds, e with
  | [dx], e =>
    obtain ⟨x, rfl, hx⟩ := sha1 sh
    cases dx <;> simp only [biD, reduceCtorEq, Option.some.injEq] at e
    · cases hx with
      | tup h r =>
        subst e
        exact ⟨_, _, rfl, .inr ⟨sqT_of h, k.here so (.tup h r)⟩⟩
    · cases hx with
      | ktu h r =>
        subst e
        exact ⟨_, _, rfl, .inr ⟨.inr h, k.here so (.ktu h r)⟩⟩
    · obtain ⟨a, ys, rfl, h, r⟩ := hx
      subst e
      exact ⟨_, _, rfl, .inl ⟨SqL.of h, fun l hl => k.newT so r hl⟩⟩
  | [], e => cases e
  | _ :: _ :: _, e => simp [biD] at e
theorem c_list : CallR X (.type "list") (rBI X.K X.mg .list) := by
  refine CallR.imp call_list_of fun xs H Q q => ?_
  obtain ⟨φ, W, s, ds, d, so, sh, e, k⟩ := q
  match ds, e with
  | [dx], e =>
    obtain ⟨x, rfl, hx⟩ := sha1 sh
    cases dx <;> simp only [biD, reduceCtorEq, Option.some.injEq] at e
    · cases hx with
      | tup h r =>
        subst e
        exact ⟨_, _, rfl, .inr (sqT_of h), fun l hl => k.newL so r hl⟩
    · cases hx with
      | ktu h r =>
        subst e
        exact ⟨_, _, rfl, .inr (.inr h), fun l hl => k.newL so r hl⟩
    · obtain ⟨a, ys, rfl, h, r⟩ := hx
      subst e
      exact ⟨_, _, rfl, .inl (SqL.of h), fun l hl => k.newL so r hl⟩
    · cases hx with
      | scr h r =>
        subst e
        exact ⟨_, _, rfl, h.elim (fun h => .inl h.sqL) (fun h => .inr (.inr h)), fun l hl => k.newL so r hl⟩
  | [], e => cases e
  | _ :: _ :: _, e => simp [biD] at e
theorem c_abs : CallR X (.builtin "abs") (rBI X.K X.mg .abs) := by
  refine CallR.imp call_abs fun xs H Q q => ?_
  obtain ⟨φ, W, s, ds, d, so, sh, e, k⟩ := q
  match ds, e with
  | [dx], e =>
    obtain ⟨x, rfl, hx⟩ := sha1 sh
    cases dx <;> simp only [biD, reduceCtorEq, Option.some.injEq] at e
    cases hx
    subst e
    exact ⟨_, rfl, k.here so (.int _)⟩
  | [], e => cases e
  | _ :: _ :: _, e => simp [biD] at e
theorem c_int : CallR X (.type "int") (rBI X.K X.mg .int) := by
  refine CallR.imp call_int1 fun xs H Q q => ?_
  obtain ⟨φ, W, s, ds, d, so, sh, e, k⟩ := q
  match ds, e with
  | [dx], e =>
    obtain ⟨x, rfl, hx⟩ := sha1 sh
    cases dx <;> simp only [biD, reduceCtorEq, Option.some.injEq] at e
    cases hx
    subst e
    exact .inl ⟨_, rfl, k.here so (.int _)⟩
  | [], e => cases e
  | _ :: _ :: _, e => simp [biD] at e
theorem maxL_eq {l : List Int} {x m : Int} (h : maxL l = some x) (hm : m ∈ l) (hb : ∀ y, y ∈ l → y ≤ m) : m = x := by
  have key : ∀ (r : List Int) (a : Int), a ≤ r.foldl (fun a b => if b > a then b else a) a ∧ (∀ y ∈ r, y ≤ r.foldl (fun a b => if b > a then b else a) a) ∧ (r.foldl (fun a b => if b > a then b else a) a = a ∨ r.foldl (fun a b => if b > a then b else a) a ∈ r) := by
    intro r
    induction r with
    | nil => intro a; exact ⟨Int.le_refl _, fun y hy => by simp at hy, .inl rfl⟩
    | cons b r ih =>
      intro a
      obtain ⟨h1, h2, h3⟩ := ih (if b > a then b else a)
      have g1 : a ≤ (if b > a then b else a) := by split <;> omega
      have g2 : b ≤ (if b > a then b else a) := by split <;> omega
      rw [List.foldl_cons]
      refine ⟨Int.le_trans g1 h1, fun y hy => ?_, ?_⟩
      · rcases List.mem_cons.mp hy with z | z
        · rw [z]; exact Int.le_trans g2 h1
        · exact h2 y z
      · rcases h3 with h3 | h3
        · split at h3
          · rename_i hba
            rw [if_pos hba, h3]; exact .inr List.mem_cons_self
          · rename_i hba
            rw [if_neg hba, h3]; exact .inl rfl
        · exact .inr (List.mem_cons_of_mem _ h3)
  cases l with
  | nil => cases h
  | cons a r =>
    obtain ⟨h1, h2, h3⟩ := key r a
    have e : x = r.foldl (fun a b => if b > a then b else a) a := (Option.some.inj h).symm
    have hx : x ∈ a :: r := by
      rw [e]
      rcases h3 with h3 | h3
      · rw [h3]; exact List.mem_cons_self
      · exact List.mem_cons_of_mem _ h3
    have h4 := hb x hx
    rcases List.mem_cons.mp hm with z | z
    · omega
    · have := h2 m z; omega
theorem minL_eq {l : List Int} {x m : Int} (h : minL l = some x) (hm : m ∈ l) (hb : ∀ y, y ∈ l → m ≤ y) : m = x := by
  have key : ∀ (r : List Int) (a : Int), r.foldl (fun a b => if b < a then b else a) a ≤ a ∧ (∀ y ∈ r, r.foldl (fun a b => if b < a then b else a) a ≤ y) ∧ (r.foldl (fun a b => if b < a then b else a) a = a ∨ r.foldl (fun a b => if b < a then b else a) a ∈ r) := by
    intro r
    induction r with
    | nil => intro a; exact ⟨Int.le_refl _, fun y hy => by simp at hy, .inl rfl⟩
    | cons b r ih =>
      intro a
      obtain ⟨h1, h2, h3⟩ := ih (if b < a then b else a)
      have g1 : (if b < a then b else a) ≤ a := by split <;> omega
      have g2 : (if b < a then b else a) ≤ b := by split <;> omega
      rw [List.foldl_cons]
      refine ⟨Int.le_trans h1 g1, fun y hy => ?_, ?_⟩
      · rcases List.mem_cons.mp hy with z | z
        · rw [z]; exact Int.le_trans h1 g2
        · exact h2 y z
      · rcases h3 with h3 | h3
        · split at h3
          · rename_i hba
            rw [if_pos hba, h3]; exact .inr List.mem_cons_self
          · rename_i hba
            rw [if_neg hba, h3]; exact .inl rfl
        · exact .inr (List.mem_cons_of_mem _ h3)
  cases l with
  | nil => cases h
  | cons a r =>
    obtain ⟨h1, h2, h3⟩ := key r a
    have e : x = r.foldl (fun a b => if b < a then b else a) a := (Option.some.inj h).symm
    have hx : x ∈ a :: r := by
      rw [e]
      rcases h3 with h3 | h3
      · rw [h3]; exact List.mem_cons_self
      · exact List.mem_cons_of_mem _ h3
    have h4 := hb x hx
    rcases List.mem_cons.mp hm with z | z
    · omega
    · have := h2 m z; omega
theorem c_max (hc : X.calm = true) : CallR X (.builtin "max") (rBI X.K X.mg .max) := by
  refine CallR.imp (L2.CallR.or (call_max2 hc) (cr_max hc)) fun xs H Q q => ?_
  obtain ⟨φ, W, s, ds, d, so, sh, e, k⟩ := q
  match ds, e with
  | [dx, dy], e =>
    obtain ⟨x, y, rfl, hx, hy⟩ := sha2 sh
    cases dx <;> cases dy <;> simp only [biD, reduceCtorEq, Option.some.injEq] at e
    cases hx; cases hy
    subst e
    exact .inl ⟨_, _, rfl, k.here so (.int _)⟩
  | [], e => cases e
  | [dx], e =>
    obtain ⟨x, rfl, hx⟩ := sha1 sh
    cases dx <;> simp only [biD, reduceCtorEq] at e
    obtain ⟨m, h1, h2⟩ := Option.map_eq_some_iff.mp e
    obtain ⟨ns, h3, h4⟩ := Option.bind_eq_some_iff.mp h1
    obtain ⟨a, ys, rfl, h, r⟩ := hx
    subst h2
    have e2 := allInt_rep h3 r
    subst e2
    refine .inr ⟨a, ns, rfl, SqL.of h, ?_, fun m' hm hb => ?_⟩
    · cases ns with
      | nil => cases h4
      | cons a r => exact Nat.zero_lt_succ _
    · rw [maxL_eq h4 hm hb]
      exact k.here so (.int _)
  | _ :: _ :: _ :: _, e => simp [biD] at e
theorem c_min (hc : X.calm = true) : CallR X (.builtin "min") (rBI X.K X.mg .min) := by
  refine CallR.imp (L2.CallR.or (call_min2 hc) (cr_min hc)) fun xs H Q q => ?_
  obtain ⟨φ, W, s, ds, d, so, sh, e, k⟩ := q
  match ds, e with
  | [dx, dy], e =>
    obtain ⟨x, y, rfl, hx, hy⟩ := sha2 sh
    cases dx <;> cases dy <;> simp only [biD, reduceCtorEq, Option.some.injEq] at e
    cases hx; cases hy
    subst e
    exact .inl ⟨_, _, rfl, k.here so (.int _)⟩
  | [], e => cases e
  | [dx], e =>
    obtain ⟨x, rfl, hx⟩ := sha1 sh
    cases dx <;> simp only [biD, reduceCtorEq] at e
    obtain ⟨m, h1, h2⟩ := Option.map_eq_some_iff.mp e
    obtain ⟨ns, h3, h4⟩ := Option.bind_eq_some_iff.mp h1
    obtain ⟨a, ys, rfl, h, r⟩ := hx
    subst h2
    have e2 := allInt_rep h3 r
    subst e2
    refine .inr ⟨a, ns, rfl, SqL.of h, ?_, fun m' hm hb => ?_⟩
    · cases ns with
      | nil => cases h4
      | cons a r => exact Nat.zero_lt_succ _
    · rw [minL_eq h4 hm hb]
      exact k.here so (.int _)
  | _ :: _ :: _ :: _, e => simp [biD] at e
/-- a number's signs -/
theorem digF_eq : ∀ (f n : Nat) (acc : List Nat), n < 10 ^ (f + 1) → digF f n acc = TL.numL n ++ acc
  | 0, n, acc, h => by
    rw [TL.numL_lt (by simpa using h)]
    rfl
  | f + 1, n, acc, h => by
    unfold digF
    split
    · rename_i hn
      rw [TL.numL_lt (Nat.blt_eq.mp hn)]
      rfl
    · rename_i hn
      have h1 : 10 ≤ n := by
        have := mt Nat.blt_eq.mpr hn
        omega
      rw [digF_eq f (n / 10) _ (by rw [Nat.div_lt_iff_lt_mul (by decide)]; rw [Nat.pow_succ] at h; exact h), TL.numL_step h1]
      simp
theorem strN_eq {n : Nat} (h : n < 10 ^ 21) : (⟨(digF 20 n []).toArray⟩ : Str) = Str.ofString (toString ((n : Nat) : Int)) := by
  rw [digF_eq 20 n [] h, List.append_nil]
  refine TL.ext_tl ?_
  rw [TL.tl_num]
theorem digF_ok : ∀ (f n : Nat) (acc : List Nat), n < 10 ^ (f + 1) → (∀ c ∈ acc, c < 1114112) → ∀ c ∈ digF f n acc, c < 1114112
  | 0, n, acc, h, ha, c, hc => by
    unfold digF at hc
    rcases List.mem_cons.mp hc with z | z
    · rw [z]
      have : n < 10 := by simpa using h
      omega
    · exact ha c z
  | f + 1, n, acc, h, ha, c, hc => by
    unfold digF at hc
    split at hc
    · rename_i hn
      have := Nat.blt_eq.mp hn
      rcases List.mem_cons.mp hc with z | z
      · rw [z]; omega
      · exact ha c z
    · refine digF_ok f (n / 10) _ (by rw [Nat.div_lt_iff_lt_mul (by decide)]; rw [Nat.pow_succ] at h; exact h) (fun d hd => ?_) c hc
      rcases List.mem_cons.mp hd with z | z
      · rw [z]; omega
      · exact ha d z
theorem c_str : CallR X (.type "str") (rBI X.K X.mg .str) := by
  refine CallR.imp (L2.CallR.or call_str_int SkE.call_str_str) fun xs H Q q => ?_
  obtain ⟨φ, W, s, ds, d, so, sh, e, k⟩ := q
  match ds, e with
  | [dx], e =>
    obtain ⟨x, rfl, hx⟩ := sha1 sh
    cases dx <;> simp only [biD, reduceCtorEq, Option.some.injEq] at e
    · cases hx
      split at e
      · rename_i i hz
        cases e
        obtain ⟨n, rfl⟩ := Int.eq_ofNat_of_zero_le hz.1
        have hn : n < 2 ^ 60 := by
          have := hz.2
          have e2 : ((2 : Int) ^ 60) = ((2 ^ 60 : Nat) : Int) := by decide
          rw [e2] at this
          exact Int.ofNat_lt.mp this
        have e3 := strN_eq (n := n) (Nat.lt_trans hn (by decide))
        have hr : Rep X.K X.mg φ W H (.str ⟨(digF 20 (Int.toNat (n : Int)) []).toArray⟩) (.str (toString ((n : Nat) : Int))) := by
          rw [Int.toNat_natCast]
          have hok : PyData.strOk (⟨(digF 20 n []).toArray⟩ : Str) = true := by
            unfold PyData.strOk
            rw [Array.all_eq_true_iff_forall_mem]
            intro c hc
            exact decide_eq_true (digF_ok 20 n [] (Nat.lt_trans hn (by decide)) (fun c hc => by simp at hc) c (List.mem_toArray.mp hc))
          rw [e3] at hok ⊢
          exact .str _ hok
        refine .inl ⟨_, rfl, ?_, k.here so hr⟩
        rw [Int.natAbs_natCast]
        exact Nat.lt_trans (PySem.Flt.log2_lt_of (by decide) hn) (by decide)
      · cases e
    · cases hx with
      | str _ o =>
        subst e
        exact .inr ⟨_, rfl, k.here so (.str _ o)⟩
  | [], e => cases e
  | _ :: _ :: _, e => simp [biD] at e
theorem c_all (hc : X.calm = true) : CallR X (.builtin "all") (rBI X.K X.mg .all) := by
  refine CallR.imp (cr_all hc) fun xs H Q q => ?_
  obtain ⟨φ, W, s, ds, d, so, sh, e, k⟩ := q
  match ds, e with
  | [dx], e =>
    obtain ⟨x, rfl, hx⟩ := sha1 sh
    cases dx <;> simp only [biD, reduceCtorEq] at e
    obtain ⟨bs, h1, h2⟩ := Option.map_eq_some_iff.mp e
    obtain ⟨a, ys, rfl, h, r⟩ := hx
    subst h2
    rw [allBl_rep h1 r] at h
    exact ⟨_, _, rfl, SqL.of h, k.here so (.bl _)⟩
  | [], e => cases e
  | _ :: _ :: _, e => simp [biD] at e
theorem c_any (hc : X.calm = true) : CallR X (.builtin "any") (rBI X.K X.mg .any) := by
  refine CallR.imp (cr_any hc) fun xs H Q q => ?_
  obtain ⟨φ, W, s, ds, d, so, sh, e, k⟩ := q
  match ds, e with
  | [dx], e =>
    obtain ⟨x, rfl, hx⟩ := sha1 sh
    cases dx <;> simp only [biD, reduceCtorEq] at e
    obtain ⟨bs, h1, h2⟩ := Option.map_eq_some_iff.mp e
    obtain ⟨a, ys, rfl, h, r⟩ := hx
    subst h2
    rw [allBl_rep h1 r] at h
    exact ⟨_, _, rfl, SqL.of h, k.here so (.bl _)⟩
  | [], e => cases e
  | _ :: _ :: _, e => simp [biD] at e
theorem c_sum (hc : X.calm = true) : CallR X (.builtin "sum") (rBI X.K X.mg .sum) := by
  refine CallR.imp (cr_sum hc) fun xs H Q q => ?_
  obtain ⟨φ, W, s, ds, d, so, sh, e, k⟩ := q
  match ds, e with
  | [dx], e =>
    obtain ⟨x, rfl, hx⟩ := sha1 sh
    cases dx <;> simp only [biD, reduceCtorEq] at e
    obtain ⟨bs, h1, h2⟩ := Option.map_eq_some_iff.mp e
    obtain ⟨a, ys, rfl, h, r⟩ := hx
    subst h2
    rw [allInt_rep h1 r] at h
    exact ⟨_, _, rfl, SqL.of h, k.here so (.int _)⟩
  | [], e => cases e
  | _ :: _ :: _, e => simp [biD] at e
theorem c_isi : CallR X (.builtin "isinstance") (rBI X.K X.mg .isinst) := by
  refine CallR.imp call_isi fun xs H Q q => ?_
  obtain ⟨φ, W, s, ds, d, so, sh, e, k⟩ := q
  match ds, e with
  | [dx, dy], e =>
    obtain ⟨x, y, rfl, hx, hy⟩ := sha2 sh
    cases dy <;> simp only [biD, reduceCtorEq] at e
    rename_i t
    obtain ⟨b, h1, h2⟩ := Option.map_eq_some_iff.mp e
    subst h2
    cases hy
    have fin : ∀ {n : String}, TyX X.K H x (.type n) → (∀ {t b}, isTy dx t = some b → kitB n t = some b) → rIsi X.K [x, .ty t] H Q := fun {n} ty hk =>
      ⟨x, .ty t, .type n, .type t, b, rfl, .ty t, ty, kit_ty (hk h1), k.here so (.bl b)⟩
    cases dx with
    | non =>
      cases hx; refine fin (n := "NoneType") (.base .non) fun {t b} h => ?_
      simp only [isTy] at h
      repeat (split at h; · subst_vars; cases h; decide +kernel)
      cases h
    | bl c =>
      cases hx; refine fin (.base (.bl _)) fun {t b} h => ?_
      simp only [isTy] at h
      repeat (split at h; · subst_vars; cases h; decide +kernel)
      cases h
    | int c =>
      cases hx; refine fin (.base (.int _)) fun {t b} h => ?_
      simp only [isTy] at h
      repeat (split at h; · subst_vars; cases h; decide +kernel)
      cases h
    | str c =>
      cases hx; refine fin (.base (.str _)) fun {t b} h => ?_
      simp only [isTy] at h
      repeat (split at h; · subst_vars; cases h; decide +kernel)
      cases h
    | tup c =>
      have ty : TyX X.K H x (.type "tuple") := by
        cases hx with
        | tup h r =>
          exact .base (.tup h)
      refine fin ty fun {t b} h => ?_
      simp only [isTy] at h
      repeat (split at h; · subst_vars; cases h; decide +kernel)
      cases h
    | ktu c =>
      have ty : TyX X.K H x (.type "tuple") := by
        cases hx with
        | ktu h r =>
          obtain ⟨o, its, n, h1, h2, _⟩ := h
          exact .kTuple h1 h2
      have fin2 : ∀ {n : String}, TyX X.K H x (.type n) → (∀ {t b}, isTy (.ktu c) t = some b → kitB n t = some b) → rIsi X.K [x, .ty t] H Q := fin
      refine fin2 ty fun {t b} h => ?_
      simp only [isTy] at h
      repeat (split at h; · subst_vars; cases h; decide +kernel)
      cases h
    | lst c =>
      obtain ⟨a, ys, rfl, h, r⟩ := hx
      refine fin (.base (.lst h)) fun {t b} h => ?_
      simp only [isTy] at h
      repeat (split at h; · subst_vars; cases h; decide +kernel)
      cases h
    | _ => simp [isTy] at h1
  | [], e => cases e
  | [dx], e => cases dx <;> simp [biD] at e
  | _ :: _ :: _ :: _, e => simp [biD] at e
end
end Rf

set_option Elab.async false
set_option linter.all false
set_option maxRecDepth 100000
set_option maxHeartbeats 4000000
/-! Rs2: sorted. -/
namespace Rf
open PySem PySem.Spec PyProof.Rows L2 PySem.W
/-! ### sorting by insertion -/
section
variable {α : Type} {le : α → α → Bool}
theorem insB_perm (x : α) : ∀ l : List α, (insB le x l).Perm (x :: l)
  | [] => .refl _
  | y :: r => by
    unfold insB
    split
    · exact .refl _
    · exact ((insB_perm x r).cons y).trans (List.Perm.swap x y r)
theorem isortB_perm : ∀ l : List α, (isortB le l).Perm l
  | [] => .refl _
  | x :: r => (insB_perm x _).trans ((isortB_perm r).cons x)
theorem insB_pw (h : TotalLe le) (x : α) : ∀ l : List α, l.Pairwise (fun a b => le a b = true) → (insB le x l).Pairwise (fun a b => le a b = true)
  | [], _ => List.pairwise_singleton _ _
  | y :: r, hp => by
    obtain ⟨h1, h2⟩ := List.pairwise_cons.mp hp
    unfold insB
    split
    · rename_i hx
      refine List.pairwise_cons.mpr ⟨fun z hz => ?_, hp⟩
      rcases List.mem_cons.mp hz with rfl | hz
      · exact hx
      · exact h.trans x y z hx (h1 z hz)
    · rename_i hx
      refine List.pairwise_cons.mpr ⟨fun z hz => ?_, insB_pw h x r h2⟩
      rcases List.mem_cons.mp ((insB_perm x r).mem_iff.mp hz) with rfl | hz
      · exact (h.total y z).elim id fun q => absurd q hx
      · exact h1 z hz
theorem isortB_pw (h : TotalLe le) : ∀ l : List α, (isortB le l).Pairwise (fun a b => le a b = true)
  | [] => .nil
  | x :: r => insB_pw h x _ (isortB_pw h r)
theorem insB_filter (h : TotalLe le) (c x : α) : ∀ l : List α, (insB le x l).filter (sameRank le c) = (x :: l).filter (sameRank le c)
  | [] => rfl
  | y :: r => by
    unfold insB
    split
    · rfl
    · rename_i hx
      have ih := insB_filter h c x r
      rw [List.filter_cons] at ih
      rw [List.filter_cons, List.filter_cons, ih, List.filter_cons]
      by_cases hy : sameRank le c y = true
      · by_cases hxc : sameRank le c x = true
        · exfalso
          unfold sameRank at hy hxc
          rw [Bool.and_eq_true] at hy hxc
          exact hx (h.trans x c y hxc.2 hy.1)
        · simp [hxc]
      · simp [hy]
theorem isortB_filter (h : TotalLe le) (c : α) : ∀ l : List α, (isortB le l).filter (sameRank le c) = l.filter (sameRank le c)
  | [] => rfl
  | x :: r => by
    show (insB le x (isortB le r)).filter _ = _
    rw [insB_filter h, List.filter_cons, List.filter_cons, isortB_filter h c r]
theorem isortB_eq (h : TotalLe le) (l : List α) : isortB le l = l.mergeSort le := sort_unique h (isortB_pw h l) fun c => isortB_filter h c l
end
theorem leD_total : TotalLe leD := by
  unfold leD dataLe
  exact sortLe_total _ _ _
/-! ### the values read as data -/
section
variable {X : Cx} {pins : List (Addr × Obj)} {σ : L2.St} {H : Hp} {s : Shared} {φ W : List Addr}
mutual
theorem reads_of (I : Inv X pins σ H s) : ∀ (d : D) (v : V) (u : Value) (p : PyData), toPD d = some p → Rep X.K X.mg φ W H d v → RelV v u → Reads s.heap u p []
  | .int i, _, _, _, e, r, rv => by
    cases r; cases e
    obtain ⟨t, rfl⟩ := rv
    exact .int _ _
  | .str x, _, _, _, e, r, rv => by
    cases r; cases e
    obtain ⟨t, rfl⟩ := rv
    exact .str _ _
  | .tup l, _, _, _, e, r, rv => by
    unfold toPD at e
    obtain ⟨ps, h1, h2⟩ := Option.map_eq_some_iff.mp e
    subst h2
    cases r with
    | @tup a xs _ ha rl =>
      cases rv
      obtain ⟨_, its, r, o, h2, h3, n, h4⟩ := (show ObjOk X.prog X.w H s.heap a (.tup xs) from I.hok a _ ha)
      exact .tuple h2 h3 h4 (by simpa using readsAll_of I l xs its ps h1 rl r)
  | .ktu l, _, _, _, e, r, rv => by
    unfold toPD at e
    obtain ⟨ps, h1, h2⟩ := Option.map_eq_some_iff.mp e
    subst h2
    cases r with
    | @ktu a xs _ ha rl =>
      cases rv
      obtain ⟨its, r, hp, _⟩ := I.tuple (.inr ha)
      obtain ⟨o, h2, h3, n, h4⟩ := hp
      exact .tuple h2 h3 h4 (by simpa using readsAll_of I l xs its ps h1 rl r)
  | .non, _, _, _, e, _, _ => by cases e
  | .bl _, _, _, _, e, _, _ => by cases e
  | .lst _, _, _, _, e, _, _ => by cases e
  | .scr _, _, _, _, e, _, _ => by cases e
  | .dk _, _, _, _, e, _, _ => by cases e
  | .dt _, _, _, _, e, _, _ => by cases e
  | .ref _, _, _, _, e, _, _ => by cases e
  | .glo _, _, _, _, e, _, _ => by cases e
  | .ty _, _, _, _, e, _, _ => by cases e
  | .nop, _, _, _, e, _, _ => by cases e
theorem readsAll_of (I : Inv X pins σ H s) : ∀ (ds : List D) (vs : List V) (us : List Value) (ps : List PyData), toPDs ds = some ps → RepL X.K X.mg φ W H ds vs → Vals vs us → ReadsAll s.heap us ps []
  | [], _, _, _, e, r, rv => by cases r; cases rv; cases e; exact .nil
  | d :: ds, _, _, _, e, r, rv => by
    cases r with
    | cons r1 r2 =>
      cases rv with
      | cons v1 v2 =>
        unfold toPDs at e
        split at e
        · rename_i x xs h1 h2
          cases e
          exact .cons (reads_of I d _ _ _ h1 r1 v1) (readsAll_of I ds _ _ _ h2 r2 v2)
        · cases e
end
end
theorem toPDs_map : ∀ {l : List D} {ps : List PyData}, toPDs l = some ps → l.map encD = ps ∧ ∀ d ∈ l, toPD d = some (encD d)
  | [], _, e => by cases e; exact ⟨rfl, fun d hd => by simp at hd⟩
  | d :: l, _, e => by
    unfold toPDs at e
    split at e
    · rename_i x xs h1 h2
      cases e
      obtain ⟨i1, i2⟩ := toPDs_map h2
      have hx : encD d = x := by unfold encD; rw [h1]; rfl
      refine ⟨by rw [List.map_cons, i1, hx], fun z hz => ?_⟩
      rcases List.mem_cons.mp hz with rfl | hz
      · rw [hx]; exact h1
      · exact i2 z hz
    · cases e
theorem sortOk_ok {ps : List PyData} (h : sortOk ps = true) : SortOk ps ∧ ∀ p ∈ ps, p.depth ≤ 20 := by
  unfold sortOk at h
  simp only [Bool.and_eq_true, Bool.or_eq_true, List.all_eq_true, decide_eq_true_eq, Bool.not_eq_true'] at h
  obtain ⟨⟨h1, h2⟩, h3⟩ := h
  refine ⟨⟨fun d hd d' hd' => h1 d hd d' hd', ?_⟩, h3⟩
  rcases h2 with h2 | h2
  · have tup : ∀ d ∈ ps, ∃ r, d = .tuple r := fun d hd => by
      have := h2 d hd
      cases d <;> first | (cases this; done) | exact ⟨_, rfl⟩
    by_cases hn : ps.all neT = true
    · refine .inl (.inl fun d hd => ?_)
      obtain ⟨r, rfl⟩ := tup d hd
      have := List.all_eq_true.mp hn _ hd
      cases r with
      | nil => cases this
      | cons x r => exact ⟨x, r, rfl⟩
    · exact .inr ⟨tup, by simpa using hn⟩
  · refine .inl (.inr fun d hd => ?_)
    have := h2 d hd
    cases d <;> first | (cases this; done) | exact ⟨fun z => (by cases z), fun xs z => (by cases z)⟩
/-! ### the call -/
section
variable {K : PySem.W.Frag} {mg : Str → Option Value} {φ W : List Addr} {H : Hp}
theorem repL_zip : ∀ {l : List D} {xs : List V}, RepL K mg φ W H l xs → ∀ b ∈ l.zip xs, Rep K mg φ W H b.1 b.2
  | [], _, h, b, hb => by simp at hb
  | d :: l, _, h, b, hb => by
    cases h with
    | cons r t =>
      rw [List.zip_cons_cons] at hb
      rcases List.mem_cons.mp hb with rfl | hb
      · exact r
      · exact repL_zip t b hb
theorem repL_of_pairs : ∀ {bs : List (D × V)}, (∀ b ∈ bs, Rep K mg φ W H b.1 b.2) → RepL K mg φ W H (bs.map (·.1)) (bs.map (·.2))
  | [], _ => .nil
  | b :: bs, h => .cons (h b List.mem_cons_self) (repL_of_pairs fun c hc => h c (List.mem_cons_of_mem _ hc))
theorem vals_of_each : ∀ {out : List Value} {bs : List (D × V)}, EachIs (fun u b => RelV b.2 u) out bs → Vals (bs.map (·.2)) out
  | _, _, .nil => .nil
  | _, _, .cons h t => .cons h (vals_of_each t)
theorem zip_fst : ∀ {l : List D} {xs : List V}, RepL K mg φ W H l xs → (l.zip xs).map (·.1) = l
  | [], _, h => by simp
  | d :: l, _, h => by cases h with | cons r t => rw [List.zip_cons_cons, List.map_cons, zip_fst t]
/-- the values sorted, beside the items sorted -/
theorem sorted_pairs {l : List D} {xs : List V} {ps : List PyData} (h : RepL K mg φ W H l xs) : ((l.zip xs).mergeSort (dataLe false fun b : D × V => encD b.1)).map (·.1) = isortB leD l := by
  have e := sort_maps (r := dataLe false fun b : D × V => encD b.1) (s := leD) (fun b : D × V => b.1) (l := l.zip xs) fun a _ b _ => rfl
  rw [e, zip_fst h, isortB_eq leD_total]
end
section
variable {X : Cx}
theorem each_of {l : List D} {xs : List V} {its : List Value} : ∀ {K : PySem.W.Frag} {mg : Str → Option Value} {φ W : List Addr} {H : Hp}, RepL K mg φ W H l xs → Vals xs its → EachIs (fun u b => RelV b.2 u) its (l.zip xs) := by
  intro K mg φ W H r v
  induction v generalizing l with
  | nil => cases r; exact .nil
  | cons h t ih => cases r with | cons r1 r2 => exact .cons h (ih r2)
/-- a new list, the values sorted -/
theorem c_sortList (hu : X.A.units + 65 < cLine) : CallR X (.builtin "sorted") (fun xs H Q => ∃ φ W s a ys l l', StOk X.K X.mg φ W H s ∧ xs = [.ref a] ∧ H a = some (.lst ys) ∧ RepL X.K X.mg φ W H l ys ∧ sortL l = some l' ∧ Kt X.K X.mg φ W H s (.lst l') Q) := by
  intro pins s σ H xs us Q I rv q
  obtain ⟨φ, W, st, a, ys, l, l', so, rfl, ha, r, e, k⟩ := q
  obtain ⟨its, vv, hl, hz⟩ := I.list (SqL.of ha)
  obtain ⟨u, rfl, ru⟩ := vals1 rv
  obtain rfl : u = Value.ref a := ru
  unfold sortL at e
  cases ep : toPDs l with
  | none => rw [ep] at e; cases e
  | some ps =>
    rw [ep] at e
    have e : (if sortOk ps = true then some (isortB leD l) else none) = some l' := e
    split at e
    · rename_i hok
      cases e
      obtain ⟨hk, hd⟩ := sortOk_ok hok
      obtain ⟨m1, m2⟩ := toPDs_map ep
      have hen : (l.zip ys).map (fun b => encD b.1) = ps := by
        have h := congrArg (List.map encD) (zip_fst r)
        rw [List.map_map] at h
        exact h.trans m1
      have hlen : (l.zip ys).length = ys.length := by rw [List.length_zip, r.length, Nat.min_self]
      refine sorted_dataR (bs := l.zip ys) (enc := fun b => encD b.1) (R := fun u b => RelV b.2 u) hl.isList (each_of r vv) ?_ (by rw [hen]; exact hk) (by rw [hlen]; exact hz) (fun b hb => ?_) fun out ho eo => ?_
      · have key : ∀ {l : List D} {ys : List V} {its : List Value}, RepL X.K X.mg φ W H l ys → Vals ys its → (∀ d ∈ l, toPD d = some (encD d)) → EachIs (fun v (b : D × V) => ∃ as, Reads s.heap v (encD b.1) as) its (l.zip ys) := by
          intro l ys its r vv
          induction vv generalizing l with
          | nil => intro _; cases r; exact .nil
          | cons h t ih =>
            intro hp
            cases r with
            | cons r1 r2 => exact .cons ⟨_, reads_of I _ _ _ _ (hp _ List.mem_cons_self) r1 h⟩ (ih r2 fun d hd => hp d (List.mem_cons_of_mem _ hd))
        exact key r vv m2
      · have hm : encD b.1 ∈ ps := by rw [← hen]; exact List.mem_map.mpr ⟨b, hb, rfl⟩
        have := hd _ hm
        omega
      · obtain ⟨c, hc⟩ := sortedAll_at s.heap its out.toArray
        have vv2 := vals_of_each eo
        have hp0 : H (s.heap.objs.size + 1) = none := I.hok.fresh (Nat.le_succ _)
        have rr : RepL X.K X.mg φ W H (isortB leD l) (((l.zip ys).mergeSort (dataLe false fun b : D × V => encD b.1)).map (·.2)) := by
          rw [← sorted_pairs (ps := ps) r]
          exact repL_of_pairs fun b hb => repL_zip r b (List.mem_mergeSort.mp hb)
        refine ⟨.ref (s.heap.objs.size + 1), upd H (s.heap.objs.size + 1) (.lst (((l.zip ys).mergeSort (dataLe false fun b : D × V => encD b.1)).map (·.2))), I.laid (t' := s.toks) (fun _ _ => sortedAll_old) (Nat.le_succ _) ⟨?_, out, c, vv2, hc⟩, rfl, k.newL so rr hp0⟩
        rw [List.length_map, List.length_mergeSort, hlen]
        exact hz
    · cases e
end
end Rf

set_option Elab.async false
set_option linter.all false
set_option maxRecDepth 100000
set_option maxHeartbeats 4000000
/-! Rs3: sorted of a dict whose keys are tuples. -/
namespace Rf
open PySem PySem.Spec PyProof.Rows L2 PySem.W
section
variable {prog : Program} {w : World} {A : Around}
/-- a dict stands, its entries -/
def RawD (d : Addr) (es : Array DictEntry) (ep : Nat) (h : Heap) : Prop := ∃ o, h.get? d = some o ∧ o.ExactDict ∧ o.data = .dict es ep
theorem RawD.at_ {d : Addr} {es : Array DictEntry} {ep : Nat} {h h' : Heap} (x : RawD d es ep h) (k : ∀ o, h.get? d = some o → h'.get? d = some o) : RawD d es ep h' := let ⟨o, ho, r⟩ := x; ⟨o, k o ho, r⟩
theorem RawD.lt {d : Addr} {es : Array DictEntry} {ep : Nat} {h : Heap} (x : RawD d es ep h) : d < h.objs.size := let ⟨_, ho, _⟩ := x; Heap.lt_size ho
theorem walks_raw (hh : A.handled = none) (it d : Addr) (hne : d ≠ it) (es : Array DictEntry) (ep : Nat) :
    Walks prog w A it [it, d] [it] es.size (fun i v => ∃ en, es[i]? = some en ∧ en.key = v) (fun i h => h.IsKeyIter it d i es.size ep ∧ RawD d es ep h) where
  sub := fun b hb => by simp at hb; simp [hb]
  frame := fun i h h' st hk => by
    obtain ⟨⟨o, ho, r⟩, st2⟩ := st
    exact ⟨⟨o, hk it (by simp) o ho, r⟩, st2.at_ fun o e => hk d (by simp) o e⟩
  item := fun i s Q E hi st hQ => by
    obtain ⟨st1, od, hod, hcd, hdd⟩ := st
    refine next_key_item st1 hod hdd rfl (Array.getElem?_eq_getElem hi) fun h' hit' hs' => ?_
    exact hQ _ h' s.toks ⟨_, Array.getElem?_eq_getElem hi, rfl⟩ ⟨hit', od, hs'.extBut d _ hne hod, hcd, hdd⟩ fun b o hb e => hs'.extBut b o (fun z => hb (by simp [z])) e
  done := fun s Q E st hQ => by
    obtain ⟨st1, od, hod, hcd, hdd⟩ := st
    exact next_key_end hh st1 hod hdd rfl (Nat.le_refl _) fun h' he => hQ h' s.toks fun b o hb e => he b o (fun z => hb (by simp [z])) e
  self := fun _ _ _ _ st hQ => wpAny_pyIter_keyiter st.1 hQ
theorem src_raw {d : Addr} {es : Array DictEntry} {ep : Nat} (lo : (d == sysModules) = false) : KdlSrc prog w "dict" d d es.size (fun i v => ∃ en, es[i]? = some en ∧ en.key = v) (RawD d es ep) where
  type := fun s hm => let ⟨o, ho, hc, _⟩ := hm; ⟨o, ho, hc.1⟩
  there := fun _ hm => ⟨hm.lt, hm.lt⟩
  keep := fun _ _ hm hk => hm.at_ fun o e => hk d (.inl rfl) o e
  notList := by decide
  notTuple := by decide
  hint := fun _ _ s _ hm hq => by
    obtain ⟨o, ho, hc, _⟩ := hm
    exact kdl_hint_dict ⟨o, ho, hc.1⟩ hq
  iter := fun A s hh hm => by
    obtain ⟨o, ho, hc, hd⟩ := hm
    refine ⟨_, _, fun E Q hq => iter_keys lo ho hc hd hq, walks_raw hh _ d (Nat.ne_of_lt (Heap.lt_size ho)) es ep, ⟨_, Heap.get?_push_size _ rfl, rfl, rfl⟩, o, Heap.get?_push_of_some _ ho, hc, hd⟩
end
section
variable {X : Cx}
theorem keyD_rep {K : PySem.W.Frag} {mg : Str → Option Value} {φ W : List Addr} {H : Hp} (k : Key) (hs : kOk k = true) : Rep K mg φ W H (keyD k) (kV k) := by
  cases k with
  | inl i => exact .int i
  | inr x => exact .str x hs
theorem keysD_rep {K : PySem.W.Frag} {mg : Str → Option Value} {φ W : List Addr} {H : Hp} : ∀ (ks : List Key), ks.all kOk = true → RepL K mg φ W H (ks.map keyD) (ks.map kV)
  | [], _ => .nil
  | k :: ks, h => by
    rw [List.all_cons, Bool.and_eq_true] at h
    exact .cons (keyD_rep k h.1) (keysD_rep ks h.2)
/-- the keys' addresses -/
theorem kt_rep {K : PySem.W.Frag} {mg : Str → Option Value} {φ W : List Addr} {H : Hp} : ∀ {l : List (List Key × D)} {kvs : List (List Key × V)} {xs : List (List Key × Addr × Value)}, l.map (·.1) = kvs.map (·.1) → KT H kvs xs → (l.all fun kv => kv.1.all kOk) = true →
    RepL K mg φ W H (l.map fun kv => keyDT kv.1) (xs.map fun z => V.ref z.2.1)
  | [], kvs, _, e, r, _ => by
    have : kvs = [] := by simpa using e.symm
    subst this
    cases r
    exact .nil
  | p :: l, [], _, e, _, _ => by simp at e
  | p :: l, q :: kvs, _, e, r, h => by
    cases r with
    | cons r1 r2 =>
      rw [List.all_cons, Bool.and_eq_true] at h
      simp only [List.map_cons, List.cons.injEq] at e
      refine .cons (.tup ?_ (keysD_rep p.1 h.1)) (kt_rep e.2 r2 h.2)
      rw [e.1]
      exact r1.2.1
theorem refs_vals : ∀ zs : List (List Key × Addr × Value), Vals (zs.map fun z => V.ref z.2.1) (zs.map fun z => Value.ref z.2.1)
  | [] => .nil
  | _ :: zs => .cons rfl (refs_vals zs)
theorem c_sortDict (hcalm : X.calm = true) (hu : X.A.units + 65 < cLine) : CallR X (.builtin "sorted") (fun xs H Q => ∃ φ W s a kvs l l', StOk X.K X.mg φ W H s ∧ xs = [.ref a] ∧ H a = some (.dT kvs) ∧ (l : List (List Key × D)).map (·.1) = kvs.map (·.1) ∧
    (l.all fun kv => kv.1.all kOk) = true ∧ sortL (l.map fun kv => keyDT kv.1) = some l' ∧ Kt X.K X.mg φ W H s (.lst l') Q) := by
  intro pins s σ H xs us Q I rv q
  obtain ⟨φ, W, st, a, kvs, l, l', so, rfl, ha, ek, hko, e, k⟩ := q
  obtain ⟨u, rfl, ru⟩ := vals1 rv
  obtain rfl : u = Value.ref a := ru
  obtain ⟨z, lo, zs, kt, o, es, ep, ho, hx, hdt, he, _⟩ := (show ObjOk X.prog X.w H s.heap a (.dT kvs) from I.hok a _ ha)
  have hes : es.size = zs.length := size_of_entries he
  have hzl : kvs.length = zs.length := Paired.length kt
  have rl := kt_rep (K := X.K) (mg := X.mg) (φ := φ) (W := W) ek kt hko
  have hl1 : (l.map fun kv => keyDT kv.1).length = zs.length := by rw [rl.length, List.length_map]
  refine Calls.call_function_entry PyProof.Rows.kind_sorted PyProof.Rows.plain_sorted PyProof.Rows.entry_sorted (PyProof.Rows.args_sorted1 _) ?_
  unfold Builtin.«sorted»
  refine wpAny_bind (m := checkCount "sorted" 1 1 _) (wpAny_pure ?_)
  refine wpAny_bind (kdu_collect (A := X.A.in1) (src_raw (es := es) (ep := ep) lo) (I.ok.hd hcalm) ⟨o, ho, hx, hdt⟩ (by rw [hes, ← hzl]; exact z) fun h' tk acc hk hacc => ?_)
  have hal : acc.toList = zs.map fun z => Value.ref z.2.1 := by
    apply List.ext_getElem?
    intro j
    cases hj : acc.toList[j]? with
    | none =>
      have h1 : acc.size ≤ j := by simpa using List.getElem?_eq_none_iff.mp hj
      rw [List.getElem?_eq_none (by rw [List.length_map, ← hes, ← hacc.1]; exact h1)]
    | some v =>
      obtain ⟨en, e1, e2⟩ := hacc.2 j v (by rw [← Array.getElem?_toList]; exact hj)
      have e3 := entry_at he j
      rw [e1] at e3
      obtain ⟨x, h1, h2⟩ := Option.map_eq_some_iff.mp e3.symm
      rw [List.getElem?_map, h1]
      subst e2
      rw [← h2]
      rfl
  have I1 : Inv X pins σ H { s with heap := h', toks := tk } := I.kept hk
  have hlen : acc.toList.length = zs.length := by rw [hal, List.length_map]
  refine wpAny_bind (wpAny_newList ?_ (by rw [hlen, ← hzl]; exact z))
  have hoL : (h'.push (seqObj "list" acc.toList.toArray 0)).get? h'.objs.size = some (seqObj "list" acc.toList.toArray 0) := Heap.get?_push_size _ rfl
  have I2 : Inv X pins σ H { s with heap := h'.push (seqObj "list" acc.toList.toArray 0), toks := tk } := I.kept fun b o e => Heap.get?_push_of_some _ (hk b o e)
  show wpAny _ _ _ _ _ { s with heap := h'.push (seqObj "list" acc.toList.toArray 0), toks := tk }
  unfold sortL at e
  cases eps : toPDs (l.map fun kv => keyDT kv.1) with
  | none => rw [eps] at e; cases e
  | some ps =>
    rw [eps] at e
    have e : (if sortOk ps = true then some (isortB leD (l.map fun kv => keyDT kv.1)) else none) = some l' := e
    split at e
    · rename_i hok
      cases e
      obtain ⟨hsk, hd⟩ := sortOk_ok hok
      obtain ⟨m1, m2⟩ := toPDs_map eps
      have vv : Vals (zs.map fun z => V.ref z.2.1) acc.toList := by
        rw [hal]
        exact refs_vals zs
      have hen : ((l.map fun kv => keyDT kv.1).zip (zs.map fun z => V.ref z.2.1)).map (fun b => encD b.1) = ps := by
        have h := congrArg (List.map encD) (zip_fst rl)
        rw [List.map_map] at h
        exact h.trans m1
      have hzz : ((l.map fun kv => keyDT kv.1).zip (zs.map fun z => V.ref z.2.1)).length = zs.length := by rw [List.length_zip, hl1, List.length_map, Nat.min_self]
      have rd : ∀ {l : List D} {ys : List V} {its : List Value}, RepL X.K X.mg φ W H l ys → Vals ys its → (∀ d ∈ l, toPD d = some (encD d)) →
          EachIs (fun v (b : D × V) => ∃ as, Reads (h'.push (seqObj "list" acc.toList.toArray 0)) v (encD b.1) as ∧ h'.objs.size ∉ as) its (l.zip ys) := by
        intro l ys its r vv
        induction vv generalizing l with
        | nil => intro _; cases r; exact .nil
        | cons h t ih =>
          intro hp
          cases r with
          | cons r1 r2 => exact .cons ⟨_, reads_of I2 _ _ _ _ (hp _ List.mem_cons_self) r1 h, by simp⟩ (ih r2 fun d hd => hp d (List.mem_cons_of_mem _ hd))
      refine wpAny_bind (wpAny_holding (list_sort_dataR (s := { s with heap := h'.push (seqObj "list" acc.toList.toArray 0), toks := tk }) (R := fun u b => RelV b.2 u) (enc := fun b : D × V => encD b.1) hoL (each_of rl vv) (rd rl vv m2) (by rw [hen]; exact hsk) (by rw [hzz, ← hzl]; exact z) (fun b hb => ?_) fun out ho2 eo => ?_))
      · have hm : encD b.1 ∈ ps := by rw [← hen]; exact List.mem_map.mpr ⟨b, hb, rfl⟩
        have := hd _ hm
        show X.A.in1.units + 1 + _ < _
        have e1 : X.A.in1.units ≤ X.A.units + 1 := by
          unfold Around.in1 <;> simp [Around.units]
        omega
      · obtain ⟨c, hc⟩ := PyProof.Rows.sortedHeap_at (vs := acc.toList) (out := out.toArray) hoL
        have vv2 := vals_of_each eo
        have hp0 : H h'.objs.size = none := I1.hok.fresh (Nat.le_refl _)
        have rr : RepL X.K X.mg φ W H (isortB leD (l.map fun kv => keyDT kv.1)) ((((l.map fun kv => keyDT kv.1).zip (zs.map fun z => V.ref z.2.1)).mergeSort (dataLe false fun b : D × V => encD b.1)).map (·.2)) := by
          rw [← sorted_pairs (ps := ps) rl]
          exact repL_of_pairs fun b hb => repL_zip rl b (List.mem_mergeSort.mp hb)
        refine wpAny_pure ⟨_, rfl, .ref h'.objs.size, upd H h'.objs.size (.lst ((((l.map fun kv => keyDT kv.1).zip (zs.map fun z => V.ref z.2.1)).mergeSort (dataLe false fun b : D × V => encD b.1)).map (·.2))), I1.laid (t' := tk) (fun b u e => ?_) (Nat.le_refl _)
          (show ObjOk X.prog X.w _ _ _ (.lst _) from ⟨?_, out, c, vv2, hc⟩), rfl, k.newL so rr hp0⟩
        · have hb : b < h'.objs.size := Heap.lt_size e
          rw [PyProof.Rows.sortedHeap_old (Nat.ne_of_lt hb) (by rw [size_push']; exact Nat.lt_succ_of_lt hb)]
          exact Heap.get?_push_of_some _ e
        · rw [List.length_map, List.length_mergeSort, hzz, ← hzl]
          exact z
    · cases e
end
end Rf

set_option Elab.async false
set_option linter.all false
set_option maxRecDepth 100000
set_option maxHeartbeats 1000000
/-! Rf7: targets, what is walked, comprehensions, append. -/
namespace Rf
open PySem PySem.Spec PyProof.Rows L2

section
variable {K : PySem.W.Frag} {mg : Str → Option Value} {φ φ' W W2 : List Addr} {H H' : Hp}
/-! ### more or fewer protected objects -/
def WExt (H : Hp) (W W2 : List Addr) : Prop := ∀ a ∈ W2, a ∈ W ∨ H a = none
theorem WExt.refl : WExt H W W := fun _ h => .inl h
mutual
theorem Rep.wext' (x : WExt H W W2) : ∀ (d : D) (v : V), Rep K mg φ W H d v → Rep K mg φ W2 H d v
  | .non, _, h => by cases h; exact .non
  | .bl b, _, h => by cases h; exact .bl b
  | .int i, _, h => by cases h; exact .int i
  | .str y, _, h => by cases h with | str _ e => exact .str y e
  | .ty t, _, h => by cases h; exact .ty t
  | .glo y, _, h => by cases h with | glo e => exact .glo e
  | .ref m, _, h => by cases h with | ref e => exact .ref e
  | .tup ds, _, h => by cases h with | tup e r => exact .tup e (RepL.wext' x ds _ r)
  | .ktu ds, _, h => by cases h with | ktu e r => exact .ktu e (RepL.wext' x ds _ r)
  | .lst ds, _, h => by
    cases h with
    | @lst a _ _ e n n' r =>
      refine .lst e n (fun z => ?_) (RepL.wext' x ds _ r)
      rcases x a z with z | z
      · exact n' z
      · rw [e] at z; cases z
  | .scr ds, _, h => by cases h with | scr e r => exact .scr e (RepL.wext' x ds _ r)
  | .dk _, _, h => by cases h
  | .dt _, _, h => by cases h
  | .nop, _, h => by cases h
theorem RepL.wext' (x : WExt H W W2) : ∀ (ds : List D) (vs : List V), RepL K mg φ W H ds vs → RepL K mg φ W2 H ds vs
  | [], _, h => by cases h; exact .nil
  | d :: ds, _, h => by cases h with | cons r t => exact .cons (Rep.wext' x d _ r) (RepL.wext' x ds _ t)
end
theorem Rep.wext (x : WExt H W W2) {d : D} {v : V} (h : Rep K mg φ W H d v) : Rep K mg φ W2 H d v := Rep.wext' x d v h
theorem RepL.wext (x : WExt H W W2) {d : List D} {v : List V} (h : RepL K mg φ W H d v) : RepL K mg φ W2 H d v := RepL.wext' x d v h
theorem EnvOk.wext (x : WExt H W W2) {ρ : Env} {σ : L2.St} (h : EnvOk K mg φ W H ρ σ) : EnvOk K mg φ W2 H ρ σ :=
  ⟨h.len, fun i d e => let ⟨v, a, b⟩ := h.get i d e; ⟨v, a, b.wext x⟩⟩
theorem MOk.wext (x : WExt H W W2) {a : Addr} {o : MO} (h : MOk K mg φ W H a o) : MOk K mg φ W2 H a o := by
  cases o with
  | lst l => obtain ⟨xs, e, r⟩ := h; exact ⟨xs, e, r.wext x⟩
  | dk l => obtain ⟨xs, e, r⟩ := h; exact ⟨xs, e, r.1, r.2.wext x⟩
  | dt l => obtain ⟨xs, e, r⟩ := h; exact ⟨xs, e, r.1, r.2.wext x⟩
  | lkd => exact h
/-- a protected list is written -/
theorem Rd.updW {D₀ : Addr} {xs ys zs : List V} (hD : H D₀ = some (.lst xs)) {a : Addr} (h : SqT K H a zs) : SqT K (upd H D₀ (.lst ys)) a zs := by
  have ne : ∀ {o : HO}, H a = some o → (∀ z, o ≠ .lst z) → a ≠ D₀ := fun e n z => by rw [z, hD] at e; cases e; exact n _ rfl
  rcases h with (h | ⟨o, h⟩) | h
  · exact .inl (.inl (by rw [upd_ne (ne h (fun z q => by cases q))]; exact h))
  · exact .inl (.inr ⟨o, by rw [upd_ne (ne h (fun z q => by cases q))]; exact h⟩)
  · exact .inr h
mutual
theorem Rep.updW' {D₀ : Addr} {xs ys : List V} (hD : H D₀ = some (.lst xs)) (hw : D₀ ∈ W) : ∀ (d : D) (v : V), Rep K mg φ W H d v → Rep K mg φ W (upd H D₀ (.lst ys)) d v
  | .non, _, h => by cases h; exact .non
  | .bl b, _, h => by cases h; exact .bl b
  | .int i, _, h => by cases h; exact .int i
  | .str y, _, h => by cases h with | str _ e => exact .str y e
  | .ty t, _, h => by cases h; exact .ty t
  | .glo y, _, h => by cases h with | glo e => exact .glo e
  | .ref m, _, h => by cases h with | ref e => exact .ref e
  | .tup ds, _, h => by cases h with | tup e r => exact .tup (by rw [upd_ne (fun z => by rw [z, hD] at e; cases e)]; exact e) (RepL.updW' hD hw ds _ r)
  | .ktu ds, _, h => by cases h with | ktu e r => exact .ktu e (RepL.updW' hD hw ds _ r)
  | .lst ds, _, h => by
    cases h with
    | @lst a _ _ e n n' r =>
      exact .lst (by rw [upd_ne (fun (z : a = D₀) => n' (by rw [z]; exact hw))]; exact e) n n' (RepL.updW' hD hw ds _ r)
  | .scr ds, _, h => by
    cases h with
    | @scr a _ _ e r =>
      refine .scr ?_ (RepL.updW' hD hw ds _ r)
      rcases e with (⟨o, e⟩ | e) | e
      · exact .inl (.inl ⟨o, by rw [upd_ne (fun (z : a = D₀) => by rw [z, hD] at e; cases e)]; exact e⟩)
      · exact .inl (.inr e)
      · exact .inr e
  | .dk _, _, h => by cases h
  | .dt _, _, h => by cases h
  | .nop, _, h => by cases h
theorem RepL.updW' {D₀ : Addr} {xs ys : List V} (hD : H D₀ = some (.lst xs)) (hw : D₀ ∈ W) : ∀ (ds : List D) (vs : List V), RepL K mg φ W H ds vs → RepL K mg φ W (upd H D₀ (.lst ys)) ds vs
  | [], _, h => by cases h; exact .nil
  | d :: ds, _, h => by cases h with | cons r t => exact .cons (Rep.updW' hD hw d _ r) (RepL.updW' hD hw ds _ t)
end
theorem StOk.updW {s : Store} {D₀ : Addr} {xs ys : List V} (h : StOk K mg φ W H s) (hD : H D₀ = some (.lst xs)) (hw : D₀ ∈ W) : StOk K mg φ W (upd H D₀ (.lst ys)) s := by
  have nD := (h.w D₀ hw).1
  refine ⟨h.nd, h.len, fun m a o e1 e2 => ?_, fun a ha => ?_⟩
  · have ne : a ≠ D₀ := fun z => nD (by rw [← z]; exact List.mem_of_getElem? e1)
    have q := h.obj m a o e1 e2
    cases o with
    | lst l => obtain ⟨zs, e, r⟩ := q; exact ⟨zs, by rw [upd_ne ne]; exact e, RepL.updW' hD hw l zs r⟩
    | dk l => obtain ⟨zs, e, r⟩ := q; exact ⟨zs, by rw [upd_ne ne]; exact e, r.1, RepL.updW' hD hw _ _ r.2⟩
    | dt l => obtain ⟨zs, e, r⟩ := q; exact ⟨zs, by rw [upd_ne ne]; exact e, r.1, RepL.updW' hD hw _ _ r.2⟩
    | lkd => obtain ⟨o, u, e⟩ := q; exact ⟨o, u, by rw [upd_ne ne]; exact e⟩
  · obtain ⟨n, o, e⟩ := h.w a ha
    by_cases z : a = D₀
    · subst z; exact ⟨n, _, upd_same⟩
    · exact ⟨n, o, by rw [upd_ne z]; exact e⟩
/-- a list that was not there at the start is written -/
theorem Ext.updFree {D₀ : Addr} {o : HO} (x : Ext φ H φ' H') (hn : H D₀ = none) : Ext φ H φ' (upd H' D₀ o) := by
  have ne : ∀ {a u}, H a = some u → a ≠ D₀ := fun e z => by rw [z, hn] at e; cases e
  exact ⟨x.pre, fun a u e n => ⟨by rw [upd_ne (ne e)]; exact (x.keep a u e n).1, (x.keep a u e n).2⟩, fun a u e => by rw [upd_ne (ne e)]; exact x.tups a u e,
    fun a u v e => by rw [upd_ne (ne e)]; exact x.frzs a u v e, fun a u e => by rw [upd_ne (ne e)]; exact x.some_ a u e⟩
theorem StOk.fewer {s : Store} (h : StOk K mg φ W H s) (hs : ∀ a ∈ W2, a ∈ W) : StOk K mg φ W2 H s :=
  ⟨h.nd, h.len, fun m a o e1 e2 => (h.obj m a o e1 e2).wext fun a ha => .inl (hs a ha), fun a ha => h.w a (hs a ha)⟩
theorem StOk.more {s : Store} {D₀ : Addr} {o : HO} (h : StOk K mg φ W H s) (hn : H D₀ = none) : StOk K mg φ (D₀ :: W) (upd H D₀ o) s := by
  have q := h.new (o := o) hn
  refine ⟨q.nd, q.len, fun m a ob e1 e2 => ?_, fun a ha => ?_⟩
  · have z := (h.obj m a ob e1 e2).wext (W2 := D₀ :: W) (fun b hb => by
      rcases List.mem_cons.mp hb with e | e
      · exact .inr (by rw [e]; exact hn)
      · exact .inl e)
    obtain ⟨u, hu, _⟩ := h.tracked (List.mem_of_getElem? e1)
    exact z.up (Ext.new hn) (upd_ne (fun e => by rw [e, hn] at hu; cases hu))
  · rcases List.mem_cons.mp ha with e | e
    · rw [e]; exact ⟨(h.free hn).1, _, upd_same⟩
    · exact q.w a e
end

/-! ### targets -/
def gNames : List Nat → TGs
  | [] => gNil
  | i :: is => gCons (gName i) (gNames is)
def gT (K : PySem.W.Frag) : TGT → TG
  | .nm i => gName i
  | .tp is => gTup K is.length (gNames is)
def TGT.slots : TGT → List Nat
  | .nm i => [i]
  | .tp is => is
section
variable {K : PySem.W.Frag} {mg : Str → Option Value} {φ φ' W W2 : List Addr} {H H' : Hp}
theorem EnvOk.set {ρ : Env} {σ : L2.St} {i : Nat} {d : D} {v : V} (h : EnvOk K mg φ W H ρ σ) (r : Rep K mg φ W H d v) : EnvOk K mg φ W H (ρ.set i (some d)) (σ.set i (some v)) := by
  refine ⟨by simp [h.len], fun j d' e => ?_⟩
  by_cases hj : i = j
  · subst hj
    by_cases hi : i < ρ.length
    · rw [List.getElem?_set_self hi] at e
      cases e
      exact ⟨v, by rw [List.getElem?_set_self (by rw [← h.len]; exact hi)], r⟩
    · rw [List.getElem?_eq_none (by simpa using hi)] at e; cases e
  · rw [List.getElem?_set_ne hj] at e ⊢
    exact h.get j d' e
theorem EnvOk.unset {ρ : Env} {σ : L2.St} {i : Nat} (h : EnvOk K mg φ W H ρ σ) : EnvOk K mg φ W H (ρ.set i none) (σ.set i none) := by
  refine ⟨by simp [h.len], fun j d' e => ?_⟩
  by_cases hj : i = j
  · subst hj
    by_cases hi : i < ρ.length
    · rw [List.getElem?_set_self hi] at e; cases e
    · rw [List.getElem?_eq_none (by simpa using hi)] at e; cases e
  · rw [List.getElem?_set_ne hj] at e ⊢
    exact h.get j d' e
theorem EnvOk.wipe {ρ : Env} {σ : L2.St} (h : EnvOk K mg φ W H ρ σ) : ∀ vs : List Nat, EnvOk K mg φ W H (wipeE ρ vs) (L2.wipe σ vs)
  | [] => h
  | _ :: vs => (EnvOk.wipe h vs).unset
theorem wipe_set {σ : L2.St} {i : Nat} {x : Option V} : ∀ {vs : List Nat}, i ∈ vs → L2.wipe (σ.set i x) vs = L2.wipe σ vs
  | [], h => by cases h
  | v :: vs, h => by
    unfold L2.wipe
    by_cases hv : i ∈ vs
    · rw [wipe_set hv]
    · have e : i = v := by
        rcases List.mem_cons.mp h with e | e
        · exact e
        · exact absurd e hv
      subst e
      have key : ∀ us : List Nat, i ∉ us → (L2.wipe (σ.set i x) us).set i none = (L2.wipe σ us).set i none := by
        intro us
        induction us with
        | nil => intro _; show (σ.set i x).set i none = σ.set i none; rw [List.set_set]
        | cons u us ih =>
          intro hn
          have hu : i ≠ u := fun e => hn (by rw [e]; exact List.mem_cons_self)
          show ((L2.wipe (σ.set i x) us).set u none).set i none = ((L2.wipe σ us).set u none).set i none
          rw [List.set_comm _ _ (Ne.symm hu), List.set_comm _ _ (Ne.symm hu), ih fun h => hn (List.mem_cons_of_mem _ h)]
      exact key vs hv
theorem names_ok : ∀ {is : List Nat} {ds : List D} {vs : List V} {ρ : Env} {σ : L2.St} {Q : L2.St → Hp → Prop}, RepL K mg φ W H ds vs → ds.length = is.length → EnvOk K mg φ W H ρ σ →
    (∀ σ', EnvOk K mg φ W H (putN ρ is ds) σ' → (∀ us, (∀ i ∈ is, i ∈ us) → L2.wipe σ' us = L2.wipe σ us) → Q σ' H) → gNames is vs σ H Q
  | [], ds, vs, ρ, σ, Q, r, hl, eo, q => by
    cases ds with
    | nil => cases r; exact ⟨rfl, q σ eo fun _ _ => rfl⟩
    | cons => cases hl
  | i :: is, ds, vs, ρ, σ, Q, r, hl, eo, q => by
    cases ds with
    | nil => cases hl
    | cons d ds =>
      cases r with
      | cons r1 r2 =>
        refine ⟨_, _, rfl, ?_⟩
        refine names_ok r2 (by simpa using hl) (eo.set r1) fun σ' eo' hw => q σ' eo' fun us hu => ?_
        rw [hw us fun j hj => hu j (List.mem_cons_of_mem _ hj), wipe_set (hu i List.mem_cons_self)]
theorem gT_ok {t : TGT} {s : Store} {d : D} {v : V} {ρ ρ' : Env} {σ : L2.St} {Q : L2.St → Hp → Prop} (e : asgT s t d ρ = some ρ') (r : Rep K mg φ W H d v) (eo : EnvOk K mg φ W H ρ σ)
    (q : ∀ σ', EnvOk K mg φ W H ρ' σ' → (∀ us, (∀ i ∈ t.slots, i ∈ us) → L2.wipe σ' us = L2.wipe σ us) → Q σ' H) : gT K t v σ H Q := by
  cases t with
  | nm i =>
    cases e
    exact q _ (eo.set r) fun us hu => wipe_set (hu i (by simp [TGT.slots]))
  | tp is =>
    cases d <;> simp only [asgT, reduceCtorEq] at e
    · split at e
      · rename_i hl
        cases e
        cases r with
        | tup h r => exact ⟨_, _, rfl, sqT_of h, by rw [← r.length]; exact hl, names_ok r hl eo q⟩
      · cases e
    · split at e
      · rename_i hl
        cases e
        cases r with
        | ktu h r => exact ⟨_, _, rfl, .inr h, by rw [← r.length]; exact hl, names_ok r hl eo q⟩
      · cases e

/-! ### what is walked -/
structure ItOk (K : PySem.W.Frag) (mg : Str → Option Value) (φ W : List Addr) (H : Hp) (is : IS) (J : It) : Prop where
  go : ∀ i φ2 W2 H2 s2 d, Ext φ H φ2 H2 → WExt H W W2 → StOk K mg φ2 W2 H2 s2 → itemAt is s2 i = some (some d) → J.go i H2 ∧ ∀ x H3, J.yld i H2 x H3 → Ext φ2 H2 φ2 H3 ∧ StOk K mg φ2 W2 H3 s2 ∧ Rep K mg φ2 W2 H3 d x
  stop : ∀ i φ2 W2 H2 s2, Ext φ H φ2 H2 → WExt H W W2 → StOk K mg φ2 W2 H2 s2 → itemAt is s2 i = some none → J.stop i H2
def tI (K : PySem.W.Frag) (mg : Str → Option Value) (f : Env → Store → R D) : TI := fun σ H Rr => ∃ φ W ρ s d is s', EnvOk K mg φ W H ρ σ ∧ StOk K mg φ W H s ∧ f ρ s = .ok d s' ∧ iterD s' d = some is ∧
  ∀ φ' H' J, Ext φ H φ' H' → StOk K mg φ' W H' s' → ItOk K mg φ' W H' is J → Rr J H'
theorem it_tup {l : List D} {a : Addr} {xs : List V} (h : SqT K H a xs) (r : RepL K mg φ W H l xs) : ItOk K mg φ W H (.snap l) (Itt K a) := by
  refine ⟨fun i φ2 W2 H2 s2 d x w so e => ?_, fun i φ2 W2 H2 s2 x w so e => ?_⟩
  · have e : l[i]? = some d := Option.some.inj e
    have r2 := (r.wext w).up x
    obtain ⟨v, h1, h2⟩ := r2.get e
    refine ⟨⟨xs, v, x.sqT h, h1⟩, fun y H3 ⟨e3, hy⟩ => ?_⟩
    subst e3
    have := hy xs (x.sqT h)
    rw [h1] at this
    cases this
    exact ⟨Ext.refl _ _, so, h2⟩
  · have e : l[i]? = none := Option.some.inj e
    exact ⟨xs, x.sqT h, by rw [← r.length]; exact List.getElem?_eq_none_iff.mp e⟩
theorem it_lst {l : List D} {a : Addr} {xs : List V} (h : ∀ φ2 H2, Ext φ H φ2 H2 → SqL K H2 a xs) (r : RepL K mg φ W H l xs) : ItOk K mg φ W H (.snap l) (Itl K a) := by
  refine ⟨fun i φ2 W2 H2 s2 d x w so e => ?_, fun i φ2 W2 H2 s2 x w so e => ?_⟩
  · have e : l[i]? = some d := Option.some.inj e
    have r2 := (r.wext w).up x
    obtain ⟨v, h1, h2⟩ := r2.get e
    refine ⟨⟨xs, v, h _ _ x, h1⟩, fun y H3 ⟨e3, hy⟩ => ?_⟩
    subst e3
    have := hy xs (h _ _ x)
    rw [h1] at this
    cases this
    exact ⟨Ext.refl _ _, so, h2⟩
  · have e : l[i]? = none := Option.some.inj e
    exact ⟨xs, h _ _ x, by rw [← r.length]; exact List.getElem?_eq_none_iff.mp e⟩
theorem it_live {m : Nat} {a : Addr} (h : φ[m]? = some a) : ItOk K mg φ W H (.live m) (Itl K a) := by
  have key : ∀ {φ2 W2 H2 s2 l}, Ext φ H φ2 H2 → StOk K mg φ2 W2 H2 s2 → s2[m]? = some (.lst l) → ∃ xs, H2 a = some (.lst xs) ∧ RepL K mg φ2 W2 H2 l xs := fun x so e => so.obj m a _ (x.get h) e
  refine ⟨fun i φ2 W2 H2 s2 d x w so e => ?_, fun i φ2 W2 H2 s2 x w so e => ?_⟩
  · unfold itemAt at e
    simp only at e
    cases hs : s2[m]? with
    | none => rw [hs] at e; cases e
    | some o =>
      rw [hs] at e
      cases o with
      | dk l => cases e
      | dt l => cases e
      | lkd => cases e
      | lst l =>
        have e : l[i]? = some d := Option.some.inj e
        obtain ⟨xs, h1, r⟩ := key x so hs
        obtain ⟨v, h2, h3⟩ := r.get e
        refine ⟨⟨xs, v, SqL.of h1, h2⟩, fun y H3 ⟨e3, hy⟩ => ?_⟩
        subst e3
        have := hy xs (SqL.of h1)
        rw [h2] at this
        cases this
        exact ⟨Ext.refl _ _, so, h3⟩
  · unfold itemAt at e
    simp only at e
    cases hs : s2[m]? with
    | none => rw [hs] at e; cases e
    | some o =>
      rw [hs] at e
      cases o with
      | dk l => cases e
      | dt l => cases e
      | lkd => cases e
      | lst l =>
        have e : l[i]? = none := Option.some.inj e
        obtain ⟨xs, h1, r⟩ := key x so hs
        exact ⟨xs, SqL.of h1, by rw [← r.length]; exact List.getElem?_eq_none_iff.mp e⟩
theorem it_rng {lo : Int} {n : Nat} : ItOk K mg φ W H (.snap ((List.range n).map fun (k : Nat) => D.int (lo + (k : Int)))) (Itr lo n) := by
  refine ⟨fun i φ2 W2 H2 s2 d x w so e => ?_, fun i φ2 W2 H2 s2 x w so e => ?_⟩
  · have e : ((List.range n).map fun (k : Nat) => D.int (lo + (k : Int)))[i]? = some d := Option.some.inj e
    have hi : i < n := by
      have := (List.getElem?_eq_some_iff.mp e).1
      simpa using this
    rw [List.getElem?_map, List.getElem?_range hi] at e
    cases e
    refine ⟨hi, fun y H3 ⟨e3, hy⟩ => ?_⟩
    subst e3
    rw [show y = .int (lo + (i : Int)) from hy]
    exact ⟨Ext.refl _ _, so, .int _⟩
  · have e : ((List.range n).map fun (k : Nat) => D.int (lo + (k : Int)))[i]? = none := Option.some.inj e
    have := List.getElem?_eq_none_iff.mp e
    show n ≤ i
    simpa using this
end
theorem _root_.L2.PI.or {X : Cx} {tg e : Expr} {w w' : TI} (h : PI X tg e w) (h' : PI X tg e w') : PI X tg e (fun σ H Rr => w σ H Rr ∨ w' σ H Rr) :=
  ⟨fun pins s σ H Rr I q => q.elim (h.run pins s σ H Rr I) (h'.run pins s σ H Rr I)⟩
theorem _root_.L2.PI.imp {X : Cx} {tg e : Expr} {w w' : TI} (h : PI X tg e w) (i : ∀ σ H Rr, w' σ H Rr → w σ H Rr) : PI X tg e w' :=
  ⟨fun pins s σ H Rr I q => h.run pins s σ H Rr I (i _ _ _ q)⟩
abbrev PIf (X : Cx) (tg e : Expr) (f : Env → Store → R D) : Prop := PI X tg e (tI X.K X.mg f)
/-- a list or a tuple: told when it is there -/
theorem pi_seq {X : Cx} {tg l : Expr} {tl : TE} (hl : PE X l tl) : PI X tg l (fun σ H R => tl σ H fun x H1 => ∃ a, x = .ref a ∧ (((∃ xs, SqL X.K H1 a xs) ∧ R (Itl X.K a) H1) ∨ ((∃ xs, SqT X.K H1 a xs) ∧ R (Itt X.K a) H1))) := by
  refine ⟨fun pins s σ H R I h => ?_⟩
  refine thn (hl.run pins s σ H _ I h) fun v s1 ⟨x, H1, I1, r1, q1⟩ => ?_
  obtain ⟨a, e, q⟩ := q1
  subst e
  cases r1
  rcases q with ⟨⟨xs, hq⟩, q⟩ | ⟨⟨xs, hq⟩, q⟩
  · obtain ⟨its, rv, p, hz⟩ := I1.list hq
    refine wpAny_pyIter_list p.isList ?_
    refine ⟨s1.heap.objs.size, [s1.heap.objs.size], _, _, H1, rfl, I1.kept (t' := s1.toks) fun b o e => Heap.get?_push_of_some _ e, turn_list a _, ⟨_, Heap.get?_push_size _ rfl, rfl, rfl⟩, fun b hb => ?_, q⟩
    have e : b = s1.heap.objs.size := by simpa using hb
    subst e
    exact I1.fpOk (Nat.le_refl _) (I1.hok.fresh (Nat.le_refl _))
  · obtain ⟨its, rv, p, hz⟩ := I1.tuple hq
    refine wpAny_pyIter_tuple (show s1.heap.IsTuple a its.toArray from p) ?_
    refine ⟨s1.heap.objs.size, [s1.heap.objs.size], _, _, H1, rfl, I1.kept (t' := s1.toks) fun b o e => Heap.get?_push_of_some _ e, turn_tuple a _, ⟨_, Heap.get?_push_size _ rfl, rfl, rfl⟩, fun b hb => ?_, q⟩
    have e : b = s1.heap.objs.size := by simpa using hb
    subst e
    exact I1.fpOk (Nat.le_refl _) (I1.hok.fresh (Nat.le_refl _))
theorem it_str {K : PySem.W.Frag} {mg : Str → Option Value} {φ W : List Addr} {H : Hp} {x : Str} (hx : PyData.strOk x = true) : ItOk K mg φ W H (.snap (x.cps.toList.map fun c => .str ⟨#[c]⟩)) (Its x) := by
  refine ⟨fun i φ2 W2 H2 s2 d _ w so e => ?_, fun i φ2 W2 H2 s2 _ w so e => ?_⟩
  · have e : (x.cps.toList.map fun c => D.str ⟨#[c]⟩)[i]? = some d := Option.some.inj e
    rw [List.getElem?_map] at e
    obtain ⟨c, h1, rfl⟩ := Option.map_eq_some_iff.mp e
    have h2 : x.cps[i]? = some c := by rw [← Array.getElem?_toList]; exact h1
    refine ⟨(Array.getElem?_eq_some_iff.mp h2).1, fun y H3 ⟨e3, c', h3, h4⟩ => ?_⟩
    subst e3
    rw [h2] at h3
    cases h3
    subst h4
    refine ⟨Ext.refl _ _, so, .str _ ?_⟩
    unfold PyData.strOk at *
    have o2 := (Array.all_eq_true_iff_forall_mem.mp hx) c (Array.mem_of_getElem? h2)
    simpa using o2
  · have e : (x.cps.toList.map fun c => D.str ⟨#[c]⟩)[i]? = none := Option.some.inj e
    have := List.getElem?_eq_none_iff.mp e
    show x.cps.size ≤ i
    simpa using this
theorem pif_val {X : Cx} {tg e : Expr} {f : Env → Store → R D} (h : PEf X e f) : PIf X tg e f :=
  ((pi_seq h).or (pi_str h)).imp fun σ H Rr q => by
    obtain ⟨φ, W, ρ, s, d, is, s', eo, so, e, ei, k⟩ := q
    cases d <;> simp only [iterD, reduceCtorEq, Option.some.injEq] at ei
    case str x =>
      subst ei
      refine .inr ⟨φ, W, ρ, s, _, s', eo, so, e, fun φ1 H1 v x1 so1 r => ?_⟩
      cases r with
      | str _ o => exact ⟨x, rfl, k φ1 H1 _ x1 so1 (it_str o)⟩
    case ref m =>
      refine .inl ⟨φ, W, ρ, s, _, s', eo, so, e, fun φ1 H1 v x1 so1 r => ?_⟩
      obtain ⟨_, e0, ei⟩ := Option.map_eq_some_iff.mp ei
      subst ei
      cases r with
      | @ref _ a h =>
        have hm : m < s'.length := by rw [← so1.len]; exact (List.getElem?_eq_some_iff.mp h).1
        have q := so1.obj m a _ h (List.getElem?_eq_getElem hm)
        have k2 := k φ1 H1 _ x1 so1 (it_live h)
        unfold isLst at e0
        simp only [List.getElem?_eq_getElem hm] at e0
        cases hs : s'[m] with
        | lst l => rw [hs] at q; obtain ⟨xs, h1, _⟩ := q; exact ⟨_, rfl, .inl ⟨⟨_, SqL.of h1⟩, k2⟩⟩
        | dk l => rw [hs] at e0; cases e0
        | dt l => rw [hs] at e0; cases e0
        | lkd => rw [hs] at e0; cases e0
    all_goals subst ei
    all_goals refine .inl ⟨φ, W, ρ, s, _, s', eo, so, e, fun φ1 H1 v x1 so1 r => ?_⟩
    case tup l =>
      cases r with
      | tup h r => exact ⟨_, rfl, .inr ⟨⟨_, sqT_of h⟩, k φ1 H1 _ x1 so1 (it_tup (sqT_of h) r)⟩⟩
    case ktu l =>
      cases r with
      | ktu h r => exact ⟨_, rfl, .inr ⟨⟨_, .inr h⟩, k φ1 H1 _ x1 so1 (it_tup (.inr h) r)⟩⟩
    case lst l =>
      cases r with
      | lst h n n' r => exact ⟨_, rfl, .inl ⟨⟨_, SqL.of h⟩, k φ1 H1 _ x1 so1 (it_lst (fun φ2 H2 x2 => SqL.of (x2.keep _ _ h n).1) r)⟩⟩
    case scr l =>
      cases r with
      | scr h r =>
        rcases h with h | h
        · exact ⟨_, rfl, .inl ⟨⟨_, h.sqL⟩, k φ1 H1 _ x1 so1 (it_lst (fun φ2 H2 x2 => (x2.sqS h).sqL) r)⟩⟩
        · exact ⟨_, rfl, .inr ⟨⟨_, .inr h⟩, k φ1 H1 _ x1 so1 (it_tup (.inr h) r)⟩⟩
theorem pif_rng1 {X : Cx} {tg a : Expr} {fs : Env → Store → R (List D)} {p pos : Pos} (hg : Gl X "range") (hm : X.mg "range" = none) (ha : PAf X [a] fs) (hs : notStar a = true) (h1 : ∀ ρ s ds s', fs ρ s = .ok ds s' → ds.length = 1) :
    PIf X tg (.Call (.Name "range" p) [a] [] pos) (fun ρ s => (fs ρ s).bnd fun ds s1 => (ofO (rngD ds) s1).bnd fun l s2 => .ok (.scr l) s2) :=
  (pi_range1 hg hm ha (star_plain hs)).imp fun σ H Rr q => by
    obtain ⟨φ, W, ρ, s, d, is, s', eo, so, e, ei, k⟩ := q
    obtain ⟨ds, s1, e1, e2⟩ := R.bnd_ok e
    obtain ⟨l, s2, e3, e4⟩ := R.bnd_ok e2
    obtain ⟨e5, rfl⟩ := ofO_ok e3
    cases e4
    refine ⟨φ, W, ρ, s, ds, s', eo, so, e1, fun φ1 H1 vs x1 so1 r => ?_⟩
    have hl := h1 _ _ _ _ e1
    match ds, hl, e5, r with
    | [d], _, e5, r =>
      cases d <;> simp only [rngD, reduceCtorEq] at e5
      split at e5
      · rename_i hb
        cases e5
        simp only [iterD, Option.some.injEq] at ei
        subst ei
        cases r with
        | cons r1 r2 =>
          cases r1; cases r2
          exact ⟨_, rfl, hb.1, hb.2, k φ1 H1 _ x1 so1 it_rng⟩
      · cases e5
theorem pif_rng2 {X : Cx} {tg a b : Expr} {fs : Env → Store → R (List D)} {p pos : Pos} (hg : Gl X "range") (hm : X.mg "range" = none) (ha : PAf X [a, b] fs) (hs : notStar a = true) (hs' : notStar b = true) (h1 : ∀ ρ s ds s', fs ρ s = .ok ds s' → ds.length = 2) :
    PIf X tg (.Call (.Name "range" p) [a, b] [] pos) (fun ρ s => (fs ρ s).bnd fun ds s1 => (ofO (rngD ds) s1).bnd fun l s2 => .ok (.scr l) s2) :=
  (pi_range2 hg hm ha (by rw [star_plain hs, star_plain hs']; rfl) (star_plain hs')).imp fun σ H Rr q => by
    obtain ⟨φ, W, ρ, s, d, is, s', eo, so, e, ei, k⟩ := q
    obtain ⟨ds, s1, e1, e2⟩ := R.bnd_ok e
    obtain ⟨l, s2, e3, e4⟩ := R.bnd_ok e2
    obtain ⟨e5, rfl⟩ := ofO_ok e3
    cases e4
    refine ⟨φ, W, ρ, s, ds, s', eo, so, e1, fun φ1 H1 vs x1 so1 r => ?_⟩
    have hl := h1 _ _ _ _ e1
    match ds, hl, e5, r with
    | [d, d'], _, e5, r =>
      cases d <;> cases d' <;> simp only [rngD, reduceCtorEq] at e5
      split at e5
      · rename_i hb
        cases e5
        simp only [iterD, Option.some.injEq] at ei
        subst ei
        cases r with
        | cons r1 r2 =>
          cases r2 with
          | cons r2 r3 =>
            cases r1; cases r2; cases r3
            exact ⟨_, _, rfl, ⟨hb.1.1, hb.1.2, hb.2.1, hb.2.2⟩, k φ1 H1 _ x1 so1 it_rng⟩
      · cases e5
end Rf

set_option Elab.async false
set_option linter.all false
set_option maxRecDepth 100000
set_option maxHeartbeats 1000000
/-! Rf8: comprehensions, append, statements. -/
namespace Rf
open PySem PySem.Spec PyProof.Rows L2

/-! ### comprehensions -/
inductive LcRun (turn : D → Store → R (Option D)) (is : IS) : Nat → Nat → Store → List D → Store → Prop
  | stop {n i : Nat} {s : Store} : itemAt is s i = some none → LcRun turn is n i s [] s
  | go {n i : Nat} {s s1 s2 : Store} {d : D} {o : Option D} {ys : List D} : itemAt is s i = some (some d) → turn d s = .ok o s1 → LcRun turn is n (i + 1) s1 ys s2 → LcRun turn is (n + 1) i s (o.toList ++ ys) s2
theorem lc_snap {turn : D → Store → R (Option D)} {l0 : List D} : ∀ (l : List D) (i : Nat) (s s' : Store) (ys : List D), l0.drop i = l → lcSnap turn l s = .ok ys s' → LcRun turn (.snap l0) l.length i s ys s'
  | [], i, s, s', ys, hd, h => by
    cases h
    refine .stop ?_
    show some l0[i]? = some none
    rw [List.getElem?_eq_none (List.drop_eq_nil_iff.mp hd)]
  | d :: l, i, s, s', ys, hd, h => by
    obtain ⟨o, s1, e1, e2⟩ := R.bnd_ok h
    obtain ⟨zs, s2, e3, e4⟩ := R.bnd_ok e2
    have hi : l0[i]? = some d := by
      have := congrArg (·[0]?) hd
      simpa [List.getElem?_drop] using this
    have hd2 : l0.drop (i + 1) = l := by
      rw [← List.drop_drop, hd]
      rfl
    have ih := lc_snap l (i + 1) s1 s2 zs hd2 e3
    have fin : ys = o.toList ++ zs ∧ s' = s2 := by
      cases o with
      | none => cases e4; exact ⟨rfl, rfl⟩
      | some y => cases e4; exact ⟨rfl, rfl⟩
    obtain ⟨rfl, rfl⟩ := fin
    exact .go (by show some l0[i]? = _; rw [hi]) e1 ih
theorem lc_live {turn : D → Store → R (Option D)} {m : Nat} : ∀ (n i : Nat) (s s' : Store) (ys : List D), lcLive turn m n i s = .ok ys s' → LcRun turn (.live m) n i s ys s'
  | 0, _, _, _, _, h => by cases h
  | n + 1, i, s, s', ys, h => by
    unfold lcLive at h
    split at h
    · cases h
    · rename_i e
      cases h
      exact .stop e
    · rename_i d e
      obtain ⟨o, s1, e1, e2⟩ := R.bnd_ok h
      obtain ⟨zs, s2, e3, e4⟩ := R.bnd_ok e2
      have ih := lc_live n (i + 1) s1 s2 zs e3
      have fin : ys = o.toList ++ zs ∧ s' = s2 := by
        cases o with
        | none => cases e4; exact ⟨rfl, rfl⟩
        | some y => cases e4; exact ⟨rfl, rfl⟩
      obtain ⟨rfl, rfl⟩ := fin
      exact .go e e1 ih

def tTs (K : PySem.W.Frag) (mg : Str → Option Value) (f : Env → Store → R Bool) : TT := fun σ H Q => ∃ φ W ρ s b s', EnvOk K mg φ W H ρ σ ∧ StOk K mg φ W H s ∧ f ρ s = .ok b s' ∧
  ∀ φ' H', Ext φ H φ' H' → StOk K mg φ' W H' s' → Q b H'
/-- one turn -/
def turnF (t : TGT) (own : List Nat) (ft : Env → Store → R Bool) (fe : Env → Store → R D) (ρ : Env) : D → Store → R (Option D) := fun d s2 => match asgT s2 t d (wipeE ρ own) with
  | none => .bad
  | some ρ' => (ft ρ' s2).bnd fun k s3 => match k with
    | false => .ok none s3
    | true => (fe ρ' s3).bnd fun y s4 => .ok (some y) s4
section
variable {X : Cx} {fi fe : Env → Store → R D} {ft : Env → Store → R Bool}
theorem ptsf_nil : PTs X [] (tTs X.K X.mg fun _ s => .ok true s) := ⟨fun pins s σ H Q I q => pts_nil.run pins s σ H Q I (by
  obtain ⟨φ, W, ρ, s, b, s', eo, so, e, k⟩ := q
  cases e
  exact k φ H (Ext.refl _ _) so)⟩
theorem ptsf_one {c : Expr} {f : Env → Store → R D} (h : PTf X c f) : PTs X [c] (tTs X.K X.mg fun ρ s => (f ρ s).bnd fun x s1 => (ofO (truth s1 x) s1).bnd fun k s2 => match k with
    | true => .ok true s2
    | false => .ok false s2) := ⟨fun pins s σ H Q I q => (pts_one h).run pins s σ H Q I (by
  obtain ⟨φ, W, ρ, s, b, s', eo, so, e, kt⟩ := q
  obtain ⟨dx, s1, e1, e2⟩ := R.bnd_ok e
  obtain ⟨k, s2, e3, e4⟩ := R.bnd_ok e2
  obtain ⟨e5, rfl⟩ := ofO_ok e3
  refine ⟨φ, W, ρ, s, dx, s2, k, eo, so, e1, e5, fun φ' H' x so' => ?_⟩
  cases k <;> cases e4 <;> exact kt φ' H' x so')⟩
/-- the loop's invariant -/
theorem lc_inv {t : TGT} {own : List Nat} {is : IS} {J : It} {σ : L2.St} {H1 : Hp} {φ1 W : List Addr} {ρ : Env} {s1 s' : Store} {final : List D} {Q : VK} {n0 : Nat} (ht : ∀ i ∈ t.slots, i ∈ own)
    (eo : EnvOk X.K X.mg φ1 W H1 ρ σ) (so : StOk X.K X.mg φ1 W H1 s1) (io : ItOk X.K X.mg φ1 W H1 is J) (run : LcRun (turnF t own ft fe ρ) is n0 0 s1 final s') (hz : final.length ≤ LINE)
    (k : Kt X.K X.mg φ1 W H1 s' (.lst final) Q) : ∀ D₀, H1 D₀ = none → ∃ Wi : Nat → Nat → Hp → Prop, (∃ m, Wi 0 m (upd H1 D₀ (.lst []))) ∧ ∀ i m H, Wi i m H →
  (J.stop i H ∧ Q (.ref D₀) H) ∨ (J.go i H ∧ ∃ Nx : Hp → Prop, (∀ H', Nx H' → ∃ m', m' < m ∧ Wi (i + 1) m' H') ∧ ∀ x H', J.yld i H x H' → gT X.K t x (L2.wipe σ own) H' fun σ2 H2 => L2.wipe σ2 own = L2.wipe σ own ∧ tTs X.K X.mg ft σ2 H2 fun b H3 =>
    if b = true then tE X.K X.mg fe σ2 H3 fun y H4 => ∃ acc, H4 D₀ = some (.lst acc) ∧ acc.length < sizeLine ∧ Nx (upd H4 D₀ (.lst (acc ++ [y]))) else Nx H3) := by
  intro D₀ hD
  have wx : WExt H1 W (D₀ :: W) := fun b hb => by
    rcases List.mem_cons.mp hb with e | e
    · exact .inr (by rw [e]; exact hD)
    · exact .inl e
  let Inv' : Nat → Nat → Hp → Prop := fun i m H => ∃ φ s acc xs ys, Ext φ1 H1 φ H ∧ StOk X.K X.mg φ (D₀ :: W) H s ∧ H D₀ = some (.lst xs) ∧ RepL X.K X.mg φ (D₀ :: W) H acc xs ∧
    LcRun (turnF t own ft fe ρ) is m i s ys s' ∧ final = acc ++ ys
  refine ⟨Inv', ⟨n0, φ1, s1, [], [], final, Ext.new hD, so.more hD, upd_same, .nil, run, rfl⟩, ?_⟩
  rintro i m H ⟨φ, s, acc, xs, ys, x, so2, hD2, r, rn, ef⟩
  cases rn with
  | stop e =>
    refine .inl ⟨io.stop i φ _ H s' x wx so2 e, ?_⟩
    have nW : D₀ ∉ W := fun z => by
      obtain ⟨_, o, e⟩ := so.w D₀ z
      rw [hD] at e; cases e
    have nP : D₀ ∉ φ := (so2.w D₀ List.mem_cons_self).1
    have fw : WExt H (D₀ :: W) W := fun b hb => .inl (List.mem_cons_of_mem _ hb)
    refine k φ H _ x (so2.fewer fun b hb => List.mem_cons_of_mem _ hb) (.lst hD2 nP nW ?_)
    rw [ef, List.append_nil]
    exact r.wext fw
  | @go n _ _ s3 _ d o zs e1 e2 rn =>
    obtain ⟨g, yl⟩ := io.go i φ _ H s d x wx so2 e1
    refine .inr ⟨g, fun H' => Inv' (i + 1) n H', fun H' h => ⟨n, Nat.lt_succ_self n, h⟩, fun xv H' y => ?_⟩
    obtain ⟨x2, so3, rd⟩ := yl xv H' y
    unfold turnF at e2
    cases ea : asgT s t d (wipeE ρ own) with
    | none => rw [ea] at e2; cases e2
    | some ρ' =>
      rw [ea] at e2
      obtain ⟨b, s4, e3, e4⟩ := R.bnd_ok e2
      refine gT_ok ea rd (((eo.wext wx).up (x.trans x2)).wipe own) fun σ' eo' hw => ⟨?_, ?_⟩
      · rw [hw own ht]
        have key : ∀ (us vs : List Nat), (∀ i ∈ us, i ∈ vs) → L2.wipe (L2.wipe σ us) vs = L2.wipe σ vs := by
          intro us vs
          induction us with
          | nil => intro _; rfl
          | cons u us ih =>
            intro h
            show L2.wipe ((L2.wipe σ us).set u none) vs = _
            rw [wipe_set (h u List.mem_cons_self), ih fun i hi => h i (List.mem_cons_of_mem _ hi)]
        exact key own own fun _ h => h
      · refine ⟨φ, _, ρ', s, b, s4, eo', so3, e3, fun φ4 H4 x4 so4 => ?_⟩
        have hDk : ∀ {φa Ha φb Hb}, Ext φa Ha φb Hb → Ha D₀ = some (.lst xs) → D₀ ∉ φa → Hb D₀ = some (.lst xs) := fun x h n => (x.keep _ _ h n).1
        have nP : D₀ ∉ φ := (so2.w D₀ List.mem_cons_self).1
        have hD4 : H4 D₀ = some (.lst xs) := hDk x4 (hDk x2 hD2 nP) nP
        cases b with
        | false =>
          cases e4
          refine iteF ?_
          exact ⟨φ4, _, acc, xs, zs, x.trans (x2.trans x4), so4, hD4, r.up (x2.trans x4), rn, ef⟩
        | true =>
          refine iteT ?_
          obtain ⟨y, s5, e5, e6⟩ := R.bnd_ok e4
          cases e6
          refine ⟨φ4, _, ρ', s4, y, _, eo'.up x4, so4, e5, fun φ5 H5 yv x5 so5 ry => ?_⟩
          have hD5 : H5 D₀ = some (.lst xs) := hDk x5 hD4 (so4.w D₀ List.mem_cons_self).1
          have r5 := r.up (x2.trans (x4.trans x5))
          refine ⟨xs, hD5, ?_, φ5, _, acc ++ [y], xs ++ [yv], zs, (x.trans (x2.trans (x4.trans x5))).updFree hD, so5.updW hD5 List.mem_cons_self, upd_same, ?_, rn, by rw [ef]; simp⟩
          · rw [LINE_eq, ← r5.length]
            have := congrArg List.length ef
            simp at this
            omega
          · exact RepL.updW' hD5 List.mem_cons_self _ _ (r5.append (.cons ry .nil))
theorem lc_read {t : TGT} {own : List Nat} {F : Nat} {σ : L2.St} {H : Hp} {Q : VK} (hsl : ∀ i ∈ t.slots, i ∈ own) (q : tE X.K X.mg (fun ρ s => (fi ρ s).bnd fun di s0 => (ofO (iterD s0 di) s0).bnd fun is s1 =>
      (match is with
      | .snap l => lcSnap (turnF t own ft fe ρ) l s1
      | .live m => lcLive (turnF t own ft fe ρ) m F 0 s1).bnd fun ys s2 => if ys.length ≤ LINE then R.ok (D.lst ys) s2 else .bad) σ H Q) : tLc (tI X.K X.mg fi) (gT X.K t) (tTs X.K X.mg ft) (tE X.K X.mg fe) own σ H Q := by
  obtain ⟨φ, W, ρ, s, d, s', eo, so, e, kt⟩ := q
  obtain ⟨di, s0, e1, e2⟩ := R.bnd_ok e
  obtain ⟨is, s1, e3, e4⟩ := R.bnd_ok e2
  obtain ⟨e5, rfl⟩ := ofO_ok e3
  obtain ⟨ys, s2, e6, e7⟩ := R.bnd_ok e4
  split at e7
  · rename_i hz
    cases e7
    refine ⟨φ, W, ρ, s, di, is, s1, eo, so, e1, e5, fun φ1 H1 J x1 so1 io => ?_⟩
    have run : ∃ n, LcRun (turnF t own ft fe ρ) is n 0 s1 ys s' := by
      cases is with
      | snap l => exact ⟨_, lc_snap l 0 s1 s' ys rfl e6⟩
      | live m => exact ⟨_, lc_live F 0 s1 s' ys e6⟩
    obtain ⟨n, run⟩ := run
    exact lc_inv hsl (eo.up x1) so1 io run hz (kt.up x1)
  · cases e7
theorem pef_lc {elt tg iter : Expr} {ifs : List Expr} {scope : Scope} {own : List (Str × Nat)} {pos : Pos} {t : TGT} {F : Nat} (hc : X.calm = true) (hN : X.N.Nodup) (hi : PIf X tg iter fi) (ok : BlkOk X.N X.env.scope scope own)
    (hg : ∀ (s : Shared) (H : Hp) (C : Addr) (cl : List (Str × Addr)) (fp : List Addr), PG (X.blk s H scope (compEnvC scope cl C X.env) fp) tg (gT X.K t)) (ht : ∀ (s : Shared) (H : Hp) (C : Addr) (cl : List (Str × Addr)) (fp : List Addr), PTs (X.blk s H scope (compEnvC scope cl C X.env) fp) ifs (tTs X.K X.mg ft))
    (he : ∀ (s : Shared) (H : Hp) (C : Addr) (cl : List (Str × Addr)) (fp : List Addr), PE (X.blk s H scope (compEnvC scope cl C X.env) fp) elt (tE X.K X.mg fe)) (hs : ∀ x, foldedSetIterable iter X.env x = pure x)
    (hsl : ∀ i ∈ t.slots, i ∈ own.map (fun (p : Str × Nat) => p.2)) : PEf X (.ListComp elt [⟨tg, iter, ifs, 0⟩] scope pos) (fun ρ s => (fi ρ s).bnd fun di s0 => (ofO (iterD s0 di) s0).bnd fun is s1 =>
      (match is with
      | .snap l => lcSnap (turnF t (own.map (fun (p : Str × Nat) => p.2)) ft fe ρ) l s1
      | .live m => lcLive (turnF t (own.map (fun (p : Str × Nat) => p.2)) ft fe ρ) m F 0 s1).bnd fun ys s2 => if ys.length ≤ LINE then .ok (.lst ys) s2 else .bad) :=
  (pe_lc hc hN hi ok hg ht he hs).imp fun σ H Q q => lc_read hsl q
end

/-! ### append -/
theorem pef_append {X : Cx} {fo : Env → Store → R D} {fs : Env → Store → R (List D)} {o e : Expr} {apos cpos : Pos} (ho : PEf X o fo) (ha : PAf X [e] fs) (hs : notStar e = true)
    (hb : attributeBase o "append" X.env (eval o X.env) = eval o X.env) (hl : (apos.endLine == cpos.line) = true) :
    PEf X (.Call (.Attribute o "append" apos) [e] [] cpos) (fun ρ s => (fo ρ s).bnd fun x s1 => (ofO (isLst s1 x) s1).bnd fun _ s1 => (fs ρ s1).bnd fun ds s2 => match x, ds with
      | .ref m, [y] => match s2[m]? with
        | some (.lst l) => if l.length < LINE then .ok .non (s2.set m (.lst (l ++ [y]))) else .bad
        | _ => .bad
      | _, _ => .bad) :=
  (pe_bm PySem.F.plainAttrs_list PySem.F.slot_list_append PySem.F.type_list_append mt_append ho ha hb (by rw [star_plain hs]; rfl) hl (star_plain hs) rfl).imp fun σ H Q q => by
    obtain ⟨φ, W, ρ, s, d, s', eo, so, e, kt⟩ := q
    obtain ⟨dx, s1, e1, e2⟩ := R.bnd_ok e
    obtain ⟨_, s1', e0', e2'⟩ := R.bnd_ok e2
    obtain ⟨e0, rfl⟩ := ofO_ok e0'
    obtain ⟨ds, s2, e3, e4⟩ := R.bnd_ok e2'
    refine ⟨φ, W, ρ, s, dx, s1', eo, so, e1, fun φ1 H1 x x1 so1 rx => ?_⟩
    cases dx with
    | ref m =>
      cases rx with
      | @ref _ a h =>
        have hm : m < s1'.length := by rw [← so1.len]; exact (List.getElem?_eq_some_iff.mp h).1
        have q := so1.obj m a _ h (List.getElem?_eq_getElem hm)
        refine ⟨?_, φ1, W, ρ, s1', ds, s2, eo.up x1, so1, e3, fun φ2 H2 vs x2 so2 rs => ?_⟩
        · unfold isLst at e0
          simp only [List.getElem?_eq_getElem hm] at e0
          cases hs : s1'[m] with
          | lst l => rw [hs] at q; obtain ⟨xs, h1, _⟩ := q; exact .inl ⟨rfl, _, SqL.of h1⟩
          | dk l => rw [hs] at e0; cases e0
          | dt l => rw [hs] at e0; cases e0
          | lkd => rw [hs] at e0; cases e0
        · match ds, e4, rs with
          | [y], e4, rs =>
            cases rs with
            | @cons _ yv _ _ ry rn =>
              cases rn
              cases hm2 : s2[m]? with
              | none => simp only [hm2, reduceCtorEq] at e4
              | some ob =>
                cases ob with
                | dk l => simp only [hm2, reduceCtorEq] at e4
                | dt l => simp only [hm2, reduceCtorEq] at e4
                | lkd => simp only [hm2, reduceCtorEq] at e4
                | lst l =>
                  simp only [hm2] at e4
                  split at e4
                  · rename_i hz
                    cases e4
                    obtain ⟨xs, h1, r⟩ := so2.obj m a _ (x2.get h) hm2
                    refine ⟨a, xs, yv, rfl, rfl, h1, by rw [LINE_eq, ← r.length]; exact hz, ?_⟩
                    have hmu := so2.mut (x2.get h) hm2 (fun z => nomatch z)
                    exact kt φ2 _ _ ((x1.trans x2).trans (Ext.wr (x2.get h) hmu)) (so2.wr (x2.get h) hmu (r.append (.cons ry .nil))) .non
                  · cases e4
          | [], e4, _ => cases e4
          | _ :: _ :: _, e4, _ => cases e4
    | _ => cases e0
/-! ### dicts -/
theorem pef_dnew {X : Cx} {t : Bool} {pos : Pos} : PEf X (.Dict [] [] pos) (fun _ s => .ok (.ref s.length) (s ++ [if t then .dt [] else .dk []])) := by
  have fin : ∀ {φ W : List Addr} {H : Hp} {s : Store} {p : Addr} {ho : HO} {ob : MO} {Q : VK}, StOk X.K X.mg φ W H s → H p = none → (∀ φ' H', H' p = some ho → MOk X.K X.mg φ' W H' p ob) → Kt X.K X.mg φ W H (s ++ [ob]) (.ref s.length) Q → Q (.ref p) (upd H p ho) := fun so hp h kt =>
    kt _ _ _ (Ext.newS hp) (so.newS' hp fun x => h _ _ upd_same) (.ref (by rw [← so.len, List.getElem?_append_right (Nat.le_refl _), Nat.sub_self]; rfl))
  cases t
  · exact pe_dnewK.imp fun σ H Q q => by
      obtain ⟨φ, W, ρ, s, d, s', eo, so, e, kt⟩ := q
      cases e
      exact fun p hp => fin (ob := .dk []) so hp (fun φ' H' h => ⟨[], h, rfl, .nil⟩) kt
  · exact pe_dnewT.imp fun σ H Q q => by
      obtain ⟨φ, W, ρ, s, d, s', eo, so, e, kt⟩ := q
      cases e
      exact fun p hp => fin (ob := .dt []) so hp (fun φ' H' h => ⟨[], h, rfl, .nil⟩) kt
theorem isDct_rep {K : PySem.W.Frag} {mg : Str → Option Value} {φ W : List Addr} {H : Hp} {s : Store} {d : D} {v : V} (so : StOk K mg φ W H s) (r : Rep K mg φ W H d v) (e : isDct s d = some ()) : ∃ a, v = .ref a ∧ IsD H a := by
  cases d <;> simp only [isDct, reduceCtorEq] at e
  rename_i m
  cases r with
  | @ref _ a h =>
    have hm : m < s.length := by rw [← so.len]; exact (List.getElem?_eq_some_iff.mp h).1
    have q := so.obj m a _ h (List.getElem?_eq_getElem hm)
    simp only [List.getElem?_eq_getElem hm] at e
    cases hs : s[m] with
    | lst l => rw [hs] at e; cases e
    | dk l => rw [hs] at q; obtain ⟨xs, h1, _⟩ := q; exact ⟨a, rfl, .inl ⟨_, .inl h1⟩⟩
    | dt l => rw [hs] at q; obtain ⟨xs, h1, _⟩ := q; exact ⟨a, rfl, .inr ⟨_, .inl h1⟩⟩
    | lkd => rw [hs] at e; cases e
theorem pef_dget {X : Cx} {fo fk : Env → Store → R D} {o e : Expr} {apos cpos : Pos} (hu : X.A.units + 1 < cLine) (ho : PEf X o fo) (ha : PEf X e fk) (hs : notStar e = true)
    (hb : attributeBase o "get" X.env (eval o X.env) = eval o X.env) (hl : (apos.endLine == cpos.line) = true) :
    PEf X (.Call (.Attribute o "get" apos) [e] [] cpos) (fun ρ s => (fo ρ s).bnd fun x s1 => (ofO (isDct s1 x) s1).bnd fun _ s1 => (fk ρ s1).bnd fun y s2 => (ofO (atD (deref s2 x) y) s2).bnd fun o s3 => .ok (o.getD .non) s3) :=
  (pe_dget1 hu ho ha ⟨hb, by rw [star_plain hs]; rfl, hl, by rw [star_plain hs]; rfl⟩).imp fun σ H Q q => by
    obtain ⟨φ, W, ρ, s, d, s', eo, so, e, kt⟩ := q
    obtain ⟨dx, s1, e1, e2⟩ := R.bnd_ok e
    obtain ⟨_, s1', e0', e2'⟩ := R.bnd_ok e2
    obtain ⟨e0, rfl⟩ := ofO_ok e0'
    obtain ⟨dy, s2, e3, e4⟩ := R.bnd_ok e2'
    obtain ⟨oo, s3, e5', e6⟩ := R.bnd_ok e4
    obtain ⟨e5, rfl⟩ := ofO_ok e5'
    cases e6
    refine ⟨φ, W, ρ, s, dx, s1', eo, so, e1, fun φ1 H1 x x1 so1 rx => ?_⟩
    obtain ⟨a, ea, hd⟩ := isDct_rep so1 rx e0
    refine ⟨a, ea, hd, φ1, W, ρ, s1', dy, _, eo.up x1, so1, e3, fun φ2 H2 y x2 so2 ry => ?_⟩
    obtain ⟨a', ov, ea', g, _, h⟩ := atD_rep (Sh.of so2 (rx.up x2)) (Sh.raw ry) e5
    obtain rfl : a' = a := by rw [ea] at ea'; cases ea'; rfl
    refine ⟨ov, g, ?_⟩
    have kt2 := kt.up (x1.trans x2)
    rcases h with ⟨rfl, rfl⟩ | ⟨d2, v, rfl, rfl, r⟩
    · exact kt2.here so2 .non
    · exact kt2.here so2 r
end Rf

set_option Elab.async false
set_option linter.all false
set_option maxRecDepth 100000
set_option maxHeartbeats 4000000
/-! Rs4: a dict display of one pair, its key a tuple. -/
namespace Rf
open PySem PySem.Spec PyProof.Rows L2
section
variable {X : Cx}
/-- {k: v} -/
def tSing (tk tv : TE) : TE := fun σ H Q => ∀ p, H p = none → tk σ (upd H p (.dT [])) fun x H1 => tv σ H1 fun y H2 => H2 p = some (.dT []) ∧ ∃ ks b, x = .ref b ∧ H2 b = some (.tup (ks.map kV)) ∧ Q (.ref p) (upd H2 p (.dT [(ks, y)]))
theorem pe_sing {k v : Expr} {tk tv : TE} {pos : Pos} (hu : X.A.units + 1 < cLine) (hk : PE X k tk) (hv : PE X v tv) : PE X (.Dict [some k] [v] pos) (tSing tk tv) := by
  refine ⟨fun pins s σ H Q I q => ?_⟩
  have hn := I.hok.fresh (Nat.le_refl s.heap.objs.size)
  have I1 := I.laid (a := s.heap.objs.size) (o := .dT []) (h' := s.heap.push { cls := .type "dict", data := .dict #[] }) (t' := s.toks) (fun _ _ q => Heap.get?_push_of_some _ q) (Nat.le_refl _) (dt_empty s.heap I.big)
  rw [arm_eval_Dict, show (evalEachOpt [some k] X.env).zip ((evalEach [v] X.env).map fun v => do let x ← v; standAt pos; pure x) = (pairTrees [some k] [v] X.env pos).map fun p => (some p.1, p.2) from rfl,
    dictDisplay_pairs _ (by simp [pairTrees]) (by simp [pairTrees])]
  have run := (pps_cons hk hv (pps_nil (pos := pos))).run pins _ σ _ (fun ps H2 => match ps with
    | [(x, y)] => H2 s.heap.objs.size = some (.dT []) ∧ ∃ ks b, x = .ref b ∧ H2 b = some (.tup (ks.map kV)) ∧ Q (.ref s.heap.objs.size) (upd H2 s.heap.objs.size (.dT [(ks, y)]))
    | _ => False) I1 ?_
  · refine wpAny_bind (wpAny_standAt (wpAny_bind (wpAny_subDictH (knd := tupleKind (mixKind X.prog X.w)) (show X.A.units < cLine by omega) (by simp [pairTrees]) (wpAny_mono run (fun vs s1 h1 => ?_) fun _ _ e => e))))
    obtain ⟨ps, H2, I2, rel, h1⟩ := h1
    match ps, rel, h1 with
    | [(x, y)], rel, h1 =>
    obtain ⟨e0, ks, b, rfl, eb, q2⟩ := h1
    cases rel with
    | cons h1 t =>
      cases t
      rename_i kv
      obtain ⟨ku, vu⟩ := kv
      obtain ⟨hr1, hr2⟩ := h1
      obtain rfl : ku = Value.ref b := hr1
      obtain ⟨_, _, zs, kt, dd⟩ := (show ObjOk X.prog X.w H2 s1.heap s.heap.objs.size (.dT []) from I2.hok _ _ e0)
      cases kt
      obtain ⟨o, es, ep, ho, hc, hd, he, hnd⟩ := dd
      refine ⟨[(ks, b, vu)], ⟨rfl, rfl, key_of I2.hok eb, trivial⟩, ⟨o, es, ep, ho, hc, hd, he, fun z hz => by simp at hz, hnd⟩, fun h' tk hm hs => wpAny_pure ⟨.ref s.heap.objs.size, _, ?_, rfl, q2⟩⟩
      obtain ⟨o', es', ep', ho', hc', hd', he', _, hn'⟩ := hm
      have hsys : (s.heap.objs.size == sysModules) = false := beq_eq_false_iff_ne.mpr (Ne.symm (Nat.ne_of_lt I.big))
      refine d_write I2 (by rw [e0]; exact True.intro) hs ⟨o', ho'⟩ ⟨(show 1 ≤ sizeLine by rw [sizeLine_eq]; decide), hsys, [(ks, b, vu)], .cons ⟨rfl, ?_, hr2⟩ .nil, o', es', ep', ho', hc', hd', he', by simp⟩
      show upd H2 s.heap.objs.size _ b = _
      rw [upd_ne (fun (z : b = s.heap.objs.size) => by rw [z, e0] at eb; cases eb)]
      exact eb
  · refine (show tk σ _ _ from ?_)
    exact q _ hn
section
variable {K : PySem.W.Frag} {mg : Str → Option Value} {φ W : List Addr} {H : Hp} {p : Addr} {o ho : HO}
mutual
theorem Rep.born (e0 : H p = some ho) (hm : Mut (some ho)) : ∀ (d : D) (v : V), Rep K mg φ (p :: W) H d v → Rep K mg (φ ++ [p]) W (upd H p o) d v
  | .non, _, h => by cases h; exact .non
  | .bl b, _, h => by cases h; exact .bl b
  | .int i, _, h => by cases h; exact .int i
  | .str y, _, h => by cases h with | str _ e => exact .str y e
  | .ty t, _, h => by cases h; exact .ty t
  | .glo y, _, h => by cases h with | glo e => exact .glo e
  | .ref m, _, h => by
    cases h with
    | ref e => exact .ref (by rw [List.getElem?_append_left (List.getElem?_eq_some_iff.mp e).1]; exact e)
  | .tup ds, _, h => by
    cases h with
    | tup e r => exact .tup (by rw [upd_ne (fun z => by rw [z, e0] at e; cases e; exact hm)]; exact e) (RepL.born e0 hm ds _ r)
  | .ktu ds, _, h => by cases h with | ktu e r => exact .ktu e (RepL.born e0 hm ds _ r)
  | .lst ds, _, h => by
    cases h with
    | @lst a _ _ e n n' r =>
      simp only [List.mem_cons, not_or] at n'
      exact .lst (by rw [upd_ne n'.1]; exact e) (by simp [n, n'.1]) n'.2 (RepL.born e0 hm ds _ r)
  | .scr ds, _, h => by
    cases h with
    | scr e r =>
      refine .scr ?_ (RepL.born e0 hm ds _ r)
      rcases e with (⟨o, e⟩ | e) | e
      · exact .inl (.inl ⟨o, by rw [upd_ne (fun z => by rw [z, e0] at e; cases e; exact hm)]; exact e⟩)
      · exact .inl (.inr e)
      · exact .inr e
  | .dk _, _, h => by cases h
  | .dt _, _, h => by cases h
  | .nop, _, h => by cases h
theorem RepL.born (e0 : H p = some ho) (hm : Mut (some ho)) : ∀ (ds : List D) (vs : List V), RepL K mg φ (p :: W) H ds vs → RepL K mg (φ ++ [p]) W (upd H p o) ds vs
  | [], _, h => by cases h; exact .nil
  | d :: ds, _, h => by cases h with | cons r t => exact .cons (Rep.born e0 hm d _ r) (RepL.born e0 hm ds _ t)
end
theorem StOk.born {s : Store} {ob : MO} (h : StOk K mg φ (p :: W) H s) (e0 : H p = some ho) (hm : Mut (some ho)) (hw : ∀ a ∈ W, a ≠ p) (q : MOk K mg (φ ++ [p]) W (upd H p o) p ob) : StOk K mg (φ ++ [p]) W (upd H p o) (s ++ [ob]) := by
  have np := (h.w p List.mem_cons_self).1
  have hm' := hm
  refine ⟨?_, by simp [h.len], fun m a ob' e1 e2 => ?_, fun a ha => ?_⟩
  · rw [List.nodup_append]
    exact ⟨h.nd, by simp, fun a ha b hb => by
      have : b = p := by simpa using hb
      subst this
      exact fun e => np (e ▸ ha)⟩
  · by_cases hm : m < φ.length
    · rw [List.getElem?_append_left hm] at e1
      rw [List.getElem?_append_left (by rw [← h.len]; exact hm)] at e2
      have ne : a ≠ p := fun z => np (z ▸ List.mem_of_getElem? e1)
      have q := h.obj m a ob' e1 e2
      cases ob' with
      | lst l => obtain ⟨xs, g1, r⟩ := q; exact ⟨xs, by rw [upd_ne ne]; exact g1, RepL.born e0 hm' _ _ r⟩
      | dk l => obtain ⟨xs, g1, r⟩ := q; exact ⟨xs, by rw [upd_ne ne]; exact g1, r.1, RepL.born e0 hm' _ _ r.2⟩
      | dt l => obtain ⟨xs, g1, r⟩ := q; exact ⟨xs, by rw [upd_ne ne]; exact g1, r.1, RepL.born e0 hm' _ _ r.2⟩
      | lkd => obtain ⟨o, u, g1⟩ := q; exact ⟨o, u, by rw [upd_ne ne]; exact g1⟩
    · rw [List.getElem?_append_right (by omega)] at e1
      rw [List.getElem?_append_right (by rw [← h.len]; omega), ← h.len] at e2
      have hm0 : m - φ.length = 0 := by
        have := (List.getElem?_eq_some_iff.mp e1).1
        simp at this
        omega
      rw [hm0] at e1 e2
      simp at e1 e2
      subst e1 e2
      exact q
  · obtain ⟨n, u, e⟩ := h.w a (List.mem_cons_of_mem _ ha)
    exact ⟨by simp [n, hw a ha], u, by rw [upd_ne (hw a ha)]; exact e⟩
end
/-! ### a new object of the store that stood aside while its parts were made -/
theorem sing_done {K : PySem.W.Frag} {mg : Str → Option Value} {φ φ2 W : List Addr} {H H2 : Hp} {s2 : Store} {p : Addr} {ks : List Key} {d : D} {v : V} {Q : VK} (hp : H p = none) (x : Ext φ (upd H p (.dT [])) φ2 H2) (so : StOk K mg φ2 (p :: W) H2 s2) (hpφ : p ∉ φ)
    (r : Rep K mg φ2 (p :: W) H2 d v) (hw : ∀ a ∈ W, a ≠ p) (kt : Kt K mg φ W H (s2 ++ [.dt [(ks, d)]]) (.ref s2.length) Q) : H2 p = some (.dT []) ∧ Q (.ref p) (upd H2 p (.dT [(ks, v)])) := by
  obtain ⟨e0, n0⟩ := x.keep p _ upd_same hpφ
  refine ⟨e0, kt (φ2 ++ [p]) _ _ ?_ ?_ (.ref ?_)⟩
  · have ne : ∀ {a u}, H a = some u → a ≠ p := fun e z => by rw [z, hp] at e; cases e
    obtain ⟨l, el⟩ := x.pre
    refine ⟨⟨l ++ [p], by rw [el, List.append_assoc]⟩, fun a o e n => ?_, fun a o e => ?_, fun a o u e => ?_, fun a o e => ?_⟩
    · obtain ⟨q1, q2⟩ := x.keep a o (by rw [upd_ne (ne e)]; exact e) n
      exact ⟨by rw [upd_ne (ne e)]; exact q1, by simp [q2, ne e]⟩
    · rw [upd_ne (ne e)]
      exact x.tups a o (by rw [upd_ne (ne e)]; exact e)
    · rw [upd_ne (ne e)]
      exact x.frzs a o u (by rw [upd_ne (ne e)]; exact e)
    · rw [upd_ne (ne e)]
      exact x.some_ a o (by rw [upd_ne (ne e)]; exact e)
  · exact so.born e0 trivial hw ⟨_, upd_same, rfl, .cons (Rep.born e0 trivial _ _ r) .nil⟩
  · rw [← so.len, List.getElem?_append_right (Nat.le_refl _), Nat.sub_self]
    rfl
theorem pef_dsing {fk fv : Env → Store → R D} {k v : Expr} {pos : Pos} (hu : X.A.units + 1 < cLine) (hk : PEf X k fk) (hv : PEf X v fv) :
    PEf X (.Dict [some k] [v] pos) (fun ρ s => (fk ρ s).bnd fun x s1 => (fv ρ s1).bnd fun y s2 => (ofO (keyT x) s2).bnd fun ks s3 => .ok (.ref s3.length) (s3 ++ [.dt [(ks, y)]])) :=
  (pe_sing hu hk hv).imp fun σ H Q q => by
    obtain ⟨φ, W, ρ, s, d, s', eo, so, e, kt⟩ := q
    obtain ⟨x, s1, e1, e2⟩ := R.bnd_ok e
    obtain ⟨y, s2, e3, e4⟩ := R.bnd_ok e2
    obtain ⟨ks, s3, e5', e6⟩ := R.bnd_ok e4
    obtain ⟨e5, rfl⟩ := ofO_ok e5'
    cases e6
    intro p hp
    have so0 := so.more (o := .dT []) hp
    have x0 : Ext φ H φ (upd H p (.dT [])) := Ext.new hp
    have eo0 : EnvOk X.K X.mg φ (p :: W) (upd H p (.dT [])) ρ σ := (eo.wext (W2 := p :: W) fun b hb => by
      rcases List.mem_cons.mp hb with z | z
      · exact .inr (by rw [z]; exact hp)
      · exact .inl z).up x0
    refine ⟨φ, p :: W, ρ, s, x, s1, eo0, so0, e1, fun φ1 H1 xv x1 so1 rx => ⟨φ1, p :: W, ρ, s1, y, _, eo0.up x1, so1, e3, fun φ2 H2 yv x2 so2 ry => ?_⟩⟩
    obtain ⟨b, rfl, hb⟩ := keyT_rep (rx.up x2) e5
    obtain ⟨q1, q2⟩ := sing_done (ks := ks) hp (x1.trans x2) so2 (so.free hp).1 ry (fun a ha z => (so.free hp).2 (z ▸ ha)) kt
    exact ⟨q1, ks, b, rfl, hb, q2⟩
end
end Rf

set_option Elab.async false
set_option linter.all false
set_option maxRecDepth 100000
set_option maxHeartbeats 4000000
/-! Rt1: d.get(k, x), displays with text keys, tables of the module, calls of a local. -/
namespace Rf
open PySem PySem.Spec PyProof.Rows L2
theorem pef_dget2 {X : Cx} {fo fk fd : Env → Store → R D} {o e f : Expr} {apos cpos : Pos} (hu : X.A.units + 1 < cLine) (ho : PEf X o fo) (ha : PEf X e fk) (hf : PEf X f fd) (hs : notStar e = true) (hs2 : notStar f = true)
    (hb : attributeBase o "get" X.env (eval o X.env) = eval o X.env) (hl : (apos.endLine == cpos.line) = true) :
    PEf X (.Call (.Attribute o "get" apos) [e, f] [] cpos) (fun ρ s => (fo ρ s).bnd fun x s1 => (ofO (isDct s1 x) s1).bnd fun _ s1 => (fk ρ s1).bnd fun y s2 => (fd ρ s2).bnd fun z s3 => (ofO (atD (deref s3 x) y) s3).bnd fun o s4 => .ok (o.getD z) s4) :=
  (pe_dget2 hu ho ha hf ⟨hb, by rw [star_plain hs, star_plain hs2]; rfl, hl, by rw [star_plain hs, star_plain hs2]; rfl⟩).imp fun σ H Q q => by
    obtain ⟨φ, W, ρ, s, d, s', eo, so, e, kt⟩ := q
    obtain ⟨dx, s1, e1, e2⟩ := R.bnd_ok e
    obtain ⟨_, s1', e0', e2'⟩ := R.bnd_ok e2
    obtain ⟨e0, rfl⟩ := ofO_ok e0'
    obtain ⟨dy, s2, e3, e4⟩ := R.bnd_ok e2'
    obtain ⟨dz, s3, e3', e4'⟩ := R.bnd_ok e4
    obtain ⟨oo, s4, e5', e6⟩ := R.bnd_ok e4'
    obtain ⟨e5, rfl⟩ := ofO_ok e5'
    cases e6
    refine ⟨φ, W, ρ, s, dx, s1', eo, so, e1, fun φ1 H1 x x1 so1 rx => ?_⟩
    obtain ⟨a, ea, hd⟩ := isDct_rep so1 rx e0
    refine ⟨a, ea, hd, φ1, W, ρ, s1', dy, s2, eo.up x1, so1, e3, fun φ2 H2 y x2 so2 ry => ⟨φ2, W, ρ, s2, dz, _, eo.up (x1.trans x2), so2, e3', fun φ3 H3 z x3 so3 rz => ?_⟩⟩
    obtain ⟨a', ov, ea', g, _, h⟩ := atD_rep (Sh.of so3 (rx.up (x2.trans x3))) (Sh.raw (ry.up x3)) e5
    obtain rfl : a' = a := by rw [ea] at ea'; cases ea'; rfl
    refine ⟨ov, g, ?_⟩
    have kt2 := kt.up ((x1.trans x2).trans x3)
    rcases h with ⟨rfl, rfl⟩ | ⟨d2, v, rfl, rfl, r⟩
    · exact kt2.here so3 rz
    · exact kt2.here so3 r

/-! ### a module's table: text keys, defs -/
structure TabAt (K : PySem.W.Frag) (w : World) (mg : Str → Option Value) (x : Str) (l : List (Str × Str)) : Prop where
  ex : ∃ a es n, mg x = some (.ref a) ∧ KDict K w a es n ∧ ∀ z, (∀ f, (l.find? fun kv => strEq kv.1 z).map (·.2) = some f → ∃ b, PySem.W.nsIn K a z = some (some (.ref b)) ∧ mg f = some (.ref b)) ∧
    ((l.find? fun kv => strEq kv.1 z) = none → PySem.W.nsIn K a z = some none)
theorem pef_cget {X : Cx} {fk : Env → Store → R D} {x : Str} {l : List (Str × Str)} {b : Expr} {p pos : Pos} (T : TabAt X.K X.w X.mg x l) (hg : Gl X x) (hd : (x == ("__debug__" : Str)) = false) (hs : PlainIx b) (hb : PEf X b fk) :
    PEf X (.Subscript (.Name x p) b pos) (fun ρ s => (fk ρ s).bnd fun y s1 => (ofO (cgetD l y) s1).bnd fun o s2 => .ok o s2) := by
  obtain ⟨a, es, n, hm, D₀, hz⟩ := T.ex
  refine (pe_ix ix_kdict (pe_glob (v := .ref a) hg hm rfl hd) hb hs).imp fun σ H Q q => ?_
  obtain ⟨φ, W, ρ, s, d, s', eo, so, e, kt⟩ := q
  obtain ⟨dy, s1, e1, e2⟩ := R.bnd_ok e
  obtain ⟨o, s2, e3, e4⟩ := R.bnd_ok e2
  obtain ⟨e5, rfl⟩ := ofO_ok e3
  cases e4
  show tE X.K X.mg fk σ H fun y H2 => rIxD X.K X.w (.ref a) y H2 Q
  refine ⟨φ, W, ρ, s, dy, _, eo, so, e1, fun φ1 H1 y x1 so1 ry => ?_⟩
  cases dy <;> simp only [cgetD, reduceCtorEq] at e5
  rename_i z
  obtain ⟨kv, h1, h2⟩ := Option.map_eq_some_iff.mp e5
  subst h2
  obtain ⟨b', h3, h4⟩ := (hz z).1 kv.2 (by rw [h1]; rfl)
  cases ry
  exact ⟨a, z, .ref b', rfl, rfl, ⟨es, n, _, D₀.at_, D₀.lit, h3, rfl⟩, (kt.up x1).here so1 (.glo h4)⟩
theorem tT_bl {K : PySem.W.Frag} {mg : Str → Option Value} {f : Env → Store → R D} {σ : L2.St} {H : Hp} {Q : Bool → Hp → Prop} (hf : ∀ ρ s d s', f ρ s = .ok d s' → ∃ b, d = .bl b) (q : tT K mg f σ H Q) : tE K mg f σ H (fun v H' => ∃ k, v = .bl k ∧ Q k H') := by
  obtain ⟨φ, W, ρ, s, d, s', t, eo, so, e, et, kt⟩ := q
  refine ⟨φ, W, ρ, s, d, s', eo, so, e, fun φ' H' v x so' r => ?_⟩
  obtain ⟨b, rfl⟩ := hf _ _ _ _ e
  cases r
  have : b = t := by simpa [truth, deref] using et
  subst this
  exact ⟨b, rfl, kt φ' H' x so'⟩
theorem pef_cin {X : Cx} {fk : Env → Store → R D} {x : Str} {l : List (Str × Str)} {b : Expr} {neg : Bool} {p pos : Pos} (T : TabAt X.K X.w X.mg x l) (hg : Gl X x) (hd : (x == ("__debug__" : Str)) = false) (hb : PEf X b fk) :
    PEf X (.Compare b [if neg then .NotIn else .In] [.Name x p] pos) (fun ρ s => (fk ρ s).bnd fun y s1 => (ofO (cinD l y) s1).bnd fun o s2 => .ok (.bl (if neg then !o else o)) s2) ∧
    PTf X (.Compare b [if neg then .NotIn else .In] [.Name x p] pos) (fun ρ s => (fk ρ s).bnd fun y s1 => (ofO (cinD l y) s1).bnd fun o s2 => .ok (.bl (if neg then !o else o)) s2) := by
  obtain ⟨a, es, n, hm, D₀, hz⟩ := T.ex
  have any_find : ∀ z, (l.any fun kv => strEq kv.1 z) = (l.find? fun kv => strEq kv.1 z).isSome := fun z => by rw [Bool.eq_iff_iff, List.find?_isSome, List.any_eq_true]
  have key : ∀ z, ∃ r : Option Value, PySem.W.nsIn X.K a z = some r ∧ r.isSome = l.any fun kv => strEq kv.1 z := fun z => by
    rw [any_find]
    cases hf : l.find? fun kv => strEq kv.1 z with
    | none => exact ⟨none, (hz z).2 hf, rfl⟩
    | some kv =>
      obtain ⟨b', h3, _⟩ := (hz z).1 kv.2 (by rw [hf]; rfl)
      exact ⟨_, h3, rfl⟩
  have red : ∀ σ H Q (r : R2), (∀ φ W H1 (s1 : Store) dy y o, StOk X.K X.mg φ W H1 s1 → Rep X.K X.mg φ W H1 dy y → cinD l dy = some o → Kt X.K X.mg φ W H1 s1 (.bl (if neg then !o else o)) Q → r y (.ref a) H1 Q) →
      tE X.K X.mg (fun ρ s => (fk ρ s).bnd fun y s1 => (ofO (cinD l y) s1).bnd fun o s2 => .ok (.bl (if neg then !o else o)) s2) σ H Q → tOp r (tE X.K X.mg fk) (fun _ H Q => Q (.ref a) H) σ H Q := fun σ H Q r hr q => by
    obtain ⟨φ, W, ρ, s, d, s', eo, so, e, kt⟩ := q
    obtain ⟨dy, s1, e1, e2⟩ := R.bnd_ok e
    obtain ⟨o, s2, e3, e4⟩ := R.bnd_ok e2
    obtain ⟨e5, rfl⟩ := ofO_ok e3
    cases e4
    exact ⟨φ, W, ρ, s, dy, _, eo, so, e1, fun φ1 H1 y x1 so1 ry => hr φ1 W H1 _ dy y o so1 ry e5 (kt.up x1)⟩
  cases neg with
  | false =>
    constructor
    · refine (pe_cmpR (op_in_kd D₀) hb (pe_glob (v := .ref a) hg hm rfl hd) (by rfl)).imp fun σ H Q q => red σ H Q _ (fun φ W H1 s1 dy y o so ry e kt => ?_) q
      cases dy <;> simp only [cinD, reduceCtorEq, Option.some.injEq] at e
      rename_i z
      subst e
      obtain ⟨r, h1, h2⟩ := key z
      cases ry
      exact ⟨z, r, rfl, rfl, h1, by rw [h2]; exact kt.here so (.bl _)⟩
    · refine (pt_cmpR (op_in_kd D₀) hb (pe_glob (v := .ref a) hg hm rfl hd) (by rfl)).imp fun σ H Q q => red σ H _ _ (fun φ W H1 s1 dy y o so ry e kt => ?_) (tT_bl (fun ρ s d s' e => by
          obtain ⟨y, s1, _, e2⟩ := R.bnd_ok e
          obtain ⟨o, s2, _, e4⟩ := R.bnd_ok e2
          cases e4
          exact ⟨_, rfl⟩) q)
      cases dy <;> simp only [cinD, reduceCtorEq, Option.some.injEq] at e
      rename_i z
      subst e
      obtain ⟨r, h1, h2⟩ := key z
      cases ry
      exact ⟨z, r, rfl, rfl, h1, by rw [h2]; exact kt.here so (.bl _)⟩
  | true =>
    constructor
    · refine (pe_cmpR (op_notIn_kd D₀) hb (pe_glob (v := .ref a) hg hm rfl hd) (by rfl)).imp fun σ H Q q => red σ H Q _ (fun φ W H1 s1 dy y o so ry e kt => ?_) q
      cases dy <;> simp only [cinD, reduceCtorEq, Option.some.injEq] at e
      rename_i z
      subst e
      obtain ⟨r, h1, h2⟩ := key z
      cases ry
      exact ⟨z, r, rfl, rfl, h1, by rw [h2]; exact kt.here so (.bl _)⟩
    · refine (pt_cmpR (op_notIn_kd D₀) hb (pe_glob (v := .ref a) hg hm rfl hd) (by rfl)).imp fun σ H Q q => red σ H _ _ (fun φ W H1 s1 dy y o so ry e kt => ?_) (tT_bl (fun ρ s d s' e => by
          obtain ⟨y, s1, _, e2⟩ := R.bnd_ok e
          obtain ⟨o, s2, _, e4⟩ := R.bnd_ok e2
          cases e4
          exact ⟨_, rfl⟩) q)
      cases dy <;> simp only [cinD, reduceCtorEq, Option.some.injEq] at e
      rename_i z
      subst e
      obtain ⟨r, h1, h2⟩ := key z
      cases ry
      exact ⟨z, r, rfl, rfl, h1, by rw [h2]; exact kt.here so (.bl _)⟩
end Rf

set_option Elab.async false
set_option linter.all false
set_option maxRecDepth 100000
set_option maxHeartbeats 1000000
/-! Rf9: statements. -/
namespace Rf
open PySem PySem.Spec PyProof.Rows L2

def OutK (K : PySem.W.Frag) (mg : Str → Option Value) (φ W : List Addr) (H : Hp) (s' : Store) (D₀ : Ends) : Out → Prop
  | .nx ρ' => ∀ φ' σ' H', Ext φ H φ' H' → StOk K mg φ' W H' s' → EnvOk K mg φ' W H' ρ' σ' → D₀.nx σ' H'
  | .bk ρ' => ∀ φ' σ' H', Ext φ H φ' H' → StOk K mg φ' W H' s' → EnvOk K mg φ' W H' ρ' σ' → D₀.bk σ' H'
  | .ct ρ' => ∀ φ' σ' H', Ext φ H φ' H' → StOk K mg φ' W H' s' → EnvOk K mg φ' W H' ρ' σ' → D₀.ct σ' H'
  | .rt d => Kt K mg φ W H s' d D₀.rt
theorem OutK.up {K : PySem.W.Frag} {mg : Str → Option Value} {φ φ' W : List Addr} {H H' : Hp} {s' : Store} {D₀ : Ends} {o : Out} (x : Ext φ H φ' H') (h : OutK K mg φ W H s' D₀ o) : OutK K mg φ' W H' s' D₀ o := by
  cases o with
  | nx ρ => exact fun φ2 σ2 H2 x2 so eo => h φ2 σ2 H2 (x.trans x2) so eo
  | bk ρ => exact fun φ2 σ2 H2 x2 so eo => h φ2 σ2 H2 (x.trans x2) so eo
  | ct ρ => exact fun φ2 σ2 H2 x2 so eo => h φ2 σ2 H2 (x.trans x2) so eo
  | rt d => exact Kt.up x h
def tSt (K : PySem.W.Frag) (mg : Str → Option Value) (f : Env → Store → R Out) : TS := fun D₀ σ H => ∃ φ W ρ s o s', EnvOk K mg φ W H ρ σ ∧ StOk K mg φ W H s ∧ f ρ s = .ok o s' ∧ OutK K mg φ W H s' D₀ o
abbrev PSf (X : Cx) (st : Stmt) (f : Env → Store → R Out) : Prop := PS X st (tSt X.K X.mg f)
abbrev PSsf (X : Cx) (st : List Stmt) (f : Env → Store → R Out) : Prop := PSs X st (tSt X.K X.mg f)
theorem _root_.L2.PS.imp {X : Cx} {e : Stmt} {t t' : TS} (h : PS X e t) (i : ∀ D₀ σ H, t' D₀ σ H → t D₀ σ H) : PS X e t' := ⟨fun pins s σ H D₀ I q => h.run pins s σ H D₀ I (i D₀ σ H q)⟩
theorem _root_.L2.PSs.imp {X : Cx} {e : List Stmt} {t t' : TS} (h : PSs X e t) (i : ∀ D₀ σ H, t' D₀ σ H → t D₀ σ H) : PSs X e t' := ⟨fun pins s σ H D₀ I q => h.run pins s σ H D₀ I (i D₀ σ H q)⟩

section
variable {X : Cx} {fe fo fi fc : Env → Store → R D} {fs : Env → Store → R (List D)} {fa fb : Env → Store → R Out} {e o i c tg it : Expr} {st : Stmt} {rest a b : List Stmt} {pos : Pos} {t : TGT}
theorem pssf_nil : PSsf X [] (fun ρ s => .ok (.nx ρ) s) := pss_nil.imp fun D₀ σ H q => by
  obtain ⟨φ, W, ρ, s, o, s', eo, so, e, k⟩ := q
  cases e
  exact k φ σ H (Ext.refl _ _) so eo
theorem pssf_cons (h : PSf X st fa) (hr : PSsf X rest fb) : PSsf X (st :: rest) (fun ρ s => (fa ρ s).bnd fun o s1 => match o with
    | .nx ρ' => fb ρ' s1
    | o => .ok o s1) := (pss_cons h hr).imp fun D₀ σ H q => by
  obtain ⟨φ, W, ρ, s, o, s', eo, so, e, k⟩ := q
  obtain ⟨o1, s1, e1, e2⟩ := R.bnd_ok e
  refine ⟨φ, W, ρ, s, o1, s1, eo, so, e1, ?_⟩
  cases o1 with
  | nx ρ1 => exact fun φ1 σ1 H1 x1 so1 eo1 => ⟨φ1, W, ρ1, s1, o, s', eo1, so1, e2, k.up x1⟩
  | rt d => cases e2; exact k
  | bk ρ1 => cases e2; exact k
  | ct ρ1 => cases e2; exact k
def asgF (fe : Env → Store → R D) (t : TGT) : Env → Store → R Out := fun ρ s => (fe ρ s).bnd fun d s1 => match asgT s1 t d ρ with
    | some ρ' => .ok (.nx ρ') s1
    | none => .bad
theorem asg_read {K : PySem.W.Frag} {mg : Str → Option Value} {D₀ : Ends} {σ : L2.St} {H : Hp} (q : tSt K mg (asgF fe t) D₀ σ H) : tE K mg fe σ H (fun x H1 => gT K t x σ H1 D₀.nx) := by
  obtain ⟨φ, W, ρ, s, o, s', eo, so, e, k⟩ := q
  obtain ⟨d, s1, e1, e2⟩ := R.bnd_ok e
  cases ea : asgT s1 t d ρ with
  | none => rw [ea] at e2; cases e2
  | some ρ' =>
    rw [ea] at e2
    cases e2
    exact ⟨φ, W, ρ, s, d, s', eo, so, e1, fun φ1 H1 v x1 so1 r => gT_ok ea r (eo.up x1) fun σ' eo' _ => k φ1 σ' H1 x1 so1 eo'⟩
theorem sw_sub {e tg : Expr} {l : Nat} {env : PySem.Env} (h : ∀ x p, tg ≠ .Name x p) : swapsWithSole [tg] e l env = pure false := by
  unfold swapsWithSole swapsWith
  cases e <;> first | rfl | (cases tg <;> first | rfl | exact absurd rfl (h _ _))
/-- not a comprehension -/
def notComp : Expr → Bool
  | .ListComp .. => false
  | .SetComp .. => false
  | .DictComp .. => false
  | _ => true
theorem sw_plain {e : Expr} {tg : Option Expr} {l : Nat} {env : PySem.Env} (h : notComp e = true) : swapsWith e tg l env = pure false := by
  unfold swapsWith
  cases e <;> first | rfl | cases h
theorem psf_set {i : Nat} {x : Str} {pos' : Pos} (hN : X.N.Nodup) (hi : X.N[i]? = some x) (hx : Loc X.env.scope x) (he : PEf X e fe) (hs : swapsWith e (some (.Name x pos')) pos.line X.env = pure false) (hf : X.fn x = true ∨ X.env.scope.names.lookup x = some .local) :
    PSf X (.Assign [.Name x pos'] e pos) (asgF fe (.nm i)) := (ps_set hN hi hx he hs hf).imp fun D₀ σ H q => asg_read q
theorem psf_tup {ts : List Expr} {k : Nat} {pt : Pos} {is : List Nat} (he : PEf X e fe) (hg : PG X (.Tuple ts k pt) (gT X.K (.tp is))) (hw : swappedStores [.Tuple ts k pt] e X.env = pure none) :
    PSf X (.Assign [.Tuple ts k pt] e pos) (asgF fe (.tp is)) := (ps_asg he hg (sw_sub fun _ _ z => nomatch z) hw rfl).imp fun D₀ σ H q => asg_read q
theorem set_dict (hu : X.A.units + 1 < cLine) : PSet X (fun o i v H Q => ∃ a H', o = .ref a ∧ DPut H a i v H' ∧ Q H') := by
  intro pins s σ H o i v ov iv u Q I ro ri rv h
  obtain ⟨a, H', rfl, g, q⟩ := h
  cases ro
  exact d_setItem hu I g ri rv fun s4 I4 => ⟨H', I4, q⟩
theorem PSet.or {t t' : TSet} (h : PSet X t) (h' : PSet X t') : PSet X (fun o i v H Q => t o i v H Q ∨ t' o i v H Q) :=
  fun pins s σ H o i v ov iv u Q I ro ri rv q => q.elim (h pins s σ H o i v ov iv u Q I ro ri rv) (h' pins s σ H o i v ov iv u Q I ro ri rv)
theorem psf_asgIx {p2 : Pos} (hu : X.A.units + 1 < cLine) (he : PEf X e fe) (ho : PEf X o fo) (hi : PEf X i fi) (hns : ∀ l u p, i ≠ .Slice l u none p) :
    PSf X (.Assign [.Subscript o i p2] e pos) (fun ρ s => (fe ρ s).bnd fun v s1 => (fo ρ s1).bnd fun x s2 => (fi ρ s2).bnd fun k s3 => match x with
    | .ref m => (ofO ((s3[m]?).bind fun ob => putO ob k v) s3).bnd fun ob s4 => .ok (.nx ρ) (s4.set m ob)
    | _ => .bad) := by
  refine (ps_asg he (pg_sub ho hi (PSet.or set_list (set_dict hu)) (fun v => ?_)) (sw_sub fun _ _ z => nomatch z) ?_ rfl).imp fun D₀ σ H q => ?_
  · show assign (.Subscript o i p2) X.env v = _
    unfold assign
    cases i <;> first
      | rfl
      | (rename_i l u st p
         cases st with
         | none => exact absurd rfl (hns l u p)
         | some w => rfl)
  · cases e <;> rfl
  · obtain ⟨φ, W, ρ, s, o, s', eo, so, e, k⟩ := q
    obtain ⟨v, s1, e1, e2⟩ := R.bnd_ok e
    obtain ⟨dx, s2, e3, e4⟩ := R.bnd_ok e2
    obtain ⟨dk, s3, e5, e6⟩ := R.bnd_ok e4
    refine ⟨φ, W, ρ, s, v, s1, eo, so, e1, fun φ1 H1 vv x1 so1 rv => ⟨φ1, W, ρ, s1, dx, s2, eo.up x1, so1, e3, fun φ2 H2 xv x2 so2 rx => ⟨φ2, W, ρ, s2, dk, s3, eo.up (x1.trans x2), so2, e5, fun φ3 H3 kv x3 so3 rk => ?_⟩⟩⟩
    cases dx <;> simp only [reduceCtorEq] at e6
    rename_i m
    obtain ⟨ob', s4, e7, e8⟩ := R.bnd_ok e6
    obtain ⟨e7, rfl⟩ := ofO_ok e7
    cases e8
    obtain ⟨ob, hm, e9⟩ := Option.bind_eq_some_iff.mp e7
    cases rx with
    | @ref _ a h =>
      have ha := x3.get h
      have rv3 := rv.up (x2.trans x3)
      have q := so3.obj m a _ ha hm
      have fin : ∀ ho, (Ext φ3 H3 φ3 (upd H3 a ho) → MOk X.K X.mg φ3 W (upd H3 a ho) a ob') → D₀.nx σ (upd H3 a ho) := fun ho r => by
        have hmu := so3.mut ha hm (fun z => by subst z; cases e9)
        have xx := ((x1.trans x2).trans x3).trans (Ext.wr (o := ho) ha hmu)
        exact k φ3 σ _ xx (so3.wr' ha hmu r) (eo.up xx)
      cases ob with
      | lkd => cases e9
      | lst l =>
        cases dk <;> simp only [putO, reduceCtorEq] at e9
        obtain ⟨p, hx, e10⟩ := Option.map_eq_some_iff.mp e9
        subst e10
        cases rk
        obtain ⟨xs, h1, r⟩ := q
        exact .inl ⟨a, xs, _, p, rfl, rfl, h1, by rw [← r.length]; exact hx, fin _ fun x => ⟨_, upd_same, (r.set rv3).up x⟩⟩
      | dk l =>
        obtain ⟨kk, hk, e10⟩ := Option.bind_eq_some_iff.mp e9
        obtain ⟨kvs, h1, r⟩ := q
        split at e10
        · rename_i hz
          cases e10
          exact .inr ⟨a, _, rfl, .inl ⟨kvs, kk, h1, keyK_rep rk hk, by rw [LINE_eq, ← r.length]; exact hz, rfl⟩, fin _ fun x => ⟨_, upd_same, (r.put kk rv3).up x⟩⟩
        · cases e10
      | dt l =>
        obtain ⟨kk, hk, e10⟩ := Option.bind_eq_some_iff.mp e9
        obtain ⟨kvs, h1, r⟩ := q
        obtain ⟨b, rfl, hb⟩ := keyT_rep rk hk
        split at e10
        · rename_i hz
          cases e10
          exact .inr ⟨a, _, rfl, .inr ⟨kvs, kk, b, h1, rfl, hb, by rw [LINE_eq, ← r.length]; exact hz, rfl⟩, fin _ fun x => ⟨_, upd_same, (r.put kk rv3).up x⟩⟩
        · cases e10
theorem psf_aug {i : Nat} {x : Str} {pos' : Pos} (hN : X.N.Nodup) (hi : X.N[i]? = some x) (hx : Loc X.env.scope x) (he : PEf X e fe) (hf : X.fn x = true ∨ X.env.scope.names.lookup x = some .local) :
    PSf X (.AugAssign (.Name x pos') .Add e pos) (fun ρ s => match ρ[i]? with
    | some (some x) => (fe ρ s).bnd fun y s1 => (ofO (augD .Add x y) s1).bnd fun z s2 => .ok (.nx (ρ.set i (some z))) s2
    | _ => .bad) := (ps_aug hN hi hx he ip_add hf).imp fun D₀ σ H q => by
  obtain ⟨φ, W, ρ, s, o, s', eo, so, e, k⟩ := q
  simp only at e
  split at e
  · rename_i dx hd
    obtain ⟨dy, s1, e1, e2⟩ := R.bnd_ok e
    obtain ⟨dz, s2, e3, e4⟩ := R.bnd_ok e2
    obtain ⟨e5, rfl⟩ := ofO_ok e3
    cases e4
    obtain ⟨v, hv, rx⟩ := eo.get i dx hd
    refine ⟨v, hv, φ, W, ρ, s, dy, s', eo, so, e1, fun φ1 H1 y x1 so1 ry => ?_⟩
    cases dx <;> cases dy <;> simp only [augD, reduceCtorEq, Option.some.injEq] at e5
    subst e5
    cases rx; cases ry
    exact ⟨_, _, rfl, rfl, k φ1 _ H1 x1 so1 ((eo.up x1).set (.int _))⟩
  · cases e
theorem psf_expr (he : PEf X e fe) (hn : notComp e = true) : PSf X (.Expr e pos) (fun ρ s => (fe ρ s).bnd fun _ s1 => .ok (.nx ρ) s1) := (ps_expr he (sw_plain hn)).imp fun D₀ σ H q => by
  obtain ⟨φ, W, ρ, s, o, s', eo, so, e, k⟩ := q
  obtain ⟨d, s1, e1, e2⟩ := R.bnd_ok e
  cases e2
  exact ⟨φ, W, ρ, s, d, s', eo, so, e1, fun φ1 H1 v x1 so1 r => k φ1 σ H1 x1 so1 (eo.up x1)⟩
theorem psf_ret (he : PEf X e fe) : PSf X (.Return (some e) pos) (fun ρ s => (fe ρ s).bnd fun d s1 => .ok (.rt d) s1) := (ps_ret he).imp fun D₀ σ H q => by
  obtain ⟨φ, W, ρ, s, o, s', eo, so, e, k⟩ := q
  obtain ⟨d, s1, e1, e2⟩ := R.bnd_ok e
  cases e2
  exact ⟨φ, W, ρ, s, d, s', eo, so, e1, k⟩
theorem psf_retN : PSf X (.Return none pos) (fun _ s => .ok (.rt .non) s) := ps_retN.imp fun D₀ σ H q => by
  obtain ⟨φ, W, ρ, s, o, s', eo, so, e, k⟩ := q
  cases e
  exact k φ H .non (Ext.refl _ _) so .non
theorem psf_bk : PSf X (.Break pos) (fun ρ s => .ok (.bk ρ) s) := ps_break.imp fun D₀ σ H q => by
  obtain ⟨φ, W, ρ, s, o, s', eo, so, e, k⟩ := q
  cases e
  exact k φ σ H (Ext.refl _ _) so eo
theorem psf_ct : PSf X (.Continue pos) (fun ρ s => .ok (.ct ρ) s) := ps_continue.imp fun D₀ σ H q => by
  obtain ⟨φ, W, ρ, s, o, s', eo, so, e, k⟩ := q
  cases e
  exact k φ σ H (Ext.refl _ _) so eo
theorem psf_ps : PSf X (.Pass pos) (fun ρ s => .ok (.nx ρ) s) := ps_pass.imp fun D₀ σ H q => by
  obtain ⟨φ, W, ρ, s, o, s', eo, so, e, k⟩ := q
  cases e
  exact k φ σ H (Ext.refl _ _) so eo
theorem psf_ife (hc : PTf X c fc) (ha : PSsf X a fa) (hb : PSsf X b fb) : PSf X (.If c a b pos) (fun ρ s => (fc ρ s).bnd fun x s1 => (ofO (truth s1 x) s1).bnd fun k s2 => match k with
    | true => fa ρ s2
    | false => fb ρ s2) := (ps_if hc ha hb).imp fun D₀ σ H q => by
  obtain ⟨φ, W, ρ, s, o, s', eo, so, e, kt⟩ := q
  obtain ⟨dx, s1, e1, e2⟩ := R.bnd_ok e
  obtain ⟨k, s2, e3, e4⟩ := R.bnd_ok e2
  obtain ⟨e5, rfl⟩ := ofO_ok e3
  refine ⟨φ, W, ρ, s, dx, s2, k, eo, so, e1, e5, fun φ' H' x so' => ?_⟩
  cases k with
  | true => exact ⟨φ', W, ρ, s2, o, s', eo.up x, so', e4, kt.up x⟩
  | false => exact ⟨φ', W, ρ, s2, o, s', eo.up x, so', e4, kt.up x⟩

/-! ### for -/
inductive FrRun (body : Env → Store → R Out) (t : TGT) (is : IS) : Nat → Nat → Env → Store → Out → Store → Prop
  | stop {n i : Nat} {ρ : Env} {s : Store} : itemAt is s i = some none → FrRun body t is n i ρ s (.nx ρ) s
  | go {n i : Nat} {ρ ρ1 ρ2 : Env} {s s1 s' : Store} {d : D} {o o' : Out} : itemAt is s i = some (some d) → asgT s t d ρ = some ρ1 → body ρ1 s = .ok o s1 → (o = .nx ρ2 ∨ o = .ct ρ2) → FrRun body t is n (i + 1) ρ2 s1 o' s' →
      FrRun body t is (n + 1) i ρ s o' s'
  | bk {n i : Nat} {ρ ρ1 ρ2 : Env} {s s1 : Store} {d : D} : itemAt is s i = some (some d) → asgT s t d ρ = some ρ1 → body ρ1 s = .ok (.bk ρ2) s1 → FrRun body t is n i ρ s (.nx ρ2) s1
  | rt {n i : Nat} {ρ ρ1 : Env} {s s1 : Store} {d d' : D} : itemAt is s i = some (some d) → asgT s t d ρ = some ρ1 → body ρ1 s = .ok (.rt d') s1 → FrRun body t is n i ρ s (.rt d') s1
theorem fr_snap {body : Env → Store → R Out} {t : TGT} {l0 : List D} : ∀ (l : List D) (i : Nat) (ρ : Env) (s s' : Store) (o : Out), l0.drop i = l → forSnap body t l ρ s = .ok o s' → FrRun body t (.snap l0) l.length i ρ s o s'
  | [], i, ρ, s, s', o, hd, h => by
    cases h
    exact .stop (by show some l0[i]? = some none; rw [List.getElem?_eq_none (List.drop_eq_nil_iff.mp hd)])
  | d :: l, i, ρ, s, s', o, hd, h => by
    have hi : l0[i]? = some d := by
      have := congrArg (·[0]?) hd
      simpa [List.getElem?_drop] using this
    have hd2 : l0.drop (i + 1) = l := by
      rw [← List.drop_drop, hd]
      rfl
    have ha : itemAt (.snap l0) s i = some (some d) := by show some l0[i]? = _; rw [hi]
    unfold forSnap at h
    cases ea : asgT s t d ρ with
    | none => rw [ea] at h; cases h
    | some ρ1 =>
      rw [ea] at h
      obtain ⟨o1, s1, e1, e2⟩ := R.bnd_ok h
      cases o1 with
      | nx ρ2 => exact .go ha ea e1 (.inl rfl) (fr_snap l (i + 1) ρ2 s1 s' o hd2 e2)
      | ct ρ2 => exact .go ha ea e1 (.inr rfl) (fr_snap l (i + 1) ρ2 s1 s' o hd2 e2)
      | bk ρ2 => cases e2; exact .bk ha ea e1
      | rt d2 => cases e2; exact .rt ha ea e1
theorem fr_live {body : Env → Store → R Out} {t : TGT} {m : Nat} : ∀ (n i : Nat) (ρ : Env) (s s' : Store) (o : Out), forLive body t m n i ρ s = .ok o s' → FrRun body t (.live m) n i ρ s o s'
  | 0, _, _, _, _, _, h => by cases h
  | n + 1, i, ρ, s, s', o, h => by
    unfold forLive at h
    split at h
    · cases h
    · rename_i e
      cases h
      exact .stop e
    · rename_i d ha
      cases ea : asgT s t d ρ with
      | none => rw [ea] at h; cases h
      | some ρ1 =>
        rw [ea] at h
        obtain ⟨o1, s1, e1, e2⟩ := R.bnd_ok h
        cases o1 with
        | nx ρ2 => exact .go ha ea e1 (.inl rfl) (fr_live n (i + 1) ρ2 s1 s' o e2)
        | ct ρ2 => exact .go ha ea e1 (.inr rfl) (fr_live n (i + 1) ρ2 s1 s' o e2)
        | bk ρ2 => cases e2; exact .bk ha ea e1
        | rt d2 => cases e2; exact .rt ha ea e1
theorem psf_for {F : Nat} (hp : PassesOwn (model X.prog X.w) X.A X.env X.xe) (hc : X.calm = true) (hi : PIf X tg it fi) (hg : PG X tg (gT X.K t)) (hb : PSsf X b fb) (hs : ∀ x, foldedSetIterable it X.env x = pure x) :
    PSf X (.For tg it b [] pos) (fun ρ s => (fi ρ s).bnd fun di s0 => (ofO (iterD s0 di) s0).bnd fun is s1 => match is with
    | .snap l => forSnap fb t l ρ s1
    | .live m => forLive fb t m F 0 ρ s1) := (ps_for hp hc hi hg hb hs).imp fun D₀ σ H q => by
  obtain ⟨φ, W, ρ, s, o, s', eo, so, e, kt⟩ := q
  obtain ⟨di, s0, e1, e2⟩ := R.bnd_ok e
  obtain ⟨is, s1, e3, e4⟩ := R.bnd_ok e2
  obtain ⟨e5, rfl⟩ := ofO_ok e3
  refine ⟨φ, W, ρ, s, di, is, s1, eo, so, e1, e5, fun φ1 H1 J x1 so1 io => ?_⟩
  have run : ∃ n, FrRun fb t is n 0 ρ s1 o s' := by
    cases is with
    | snap l => exact ⟨_, fr_snap l 0 ρ s1 s' o rfl e4⟩
    | live m => exact ⟨_, fr_live F 0 ρ s1 s' o e4⟩
  obtain ⟨n0, run⟩ := run
  have kt1 := kt.up x1
  refine ⟨fun i m σ H => ∃ φ ρ s, Ext φ1 H1 φ H ∧ StOk X.K X.mg φ W H s ∧ EnvOk X.K X.mg φ W H ρ σ ∧ FrRun fb t is m i ρ s o s', ⟨n0, φ1, ρ, s1, Ext.refl _ _, so1, eo.up x1, run⟩, ?_⟩
  rintro i m σ2 H2 ⟨φ2, ρ2, s2, x2, so2, eo2, rn⟩
  cases rn with
  | stop ha => exact .inl ⟨io.stop i φ2 _ H2 _ x2 WExt.refl so2 ha, kt1 φ2 σ2 H2 x2 so2 eo2⟩
  | @go n _ _ ρ3 ρ4 _ s3 _ d o1 _ ha ea eb ho rn =>
    obtain ⟨g, yl⟩ := io.go i φ2 _ H2 s2 d x2 WExt.refl so2 ha
    refine .inr ⟨g, fun σ' H' => ∃ φ ρ s, Ext φ1 H1 φ H' ∧ StOk X.K X.mg φ W H' s ∧ EnvOk X.K X.mg φ W H' ρ σ' ∧ FrRun fb t is n (i + 1) ρ s o s', fun σ' H' h => ⟨n, Nat.lt_succ_self n, h⟩, fun xv H3 y => ?_⟩
    obtain ⟨x3, so3, rd⟩ := yl xv H3 y
    refine gT_ok ea rd (eo2.up x3) fun σ3 eo3 _ => ⟨φ2, W, ρ3, s2, o1, s3, eo3, so3, eb, ?_⟩
    rcases ho with ho | ho
    · subst ho
      exact fun φ5 σ5 H5 x5 so5 eo5 => ⟨φ5, ρ4, s3, x2.trans (x3.trans x5), so5, eo5, rn⟩
    · subst ho
      exact fun φ5 σ5 H5 x5 so5 eo5 => ⟨φ5, ρ4, s3, x2.trans (x3.trans x5), so5, eo5, rn⟩
  | @bk _ _ _ ρ3 ρ4 _ _ d ha ea eb =>
    obtain ⟨g, yl⟩ := io.go i φ2 _ H2 s2 d x2 WExt.refl so2 ha
    refine .inr ⟨g, fun _ _ => False, fun σ' H' h => h.elim, fun xv H3 y => ?_⟩
    obtain ⟨x3, so3, rd⟩ := yl xv H3 y
    exact gT_ok ea rd (eo2.up x3) fun σ3 eo3 _ => ⟨φ2, W, ρ3, s2, _, s', eo3, so3, eb, fun φ5 σ5 H5 x5 so5 eo5 => kt1 φ5 σ5 H5 (x2.trans (x3.trans x5)) so5 eo5⟩
  | @rt _ _ _ ρ3 _ _ d d' ha ea eb =>
    obtain ⟨g, yl⟩ := io.go i φ2 _ H2 s2 d x2 WExt.refl so2 ha
    refine .inr ⟨g, fun _ _ => False, fun σ' H' h => h.elim, fun xv H3 y => ?_⟩
    obtain ⟨x3, so3, rd⟩ := yl xv H3 y
    exact gT_ok ea rd (eo2.up x3) fun σ3 eo3 _ => ⟨φ2, W, ρ3, s2, _, s', eo3, so3, eb, Kt.up (x2.trans x3) kt1⟩
theorem psf_while {F : Nat} (hp : PassesOwn (model X.prog X.w) X.A X.env X.xe) (hc : PTf X c fc) (hb : PSsf X b fb) : PSf X (.While c b [] pos) (fun ρ s => whileF fc fb F ρ s) := (ps_while hp hc hb).imp fun D₀ σ H q => by
  obtain ⟨φ1, W, ρ, s, o, s', eo, so, e, kt1⟩ := q
  refine ⟨fun m σ2 H2 => ∃ φ ρ s, Ext φ1 H φ H2 ∧ StOk X.K X.mg φ W H2 s ∧ EnvOk X.K X.mg φ W H2 ρ σ2 ∧ whileF fc fb m ρ s = .ok o s', ⟨F, φ1, ρ, s, Ext.refl _ _, so, eo, e⟩, ?_⟩
  rintro m σ2 H2 ⟨φ2, ρ2, s2, x2, so2, eo2, rn⟩
  cases m with
  | zero => cases rn
  | succ m =>
    obtain ⟨dx, s3, e1, e2⟩ := R.bnd_ok rn
    obtain ⟨k, s4, e3, e4⟩ := R.bnd_ok e2
    obtain ⟨e5, rfl⟩ := ofO_ok e3
    refine ⟨φ2, W, ρ2, s2, dx, s4, k, eo2, so2, e1, e5, fun φ3 H3 x3 so3 => ?_⟩
    cases k with
    | false =>
      cases e4
      refine iteF ?_
      exact kt1 φ3 σ2 H3 (x2.trans x3) so3 (eo2.up x3)
    | true =>
      refine iteT ?_
      obtain ⟨o1, s5, e6, e7⟩ := R.bnd_ok e4
      refine ⟨fun σ' H' => ∃ φ ρ s, Ext φ1 H φ H' ∧ StOk X.K X.mg φ W H' s ∧ EnvOk X.K X.mg φ W H' ρ σ' ∧ whileF fc fb m ρ s = .ok o s', fun σ' H' h => ⟨m, Nat.lt_succ_self m, h⟩, φ3, W, ρ2, _, o1, s5, eo2.up x3, so3, e6, ?_⟩
      cases o1 with
      | nx ρ5 => exact fun φ5 σ5 H5 x5 so5 eo5 => ⟨φ5, ρ5, s5, x2.trans (x3.trans x5), so5, eo5, e7⟩
      | ct ρ5 => exact fun φ5 σ5 H5 x5 so5 eo5 => ⟨φ5, ρ5, s5, x2.trans (x3.trans x5), so5, eo5, e7⟩
      | bk ρ5 => cases e7; exact fun φ5 σ5 H5 x5 so5 eo5 => kt1 φ5 σ5 H5 (x2.trans (x3.trans x5)) so5 eo5
      | rt d5 => cases e7; exact Kt.up (x2.trans x3) kt1
end
end Rf

set_option Elab.async false
set_option linter.all false
set_option maxRecDepth 100000
set_option maxHeartbeats 4000000
/-! Rs5: dict displays; targets that are places of objects. -/
namespace Rf
open PySem PySem.Spec PyProof.Rows L2
section
variable {X : Cx}
theorem pe_or2 {e : Expr} {t t' : TE} (h : PE X e t) (h' : PE X e t') : PE X e (fun σ H Q => t σ H Q ∨ t' σ H Q) :=
  ⟨fun pins s σ H Q I q => q.elim (h.run pins s σ H Q I) (h'.run pins s σ H Q I)⟩
/-! ### keys that are tuples -/
abbrev PsT (H : Hp) : List (V × V) → List (List Key × V) → Prop := Paired fun p q => (∃ b, p.1 = .ref b ∧ H b = some (.tup (q.1.map kV))) ∧ p.2 = q.2
def mergeP {κ : Type} [DecidableEq κ] (kvs more : List (κ × V)) : List (κ × V) := more.foldl (fun acc kv => putK acc kv.1 kv.2) kvs
theorem length_mergeP {κ : Type} [DecidableEq κ] : ∀ (more kvs : List (κ × V)), (mergeP kvs more).length ≤ kvs.length + more.length
  | [], kvs => by show kvs.length ≤ kvs.length + 0; omega
  | p :: r, kvs => by
    have h1 := length_mergeP r (putK kvs p.1 p.2)
    have h2 := length_putK kvs p.1 p.2
    show (mergeP (putK kvs p.1 p.2) r).length ≤ _
    rw [List.length_cons]; omega
theorem carriesT {pins : List (Addr × Obj)} {σ : L2.St} {H : Hp} {s : Shared} (I : Inv X pins σ H s) : ∀ {kvs : List (List Key × V)} {ps : List (V × V)} {ws : List (Value × Value)}, PsT H ps kvs → VV ps ws →
    ∃ rs, CarriesH (tupleKind (mixKind X.prog X.w)) s.heap ws rs ∧ KT H kvs rs
  | [], _, _, h, r => by cases h; cases r; exact ⟨[], True.intro, .nil⟩
  | kv :: kvs, _, _, h, r => by
    cases h with
    | @cons p _ ps _ h t =>
      cases r with
      | @cons _ w _ ws r rt =>
        obtain ⟨rs, c, q⟩ := carriesT I t rt
        obtain ⟨⟨b, e1, e2⟩, e3⟩ := h
        obtain ⟨r1, r2⟩ := r
        rw [e1] at r1
        have r1 : w.1 = Value.ref b := r1
        exact ⟨(kv.1, b, w.2) :: rs, ⟨r1, rfl, key_of I.hok e2, c⟩, .cons ⟨rfl, e2, e3 ▸ r2⟩ q⟩
theorem KT_merge {H : Hp} : ∀ {more : List (List Key × V)} {rs : List (List Key × Addr × Value)} {kvs : List (List Key × V)} {xs : List (List Key × Addr × Value)}, KT H more rs → KT H kvs xs → KT H (mergeP kvs more) (storedAllH xs rs)
  | [], _, _, _, r, q => by cases r; exact q
  | p :: more, _, _, _, r, q => by
    cases r with
    | @cons _ x _ xs' h t =>
      obtain ⟨h1, h2, h3⟩ := h
      have e := q.put p.1 h2 h3
      have e3 := KT_merge t e
      show KT H (mergeP (putK _ p.1 p.2) more) (storedAllH (storedH _ x.1 x.2.1 x.2.2) xs')
      rw [← h1]
      exact e3
def tDispT (trs : List (TE × TE)) : TE := fun σ H Q => ∀ p, H p = none → tPairs trs σ (upd H p (.dT [])) fun ps H2 => H2 p = some (.dT []) ∧ ∃ kvs : List (List Key × V), PsT H2 ps kvs ∧ kvs.length ≤ 15 ∧ Q (.ref p) (upd H2 p (.dT (mergeP [] kvs)))
theorem pe_dispT {pos : Pos} {keys : List (Option Expr)} {values : List Expr} {trs : List (TE × TE)} (hu : X.A.units + 1 < cLine) (h : PPs X pos keys values trs) (hall : keys.all (·.isSome) = true) (hl : keys.length = values.length) (h0 : keys ≠ [])
    (h15 : keys.length ≤ 15) : PE X (.Dict keys values pos) (tDispT trs) := by
  refine ⟨fun pins s σ H Q I q => ?_⟩
  have hn := I.hok.fresh (Nat.le_refl s.heap.objs.size)
  have I1 := I.laid (a := s.heap.objs.size) (o := .dT []) (h' := s.heap.push { cls := .type "dict", data := .dict #[] }) (t' := s.toks) (fun _ _ q => Heap.get?_push_of_some _ q) (Nat.le_refl _) (dt_empty s.heap I.big)
  have hpl := pairTrees_length keys values X.env pos hall hl
  have hne : pairTrees keys values X.env pos ≠ [] := fun e => h0 (by rw [e] at hpl; exact List.length_eq_zero_iff.mp hpl.symm)
  rw [arm_eval_Dict, zip_pairTrees keys values X.env pos hall hl, dictDisplay_pairs _ hne (by omega)]
  have run := h.run pins _ σ _ _ I1 (q _ hn)
  refine wpAny_bind (wpAny_standAt (wpAny_bind (wpAny_subDictH (knd := tupleKind (mixKind X.prog X.w)) (show X.A.units < cLine by omega) (by omega) (wpAny_mono run (fun vs s1 h1 => ?_) fun _ _ e => e))))
  obtain ⟨ps, H2, I2, rel, e0, kvs, hp, lk, q2⟩ := h1
  obtain ⟨rs, c, rk⟩ := carriesT I2 hp rel
  obtain ⟨_, hd, zs, kt, dd⟩ := dt_of I2.hok e0
  cases kt
  refine ⟨rs, c, dd, fun h' tk hm hs => wpAny_pure ⟨.ref s.heap.objs.size, _, ?_, rfl, q2⟩⟩
  have hz : (mergeP [] kvs).length ≤ sizeLine := by
    have h1 := length_mergeP kvs []
    rw [List.length_nil] at h1
    rw [sizeLine_eq]; omega
  obtain ⟨o', es', ep', ho', hc', hd', he', _, hn'⟩ := hm
  refine d_write I2 (by rw [e0]; exact True.intro) hs ⟨o', ho'⟩ ⟨hz, hd, _, (KT_merge rk .nil).keeps fun b ys eb => ?_, o', es', ep', ho', hc', hd', he', hn'⟩
  rw [upd_ne (ne_of eb e0 (fun z => nomatch z))]
  exact eb
/-! ### the pairs, by a function -/
def flatP : List (V × V) → List V
  | [] => []
  | p :: r => p.1 :: p.2 :: flatP r
def PPf (X : Cx) (pos : Pos) (keys : List (Option Expr)) (values : List Expr) (f : Env → Store → R (List D)) : Prop := ∃ trs, PPs X pos keys values trs ∧ ∀ σ H Q, (∃ φ W ρ s ds s', EnvOk X.K X.mg φ W H ρ σ ∧ StOk X.K X.mg φ W H s ∧ f ρ s = .ok ds s' ∧
  ∀ φ' H' ps, Ext φ H φ' H' → StOk X.K X.mg φ' W H' s' → RepL X.K X.mg φ' W H' ds (flatP ps) → Q ps H') → tPairs trs σ H Q
theorem ppf_nil {pos : Pos} : PPf X pos [] [] (fun _ s => .ok [] s) := ⟨[], pps_nil, fun σ H Q q => by
  obtain ⟨φ, W, ρ, s, ds, s', eo, so, e, k⟩ := q
  cases e
  exact k φ H [] (Ext.refl _ _) so .nil⟩
theorem ppf_cons {pos : Pos} {k v : Expr} {ks : List (Option Expr)} {vs : List Expr} {fk fv : Env → Store → R D} {fr : Env → Store → R (List D)} (hk : PEf X k fk) (hv : PEf X v fv) (hr : PPf X pos ks vs fr) :
    PPf X pos (some k :: ks) (v :: vs) (fun ρ s => (fk ρ s).bnd fun x s1 => ((fv ρ s1).bnd fun y s2 => (fr ρ s2).bnd fun ds s3 => .ok (y :: ds) s3).bnd fun ds s3 => .ok (x :: ds) s3) := by
  obtain ⟨trs, h1, h2⟩ := hr
  refine ⟨_, pps_cons hk hv h1, fun σ H Q q => ?_⟩
  obtain ⟨φ, W, ρ, s, ds, s', eo, so, e, kt⟩ := q
  obtain ⟨x, s1, e1, e2⟩ := R.bnd_ok e
  obtain ⟨ds1, s2, e3, e4⟩ := R.bnd_ok e2
  obtain ⟨y, s3, e5, e6⟩ := R.bnd_ok e3
  obtain ⟨ds2, s4, e7, e8⟩ := R.bnd_ok e6
  cases e4
  cases e8
  refine ⟨φ, W, ρ, s, x, s1, eo, so, e1, fun φ1 H1 xv x1 so1 rx => ⟨φ1, W, ρ, s1, y, s3, eo.up x1, so1, e5, fun φ2 H2 yv x2 so2 ry => h2 _ _ _ ⟨φ2, W, ρ, s3, ds2, _, eo.up (x1.trans x2), so2, e7, fun φ3 H3 ps x3 so3 rp => ?_⟩⟩⟩
  exact kt φ3 H3 _ ((x1.trans x2).trans x3) so3 (.cons (rx.up (x2.trans x3)) (.cons (ry.up x3) rp))
section
variable {K : PySem.W.Frag} {mg : Str → Option Value} {φ W : List Addr} {H : Hp}
theorem pairK_rep : ∀ {ds : List D} {ps : List (V × V)} {l : List (Key × D)}, RepL K mg φ W H ds (flatP ps) → pairK ds = some l → ∃ kvs, ps = kvs.map (fun kv => (kV kv.1, kv.2)) ∧ RepK K mg φ W H l kvs ∧ kvs.length * 2 = ds.length
  | [], [], _, r, e => by cases e; exact ⟨[], rfl, ⟨rfl, .nil⟩, rfl⟩
  | [], _ :: _, _, r, e => by cases r
  | [_], _, _, _, e => by cases e
  | x :: y :: ds, [], _, r, e => by cases r
  | x :: y :: ds, p :: ps, l, r, e => by
    cases r with
    | cons r1 r =>
      cases r with
      | cons r2 r =>
        unfold pairK at e
        obtain ⟨k, e1, e2⟩ := Option.bind_eq_some_iff.mp e
        obtain ⟨l', e3, e4⟩ := Option.map_eq_some_iff.mp e2
        subst e4
        obtain ⟨kvs, h1, h2, h3⟩ := pairK_rep r e3
        refine ⟨(k, p.2) :: kvs, ?_, ⟨by simp [h2.1], .cons r2 h2.2⟩, by simp; omega⟩
        rw [List.map_cons, ← h1, ← keyK_rep r1 e1]
theorem pairT_rep : ∀ {ds : List D} {ps : List (V × V)} {l : List (List Key × D)}, RepL K mg φ W H ds (flatP ps) → pairT ds = some l → ∃ kvs, PsT H ps kvs ∧ RepK K mg φ W H l kvs ∧ kvs.length * 2 = ds.length
  | [], [], _, r, e => by cases e; exact ⟨[], .nil, ⟨rfl, .nil⟩, rfl⟩
  | [], _ :: _, _, r, e => by cases r
  | [_], _, _, _, e => by cases e
  | x :: y :: ds, [], _, r, e => by cases r
  | x :: y :: ds, p :: ps, l, r, e => by
    cases r with
    | cons r1 r =>
      cases r with
      | cons r2 r =>
        unfold pairT at e
        obtain ⟨k, e1, e2⟩ := Option.bind_eq_some_iff.mp e
        obtain ⟨l', e3, e4⟩ := Option.map_eq_some_iff.mp e2
        subst e4
        obtain ⟨kvs, h1, h2, h3⟩ := pairT_rep r e3
        obtain ⟨b, hb1, hb2⟩ := keyT_rep r1 e1
        exact ⟨(k, p.2) :: kvs, .cons ⟨⟨b, hb1, hb2⟩, rfl⟩ h1, ⟨by simp [h2.1], .cons r2 h2.2⟩, by simp; omega⟩
theorem RepK.fold {κ : Type} [DecidableEq κ] : ∀ {more : List (κ × D)} {ms : List (κ × V)} {acc : List (κ × D)} {kvs : List (κ × V)}, RepK K mg φ W H more ms → RepK K mg φ W H acc kvs → RepK K mg φ W H (more.foldl (fun acc kv => putD acc kv.1 kv.2) acc) (mergeP kvs ms)
  | [], [], _, _, _, q => q
  | [], _ :: _, _, _, r, _ => by have := congrArg List.length r.1; simp at this
  | _ :: _, [], _, _, r, _ => by have := congrArg List.length r.1; simp at this
  | (k1, d1) :: more, (k2, v1) :: ms, acc, kvs, r, q => by
    obtain ⟨h1, h2⟩ := r
    simp only [List.map_cons, List.cons.injEq] at h1
    obtain ⟨rfl, h1⟩ := h1
    cases h2 with
    | cons r1 t => exact RepK.fold (more := more) (ms := ms) ⟨h1, t⟩ (q.put k1 r1)
end
section
variable {K : PySem.W.Frag} {mg : Str → Option Value} {φ W : List Addr} {H : Hp} {p : Addr} {o ho : HO}
theorem RepK.born {κ : Type} (e0 : H p = some ho) (hm : Mut (some ho)) {l : List (κ × D)} {kvs : List (κ × V)} (r : RepK K mg φ (p :: W) H l kvs) : RepK K mg (φ ++ [p]) W (upd H p o) l kvs :=
  ⟨r.1, RepL.born e0 hm _ _ r.2⟩
end
/-- a new object of the store that stood aside while its parts were made -/
theorem disp_done {K : PySem.W.Frag} {mg : Str → Option Value} {φ φ2 W : List Addr} {H H2 : Hp} {s2 : Store} {p : Addr} {ho hn : HO} {ob : MO} {Q : VK} (hp : H p = none) (hm : Mut (some ho)) (x : Ext φ (upd H p ho) φ2 H2) (so : StOk K mg φ2 (p :: W) H2 s2) (hpφ : p ∉ φ)
    (q : MOk K mg (φ2 ++ [p]) W (upd H2 p hn) p ob) (hw : ∀ a ∈ W, a ≠ p) (kt : Kt K mg φ W H (s2 ++ [ob]) (.ref s2.length) Q) : H2 p = some ho ∧ Q (.ref p) (upd H2 p hn) := by
  obtain ⟨e0, n0⟩ := x.keep p _ upd_same hpφ
  refine ⟨e0, kt (φ2 ++ [p]) _ _ ?_ ?_ (.ref ?_)⟩
  · have ne : ∀ {a u}, H a = some u → a ≠ p := fun e z => by rw [z, hp] at e; cases e
    obtain ⟨l, el⟩ := x.pre
    refine ⟨⟨l ++ [p], by rw [el, List.append_assoc]⟩, fun a o e n => ?_, fun a o e => ?_, fun a o u e => ?_, fun a o e => ?_⟩
    · obtain ⟨q1, q2⟩ := x.keep a o (by rw [upd_ne (ne e)]; exact e) n
      exact ⟨by rw [upd_ne (ne e)]; exact q1, by simp [q2, ne e]⟩
    · rw [upd_ne (ne e)]
      exact x.tups a o (by rw [upd_ne (ne e)]; exact e)
    · rw [upd_ne (ne e)]
      exact x.frzs a o u (by rw [upd_ne (ne e)]; exact e)
    · rw [upd_ne (ne e)]
      exact x.some_ a o (by rw [upd_ne (ne e)]; exact e)
  · exact so.born e0 hm hw q
  · rw [← so.len, List.getElem?_append_right (Nat.le_refl _), Nat.sub_self]
    rfl
theorem pef_ddisp {pos : Pos} {keys : List (Option Expr)} {values : List Expr} {fs : Env → Store → R (List D)} (hu : X.A.units + 1 < cLine) (h : PPf X pos keys values fs) (hall : keys.all (·.isSome) = true) (hl : keys.length = values.length) (h0 : keys ≠ [])
    (h15 : keys.length ≤ 15) (hln : ∀ ρ s ds s', fs ρ s = .ok ds s' → ds.length = keys.length * 2) :
    PEf X (.Dict keys values pos) (fun ρ s => (fs ρ s).bnd fun ds s1 => (ofO (pairO ds) s1).bnd fun ob s2 => .ok (.ref s2.length) (s2 ++ [ob])) := by
  obtain ⟨trs, h1, h2⟩ := h
  refine (pe_or2 (pe_disp h1 hall hl h0 h15) (pe_dispT hu h1 hall hl h0 h15)).imp fun σ H Q q => ?_
  obtain ⟨φ, W, ρ, s, d, s', eo, so, e, kt⟩ := q
  obtain ⟨ds, s1, e1, e2⟩ := R.bnd_ok e
  obtain ⟨ob, s2, e3, e4⟩ := R.bnd_ok e2
  obtain ⟨e5, rfl⟩ := ofO_ok e3
  cases e4
  have nD := hln _ _ _ _ e1
  have begin : ∀ (ho : HO) (p : Addr), H p = none → EnvOk X.K X.mg φ (p :: W) (upd H p ho) ρ σ ∧ StOk X.K X.mg φ (p :: W) (upd H p ho) s := fun ho p hp =>
    ⟨(eo.wext (W2 := p :: W) fun b hb => by
      rcases List.mem_cons.mp hb with z | z
      · exact .inr (by rw [z]; exact hp)
      · exact .inl z).up (Ext.new hp), so.more hp⟩
  unfold pairO at e5
  cases hk : pairK ds with
  | some l =>
    rw [hk] at e5
    cases e5
    refine .inl fun p hp => h2 _ _ _ ⟨φ, p :: W, ρ, s, ds, s2, (begin _ p hp).1, (begin _ p hp).2, e1, fun φ2 H2 ps x so2 rp => ?_⟩
    obtain ⟨kvs, g1, g2, g3⟩ := pairK_rep rp hk
    have e0 := (x.keep p _ upd_same (so.free hp).1).1
    obtain ⟨q1, q2⟩ := disp_done (ho := .dK []) (hn := .dK (mergeP [] kvs)) (ob := .dk (l.foldl (fun acc kv => putD acc kv.1 kv.2) [])) hp trivial x so2 (so.free hp).1 ⟨_, upd_same, (RepK.fold g2 ⟨rfl, .nil⟩).born e0 trivial⟩ (fun a ha z => (so.free hp).2 (z ▸ ha)) kt
    exact ⟨q1, kvs, g1, by omega, q2⟩
  | none =>
    rw [hk] at e5
    obtain ⟨l, hk2, e6⟩ := Option.map_eq_some_iff.mp e5
    subst e6
    refine .inr fun p hp => h2 _ _ _ ⟨φ, p :: W, ρ, s, ds, s2, (begin _ p hp).1, (begin _ p hp).2, e1, fun φ2 H2 ps x so2 rp => ?_⟩
    obtain ⟨kvs, g1, g2, g3⟩ := pairT_rep rp hk2
    have e0 := (x.keep p _ upd_same (so.free hp).1).1
    obtain ⟨q1, q2⟩ := disp_done (ho := .dT []) (hn := .dT (mergeP [] kvs)) (ob := .dt (l.foldl (fun acc kv => putD acc kv.1 kv.2) [])) hp trivial x so2 (so.free hp).1 ⟨_, upd_same, (RepK.fold g2 ⟨rfl, .nil⟩).born e0 trivial⟩ (fun a ha z => (so.free hp).2 (z ▸ ha)) kt
    exact ⟨q1, kvs, g1, by omega, q2⟩
/-! ### targets that are places -/
def setT : TSet := fun o i v H Q => rSetL o i v H Q ∨ ∃ a H', o = .ref a ∧ DPut H a i v H' ∧ Q H'
theorem pset_all (hu : X.A.units + 1 < cLine) : PSet X setT := PSet.or set_list (set_dict hu)
theorem put_ok {K : PySem.W.Frag} {mg : Str → Option Value} {φ W : List Addr} {H : Hp} {s : Store} {m : Nat} {ob ob' : MO} {dk dv : D} {xv kv vv : V} {Q : Hp → Prop} (so : StOk K mg φ W H s) (rx : Rep K mg φ W H (.ref m) xv) (hm : s[m]? = some ob) (e : putO ob dk dv = some ob')
    (rk : Rep K mg φ W H dk kv) (rv : Rep K mg φ W H dv vv) (k : ∀ H', Ext φ H φ H' → StOk K mg φ W H' (s.set m ob') → Q H') : setT xv kv vv H Q := by
  cases rx with
  | @ref _ a ha =>
    have q := so.obj m a _ ha hm
    have hmu := so.mut ha hm (fun z => by subst z; cases e)
    have fin : ∀ ho, (Ext φ H φ (upd H a ho) → MOk K mg φ W (upd H a ho) a ob') → Q (upd H a ho) := fun ho r => by
      have xx := Ext.wr (o := ho) ha hmu
      exact k _ xx (so.wr' ha hmu r)
    cases ob with
    | lkd => cases e
    | lst l =>
      cases dk <;> simp only [putO, reduceCtorEq] at e
      obtain ⟨p, hx, e10⟩ := Option.map_eq_some_iff.mp e
      subst e10
      cases rk
      obtain ⟨xs, h1, r⟩ := q
      exact .inl ⟨a, xs, _, p, rfl, rfl, h1, by rw [← r.length]; exact hx, fin _ fun x => ⟨_, upd_same, (r.set rv).up x⟩⟩
    | dk l =>
      obtain ⟨kk, hk, e10⟩ := Option.bind_eq_some_iff.mp e
      obtain ⟨kvs, h1, r⟩ := q
      split at e10
      · rename_i hz
        cases e10
        exact .inr ⟨a, _, rfl, .inl ⟨kvs, kk, h1, keyK_rep rk hk, by rw [LINE_eq, ← r.length]; exact hz, rfl⟩, fin _ fun x => ⟨_, upd_same, (r.put kk rv).up x⟩⟩
      · cases e10
    | dt l =>
      obtain ⟨kk, hk, e10⟩ := Option.bind_eq_some_iff.mp e
      obtain ⟨kvs, h1, r⟩ := q
      obtain ⟨b, rfl, hb⟩ := keyT_rep rk hk
      split at e10
      · rename_i hz
        cases e10
        exact .inr ⟨a, _, rfl, .inr ⟨kvs, kk, b, h1, rfl, hb, by rw [LINE_eq, ← r.length]; exact hz, rfl⟩, fin _ fun x => ⟨_, upd_same, (r.put kk rv).up x⟩⟩
      · cases e10
section
variable (C : Str → List D → Store → R D) (G : Str → Option D) (F : Nat)
def gMs (K : PySem.W.Frag) (mg : Str → Option Value) : MTs → TGs
  | .nil => gNil
  | .nm i r => gCons (gName i) (gMs K mg r)
  | .ix o i r => gCons (gSub (tE K mg (ev C G F o)) (tE K mg (ev C G F i)) setT) (gMs K mg r)
end
theorem gMs_ok {C : Str → List D → Store → R D} {G : Str → Option D} {F : Nat} {K : PySem.W.Frag} {mg : Str → Option Value} {W : List Addr} : ∀ {ts : MTs} {ds : List D} {vs : List V} {φ : List Addr} {H : Hp} {ρ ρ' : Env} {s s' : Store} {σ : L2.St} {Q : L2.St → Hp → Prop}, asgMs C G F ts ds ρ s = .ok ρ' s' → RepL K mg φ W H ds vs → StOk K mg φ W H s → EnvOk K mg φ W H ρ σ →
    (∀ φ' H' σ', Ext φ H φ' H' → StOk K mg φ' W H' s' → EnvOk K mg φ' W H' ρ' σ' → Q σ' H') → gMs C G F K mg ts vs σ H Q
  | .nil, ds, vs, φ, H, ρ, ρ', s, s', σ, Q, e, r, so, eo, k => by
    cases ds with
    | nil => cases r; cases e; exact ⟨rfl, k φ H σ (Ext.refl _ _) so eo⟩
    | cons => cases e
  | .nm i t, ds, vs, φ, H, ρ, ρ', s, s', σ, Q, e, r, so, eo, k => by
    cases ds with
    | nil => cases e
    | cons d ds =>
      cases r with
      | cons r1 r2 => exact ⟨_, _, rfl, gMs_ok (show asgMs C G F t ds (ρ.set i (some d)) s = .ok ρ' s' from e) r2 so (eo.set r1) k⟩
  | .ix o i t, ds, vs, φ, H, ρ, ρ', s, s', σ, Q, e, r, so, eo, k => by
    cases ds with
    | nil => cases e
    | cons d ds =>
      cases r with
      | cons r1 r2 =>
        unfold asgMs at e
        obtain ⟨x, s2, e1, e2⟩ := R.bnd_ok e
        obtain ⟨dk, s3, e3, e4⟩ := R.bnd_ok e2
        cases x <;> simp only [reduceCtorEq] at e4
        rename_i m
        obtain ⟨ob', s4, e5, e6⟩ := R.bnd_ok e4
        obtain ⟨e7, rfl⟩ := ofO_ok e5
        obtain ⟨ob, hm, e9⟩ := Option.bind_eq_some_iff.mp e7
        refine ⟨_, _, rfl, φ, W, ρ, s, _, s2, eo, so, e1, fun φ1 H1 xv x1 so1 rx => ⟨φ1, W, ρ, s2, dk, _, eo.up x1, so1, e3, fun φ2 H2 kv x2 so2 rk => ?_⟩⟩
        exact put_ok so2 (rx.up x2) hm e9 rk (r1.up (x1.trans x2)) fun H3 x3 so3 => gMs_ok e6 (r2.up ((x1.trans x2).trans x3)) so3 (eo.up ((x1.trans x2).trans x3)) fun φ' H' σ' x' => k φ' H' σ' (((x1.trans x2).trans x3).trans x')
theorem psf_asgM {C : Str → List D → Store → R D} {G : Str → Option D} {F : Nat} {ts : MTs} {es : List Expr} {kk : Nat} {e : Expr} {pos pt : Pos} {fe : Env → Store → R D} (hc : X.calm = true) (he : PEf X e fe) (hg : PGs X es (gMs C G F X.K X.mg ts)) (hn : (assignEach es X.env).length = ts.len)
    (hst : (assignEach es X.env).findIdx? (·.1) = none) (hw : swappedStores [.Tuple es kk pt] e X.env = pure none) : PSf X (.Assign [.Tuple es kk pt] e pos) (fun ρ s => (fe ρ s).bnd fun d s1 => match d with
    | .tup ds => if ds.length = ts.len then (asgMs C G F ts ds ρ s1).bnd fun ρ' s2 => .ok (.nx ρ') s2 else .bad
    | _ => .bad) := (ps_asg he (pg_tup hc hg hn hst) (sw_sub fun _ _ z => nomatch z) hw rfl).imp fun D₀ σ H q => by
  obtain ⟨φ, W, ρ, s, o, s', eo, so, e, k⟩ := q
  obtain ⟨d, s1, e1, e2⟩ := R.bnd_ok e
  refine ⟨φ, W, ρ, s, d, s1, eo, so, e1, fun φ1 H1 vv x1 so1 rv => ?_⟩
  cases d <;> simp only [reduceCtorEq] at e2
  rename_i ds
  split at e2
  · rename_i hl
    obtain ⟨ρ', s2, e3, e4⟩ := R.bnd_ok e2
    cases e4
    cases rv with
    | tup h r => exact ⟨_, _, rfl, sqT_of h, by rw [← r.length]; exact hl, gMs_ok e3 r so1 (eo.up x1) fun φ' H' σ' x' so' eo' => k φ' σ' H' (x1.trans x') so' eo'⟩
  · cases e2
/-! ### a comprehension over a dict's keys: the dict stands locked -/
section
variable {K : PySem.W.Frag} {mg : Str → Option Value} {φ φ' W : List Addr} {H H' : Hp} {a : Addr} {od : Obj} {u : HO}
mutual
theorem Rep.unlk (ha : a ∈ φ) (hf : H a = some (.frz od u)) (hu : ∀ z, u ≠ .lst z) : ∀ (d : D) (v : V), Rep K mg φ W H d v → Rep K mg φ W (upd H a u) d v
  | .non, _, h => by cases h; exact .non
  | .bl b, _, h => by cases h; exact .bl b
  | .int i, _, h => by cases h; exact .int i
  | .str y, _, h => by cases h with | str _ e => exact .str y e
  | .ty t, _, h => by cases h; exact .ty t
  | .glo y, _, h => by cases h with | glo e => exact .glo e
  | .ref m, _, h => by cases h with | ref e => exact .ref e
  | .tup ds, _, h => by cases h with | tup e r => exact .tup (by rw [upd_ne (fun z => by rw [z, hf] at e; cases e)]; exact e) (RepL.unlk ha hf hu ds _ r)
  | .ktu ds, _, h => by cases h with | ktu e r => exact .ktu e (RepL.unlk ha hf hu ds _ r)
  | .lst ds, _, h => by
    cases h with
    | @lst b _ _ e n n' r => exact .lst (by rw [upd_ne (fun (z : b = a) => n (z ▸ ha))]; exact e) n n' (RepL.unlk ha hf hu ds _ r)
  | .scr ds, _, h => by
    cases h with
    | @scr b xs _ e r =>
      refine .scr ?_ (RepL.unlk ha hf hu ds _ r)
      rcases e with (⟨o, e⟩ | e) | e
      · exact .inl (.inl ⟨o, by rw [upd_ne (fun z => by rw [z, hf] at e; cases e; exact hu _ rfl)]; exact e⟩)
      · exact .inl (.inr e)
      · exact .inr e
  | .dk _, _, h => by cases h
  | .dt _, _, h => by cases h
  | .nop, _, h => by cases h
theorem RepL.unlk (ha : a ∈ φ) (hf : H a = some (.frz od u)) (hu : ∀ z, u ≠ .lst z) : ∀ (ds : List D) (vs : List V), RepL K mg φ W H ds vs → RepL K mg φ W (upd H a u) ds vs
  | [], _, h => by cases h; exact .nil
  | d :: ds, _, h => by cases h with | cons r t => exact .cons (Rep.unlk ha hf hu d _ r) (RepL.unlk ha hf hu ds _ t)
end
theorem StOk.unlk {s : Store} {m : Nat} {ob : MO} (h : StOk K mg φ W H s) (ha : φ[m]? = some a) (hf : H a = some (.frz od u)) (hu : ∀ z, u ≠ .lst z) (q : MOk K mg φ W (upd H a u) a ob) : StOk K mg φ W (upd H a u) (s.set m ob) := by
  have hmem := List.mem_of_getElem? ha
  refine ⟨h.nd, by simp [h.len], fun m' a' ob' e1 e2 => ?_, fun c hc => ?_⟩
  · by_cases hm : m' = m
    · subst hm
      rw [ha] at e1
      cases e1
      rw [List.getElem?_set_self (by rw [← h.len]; exact (List.getElem?_eq_some_iff.mp ha).1)] at e2
      cases e2
      exact q
    · rw [List.getElem?_set_ne (Ne.symm hm)] at e2
      have hne : a' ≠ a := fun z => by
        subst z
        exact hm (nodup_ixA h.nd e1 ha)
      have q := h.obj m' a' ob' e1 e2
      cases ob' with
      | lst l => obtain ⟨xs, g1, r⟩ := q; exact ⟨xs, by rw [upd_ne hne]; exact g1, RepL.unlk hmem hf hu _ _ r⟩
      | dk l => obtain ⟨xs, g1, r⟩ := q; exact ⟨xs, by rw [upd_ne hne]; exact g1, r.1, RepL.unlk hmem hf hu _ _ r.2⟩
      | dt l => obtain ⟨xs, g1, r⟩ := q; exact ⟨xs, by rw [upd_ne hne]; exact g1, r.1, RepL.unlk hmem hf hu _ _ r.2⟩
      | lkd => obtain ⟨o, v, g1⟩ := q; exact ⟨o, v, by rw [upd_ne hne]; exact g1⟩
  · obtain ⟨n, o1, h1⟩ := h.w c hc
    exact ⟨n, o1, by rw [upd_ne (fun (z : c = a) => n (z ▸ hmem))]; exact h1⟩
theorem Ext.unlk (x : Ext φ (upd H a (.frz od u)) φ' H') (ha : a ∈ φ) (h0 : H a = some u) (hm : Mut (some u)) : Ext φ H φ' (upd H' a u) := by
  have nt : ∀ {b xs}, H b = some (.tup xs) → b ≠ a := fun e z => by rw [z, h0] at e; cases e; exact hm
  have nf : ∀ {b o v}, H b = some (.frz o v) → b ≠ a := fun e z => by rw [z, h0] at e; cases e; exact hm
  refine ⟨x.pre, fun b o e n => ?_, fun b xs e => ?_, fun b o v e => ?_, fun b o e => ?_⟩
  · have ne : b ≠ a := fun z => n (z ▸ ha)
    obtain ⟨q1, q2⟩ := x.keep b o (by rw [upd_ne ne]; exact e) n
    exact ⟨by rw [upd_ne ne]; exact q1, q2⟩
  · rw [upd_ne (nt e)]
    exact x.tups b xs (by rw [upd_ne (nt e)]; exact e)
  · rw [upd_ne (nf e)]
    exact x.frzs b o v (by rw [upd_ne (nf e)]; exact e)
  · by_cases z : b = a
    · subst z; exact ⟨u, upd_same⟩
    · rw [upd_ne z]
      exact x.some_ b o (by rw [upd_ne z]; exact e)
theorem keyDw_rep : ∀ (k : Key), kOk k = true → Rep K mg φ W H (keyD k) (kV k)
  | .inl i, _ => .int i
  | .inr x, h => .str x h
theorem keyDs_rep : ∀ (ks : List Key), ks.all kOk = true → RepL K mg φ W H (ks.map keyD) (ks.map kV)
  | [], _ => .nil
  | k :: ks, h => by
    simp only [List.all_cons, Bool.and_eq_true] at h
    exact .cons (keyDw_rep k h.1) (keyDs_rep ks h.2)
theorem it_keysK {l : List (Key × D)} {kvs : List (Key × V)} (hf : H a = some (.frz od (.dK kvs))) (hk : l.map (·.1) = kvs.map (·.1)) (ho : l.all (fun kv => kOk kv.1) = true) : ItOk K mg φ W H (.snap (l.map fun kv => keyD kv.1)) (Itk a od kvs) := by
  have hl : l.length = kvs.length := by simpa using congrArg List.length hk
  refine ⟨fun i φ2 W2 H2 s2 d x w so e => ?_, fun i φ2 W2 H2 s2 x w so e => ?_⟩
  · have e : (l.map fun kv => keyD kv.1)[i]? = some d := Option.some.inj e
    rw [List.getElem?_map] at e
    obtain ⟨kv, h1, rfl⟩ := Option.map_eq_some_iff.mp e
    refine ⟨⟨x.frzs _ _ _ hf, by rw [← hl]; exact (List.getElem?_eq_some_iff.mp h1).1⟩, fun y H3 ⟨e3, k, v, h3, h4⟩ => ?_⟩
    subst e3 h4
    have e5 : (l.map (·.1))[i]? = (kvs.map (·.1))[i]? := by rw [hk]
    rw [List.getElem?_map, List.getElem?_map, h1, h3] at e5
    have e5 : kv.1 = k := Option.some.inj e5
    subst e5
    exact ⟨Ext.refl _ _, so, keyDw_rep _ (List.all_eq_true.mp ho kv (List.mem_of_getElem? h1))⟩
  · have e : (l.map fun kv => keyD kv.1)[i]? = none := Option.some.inj e
    have := List.getElem?_eq_none_iff.mp e
    exact ⟨x.frzs _ _ _ hf, by rw [← hl]; simpa using this⟩
theorem it_keysT {l : List (List Key × D)} {kvs : List (List Key × V)} (hf : H a = some (.frz od (.dT kvs))) (hk : l.map (·.1) = kvs.map (·.1)) (ho : l.all (fun kv => kv.1.all kOk) = true) : ItOk K mg φ W H (.snap (l.map fun kv => keyDT kv.1)) (Itkt a od kvs) := by
  have hl : l.length = kvs.length := by simpa using congrArg List.length hk
  refine ⟨fun i φ2 W2 H2 s2 d x w so e => ?_, fun i φ2 W2 H2 s2 x w so e => ?_⟩
  · have e : (l.map fun kv => keyDT kv.1)[i]? = some d := Option.some.inj e
    rw [List.getElem?_map] at e
    obtain ⟨kv, h1, rfl⟩ := Option.map_eq_some_iff.mp e
    refine ⟨⟨x.frzs _ _ _ hf, by rw [← hl]; exact (List.getElem?_eq_some_iff.mp h1).1⟩, fun y H3 ⟨e3, k, v, q, h3, h4, h5⟩ => ?_⟩
    subst e3 h4
    have e5 : (l.map (·.1))[i]? = (kvs.map (·.1))[i]? := by rw [hk]
    rw [List.getElem?_map, List.getElem?_map, h1, h3] at e5
    have e5 : kv.1 = k := Option.some.inj e5
    subst e5
    exact ⟨Ext.refl _ _, so, .tup h5 (keyDs_rep _ (List.all_eq_true.mp ho kv (List.mem_of_getElem? h1)))⟩
  · have e : (l.map fun kv => keyDT kv.1)[i]? = none := Option.some.inj e
    have := List.getElem?_eq_none_iff.mp e
    exact ⟨x.frzs _ _ _ hf, by rw [← hl]; simpa using this⟩
end
def lcdF (fi : Env → Store → R D) (turn : Env → D → Store → R (Option D)) : Env → Store → R D := fun ρ s => (fi ρ s).bnd fun di _ => match di with
    | .ref m => (ofO (keysOf s m) s).bnd fun ok _ => (fi ρ (s.set m .lkd)).bnd fun di' s1 => match di' with
      | .ref m' => if m' = m then
          (lcSnap (turn ρ) ok.2 s1).bnd fun ys s2 => match s2[m]? with
            | some .lkd => if ys.length ≤ LINE then .ok (.lst ys) (s2.set m ok.1) else .bad
            | _ => .bad
        else .bad
      | _ => .bad
    | _ => .bad
theorem lcd_read {t : TGT} {own : List Nat} {fi fe : Env → Store → R D} {ft : Env → Store → R Bool} {σ : L2.St} {H : Hp} {Q : VK} (hsl : ∀ i ∈ t.slots, i ∈ own) (q : tE X.K X.mg (lcdF fi (turnF t own ft fe)) σ H Q) :
    ∃ d u, H d = some u ∧ Mut (some u) ∧ ∀ od, tLc (iKeys (tE X.K X.mg fi)) (gT X.K t) (tTs X.K X.mg ft) (tE X.K X.mg fe) own σ (upd H d (.frz od u)) fun v H' => H' d = some (.frz od u) ∧ Q v (upd H' d u) := by
  obtain ⟨φ, W, ρ, s, d, s', eo, so, e, kt⟩ := q
  obtain ⟨di, sx, e1, e2⟩ := R.bnd_ok e
  cases di <;> simp only [reduceCtorEq] at e2
  rename_i m
  obtain ⟨⟨ob, keys⟩, s0, e3, e4⟩ := R.bnd_ok e2
  obtain ⟨ek, rfl⟩ := ofO_ok e3
  obtain ⟨di', s1, e5, e6⟩ := R.bnd_ok e4
  cases di' <;> simp only [reduceCtorEq] at e6
  rename_i m'
  split at e6
  · rename_i hmm
    subst hmm
    obtain ⟨ys, s2, e7, e8⟩ := R.bnd_ok e6
    cases hs2 : s2[m']? with
    | none => rw [hs2] at e8; cases e8
    | some o2 =>
      rw [hs2] at e8
      cases o2 <;> simp only [reduceCtorEq] at e8
      split at e8
      · rename_i hz
        cases e8
        have fin : ∀ (a : Addr) (u : HO), φ[m']? = some a → H a = some u → Mut (some u) → (∀ z, u ≠ .lst z) → (∀ φ' H', Ext φ H φ' (upd H' a u) → MOk X.K X.mg φ' W (upd H' a u) a ob) → (∀ od φ1 H1, Ext φ (upd H a (.frz od u)) φ1 H1 → H1 a = some (.frz od u) → (∃ kvs, H1 a = some (.frz od (.dK kvs)) ∧ ItOk X.K X.mg φ1 W H1 (.snap keys) (Itk a od kvs)) ∨ ∃ kvs, H1 a = some (.frz od (.dT kvs)) ∧ ItOk X.K X.mg φ1 W H1 (.snap keys) (Itkt a od kvs)) →
            ∃ d u, H d = some u ∧ Mut (some u) ∧ ∀ od, tLc (iKeys (tE X.K X.mg fi)) (gT X.K t) (tTs X.K X.mg ft) (tE X.K X.mg fe) own σ (upd H d (.frz od u)) fun v H' => H' d = some (.frz od u) ∧ Q v (upd H' d u) := by
          intro a u ha h0 hm hu hob hj
          refine ⟨a, u, h0, hm, fun od => ?_⟩
          have xL : Ext φ H φ (upd H a (.frz od u)) := Ext.wr ha ⟨u, h0, hm⟩
          have soL : StOk X.K X.mg φ W (upd H a (.frz od u)) (s0.set m' .lkd) := so.wr' (ho := .frz od u) (ob := .lkd) ha ⟨u, h0, hm⟩ fun _ => ⟨od, u, upd_same⟩
          refine ⟨φ, W, ρ, s0.set m' .lkd, _, s1, eo.up xL, soL, e5, fun φ1 H1 xv x1 so1 rx => ?_⟩
          cases rx with
          | @ref _ a' ha' =>
            have : a' = a := by
              have := x1.get ha
              rw [this] at ha'
              exact (Option.some.inj ha').symm
            subst this
            have hf1 := x1.frzs a' od u upd_same
            have kk : Kt X.K X.mg φ1 W H1 s2 (.lst ys) fun v H' => H' a' = some (.frz od u) ∧ Q v (upd H' a' u) := fun φ' H' v x2 so2 r => by
              have hf2 := x2.frzs _ _ _ hf1
              have ha2 : φ'[m']? = some a' := x2.get (x1.get ha)
              have xx : Ext φ H φ' (upd H' a' u) := (x1.trans x2).unlk (List.mem_of_getElem? ha) h0 hm
              exact ⟨hf2, kt φ' _ _ xx (so2.unlk ha2 hf2 hu (hob φ' H' xx)) (Rep.unlk (List.mem_of_getElem? ha2) hf2 hu _ _ r)⟩
            rcases hj od φ1 H1 x1 hf1 with ⟨kvs, g, io⟩ | ⟨kvs, g, io⟩
            · exact ⟨a', od, rfl, .inl ⟨kvs, g, lc_inv hsl ((eo.up xL).up x1) so1 io (lc_snap keys 0 s1 s2 ys rfl e7) hz kk⟩⟩
            · exact ⟨a', od, rfl, .inr ⟨kvs, g, lc_inv hsl ((eo.up xL).up x1) so1 io (lc_snap keys 0 s1 s2 ys rfl e7) hz kk⟩⟩
        unfold keysOf at ek
        cases hs0 : s0[m']? with
        | none => rw [hs0] at ek; cases ek
        | some o0 =>
          rw [hs0] at ek
          have hm' : m' < s0.length := (List.getElem?_eq_some_iff.mp hs0).1
          have hφ : m' < φ.length := by rw [so.len]; exact hm'
          have ha : φ[m']? = some φ[m'] := List.getElem?_eq_getElem hφ
          have qo := so.obj m' _ _ ha hs0
          cases o0 with
          | lst l => cases ek
          | lkd => cases ek
          | dk l =>
            simp only at ek
            split at ek
            · rename_i hko
              cases ek
              obtain ⟨kvs, h0, rk⟩ := qo
              exact fin _ _ ha h0 trivial (fun _ z => nomatch z) (fun φ' H' xx => ⟨kvs, upd_same, rk.up xx⟩) fun od φ1 H1 x1 hf => .inl ⟨kvs, hf, it_keysK hf rk.1 hko⟩
            · cases ek
          | dt l =>
            simp only at ek
            split at ek
            · rename_i hko
              cases ek
              obtain ⟨kvs, h0, rk⟩ := qo
              exact fin _ _ ha h0 trivial (fun _ z => nomatch z) (fun φ' H' xx => ⟨kvs, upd_same, rk.up xx⟩) fun od φ1 H1 x1 hf => .inr ⟨kvs, hf, it_keysT hf rk.1 hko⟩
            · cases ek
      · cases e8
  · cases e6
theorem pef_lcd {fi fe : Env → Store → R D} {ft : Env → Store → R Bool} {elt tg iter : Expr} {ifs : List Expr} {scope : Scope} {own : List (Str × Nat)} {pos : Pos} {t : TGT} (hc : X.calm = true) (hN : X.N.Nodup) (hi : PEf X iter fi) (ok : BlkOk X.N X.env.scope scope own)
    (hg : ∀ (s : Shared) (H : Hp) (C : Addr) (cl : List (Str × Addr)) (fp : List Addr), PG (X.blk s H scope (compEnvC scope cl C X.env) fp) tg (gT X.K t)) (ht : ∀ (s : Shared) (H : Hp) (C : Addr) (cl : List (Str × Addr)) (fp : List Addr), PTs (X.blk s H scope (compEnvC scope cl C X.env) fp) ifs (tTs X.K X.mg ft))
    (he : ∀ (s : Shared) (H : Hp) (C : Addr) (cl : List (Str × Addr)) (fp : List Addr), PE (X.blk s H scope (compEnvC scope cl C X.env) fp) elt (tE X.K X.mg fe)) (hs : ∀ x, foldedSetIterable iter X.env x = pure x)
    (hsl : ∀ i ∈ t.slots, i ∈ own.map (fun (p : Str × Nat) => p.2)) : PEf X (.ListComp elt [⟨tg, iter, ifs, 0⟩] scope pos) (lcdF fi (turnF t (own.map (fun (p : Str × Nat) => p.2)) ft fe)) :=
  (pe_lock (pe_lc hc hN (pi_keys hi) ok hg ht he hs)).imp fun σ H Q q => lcd_read hsl q
end
end Rf

set_option Elab.async false
set_option linter.all false
set_option maxRecDepth 100000
set_option maxHeartbeats 1000000
/-! Rf10: a, b = x, y. -/
namespace Rf
open PySem PySem.Spec PyProof.Rows L2

def isStar : Expr → Bool
  | .Starred .. => true
  | _ => false
def swLine (ts : List Expr) : Nat := (ts.head?.map (·.pos.line)).getD 0
def swName (sc : Scope) (line : Nat) (e : Expr) : Option Str := match e with
  | .Name id pos => if sc.names.lookup id == some .local && pos.line == line then some id else none
  | _ => none
def swF (sc : Scope) (ts vs : List Expr) : Option (Option (List Str)) :=
  if !(ts.length == 2 || ts.length == 3) || vs.length != ts.length then some none
  else if vs.any isStar then some none
  else
    if (ts.filterMap (swName sc (swLine ts))).length != ts.length || (ts.filterMap (swName sc (swLine ts))).eraseDups.length != (ts.filterMap (swName sc (swLine ts))).length then some none
    else if vs.all (foldedForSure 8) then some none
    else if vs.all (constantsAlone 8) then none
    else some (some (ts.filterMap (swName sc (swLine ts))))
def swName' (env : PySem.Env) (line : Nat) (e : Expr) : Option Str := match e with
  | .Name id pos => if env.kindOf id == some .local && pos.line == line then some id else none
  | _ => none
theorem swName_eq {sc : Scope} {env : PySem.Env} {l : Nat} (h : env.scope = sc) : swName' env l = swName sc l := by
  funext e
  cases e <;> first | rfl | (unfold swName' swName Env.kindOf; rw [h])
theorem swF_ok {sc : Scope} {ts vs : List Expr} {k k2 : Nat} {p p2 : Pos} {env : PySem.Env} {r : Option (List Str)} (h : swF sc ts vs = some r) (hsc : env.scope = sc) (hk : sc.kind = .function) :
    (swappedStores [.Tuple ts k p] (.Tuple vs k2 p2) env : Sem _) = pure r := by
  have hb : env.blockKind = .function := by unfold Env.blockKind; rw [hsc, hk]; rfl
  unfold swF at h
  unfold swappedStores
  simp only [hb]
  split at h
  · rename_i c1
    cases h
    have c2 : (!(ts.length == 2 || ts.length == 3) || vs.length != ts.length || (ScopeKind.function != ScopeKind.function)) = true := by rw [c1]; rfl
    simp only [c2, if_true]
    all_goals rfl
  · rename_i c1
    have c2 : (!(ts.length == 2 || ts.length == 3) || vs.length != ts.length || (ScopeKind.function != ScopeKind.function)) = false := by
      rw [Bool.not_eq_true] at c1
      rw [c1]; rfl
    simp only [c2, Bool.false_eq_true, if_false]
    split at h
    · rename_i c3
      cases h
      split
      · rfl
      · rename_i c; exact absurd c3 c
    · rename_i c3
      split
      · rename_i c; exact absurd c c3
      · show (if ((ts.filterMap (swName' env (swLine ts))).length != ts.length || (ts.filterMap (swName' env (swLine ts))).eraseDups.length != (ts.filterMap (swName' env (swLine ts))).length) = true then _ else
          if (vs.all (foldedForSure 8)) = true then _ else _) = _
        rw [swName_eq hsc]
        split at h
        · rename_i c4
          cases h
          rw [if_pos c4]
        · rename_i c4
          rw [if_neg c4]
          split at h
          · rename_i c5
            cases h
            rw [if_pos c5]
          · rename_i c5
            rw [if_neg c5]
            split at h
            · cases h
            · rename_i c6
              cases h
              show (if (vs.all (constantsAlone 8)) = true then _ else _) = _
              rw [if_neg c6]
              show pure (some (ts.filterMap (swName' env (swLine ts)))) = _
              rw [swName_eq hsc]
/-- stores one after another -/
def setAll (σ : L2.St) : List Nat → List V → L2.St
  | i :: is, v :: vs => setAll (σ.set i (some v)) is vs
  | _, _ => σ
inductive NmOk (X : Cx) : List Nat → List Str → Prop
  | nil : NmOk X [] []
  | cons {i : Nat} {x : Str} {is : List Nat} {xs : List Str} : X.N[i]? = some x → X.env.scope.names.lookup x = some .local → NmOk X is xs → NmOk X (i :: is) (x :: xs)
theorem NmOk.snoc {X : Cx} : ∀ {is : List Nat} {xs : List Str} {i : Nat} {x : Str}, NmOk X is xs → X.N[i]? = some x → X.env.scope.names.lookup x = some .local → NmOk X (is ++ [i]) (xs ++ [x])
  | _, _, _, _, .nil, h, h' => .cons h h' .nil
  | _, _, _, _, .cons a b t, h, h' => .cons a b (t.snoc h h')
theorem NmOk.rev {X : Cx} : ∀ {is : List Nat} {xs : List Str}, NmOk X is xs → NmOk X is.reverse xs.reverse
  | _, _, .nil => .nil
  | _, _, .cons a b t => by
    rw [List.reverse_cons, List.reverse_cons]
    exact t.rev.snoc a b
theorem NmOk.length {X : Cx} : ∀ {is : List Nat} {xs : List Str}, NmOk X is xs → is.length = xs.length
  | _, _, .nil => rfl
  | _, _, .cons _ _ t => by simp [t.length]
theorem vals_rev : ∀ {vs : List V} {us : List Value}, Vals vs us → Vals vs.reverse us.reverse := fun h => h.reverse
section
variable {X : Cx}
theorem stores_ok {pins : List (Addr × Obj)} {H : Hp} {D₀ : Ends} (hN : X.N.Nodup) : ∀ {is : List Nat} {names : List Str} {vs : List V} {us : List Value} {σ : L2.St} {s : Shared}, NmOk X is names → Vals vs us → vs.length = is.length → Inv X pins σ H s → D₀.nx (setAll σ is vs) H →
    wpAny (model X.prog X.w) X.A (assignInOrder (names.map fun n => bindName X.env n) us) (fun _ s' => SP X pins D₀ .next s') X.xe s
  | [], _, vs, us, σ, s, n, r, hl, I, q => by
    cases n
    cases vs with
    | nil => cases r; exact assignInOrder_nil ⟨σ, H, I, q⟩
    | cons => cases hl
  | i :: is, _, vs, us, σ, s, n, r, hl, I, q => by
    cases n with
    | cons h1 h2 n =>
      cases vs with
      | nil => cases hl
      | cons v vs =>
        cases r with
        | cons r1 r2 =>
          exact assignInOrder_cons (wpAny_bindName (store_ok I hN h1 (.inl h2) r1 (fun s2 I2 => stores_ok hN n r2 (by simpa using hl) I2 q) (.inr h2)))
theorem ps_parN {is : List Nat} {names : List Str} {ts vs : List Expr} {ta : TA} {kt k2 : Nat} {pt p2 pos : Pos} (hc : X.calm = true) (hN : X.N.Nodup) (nm : NmOk X is names) (ha : PA X vs ta)
    (hw : swappedStores [.Tuple ts kt pt] (.Tuple vs k2 p2) X.env = pure (some names)) (hsz : is.length ≤ 1000) :
    PS X (.Assign [.Tuple ts kt pt] (.Tuple vs k2 p2) pos) (fun D₀ σ H => ta σ H fun ws H1 => ws.length = is.length ∧ D₀.nx (setAll σ is.reverse ws.reverse) H1) := by
  refine ⟨fun pins s σ H D₀ I h => ?_⟩
  rw [exec_Assign_arm]
  refine wpAny_bind (wpAny_standAt ?_)
  have hs : swapsWithSole [.Tuple ts kt pt] (.Tuple vs k2 p2) pos.line X.env = pure false := sw_sub fun _ _ z => nomatch z
  rw [hs]
  refine wpAny_bind (wpAny_pure ?_)
  rw [if_neg (by decide)]
  refine wpAny_bind (Tuple_ (thn (ha.run _ pins s σ H _ I h) fun us s1 ⟨ws, H1, I1, r1, hl, q1⟩ => ?_))
  have hul : us.length = is.length := by rw [← r1.length]; exact hl
  refine wpAny_newObj_type ?_ (by show us.length ≤ sizeLine; rw [hul, LINE_eq]; exact Nat.le_trans hsz (by decide))
  have I2 : Inv X pins σ H1 { s1 with heap := s1.heap.push { cls := .type "tuple", data := .seq us.toArray } } := I1.kept (t' := s1.toks) fun b o e => Heap.get?_push_of_some _ e
  rw [hw]
  refine wpAny_bind (wpAny_pure ?_)
  show wpAny (model X.prog X.w) X.A (do rule "assign.swapped-stores"; let items ← unpackItems (.ref s1.heap.objs.size) names.length none; assignInOrder (names.reverse.map fun n => bindName X.env n) items.reverse; pure Flow.next) _ _ _
  have en : names.length = us.toArray.size := by rw [List.size_toArray, hul, nm.length]
  rw [en]
  refine wpAny_bind (wpAny_rule (wpAny_bind (unpackItems_tuple (items := us.toArray) (I.ok.hd hc) (IsTup.new s1.heap _) fun h' hx' => ?_)))
  have I3 := I2.kept (h' := h') (t' := s1.toks) fun b o e => hx' b o (Nat.ne_of_lt (Heap.lt_size e)) e
  refine wpAny_bind (thn (stores_ok (D₀ := D₀) hN nm.rev (vals_rev r1) (by simp [hl]) I3 q1) fun _ s' h' => wpAny_pure h')
theorem setAll_ok {K : PySem.W.Frag} {mg : Str → Option Value} {φ W : List Addr} {H : Hp} : ∀ {is : List Nat} {ds : List D} {vs : List V} {ρ : Env} {σ : L2.St}, RepL K mg φ W H ds vs → EnvOk K mg φ W H ρ σ → EnvOk K mg φ W H (putN ρ is ds) (setAll σ is vs)
  | [], _, _, _, _, _, eo => by unfold putN setAll; exact eo
  | i :: is, [], _, _, _, r, eo => by cases r; exact eo
  | i :: is, d :: ds, _, _, _, r, eo => by cases r with | cons r1 r2 => exact setAll_ok (is := is) (ds := ds) r2 (eo.set r1)
theorem putN_set {i : Nat} {x : Option D} : ∀ {is : List Nat} {ds : List D} {ρ : Env}, i ∉ is → putN (ρ.set i x) is ds = (putN ρ is ds).set i x
  | [], _, _, _ => rfl
  | j :: is, [], _, _ => rfl
  | j :: is, d :: ds, ρ, h => by
    have h1 : i ≠ j := fun e => h (by rw [e]; exact List.mem_cons_self)
    show putN ((ρ.set i x).set j (some d)) is ds = (putN (ρ.set j (some d)) is ds).set i x
    rw [List.set_comm _ _ h1, putN_set fun e => h (List.mem_cons_of_mem _ e)]
theorem putN_snoc : ∀ {is : List Nat} {ds : List D} {ρ : Env} {i : Nat} {d : D}, is.length = ds.length → putN ρ (is ++ [i]) (ds ++ [d]) = (putN ρ is ds).set i (some d)
  | [], [], _, _, _, _ => rfl
  | j :: is, e :: ds, ρ, i, d, h => by
    show putN (ρ.set j (some e)) (is ++ [i]) (ds ++ [d]) = (putN (ρ.set j (some e)) is ds).set i (some d)
    exact putN_snoc (by simpa using h)
theorem putN_rev : ∀ {is : List Nat} {ds : List D} {ρ : Env}, is.Nodup → is.length = ds.length → putN ρ is.reverse ds.reverse = putN ρ is ds
  | [], [], _, _, _ => rfl
  | i :: is, d :: ds, ρ, nd, h => by
    rw [List.reverse_cons, List.reverse_cons, putN_snoc (by simpa using h), putN_rev (List.nodup_cons.mp nd).2 (by simpa using h)]
    show _ = putN (ρ.set i (some d)) is ds
    rw [putN_set (List.nodup_cons.mp nd).1]
theorem psf_par {is : List Nat} {names : List Str} {ts vs : List Expr} {fs : Env → Store → R (List D)} {kt k2 : Nat} {pt p2 pos : Pos} (hc : X.calm = true) (hN : X.N.Nodup) (nm : NmOk X is names) (nd : is.Nodup) (ha : PAf X vs fs)
    (hw : swappedStores [.Tuple ts kt pt] (.Tuple vs k2 p2) X.env = pure (some names)) (hsz : is.length ≤ 1000) :
    PSf X (.Assign [.Tuple ts kt pt] (.Tuple vs k2 p2) pos) (fun ρ s => (fs ρ s).bnd fun ds s1 => if ds.length = is.length then .ok (.nx (putN ρ is ds)) s1 else .bad) :=
  (ps_parN hc hN nm ha hw hsz).imp fun D₀ σ H q => by
    obtain ⟨φ, W, ρ, s, o, s', eo, so, e, k⟩ := q
    obtain ⟨ds, s1, e1, e2⟩ := R.bnd_ok e
    split at e2
    · rename_i hl
      cases e2
      refine ⟨φ, W, ρ, s, ds, s', eo, so, e1, fun φ1 H1 ws x1 so1 r => ⟨by rw [← r.length]; exact hl, k φ1 _ H1 x1 so1 ?_⟩⟩
      have rr : RepL X.K X.mg φ1 W H1 ds.reverse ws.reverse := by
        have key : ∀ {ds : List D} {vs : List V}, RepL X.K X.mg φ1 W H1 ds vs → RepL X.K X.mg φ1 W H1 ds.reverse vs.reverse := by
          intro ds
          induction ds with
          | nil => intro vs r; cases r; exact .nil
          | cons d ds ih =>
            intro vs r
            cases r with
            | cons r1 r2 =>
              rw [List.reverse_cons, List.reverse_cons]
              exact (ih r2).append (.cons r1 .nil)
        exact key r
      have := setAll_ok (is := is.reverse) rr (eo.up x1)
      rw [putN_rev nd hl.symm] at this
      exact this
    · cases e2
end
end Rf

set_option Elab.async false
set_option linter.all false
set_option maxRecDepth 100000
set_option maxHeartbeats 1000000
/-! Rf11: the check of the small text against the program's; expressions are sound. -/
namespace Rf
open PySem PySem.Spec PyProof.Rows L2

def biName : BI → Str
  | .len => "len" | .tuple => "tuple" | .list => "list" | .abs => "abs" | .int => "int" | .max => "max" | .min => "min" | .isinst => "isinstance" | .all => "all" | .any => "any" | .sorted => "sorted" | .sum => "sum" | .str => "str"
def biServed : BI → Bool := fun _ => true
def pmName : PM → Str
  | .split => "split" | .join => "join" | .index => "index"
def pmServed : PM → Bool := fun _ => false
def itfName : ITF → Str
  | .zip => "zip" | .enum => "enumerate" | .rng3 => "range"
def itfServed : ITF → Bool := fun _ => false
def okName (x : Str) : Bool := !(x == ("__debug__" : Str)) && !(x == ("__classdict__" : Str)) && !decide (x = ("__name__" : Str))
def visB (sc : Scope) (x : Str) : Bool := match sc.names.lookup x with
  | some .local => true
  | some .cell => true
  | some .free => true
  | _ => false
def locB (sc : Scope) (x : Str) : Bool := match sc.names.lookup x with
  | some .local => true
  | some .cell => true
  | _ => false
def glbB (sc : Scope) (x : Str) : Bool := match sc.names.lookup x with
  | some .globalImplicit => true
  | _ => false
def cstB (d : D) (c : Const) : Bool := match d, c with
  | .non, .none => true
  | .bl a, .bool b => a == b
  | .int a, .int b => a == b
  | .str a, .str b => decide (a = b) && PyData.strOk b
  | _, _ => false
def notSlice : Expr → Bool
  | .Slice .. => false
  | _ => true
def notCall : Expr → Bool
  | .Call .. => false
  | _ => true
def notSet : Expr → Bool
  | .Set .. => false
  | _ => true
def tyNames : List String := ["tuple", "str", "int", "bool"]
section
variable (N : List Str) (isFn isGl free : Str → Bool) (cd : Str → List (Str × Str) → Bool)
def chkT (sc : Scope) (t : TGT) (e : Expr) : Bool := match t, e with
  | .nm i, .Name x _ => decide (N[i]? = some x) && locB sc x
  | .tp is, .Tuple es _ _ => nms is es
  | _, _ => false
where nms : List Nat → List Expr → Bool
  | [], [] => true
  | i :: is, .Name x _ :: es => decide (N[i]? = some x) && locB sc x && nms is es
  | _, _ => false
def ownOf (own : List Nat) : List (Str × Nat) := own.filterMap fun i => (N[i]?).map fun x => (x, i)
mutual
def chkE : ME → Bool → Scope → Expr → Bool
  | .bad, _, _, e0 => notStar e0
  | .slot i, _, sc, e0 => match e0 with
    | .Name x _ => decide (N[i]? = some x) && visB sc x && okName x
    | _ => false
  | .cst d, _, _, e0 => match e0 with
    | .Constant c _ _ => cstB d c
    | _ => false
  | .glob x, _, sc, e0 => match e0 with
    | .Name y _ => decide (x = y) && glbB sc y && isGl y && okName y
    | _ => false
  | .bty t, _, sc, e0 => match e0 with
    | .Name y _ => tyNames.contains t && decide (y = Str.ofString t) && glbB sc y && free y && okName y
    | _ => false
  | .tup es, _, sc, e0 => match e0 with
    | .Tuple l _ _ => chkEs es sc l && decide (l.length ≤ 1000)
    | _ => false
  | .lst _ es, _, sc, e0 => match e0 with
    | .List l _ => chkEs es sc l && decide (l.length ≤ 1000)
    | _ => false
  | .dnew _, _, _, e0 => match e0 with
    | .Dict ks vs _ => ks.isEmpty && vs.isEmpty
    | _ => false
  | .dsing k v, _, sc, e0 => match e0 with
    | .Dict [some k'] [v'] _ => chkE k false sc k' && chkE v false sc v'
    | _ => false
  | .dget o k, _, sc, e0 => match e0 with
    | .Call (.Attribute o' m ap) [a] [] cp => decide (m = ("get" : Str)) && (ap.endLine == cp.line) && notCall o' && chkE o false sc o' && chkE k false sc a
    | _ => false
  | .dget2 o k d, _, sc, e0 => match e0 with
    | .Call (.Attribute o' m ap) [a, b] [] cp => decide (m = ("get" : Str)) && (ap.endLine == cp.line) && notCall o' && chkE o false sc o' && chkE k false sc a && chkE d false sc b
    | _ => false
  | .ddisp kvs, _, sc, e0 => match e0 with
    | .Dict ks vs _ => chkPs kvs sc ks vs && decide (ks.length ≤ 15) && !ks.isEmpty
    | _ => false
  | .cget x l k, _, sc, e0 => match e0 with
    | .Subscript (.Name y _) s _ => decide (x = y) && glbB sc y && okName y && cd x l && notSlice s && chkE k false sc s
    | _ => false
  | .cin neg x l k, _, sc, e0 => match e0 with
    | .Compare a [o'] [.Name y _] _ => decide (o' = if neg then .NotIn else .In) && decide (x = y) && glbB sc y && okName y && cd x l && chkE k false sc a
    | _ => false
  | .callv i es, _, sc, e0 => match e0 with
    | .Call (.Name y _) args [] _ => decide (N[i]? = some y) && visB sc y && okName y && chkEs es sc args && !args.isEmpty
    | _ => false
  | .pm m o a, _, sc, e0 => match e0 with
    | .Call (.Attribute o' x ap) [a'] [] cp => pmServed m && decide (x = pmName m) && (ap.endLine == cp.line) && notCall o' && chkE o false sc o' && chkE a false sc a'
    | _ => false
  | .mxd e d, _, sc, e0 => match e0 with
    | .Call (.Name y _) [a] _ _ => false && chkE e false sc a && chkE d false sc a
    | _ => false
  | .itf b es, w, sc, e0 => match e0 with
    | .Call (.Name y _) args [] _ => itfServed b && w && decide (y = itfName b) && glbB sc y && free y && chkEs es sc args
    | _ => false
  | .bin o a b, _, sc, e0 => match e0 with
    | .BinOp l o' r _ => decide (o = o') && opServed o && chkE a false sc l && chkE b false sc r
    | _ => false
  | .neg a, _, sc, e0 => match e0 with
    | .UnaryOp .USub x _ => chkE a false sc x
    | _ => false
  | .not_ a, _, sc, e0 => match e0 with
    | .UnaryOp .Not x _ => chkE a false sc x
    | _ => false
  | .cmp o a b, _, sc, e0 => match e0 with
    | .Compare l [o'] [r] _ => decide (o = o') && !behindInMarks o r && chkE a false sc l && chkE b false sc r
    | _ => false
  | .chain o p a b c, _, sc, e0 => match e0 with
    | .Compare l [o', p'] [r, t] _ => decide (o = o') && decide (p = p') && !lastMarks [o, p] [r, t] && chkE a false sc l && chkE b false sc r && chkE c false sc t
    | _ => false
  | .and_ es, _, sc, e0 => match e0 with
    | .BoolOp .And l _ => chkEs es sc l && !l.isEmpty
    | _ => false
  | .or_ es, _, sc, e0 => match e0 with
    | .BoolOp .Or l _ => chkEs es sc l && !l.isEmpty
    | _ => false
  | .ife c a b, _, sc, e0 => match e0 with
    | .IfExp t l r _ => chkE c false sc t && chkE a false sc l && chkE b false sc r
    | _ => false
  | .ix a i, _, sc, e0 => match e0 with
    | .Subscript v s _ => notSlice s && chkE a false sc v && chkE i false sc s
    | _ => false
  | .slc a lo hi, _, sc, e0 => match e0 with
    | .Subscript v (.Slice l h none _) _ => chkE a false sc v && (match l with
      | none => (match lo with | .nop => true | _ => false)
      | some l => (match lo with | .nop => false | _ => true) && chkE lo false sc l) && (match h with
      | none => (match hi with | .nop => true | _ => false)
      | some h => (match hi with | .nop => false | _ => true) && chkE hi false sc h)
    | _ => false
  | .call x es, _, sc, e0 => match e0 with
    | .Call (.Name y _) args [] _ => decide (x = y) && glbB sc y && isFn y && okName y && chkEs es sc args
    | _ => false
  | .bi b es, _, sc, e0 => match e0 with
    | .Call (.Name y _) args [] _ => decide (y = biName b) && biServed b && glbB sc y && free y && chkEs es sc args && !args.isEmpty
    | _ => false
  | .meth .append o es, _, sc, e0 => match e0 with
    | .Call (.Attribute o' m ap) args [] cp => decide (m = ("append" : Str)) && (ap.endLine == cp.line) && notCall o' && chkE o false sc o' && chkEs es sc args && decide (args.length = 1)
    | _ => false
  | .lc elt tg it ifs own, _, sc, e0 => match e0 with
    | .ListComp e [⟨tgt, iter, ifs', asy⟩] scope _ => decide (asy = 0) && chkE it true sc iter && chkT N scope tg tgt && chkEs ifs scope ifs' && decide (ifs'.length ≤ 1) && chkE elt false scope e && blkC N sc scope (ownOf N own) && decide ((ownOf N own).map (·.2) = own) &&
      tg.slots.all own.contains && notSet iter
    | _ => false
  | .lcd elt tg it ifs own, _, sc, e0 => match e0 with
    | .ListComp e [⟨tgt, iter, ifs', asy⟩] scope _ => decide (asy = 0) && chkE it false sc iter && chkT N scope tg tgt && chkEs ifs scope ifs' && decide (ifs'.length ≤ 1) && chkE elt false scope e && blkC N sc scope (ownOf N own) && decide ((ownOf N own).map (·.2) = own) &&
      tg.slots.all own.contains && notSet iter
    | _ => false
  | .rng es, w, sc, e0 => match e0 with
    | .Call (.Name y _) args [] _ => w && decide (y = ("range" : Str)) && glbB sc y && free y && chkEs es sc args && (args.length == 1 || args.length == 2)
    | _ => false
  | .nop, _, _, _ => false
def chkEs : MEs → Scope → List Expr → Bool
  | .nil, _, [] => true
  | .cons e r, sc, x :: xs => chkE e false sc x && chkEs r sc xs
  | _, _, _ => false
/-- the pairs of a display: key, value, key, value -/
def chkPs : MEs → Scope → List (Option Expr) → List Expr → Bool
  | .nil, _, [], [] => true
  | .cons k r, sc, some ke :: ks, ve :: vs => (match r with
    | .cons v r2 => chkE k false sc ke && chkE v false sc ve && chkPs r2 sc ks vs
    | .nil => false)
  | _, _, _, _ => false
end
/-- what is walked, if it is no range, is an expression -/
theorem chkI_E {it : ME} {sc : Scope} {e : Expr} (hn : ∀ es, it ≠ .rng es) (hn2 : ∀ b es, it ≠ .itf b es) : chkE N isFn isGl free cd it true sc e = chkE N isFn isGl free cd it false sc e := by
  cases it <;> first | exact absurd rfl (hn _) | exact absurd rfl (hn2 _ _) | rfl | skip

end
end Rf

set_option Elab.async false
set_option linter.all false
set_option maxRecDepth 100000
set_option maxHeartbeats 2000000
/-! Rf12: expressions are sound. -/
namespace Rf
open PySem PySem.Spec PyProof.Rows L2

/-! ### more tests -/
section
variable {X : Cx} {fa fb fc : Env → Store → R D} {a b c : Expr} {pos : Pos}
theorem ptf_ife (hc : PTf X c fc) (ha : PTf X a fa) (hb : PTf X b fb) : PTf X (.IfExp c a b pos) (fun ρ s => (fc ρ s).bnd fun x s1 => (ofO (truth s1 x) s1).bnd fun k s2 => match k with
    | true => fa ρ s2
    | false => fb ρ s2) := by
  refine ⟨fun pins s σ H Q I q => ?_⟩
  obtain ⟨φ, W, ρ, st, d, s', t, eo, so, e, et, kt⟩ := q
  obtain ⟨dx, s1, e1, e2⟩ := R.bnd_ok e
  obtain ⟨k, s2, e3, e4⟩ := R.bnd_ok e2
  obtain ⟨e5, rfl⟩ := ofO_ok e3
  show wpAny (model X.prog X.w) X.A (do if ← isTrue c X.env (eval c X.env) then isTrue a X.env (eval a X.env) else isTrue b X.env (eval b X.env)) _ _ _
  refine wpAny_bind (thn (hc.run pins s σ H (fun k' H1 => k' = k ∧ tT X.K X.mg (match k with | true => fa | false => fb) σ H1 Q) I ⟨φ, W, ρ, st, dx, s2, k, eo, so, e1, e5, fun φ' H' x so' => ⟨rfl, φ', W, ρ, s2, d, s', t, eo.up x, so', by cases k <;> exact e4, et, fun φ2 H2 x2 so2 => kt φ2 H2 (x.trans x2) so2⟩⟩) fun k' s3 ⟨H1, I1, ek, q1⟩ => ?_)
  subst ek
  cases k' with
  | true => exact ha.run pins s3 σ H1 Q I1 q1
  | false => exact hb.run pins s3 σ H1 Q I1 q1
theorem ptf_chain {o o' : CmpOp} (hu : X.A.units + 65 < cLine) (hm : lastMarks [o, o'] [b, c] = false) (ha : PEf X a fa) (hb : PEf X b fb) (hc : PEf X c fc) :
    PTf X (.Compare a [o, o'] [b, c] pos) (fun ρ s => (fa ρ s).bnd fun x s1 => (fb ρ s1).bnd fun y s2 => (ofO (cmpD o (deref s2 x) (deref s2 y)) s2).bnd fun k s3 =>
      match k with
      | false => .ok (.bl false) s3
      | true => (fc ρ s3).bnd fun z s4 => (ofO (cmpD o' (deref s4 y) (deref s4 z)) s4).bnd fun k' s5 => .ok (.bl k') s5) :=
  (pt_chain (o2_cmp hu o).r (o2_cmp hu o').r ha hb hc hm).imp fun σ H Q q => by
    obtain ⟨φ, W, ρ, s, d, s', t, eo, so, e, et, kt⟩ := q
    obtain ⟨dx, s1, e1, e2⟩ := R.bnd_ok e
    obtain ⟨dy, s2, e3, e4⟩ := R.bnd_ok e2
    obtain ⟨k, s3, e5, e6⟩ := R.bnd_ok e4
    obtain ⟨e7, rfl⟩ := ofO_ok e5
    refine ⟨φ, W, ρ, s, dx, s1, eo, so, e1, fun φ1 H1 x x1 so1 rx => ⟨φ1, W, ρ, s1, dy, s3, eo.up x1, so1, e3, fun φ2 H2 y x2 so2 ry => ⟨φ2, W, s3, _, _, .bl k, so2, Sh.of so2 (rx.up x2), Sh.of so2 ry, by show Option.map D.bl (cmpD o (deref s3 dx) (deref s3 dy)) = _; rw [e7]; rfl, fun φ3 H3 z x3 so3 rz => ?_⟩⟩⟩
    cases rz
    refine ⟨k, rfl, ?_⟩
    have fin : ∀ {b : Bool} {φ4 : List Addr} {H4 : Hp}, d = .bl b → Ext φ H φ4 H4 → StOk X.K X.mg φ4 W H4 s' → ∃ k, V.bl b = .bl k ∧ Q k H4 := fun {b φ4 H4} ed x4 so4 => by
      subst ed
      have : b = t := by simpa [truth, deref] using et
      subst this
      exact ⟨b, rfl, kt φ4 H4 x4 so4⟩
    cases k with
    | false =>
      cases e6
      exact fin rfl ((x1.trans x2).trans x3) so3
    | true =>
      obtain ⟨dz, s4, e8, e9⟩ := R.bnd_ok e6
      refine ⟨φ3, W, ρ, s3, dz, s4, eo.up ((x1.trans x2).trans x3), so3, e8, fun φ4 H4 z x4 so4 rz => cmp_k so4 (ry.up (x3.trans x4)) rz e9 fun φ5 H5 v5 x5 so5 r5 => ?_⟩
      obtain ⟨b5, s5, e10, e11⟩ := R.bnd_ok e9
      cases e11
      cases r5
      exact fin rfl ((((x1.trans x2).trans x3).trans x4).trans x5) so5
end
/-! ### calls -/
def spF (K : PySem.W.Frag) (mg : Str → Option Value) (C : Str → List D → Store → R D) (x : Str) : Sp := fun vs H Q _ => ∃ φ W s ds d s', RepL K mg φ W H ds vs ∧ StOk K mg φ W H s ∧ C x ds s = .ok d s' ∧ Kt K mg φ W H s' d Q
section
variable {X : Cx} {C : Str → List D → Store → R D} {fs : Env → Store → R (List D)} {k : Nat} {f : Addr} {fd : FuncData} {ps : List Str} {x : Str} {p pos : Pos} {e : Expr} {es : List Expr}
theorem pef_call (F : FnOk X.prog X.w X.K X.mg X.base CX0 k f fd ps (spF X.K X.mg C x)) (hr : Room k X.A) (hg : Gl X x) (hm : X.mg x = some (.ref f)) (hk : PySem.W.keepIn X.K (.ref f) = true) (hb : Binds X.K fd ps []) (ha : PAf X (e :: es) fs)
    (hs : (e :: es).all notStar = true) (hd : (x == ("__debug__" : Str)) = false) : PEf X (.Call (.Name x p) (e :: es) [] pos) (fun ρ s => (fs ρ s).bnd fun ds s1 => C x ds s1) :=
  (pe_call (dvs := []) (E := E0) F hr hg hm hk hb .nil pass0 ha hd (star_plain (by simp only [List.all_cons, Bool.and_eq_true] at hs; exact hs.1)) (star_any (by simp only [List.all_cons, Bool.and_eq_true] at hs; exact hs.2))).imp fun σ H Q q => by
    obtain ⟨φ, W, ρ, s, d, s', eo, so, e, kt⟩ := q
    obtain ⟨ds, s1, e1, e2⟩ := R.bnd_ok e
    refine ⟨φ, W, ρ, s, ds, s1, eo, so, e1, fun φ1 H1 vs x1 so1 r => ?_⟩
    show spF X.K X.mg C x (vs ++ []) H1 Q E0
    rw [List.append_nil]
    exact ⟨φ1, W, s1, ds, d, s', r, so1, e2, kt.up x1⟩
theorem pef_call0 (F : FnOk X.prog X.w X.K X.mg X.base CX0 k f fd ps (spF X.K X.mg C x)) (hr : Room k X.A) (hg : Gl X x) (hm : X.mg x = some (.ref f)) (hk : PySem.W.keepIn X.K (.ref f) = true) (hb : Binds X.K fd ps [])
    (hd : (x == ("__debug__" : Str)) = false) : PEf X (.Call (.Name x p) [] [] pos) (fun ρ s => (R.ok [] s).bnd fun ds s1 => C x ds s1) :=
  (pe_call0 (dvs := []) (E := E0) F hr hg hm hk hb .nil pass0 hd).imp fun σ H Q q => by
    obtain ⟨φ, W, ρ, s, d, s', eo, so, e, kt⟩ := q
    exact ⟨φ, W, s, [], d, s', .nil, so, e, kt⟩
/-- a call of a name that holds a def -/
theorem pef_callv {i : Nat} (A : ∀ y ds s d s', C y ds s = .ok d s' → ∃ f fd ps, FnOk X.prog X.w X.K X.mg X.base CX0 k f fd ps (spF X.K X.mg C y) ∧ X.mg y = some (.ref f) ∧ PySem.W.keepIn X.K (.ref f) = true ∧ Binds X.K fd ps []) (hr : Room k X.A)
    (hN : X.N[i]? = some x) (hv : Vis X.env.scope x) (ha : PAf X (e :: es) fs) (hs : (e :: es).all notStar = true) (hd : (x == ("__debug__" : Str)) = false) (hcd : (x == ("__classdict__" : Str)) = false) :
    PEf X (.Call (.Name x p) (e :: es) [] pos) (fun ρ s => match ρ[i]? with
    | some (some (.glo y)) => (fs ρ s).bnd fun ds s1 => C y ds s1
    | _ => .bad) := by
  refine ⟨fun pins st σ H Q I q => ?_⟩
  obtain ⟨φ, W, ρ, s, d, s', eo, so, e, kt⟩ := q
  simp only at e
  split at e
  · rename_i y hy
    obtain ⟨ds, s1, e1, e2⟩ := R.bnd_ok e
    obtain ⟨f, fd, ps, F, hm, hk, hb⟩ := A _ _ _ _ _ e2
    obtain ⟨v, hσ, rv⟩ := eo.get i _ hy
    cases rv with
    | @glo _ f' hm' =>
      obtain rfl : f' = f := by rw [hm] at hm'; cases hm'; rfl
      refine (pe_callL (i := i) (f := f') (dvs := []) (E := E0) F hr hN hv hk hb .nil pass0 ha hd hcd (star_plain (by simp only [List.all_cons, Bool.and_eq_true] at hs; exact hs.1)) (star_any (by simp only [List.all_cons, Bool.and_eq_true] at hs; exact hs.2))).run pins st σ H Q I ⟨hσ, ?_⟩
      refine ⟨φ, W, ρ, s, ds, s1, eo, so, e1, fun φ1 H1 vs x1 so1 r => ?_⟩
      show spF X.K X.mg C y (vs ++ []) H1 Q E0
      rw [List.append_nil]
      exact ⟨φ1, W, s1, ds, d, s', r, so1, e2, kt.up x1⟩
  · cases e
end
theorem biName_boot : ∀ b : BI, biServed b = true → biName b ≠ ("__name__" : Str) ∧ (biName b == ("__debug__" : Str)) = false := by
  intro b
  cases b <;> decide +kernel
theorem c_sorted {X : Cx} (hc : X.calm = true) (hu : X.A.units + 65 < cLine) : CallR X (.builtin "sorted") (rBI X.K X.mg .sorted) := by
  refine CallR.imp (L2.CallR.or (c_sortList hu) (c_sortDict hc hu)) fun xs H Q q => ?_
  obtain ⟨φ, W, s, ds, d, so, sh, e, k⟩ := q
  match ds, e with
  | [dx], e =>
    obtain ⟨x, rfl, hx⟩ := sha1 sh
    cases dx <;> simp only [biD, reduceCtorEq] at e
    · obtain ⟨l', h1, h2⟩ := Option.map_eq_some_iff.mp e
      obtain ⟨a, ys, rfl, h, r⟩ := hx
      subst h2
      exact .inl ⟨φ, W, s, a, ys, _, l', so, rfl, h, r, h1, k⟩
    · obtain ⟨a, kvs, rfl, h, r⟩ := hx
      split at e
      · rename_i hko
        obtain ⟨l', h1, h2⟩ := Option.map_eq_some_iff.mp e
        subst h2
        exact .inr ⟨φ, W, s, a, kvs, _, l', so, rfl, h, r.1, hko, h1, k⟩
      · cases e
  | [], e => cases e
  | _ :: _ :: _, e => simp [biD] at e
theorem pef_bi {X : Cx} {fs : Env → Store → R (List D)} {p pos : Pos} {e : Expr} {es : List Expr} (b : BI) (hu : X.A.units + 65 < cLine) (hb : biServed b = true) (hc : X.calm = true) (hg : Gl X (biName b)) (hm : X.mg (biName b) = none) (ha : PAf X (e :: es) fs) (hs : (e :: es).all notStar = true) :
    PEf X (.Call (.Name (biName b) p) (e :: es) [] pos) (fun ρ s => (fs ρ s).bnd fun ds s1 => ofO (biD b (ds.map (deref s1))) s1) := by
  obtain ⟨n1, n2⟩ := biName_boot b hb
  have s1 : notStar e = true := by simp only [List.all_cons, Bool.and_eq_true] at hs; exact hs.1
  have s2 : es.all notStar = true := by simp only [List.all_cons, Bool.and_eq_true] at hs; exact hs.2
  have key : PE X (.Call (.Name (biName b) p) (e :: es) [] pos) (tCB (rBI X.K X.mg b) (tA X.K X.mg fs)) := by
    cases b
    · exact pe_callB c_len hg hm PySem.boot_len ha n1 n2 (star_plain s1) (star_any s2)
    · exact pe_callTy c_tuple hg hm PyProof.Rows.boot_tuple ha n1 n2 (star_plain s1) (star_any s2)
    · exact pe_callTy c_list hg hm PyProof.Rows.boot_list ha n1 n2 (star_plain s1) (star_any s2)
    · exact pe_callB c_abs hg hm (by decide +kernel) ha n1 n2 (star_plain s1) (star_any s2)
    · exact pe_callTy c_int hg hm PyProof.Rows.boot_int ha n1 n2 (star_plain s1) (star_any s2)
    · exact pe_callB (c_max hc) hg hm PyProof.Rows.boot_max ha n1 n2 (star_plain s1) (star_any s2)
    · exact pe_callB (c_min hc) hg hm PyProof.Rows.boot_min ha n1 n2 (star_plain s1) (star_any s2)
    · exact pe_callB c_isi hg hm PyProof.Rows.boot_isinstance ha n1 n2 (star_plain s1) (star_any s2)
    · exact pe_callB (c_all hc) hg hm (by decide +kernel) ha n1 n2 (star_plain s1) (star_any s2)
    · exact pe_callB (c_any hc) hg hm (by decide +kernel) ha n1 n2 (star_plain s1) (star_any s2)
    · exact pe_callB (c_sorted hc hu) hg hm PyProof.Rows.boot_sorted ha n1 n2 (star_plain s1) (star_any s2)
    · exact pe_callB (c_sum hc) hg hm PyProof.Rows.boot_sum ha n1 n2 (star_plain s1) (star_any s2)
    · exact pe_callTy c_str hg hm (by decide +kernel) ha n1 n2 (star_plain s1) (star_any s2)
  refine key.imp fun σ H Q q => ?_
  obtain ⟨φ, W, ρ, s, d, s', eo, so, e, kt⟩ := q
  obtain ⟨ds, s1, e1, e2⟩ := R.bnd_ok e
  obtain ⟨e3, rfl⟩ := ofO_ok e2
  exact ⟨φ, W, ρ, s, ds, s', eo, so, e1, fun φ1 H1 vs x1 so1 r => ⟨φ1, W, s', _, d, so1, ShA.of so1 r, e3, kt.up x1⟩⟩

/-! ### contexts -/
structure ScR (raw act : Scope) : Prop where
  get : ∀ x k, raw.names.lookup x = some k → ∃ k', act.names.lookup x = some k' ∧ (k' = k ∨ (k = .free ∧ k' = .cell))
theorem ScR.refl (sc : Scope) : ScR sc sc := ⟨fun x k h => ⟨k, h, .inl rfl⟩⟩
theorem ScR.blk {sc : Scope} {env : PySem.Env} : ScR sc (relabel sc env) := by
  refine ⟨fun x k h => ?_⟩
  have key : ∀ (l : List (Str × NameKind)), l.lookup x = some k → ∃ k', (l.map fun (n, k) => if (k == NameKind.free && env.scope.kind == .function && env.kindOf n == some .cell) then (n, NameKind.cell) else (n, k)).lookup x = some k' ∧ (k' = k ∨ (k = .free ∧ k' = .cell)) := by
    intro l
    induction l with
    | nil => intro h; cases h
    | cons p l ih =>
      obtain ⟨n, k0⟩ := p
      intro h
      by_cases hx : (x == n) = true
      · simp only [List.lookup_cons, hx] at h
        cases h
        by_cases hc : (k == NameKind.free && env.scope.kind == .function && env.kindOf n == some .cell) = true
        · refine ⟨.cell, ?_, .inr ⟨?_, rfl⟩⟩
          · simp only [List.map_cons, hc, if_true, List.lookup_cons, hx]
          · simp only [Bool.and_eq_true, beq_iff_eq] at hc; exact hc.1.1
        · refine ⟨k, ?_, .inl rfl⟩
          simp only [List.map_cons, hc, Bool.false_eq_true, if_false, List.lookup_cons, hx]
      · simp only [Bool.not_eq_true] at hx
        simp only [List.lookup_cons, hx] at h
        obtain ⟨k', h1, h2⟩ := ih h
        refine ⟨k', ?_, h2⟩
        by_cases hc : (k0 == NameKind.free && env.scope.kind == .function && env.kindOf n == some .cell) = true
        · simp only [List.map_cons, hc, if_true, List.lookup_cons, hx]; exact h1
        · simp only [List.map_cons, hc, Bool.false_eq_true, if_false, List.lookup_cons, hx]; exact h1
  exact key sc.names h
structure Cok (C : Str → List D → Store → R D) (G : Str → Option D) (N : List Str) (isFn isGl free : Str → Bool) (cd : Str → List (Str × Str) → Bool) (k : Nat) (X : Cx) (sc : Scope) : Prop where
  names : X.N = N
  nd : X.N.Nodup
  calm : X.calm = true
  room : Room k X.A
  scr : ScR sc X.env.scope
  fnok : ∀ x, sc.names.lookup x = some .cell → X.fn x = true
  free : ∀ x, free x = true → X.mg x = none
  glo : ∀ x d, isGl x = true → G x = some d → ∃ v u, X.mg x = some u ∧ RelV v u ∧ ∀ φ W H, Rep X.K X.mg φ W H d v
  cds : ∀ x l, cd x l = true → TabAt X.K X.w X.mg x l
  fnc : ∀ x ds s d s', C x ds s = .ok d s' → isFn x = true
  fns : ∀ x, isFn x = true → ∃ f fd ps, FnOk X.prog X.w X.K X.mg X.base CX0 k f fd ps (spF X.K X.mg C x) ∧ X.mg x = some (.ref f) ∧ PySem.W.keepIn X.K (.ref f) = true ∧ Binds X.K fd ps []
section
variable {C : Str → List D → Store → R D} {G : Str → Option D} {N : List Str} {isFn isGl free : Str → Bool} {cd : Str → List (Str × Str) → Bool} {k : Nat} {X : Cx} {sc : Scope}
theorem Cok.units (c : Cok C G N isFn isGl free cd k X sc) : X.A.units + 65 < cLine := by have := c.room.un; omega
theorem Cok.blk (c : Cok C G N isFn isGl free cd k X sc) (scope : Scope) (s : Shared) (H : Hp) (A : Addr) (cl : List (Str × Addr)) (fp : List Addr) : Cok C G N isFn isGl free cd k (X.blk s H scope (compEnvC scope cl A X.env) fp) scope :=
  ⟨c.names, c.nd, c.calm, c.room, ScR.blk, fun x h => by show (scope.names.lookup x == some .cell) = true; rw [h]; rfl, c.free, c.glo, c.cds, c.fnc, c.fns⟩
theorem Cok.vis (c : Cok C G N isFn isGl free cd k X sc) {x : Str} (h : visB sc x = true) : Vis X.env.scope x := by
  unfold visB at h
  split at h
  · rename_i e
    obtain ⟨k', h1, h2⟩ := c.scr.get x _ e
    rcases h2 with rfl | ⟨h2, _⟩
    · exact .inl h1
    · cases h2
  · rename_i e
    obtain ⟨k', h1, h2⟩ := c.scr.get x _ e
    rcases h2 with rfl | ⟨h2, _⟩
    · exact .inr (.inl h1)
    · cases h2
  · rename_i e
    obtain ⟨k', h1, h2⟩ := c.scr.get x _ e
    rcases h2 with rfl | ⟨_, rfl⟩
    · exact .inr (.inr h1)
    · exact .inr (.inl h1)
  · cases h
theorem Cok.loc (c : Cok C G N isFn isGl free cd k X sc) {x : Str} (h : locB sc x = true) : Loc X.env.scope x ∧ (X.fn x = true ∨ X.env.scope.names.lookup x = some .local) := by
  unfold locB at h
  split at h
  · rename_i e
    obtain ⟨k', h1, h2⟩ := c.scr.get x _ e
    rcases h2 with rfl | ⟨h2, _⟩
    · exact ⟨.inl h1, .inr h1⟩
    · cases h2
  · rename_i e
    obtain ⟨k', h1, h2⟩ := c.scr.get x _ e
    rcases h2 with rfl | ⟨h2, _⟩
    · exact ⟨.inr h1, .inl (c.fnok x e)⟩
    · cases h2
  · cases h
theorem Cok.gl (c : Cok C G N isFn isGl free cd k X sc) {x : Str} (h : glbB sc x = true) : Gl X x := by
  unfold glbB at h
  split at h
  · rename_i e
    obtain ⟨k', h1, h2⟩ := c.scr.get x _ e
    rcases h2 with rfl | ⟨h2, _⟩
    · exact h1
    · cases h2
  · cases h
theorem okName_of {x : Str} (h : okName x = true) : (x == ("__debug__" : Str)) = false ∧ (x == ("__classdict__" : Str)) = false ∧ x ≠ ("__name__" : Str) := by
  unfold okName at h
  simp only [Bool.and_eq_true, Bool.not_eq_true', decide_eq_false_iff_not] at h
  exact ⟨h.1.1, h.1.2, h.2⟩
theorem Cok.blkOk (c : Cok C G N isFn isGl free cd k X sc) {scope : Scope} {own : List (Str × Nat)} (h : blkC N sc scope own = true) : BlkOk X.N X.env.scope scope own := by
  have q := blkOk_by h
  rw [c.names]
  refine ⟨q.kind, q.uniq, q.ix, fun y hy e => ?_, q.own⟩
  rcases q.free y hy e with e | e
  · obtain ⟨k', h1, h2⟩ := c.scr.get _ _ e
    rcases h2 with rfl | ⟨h2, _⟩
    · exact .inl h1
    · cases h2
  · obtain ⟨k', h1, h2⟩ := c.scr.get _ _ e
    rcases h2 with rfl | ⟨_, rfl⟩
    · exact .inr h1
    · exact .inl h1
/-- targets -/
theorem nms_ok (c : Cok C G N isFn isGl free cd k X sc) : ∀ {is : List Nat} {es : List Expr}, chkT.nms N sc is es = true → PGs X es (gNames is) ∧ (assignEach es X.env).length = is.length ∧ (assignEach es X.env).findIdx? (·.1) = none
  | [], [], _ => ⟨pgs_nil, rfl, rfl⟩
  | [], _ :: _, h => by cases h
  | i :: is, [], h => by cases h
  | i :: is, e :: es, h => by
    cases e <;> first | (cases h; done) | skip
    rename_i x p
    unfold chkT.nms at h
    simp only [Bool.and_eq_true, decide_eq_true_eq] at h
    obtain ⟨⟨h1, h2⟩, h3⟩ := h
    obtain ⟨q1, q2, q3⟩ := nms_ok c h3
    obtain ⟨l1, l2⟩ := c.loc h2
    refine ⟨pgs_cons (pg_name c.nd (by rw [c.names]; exact h1) l1 l2) q1, ?_, ?_⟩
    · show (assignEach es X.env).length + 1 = _
      rw [q2]; rfl
    · show List.findIdx? _ ((false, _) :: assignEach es X.env) = none
      rw [List.findIdx?_cons]
      simp only [Bool.false_eq_true, if_false, q3, Option.map_none]
theorem chkT_ok (c : Cok C G N isFn isGl free cd k X sc) {t : TGT} {e : Expr} (h : chkT N sc t e = true) : PG X e (gT X.K t) := by
  cases t with
  | nm i =>
    cases e <;> first | (cases h; done) | skip
    unfold chkT at h
    simp only [Bool.and_eq_true, decide_eq_true_eq] at h
    obtain ⟨l1, l2⟩ := c.loc h.2
    exact pg_name c.nd (by rw [c.names]; exact h.1) l1 l2
  | tp is =>
    cases e <;> first | (cases h; done) | skip
    obtain ⟨q1, q2, q3⟩ := nms_ok c h
    exact pg_tup c.calm q1 q2 q3
end
end Rf

set_option Elab.async false
set_option linter.all false
set_option maxRecDepth 100000
set_option maxHeartbeats 4000000
/-! Rf13: expressions that pass the check are sound. -/
namespace Rf
open PySem PySem.Spec PyProof.Rows L2

section
variable {C : Str → List D → Store → R D} {G : Str → Option D} {F : Nat} {N : List Str} {isFn isGl free : Str → Bool} {cd : Str → List (Str × Str) → Bool} {k : Nat}
theorem chk_star {me : ME} {b : Bool} {sc : Scope} {e : Expr} (h : chkE N isFn isGl free cd me b sc e = true) : notStar e = true := by
  cases e <;> first | rfl | skip
  cases me <;> cases h
theorem chks_star : ∀ {es : MEs} {sc : Scope} {l : List Expr}, chkEs N isFn isGl free cd es sc l = true → l.all notStar = true
  | .nil, _, [], _ => rfl
  | .nil, _, _ :: _, h => by cases h
  | .cons _ _, _, [], h => by cases h
  | .cons e r, sc, x :: xs, h => by
    have h : (chkE N isFn isGl free cd e false sc x && chkEs N isFn isGl free cd r sc xs) = true := h
    rw [Bool.and_eq_true] at h
    simp only [List.all_cons, Bool.and_eq_true]
    exact ⟨chk_star h.1, chks_star h.2⟩
theorem evs_len : ∀ {es : MEs} {sc : Scope} {l : List Expr}, chkEs N isFn isGl free cd es sc l = true → ∀ ρ s ds s', evs C G F es ρ s = .ok ds s' → ds.length = l.length
  | .nil, _, [], _, ρ, s, ds, s', e => by cases e; rfl
  | .nil, _, _ :: _, h, _, _, _, _, _ => by cases h
  | .cons _ _, _, [], h, _, _, _, _, _ => by cases h
  | .cons e r, sc, x :: xs, h, ρ, s, ds, s', q => by
    have h : (chkE N isFn isGl free cd e false sc x && chkEs N isFn isGl free cd r sc xs) = true := h
    rw [Bool.and_eq_true] at h
    obtain ⟨d, s1, e1, e2⟩ := R.bnd_ok q
    obtain ⟨ds', s2, e3, e4⟩ := R.bnd_ok e2
    cases e4
    simp [evs_len h.2 _ _ _ _ e3]
theorem evs_lenP : ∀ {es : MEs} {sc : Scope} {ks : List (Option Expr)} {vs : List Expr}, chkPs N isFn isGl free cd es sc ks vs = true → ks.all (·.isSome) = true ∧ ks.length = vs.length ∧ ∀ ρ s ds s', evs C G F es ρ s = .ok ds s' → ds.length = ks.length * 2
  | .nil, _, [], [], _ => ⟨rfl, rfl, fun ρ s ds s' e => by cases e; rfl⟩
  | .nil, _, [], _ :: _, h => by cases h
  | .nil, _, _ :: _, _, h => by cases h
  | .cons _ _, _, [], _, h => by cases h
  | .cons _ _, _, none :: _, _, h => by cases h
  | .cons _ _, _, some _ :: _, [], h => by cases h
  | .cons _ .nil, _, some _ :: _, _ :: _, h => by cases h
  | .cons k (.cons v r), sc, some ke :: ks, ve :: vs, h => by
    have h : (chkE N isFn isGl free cd k false sc ke && chkE N isFn isGl free cd v false sc ve && chkPs N isFn isGl free cd r sc ks vs) = true := h
    simp only [Bool.and_eq_true] at h
    obtain ⟨q1, q2, q3⟩ := evs_lenP h.2
    refine ⟨by simp [q1], by simp [q2], fun ρ s ds s' q => ?_⟩
    obtain ⟨d, s1, e1, e2⟩ := R.bnd_ok q
    obtain ⟨ds', s2, e3, e4⟩ := R.bnd_ok e2
    cases e4
    obtain ⟨d', s3, e5, e6⟩ := R.bnd_ok e3
    obtain ⟨ds2, s4, e7, e8⟩ := R.bnd_ok e6
    cases e8
    have := q3 _ _ _ _ e7
    simp only [List.length_cons]
    omega
theorem plainIx_of {e : Expr} (h : notSlice e = true) : PlainIx e := by
  intro o i
  cases e <;> first | rfl | cases h
theorem attr_base {o : Expr} {a : Str} {env : PySem.Env} {w : Sem Value} (h : notCall o = true) : attributeBase o a env w = w := by
  cases o <;> first | rfl | cases h
theorem folded_of {e : Expr} {env : PySem.Env} (h : notSet e = true) : ∀ x, foldedSetIterable e env x = pure x := by
  intro x
  cases e <;> first | rfl | cases h
abbrev Bth (X : Cx) (e : Expr) (f : Env → Store → R D) : Prop := PEf X e f ∧ PTf X e f
theorem both_val {X : Cx} {e : Expr} {f : Env → Store → R D} (h : PEf X e f) (he : ∀ whole, isTrue e X.env whole = (do let v ← whole; standAt e.pos; holding [v] (truthy v))) : Bth X e f := ⟨h, ptf_val h he⟩
theorem ba2 {a b : Bool} (h : (a && b) = true) : a = true ∧ b = true := Bool.and_eq_true_iff.mp h
theorem bty_ok {X : Cx} {t : String} {x : Str} {pos : Pos} {f : Env → Store → R D} (ht : tyNames.contains t = true) (hx : x = Str.ofString t) (hg : Gl X x) (hm : X.mg x = none) (hok : okName x = true) (hf : f = fun _ s => .ok (.ty t) s) : PEf X (.Name x pos) f := by
  obtain ⟨n1, _, n3⟩ := okName_of hok
  have hv : bootBuiltins x = some (.type t) := by
    subst hx
    simp only [tyNames, List.contains_cons, List.contains_nil, Bool.or_false, Bool.or_eq_true, beq_iff_eq] at ht
    rcases ht with rfl | rfl | rfl | rfl <;> decide +kernel
  subst hf
  exact (pe_bltn (v := .ty t) hg hm hv rfl n3 n1).imp fun σ H Q q => by
    obtain ⟨φ, W, ρ, s, d, s', eo, so, e, kt⟩ := q
    cases e
    exact kt.here so (.ty _)
mutual
theorem e_ok : ∀ (me : ME) (sc : Scope) (e : Expr) (X : Cx), Cok C G N isFn isGl free cd k X sc → chkE N isFn isGl free cd me false sc e = true → Bth X e (ev C G F me)
  | .bad, sc, e, X, c, h => by
    refine ⟨⟨fun pins s σ H Q I q => ?_⟩, ⟨fun pins s σ H Q I q => ?_⟩⟩
    · obtain ⟨_, _, _, _, _, _, _, _, e, _⟩ := q
      unfold ev at e
      cases e
    · obtain ⟨_, _, _, _, _, _, _, _, _, e, _⟩ := q
      unfold ev at e
      cases e
  | .slot i, sc, e, X, c, h => by
    cases e <;> first | (cases h; done) | skip
    rename_i x p
    have h : (decide (N[i]? = some x) && visB sc x && okName x) = true := h
    obtain ⟨h, h3⟩ := ba2 h
    obtain ⟨h1, h2⟩ := ba2 h
    obtain ⟨n1, n2, _⟩ := okName_of h3
    refine both_val ?_ fun _ => rfl
    exact (pe_var (by rw [c.names]; exact of_decide_eq_true h1) (c.vis h2) n1 n2).imp fun σ H Q q => by
      obtain ⟨φ, W, ρ, s, d, s', eo, so, e, kt⟩ := q
      have e : (match ρ[i]? with | some (some d) => R.ok d s | _ => .bad) = .ok d s' := e
      split at e
      · rename_i d' hd
        cases e
        obtain ⟨v, hv, r⟩ := eo.get i _ hd
        exact ⟨v, hv, kt.here so r⟩
      · cases e
  | .cst d, sc, e, X, c, h => by
    cases e <;> first | (cases h; done) | skip
    rename_i cc k' p
    have h : cstB d cc = true := h
    refine both_val ?_ fun _ => rfl
    have fin : ∀ {v : V}, PE X (.Constant cc k' p) (tC v) → (∀ φ W H, Rep X.K X.mg φ W H d v) → PEf X (.Constant cc k' p) (ev C G F (.cst d)) := fun {v} hp hr => hp.imp fun σ H Q q => by
      obtain ⟨φ, W, ρ, s, d', s', eo, so, e, kt⟩ := q
      cases e
      exact kt.here so (hr _ _ _)
    cases d <;> cases cc <;> simp only [cstB, Bool.false_eq_true] at h
    · exact fin pe_non fun _ _ _ => .non
    · rw [beq_iff_eq] at h; subst h; exact fin pe_bl fun _ _ _ => .bl _
    · rw [beq_iff_eq] at h; subst h; exact fin pe_int fun _ _ _ => .int _
    · obtain ⟨h1, h2⟩ := ba2 h
      have h1 := of_decide_eq_true h1
      subst h1
      exact fin pe_str fun _ _ _ => .str _ h2
  | .glob x, sc, e, X, c, h => by
    cases e <;> first | (cases h; done) | skip
    rename_i y p
    have h : (decide (x = y) && glbB sc y && isGl y && okName y) = true := h
    obtain ⟨h, h4⟩ := ba2 h
    obtain ⟨h, h3⟩ := ba2 h
    obtain ⟨h1, h2⟩ := ba2 h
    have h1 := of_decide_eq_true h1
    subst h1
    obtain ⟨n1, _, _⟩ := okName_of h4
    refine both_val ?_ fun _ => rfl
    cases hG : G x with
    | none =>
      refine ⟨fun pins s σ H Q I q => ?_⟩
      obtain ⟨φ, W, ρ, s, d', s', eo, so, e, kt⟩ := q
      have e : ofO (G x) s = .ok d' s' := e
      rw [hG] at e; cases e
    | some d =>
      obtain ⟨v, u, hm, r, hr⟩ := c.glo x d h3 hG
      exact (pe_glob (c.gl h2) hm r n1).imp fun σ H Q q => by
        obtain ⟨φ, W, ρ, s, d', s', eo, so, e, kt⟩ := q
        have e : ofO (G x) s = .ok d' s' := e
        rw [hG] at e
        cases e
        exact kt.here so (hr _ _ _)
  | .bty t, sc, e, X, c, h => by
    cases e <;> first | (cases h; done) | skip
    rename_i y p
    have h : (tyNames.contains t && decide (y = Str.ofString t) && glbB sc y && free y && okName y) = true := h
    obtain ⟨h, h5⟩ := ba2 h
    obtain ⟨h, h4⟩ := ba2 h
    obtain ⟨h, h3⟩ := ba2 h
    obtain ⟨h1, h2⟩ := ba2 h
    exact both_val (bty_ok h1 (of_decide_eq_true h2) (c.gl h3) (c.free _ h4) h5 rfl) fun _ => rfl
  | .tup es, sc, e, X, c, h => by
    cases e <;> first | (cases h; done) | skip
    obtain ⟨h1, h2⟩ := ba2 (show (chkEs N isFn isGl free cd es sc _ && decide (_ ≤ 1000)) = true from h)
    refine both_val (pef_tup (es_ok es sc _ X c h1) fun ρ s ds s' e => ?_) fun _ => rfl
    rw [evs_len h1 _ _ _ _ e]
    exact Nat.le_trans (of_decide_eq_true h2) (by decide)
  | .lst mu es, sc, e, X, c, h => by
    cases e <;> first | (cases h; done) | skip
    obtain ⟨h1, h2⟩ := ba2 (show (chkEs N isFn isGl free cd es sc _ && decide (_ ≤ 1000)) = true from h)
    refine both_val (pef_lst (es_ok es sc _ X c h1) fun ρ s ds s' e => ?_) fun _ => rfl
    rw [evs_len h1 _ _ _ _ e]
    exact Nat.le_trans (of_decide_eq_true h2) (by decide)
  | .bin o a b, sc, e, X, c, h => by
    cases e <;> first | (cases h; done) | skip
    rename_i l o' r p
    have h : (decide (o = o') && opServed o && chkE N isFn isGl free cd a false sc l && chkE N isFn isGl free cd b false sc r) = true := h
    obtain ⟨h, h4⟩ := ba2 h
    obtain ⟨h, h3⟩ := ba2 h
    obtain ⟨h1, h2⟩ := ba2 h
    have h1 := of_decide_eq_true h1
    subst h1
    exact both_val (pef_bin h2 (e_ok a sc l X c h3).1 (e_ok b sc r X c h4).1) fun _ => rfl
  | .neg a, sc, e, X, c, h => by
    cases e <;> first | (cases h; done) | skip
    rename_i o x p
    cases o <;> first | (cases h; done) | skip
    exact both_val (pef_neg (e_ok a sc x X c h).1) fun _ => rfl
  | .cmp o a b, sc, e, X, c, h => by
    cases e <;> first | (cases h; done) | skip
    rename_i l ops rs p
    match ops, rs, h with
    | [o'], [r], h =>
      have h : (decide (o = o') && !behindInMarks o r && chkE N isFn isGl free cd a false sc l && chkE N isFn isGl free cd b false sc r) = true := h
      obtain ⟨h, h4⟩ := ba2 h
      obtain ⟨h, h3⟩ := ba2 h
      obtain ⟨h1, h2⟩ := ba2 h
      have h1 := of_decide_eq_true h1
      subst h1
      have h2 : behindInMarks o r = false := by simpa using h2
      exact ⟨pef_cmp c.units h2 (e_ok a sc l X c h3).1 (e_ok b sc r X c h4).1, ptf_cmp c.units h2 (e_ok a sc l X c h3).1 (e_ok b sc r X c h4).1⟩
    | [], _, h => cases h
    | _ :: _ :: _, _, h => cases h
    | [_], [], h => cases h
    | [_], _ :: _ :: _, h => cases h
  | .chain o q a b d, sc, e, X, c, h => by
    cases e <;> first | (cases h; done) | skip
    rename_i l ops rs p
    match ops, rs, h with
    | [o', q'], [r, t], h =>
      have h : (decide (o = o') && decide (q = q') && !lastMarks [o, q] [r, t] && chkE N isFn isGl free cd a false sc l && chkE N isFn isGl free cd b false sc r && chkE N isFn isGl free cd d false sc t) = true := h
      obtain ⟨h, h6⟩ := ba2 h
      obtain ⟨h, h5⟩ := ba2 h
      obtain ⟨h, h4⟩ := ba2 h
      obtain ⟨h, h3⟩ := ba2 h
      obtain ⟨h1, h2⟩ := ba2 h
      have h1 := of_decide_eq_true h1
      have h2 := of_decide_eq_true h2
      subst h1 h2
      have h3 : lastMarks [o, q] [r, t] = false := by simpa using h3
      exact ⟨pef_chain c.units h3 (e_ok a sc l X c h4).1 (e_ok b sc r X c h5).1 (e_ok d sc t X c h6).1, ptf_chain c.units h3 (e_ok a sc l X c h4).1 (e_ok b sc r X c h5).1 (e_ok d sc t X c h6).1⟩
    | [], _, h => cases h
    | [_], _, h => cases h
    | _ :: _ :: _ :: _, _, h => cases h
    | [_, _], [], h => cases h
    | [_, _], [_], h => cases h
    | [_, _], _ :: _ :: _ :: _, h => cases h
  | .and_ es, sc, e, X, c, h => by
    cases e <;> first | (cases h; done) | skip
    rename_i op l p
    cases op <;> first | (cases h; done) | skip
    obtain ⟨h1, h2⟩ := ba2 (show (chkEs N isFn isGl free cd es sc l && !l.isEmpty) = true from h)
    obtain ⟨q1, q2⟩ := and_ok es sc l X p c h1 (by simpa using h2)
    exact ⟨q1, PW.pt q2⟩
  | .or_ es, sc, e, X, c, h => by
    cases e <;> first | (cases h; done) | skip
    rename_i op l p
    cases op <;> first | (cases h; done) | skip
    obtain ⟨h1, h2⟩ := ba2 (show (chkEs N isFn isGl free cd es sc l && !l.isEmpty) = true from h)
    obtain ⟨q1, q2⟩ := or_ok es sc l X p c h1 (by simpa using h2)
    exact ⟨q1, PW.pt q2⟩
  | .not_ a, sc, e, X, c, h => by
    cases e <;> first | (cases h; done) | skip
    rename_i o x p
    cases o <;> first | (cases h; done) | skip
    exact ⟨pef_not (e_ok a sc x X c h).1, ptf_not (e_ok a sc x X c h).2⟩
  | .ife d a b, sc, e, X, c, h => by
    cases e <;> first | (cases h; done) | skip
    rename_i t l r p
    have h : (chkE N isFn isGl free cd d false sc t && chkE N isFn isGl free cd a false sc l && chkE N isFn isGl free cd b false sc r) = true := h
    obtain ⟨h, h3⟩ := ba2 h
    obtain ⟨h1, h2⟩ := ba2 h
    exact ⟨pef_ife (e_ok d sc t X c h1).2 (e_ok a sc l X c h2).1 (e_ok b sc r X c h3).1, ptf_ife (e_ok d sc t X c h1).2 (e_ok a sc l X c h2).2 (e_ok b sc r X c h3).2⟩
  | .ix a i, sc, e, X, c, h => by
    cases e <;> first | (cases h; done) | skip
    rename_i v s p
    have h : (notSlice s && chkE N isFn isGl free cd a false sc v && chkE N isFn isGl free cd i false sc s) = true := h
    obtain ⟨h, h3⟩ := ba2 h
    obtain ⟨h1, h2⟩ := ba2 h
    exact both_val (pef_ix (by have := c.units; omega) (plainIx_of h1) (e_ok a sc v X c h2).1 (e_ok i sc s X c h3).1) fun _ => rfl
  | .slc a lo hi, sc, e, X, c, h => by
    cases e <;> first | (cases h; done) | skip
    rename_i v s p
    cases s <;> first | (cases h; done) | skip
    rename_i l u st p2
    cases st <;> first | (cases h; done) | skip
    simp only [chkE, Bool.and_eq_true] at h
    obtain ⟨⟨h1, h2⟩, h3⟩ := h
    refine both_val (pef_slc (e_ok a sc v X c h1).1 ?_ ?_) fun _ => rfl
    · cases l with
      | none =>
        simp only at h2
        split at h2
        · exact pof_none
        · cases h2
      | some l => exact pof_some (e_ok lo sc l X c (by simp only [Bool.and_eq_true] at h2; exact h2.2)).1
    · cases u with
      | none =>
        simp only at h3
        split at h3
        · exact pof_none
        · cases h3
      | some l => exact pof_some (e_ok hi sc l X c (by simp only [Bool.and_eq_true] at h3; exact h3.2)).1
  | .nop, _, _, _, _, h => by cases h
  | .call x es, sc, e, X, c, h => by
    cases e <;> first | (cases h; done) | skip
    rename_i f args kws p
    cases f <;> first | (cases h; done) | skip
    rename_i y p2
    cases kws <;> first | (cases h; done) | skip
    have h : (decide (x = y) && glbB sc y && isFn y && okName y && chkEs N isFn isGl free cd es sc args) = true := h
    obtain ⟨h, h5⟩ := ba2 h
    obtain ⟨h, h4⟩ := ba2 h
    obtain ⟨h, h3⟩ := ba2 h
    obtain ⟨h1, h2⟩ := ba2 h
    have h1 := of_decide_eq_true h1
    subst h1
    obtain ⟨f, fd, ps, Fn, hm, hk, hb⟩ := c.fns x h3
    obtain ⟨n1, _, _⟩ := okName_of h4
    have q := es_ok es sc args X c h5
    refine both_val ?_ fun _ => rfl
    cases args with
    | nil =>
      cases es with
      | nil => exact pef_call0 Fn c.room (c.gl h2) hm hk hb n1
      | cons a b => cases h5
    | cons a args => exact pef_call Fn c.room (c.gl h2) hm hk hb q (chks_star h5) n1
  | .bi b es, sc, e, X, c, h => by
    cases e <;> first | (cases h; done) | skip
    rename_i f args kws p
    cases f <;> first | (cases h; done) | skip
    rename_i y p2
    cases kws <;> first | (cases h; done) | skip
    have h : (decide (y = biName b) && biServed b && glbB sc y && free y && chkEs N isFn isGl free cd es sc args && !args.isEmpty) = true := h
    obtain ⟨h, h6⟩ := ba2 h
    obtain ⟨h, h5⟩ := ba2 h
    obtain ⟨h, h4⟩ := ba2 h
    obtain ⟨h, h3⟩ := ba2 h
    obtain ⟨h1, h2⟩ := ba2 h
    have h1 := of_decide_eq_true h1
    subst h1
    have q := es_ok es sc args X c h5
    refine both_val ?_ fun _ => rfl
    cases args with
    | nil => cases h6
    | cons a args => exact pef_bi b c.units h2 c.calm (c.gl h3) (c.free _ h4) q (chks_star h5)
  | .dnew t, sc, e, X, c, h => by
    cases e <;> first | (cases h; done) | skip
    rename_i ks vs p
    have h : (ks.isEmpty && vs.isEmpty) = true := h
    obtain ⟨h1, h2⟩ := ba2 h
    have h1 := List.isEmpty_iff.mp h1
    have h2 := List.isEmpty_iff.mp h2
    subst h1 h2
    exact both_val pef_dnew fun _ => rfl
  | .dsing k v, sc, e, X, c, h => by
    cases e <;> first | (cases h; done) | skip
    rename_i ks vs p
    match ks, vs, h with
    | [some k'], [v'], h =>
      have h : (chkE N isFn isGl free cd k false sc k' && chkE N isFn isGl free cd v false sc v') = true := h
      obtain ⟨h1, h2⟩ := ba2 h
      exact both_val (pef_dsing (by have := c.units; omega) (e_ok k sc k' X c h1).1 (e_ok v sc v' X c h2).1) fun _ => rfl
  | .dget o k, sc, e, X, c, h => by
    cases e <;> first | (cases h; done) | skip
    rename_i f args kws p
    cases f <;> first | (cases h; done) | skip
    rename_i o' m ap
    match args, kws, h with
    | [a], [], h =>
      have h : (decide (m = ("get" : Str)) && (ap.endLine == p.line) && notCall o' && chkE N isFn isGl free cd o false sc o' && chkE N isFn isGl free cd k false sc a) = true := h
      obtain ⟨h, h5⟩ := ba2 h
      obtain ⟨h, h4⟩ := ba2 h
      obtain ⟨h, h3⟩ := ba2 h
      obtain ⟨h1, h2⟩ := ba2 h
      have h1 := of_decide_eq_true h1
      subst h1
      exact both_val (pef_dget (by have := c.units; omega) (e_ok o sc o' X c h4).1 (e_ok k sc a X c h5).1 (chk_star h5) (attr_base h3) h2) fun _ => rfl
  | .dget2 o k d, sc, e, X, c, h => by
    cases e <;> first | (cases h; done) | skip
    rename_i f args kws p
    cases f <;> first | (cases h; done) | skip
    rename_i o' m ap
    match args, kws, h with
    | [a, b], [], h =>
      have h : (decide (m = ("get" : Str)) && (ap.endLine == p.line) && notCall o' && chkE N isFn isGl free cd o false sc o' && chkE N isFn isGl free cd k false sc a && chkE N isFn isGl free cd d false sc b) = true := h
      obtain ⟨h, h6⟩ := ba2 h
      obtain ⟨h, h5⟩ := ba2 h
      obtain ⟨h, h4⟩ := ba2 h
      obtain ⟨h, h3⟩ := ba2 h
      obtain ⟨h1, h2⟩ := ba2 h
      have h1 := of_decide_eq_true h1
      subst h1
      exact both_val (pef_dget2 (by have := c.units; omega) (e_ok o sc o' X c h4).1 (e_ok k sc a X c h5).1 (e_ok d sc b X c h6).1 (chk_star h5) (chk_star h6) (attr_base h3) h2) fun _ => rfl
  | .ddisp kvs, sc, e, X, c, h => by
    cases e <;> first | (cases h; done) | skip
    rename_i ks vs p
    have h : (chkPs N isFn isGl free cd kvs sc ks vs && decide (ks.length ≤ 15) && !ks.isEmpty) = true := h
    obtain ⟨h, h3⟩ := ba2 h
    obtain ⟨h1, h2⟩ := ba2 h
    obtain ⟨q1, q2, q3⟩ := evs_lenP (C := C) (G := G) (F := F) h1
    exact both_val (pef_ddisp (by have := c.units; omega) (ps_ok kvs sc ks vs p X c h1) q1 q2 (fun e => by rw [e] at h3; cases h3) (of_decide_eq_true h2) q3) fun _ => rfl
  | .cget x l k, sc, e, X, c, h => by
    cases e <;> first | (cases h; done) | skip
    rename_i v s p
    cases v <;> first | (cases h; done) | skip
    rename_i y p2
    have h : (decide (x = y) && glbB sc y && okName y && cd x l && notSlice s && chkE N isFn isGl free cd k false sc s) = true := h
    obtain ⟨h, h6⟩ := ba2 h
    obtain ⟨h, h5⟩ := ba2 h
    obtain ⟨h, h4⟩ := ba2 h
    obtain ⟨h, h3⟩ := ba2 h
    obtain ⟨h1, h2⟩ := ba2 h
    have h1 := of_decide_eq_true h1
    subst h1
    exact both_val (pef_cget (c.cds x l h4) (c.gl h2) (okName_of h3).1 (plainIx_of h5) (e_ok k sc s X c h6).1) fun _ => rfl
  | .cin neg x l k, sc, e, X, c, h => by
    cases e <;> first | (cases h; done) | skip
    rename_i a ops rs p
    match ops, rs, h with
    | [o'], [.Name y p2], h =>
      have h : (decide (o' = if neg then .NotIn else .In) && decide (x = y) && glbB sc y && okName y && cd x l && chkE N isFn isGl free cd k false sc a) = true := h
      obtain ⟨h, h6⟩ := ba2 h
      obtain ⟨h, h5⟩ := ba2 h
      obtain ⟨h, h4⟩ := ba2 h
      obtain ⟨h, h3⟩ := ba2 h
      obtain ⟨h1, h2⟩ := ba2 h
      have h1 := of_decide_eq_true h1
      have h2 := of_decide_eq_true h2
      subst h1 h2
      exact pef_cin (c.cds x l h5) (c.gl h3) (okName_of h4).1 (e_ok k sc a X c h6).1
    | [], _, h => cases h
    | _ :: _ :: _, _, h => cases h
    | [_], [], h => cases h
    | [_], _ :: _ :: _, h => simp only [chkE, Bool.false_eq_true] at h
  | .callv i es, sc, e, X, c, h => by
    cases e <;> first | (cases h; done) | skip
    rename_i f args kws p
    cases f <;> first | (cases h; done) | skip
    rename_i y p2
    cases kws <;> first | (cases h; done) | skip
    have h : (decide (N[i]? = some y) && visB sc y && okName y && chkEs N isFn isGl free cd es sc args && !args.isEmpty) = true := h
    obtain ⟨h, h5⟩ := ba2 h
    obtain ⟨h, h4⟩ := ba2 h
    obtain ⟨h, h3⟩ := ba2 h
    obtain ⟨h1, h2⟩ := ba2 h
    obtain ⟨n1, n2, _⟩ := okName_of h3
    have q := es_ok es sc args X c h4
    refine both_val ?_ fun _ => rfl
    cases args with
    | nil => cases h5
    | cons a args =>
      exact pef_callv (k := k) (fun y ds s d s' e => c.fns y (c.fnc y ds s d s' e)) c.room (by rw [c.names]; exact of_decide_eq_true h1) (c.vis h2) q (chks_star h4) n1 n2
  | .pm m o a, sc, e, X, c, h => by
    cases e <;> first | (cases h; done) | skip
    rename_i f args kws p
    cases f <;> first | (cases h; done) | skip
    match args, kws, h with
    | [a], [], h => cases h
  | .mxd x d, sc, e, X, c, h => by
    cases e <;> first | (cases h; done) | skip
    rename_i f args kws p
    cases f <;> first | (cases h; done) | skip
    match args, h with
    | [a], h => cases h
  | .itf b es, sc, e, X, c, h => by
    cases e <;> first | (cases h; done) | skip
    rename_i f args kws p
    cases f <;> first | (cases h; done) | skip
    cases kws <;> cases h
  | .meth .append o es, sc, e, X, c, h => by
    cases e <;> first | (cases h; done) | skip
    rename_i f args kws p
    cases f <;> first | (cases h; done) | skip
    rename_i o' m ap
    cases kws <;> first | (cases h; done) | skip
    have h : (decide (m = ("append" : Str)) && (ap.endLine == p.line) && notCall o' && chkE N isFn isGl free cd o false sc o' && chkEs N isFn isGl free cd es sc args && decide (args.length = 1)) = true := h
    obtain ⟨h, h6⟩ := ba2 h
    obtain ⟨h, h5⟩ := ba2 h
    obtain ⟨h, h4⟩ := ba2 h
    obtain ⟨h, h3⟩ := ba2 h
    obtain ⟨h1, h2⟩ := ba2 h
    have h1 := of_decide_eq_true h1
    subst h1
    have q := es_ok es sc args X c h5
    refine both_val ?_ fun _ => rfl
    match args, of_decide_eq_true h6, q, h5 with
    | [a], _, q, h5 =>
      have st := chks_star h5
      simp only [List.all_cons, List.all_nil, Bool.and_true] at st
      exact pef_append (e_ok o sc o' X c h4).1 q st (attr_base h3) h2
  | .rng es, sc, e, X, c, h => by
    cases e <;> first | (cases h; done) | skip
    rename_i f args kws p
    cases f <;> first | (cases h; done) | skip
    cases kws <;> cases h
  | .lc elt tg it ifs own, sc, e, X, c, h => by
    cases e <;> first | (cases h; done) | skip
    rename_i el gens scope p
    match gens, h with
    | [⟨tgt, iter, ifs', asy⟩], h =>
      have h : (decide (asy = 0) && chkE N isFn isGl free cd it true sc iter && chkT N scope tg tgt && chkEs N isFn isGl free cd ifs scope ifs' && decide (ifs'.length ≤ 1) && chkE N isFn isGl free cd elt false scope el && blkC N sc scope (ownOf N own) && decide ((ownOf N own).map (·.2) = own) &&
        tg.slots.all own.contains && notSet iter) = true := h
      obtain ⟨h, h9⟩ := ba2 h
      obtain ⟨h, h8⟩ := ba2 h
      obtain ⟨h, h7⟩ := ba2 h
      obtain ⟨h, h6⟩ := ba2 h
      obtain ⟨h, h5⟩ := ba2 h
      obtain ⟨h, h4⟩ := ba2 h
      obtain ⟨h, h3⟩ := ba2 h
      obtain ⟨h, h2⟩ := ba2 h
      obtain ⟨h0, h1⟩ := ba2 h
      have h0 := of_decide_eq_true h0
      subst h0
      have h7 : (ownOf N own).map (fun (p : Str × Nat) => p.2) = own := of_decide_eq_true h7
      refine both_val ?_ fun _ => rfl
      have q := pef_lc (F := F) (pos := p) (t := tg) (fi := ev C G F it) (fe := ev C G F elt) (ft := evTs C G F ifs) (elt := el) (tg := tgt) (iter := iter) (ifs := ifs') (scope := scope) (own := ownOf N own) c.calm c.nd (i_ok it sc iter tgt X c h1) (c.blkOk h6)
        (fun s H A cl fp => chkT_ok (c.blk scope s H A cl fp) h2)
        (fun s H A cl fp => ts_ok ifs scope ifs' _ (c.blk scope s H A cl fp) h3 (of_decide_eq_true h4))
        (fun s H A cl fp => (e_ok elt scope el _ (c.blk scope s H A cl fp) h5).1) (folded_of h9) (fun i hi => by
          rw [h7]
          have := List.all_eq_true.mp h8 i hi
          simpa using this)
      rw [h7] at q
      exact q
    | [], h => cases h
    | _ :: _ :: _, h => simp only [chkE, Bool.false_eq_true] at h
  | .lcd elt tg it ifs own, sc, e, X, c, h => by
    cases e <;> first | (cases h; done) | skip
    rename_i el gens scope p
    match gens, h with
    | [⟨tgt, iter, ifs', asy⟩], h =>
      have h : (decide (asy = 0) && chkE N isFn isGl free cd it false sc iter && chkT N scope tg tgt && chkEs N isFn isGl free cd ifs scope ifs' && decide (ifs'.length ≤ 1) && chkE N isFn isGl free cd elt false scope el && blkC N sc scope (ownOf N own) && decide ((ownOf N own).map (·.2) = own) &&
        tg.slots.all own.contains && notSet iter) = true := h
      obtain ⟨h, h9⟩ := ba2 h
      obtain ⟨h, h8⟩ := ba2 h
      obtain ⟨h, h7⟩ := ba2 h
      obtain ⟨h, h6⟩ := ba2 h
      obtain ⟨h, h5⟩ := ba2 h
      obtain ⟨h, h4⟩ := ba2 h
      obtain ⟨h, h3⟩ := ba2 h
      obtain ⟨h, h2⟩ := ba2 h
      obtain ⟨h0, h1⟩ := ba2 h
      have h0 := of_decide_eq_true h0
      subst h0
      have h7 : (ownOf N own).map (fun (p : Str × Nat) => p.2) = own := of_decide_eq_true h7
      refine both_val ?_ fun _ => rfl
      have q := pef_lcd (pos := p) (t := tg) (fi := ev C G F it) (fe := ev C G F elt) (ft := evTs C G F ifs) (elt := el) (tg := tgt) (iter := iter) (ifs := ifs') (scope := scope) (own := ownOf N own) c.calm c.nd (e_ok it sc iter X c h1).1 (c.blkOk h6)
        (fun s H A cl fp => chkT_ok (c.blk scope s H A cl fp) h2)
        (fun s H A cl fp => ts_ok ifs scope ifs' _ (c.blk scope s H A cl fp) h3 (of_decide_eq_true h4))
        (fun s H A cl fp => (e_ok elt scope el _ (c.blk scope s H A cl fp) h5).1) (folded_of h9) (fun i hi => by
          rw [h7]
          have := List.all_eq_true.mp h8 i hi
          simpa using this)
      rw [h7] at q
      exact q
    | [], h => cases h
    | _ :: _ :: _, h => simp only [chkE, Bool.false_eq_true] at h
theorem es_ok : ∀ (es : MEs) (sc : Scope) (l : List Expr) (X : Cx), Cok C G N isFn isGl free cd k X sc → chkEs N isFn isGl free cd es sc l = true → PAf X l (evs C G F es)
  | .nil, _, [], _, _, _ => paf_nil
  | .nil, _, _ :: _, _, _, h => by cases h
  | .cons _ _, _, [], _, _, h => by cases h
  | .cons e r, sc, x :: xs, X, c, h => by
    have h : (chkE N isFn isGl free cd e false sc x && chkEs N isFn isGl free cd r sc xs) = true := h
    obtain ⟨h1, h2⟩ := ba2 h
    exact paf_cons (chk_star h1) (e_ok e sc x X c h1).1 (es_ok r sc xs X c h2)
theorem and_ok : ∀ (es : MEs) (sc : Scope) (l : List Expr) (X : Cx) (pos : Pos), Cok C G N isFn isGl free cd k X sc → chkEs N isFn isGl free cd es sc l = true → l ≠ [] → PEf X (.BoolOp .And l pos) (evAnd C G F es) ∧ PWf X (.BoolOp .And l pos) (evAnd C G F es)
  | .nil, _, [], _, _, _, _, n => absurd rfl n
  | .nil, _, _ :: _, _, _, _, h, _ => by cases h
  | .cons _ _, _, [], _, _, _, h, _ => by cases h
  | .cons e .nil, sc, x :: xs, X, pos, c, h, _ => by
    have h : (chkE N isFn isGl free cd e false sc x && chkEs N isFn isGl free cd .nil sc xs) = true := h
    obtain ⟨h1, h2⟩ := ba2 h
    cases xs with
    | nil => exact ⟨pef_one (e_ok e sc x X c h1).1, pwf_and1 (e_ok e sc x X c h1).2⟩
    | cons => cases h2
  | .cons e (.cons e2 r), sc, x :: xs, X, pos, c, h, _ => by
    have h : (chkE N isFn isGl free cd e false sc x && chkEs N isFn isGl free cd (.cons e2 r) sc xs) = true := h
    obtain ⟨h1, h2⟩ := ba2 h
    cases xs with
    | nil => cases h2
    | cons y ys =>
      obtain ⟨q1, q2⟩ := and_ok (.cons e2 r) sc (y :: ys) X pos c h2 (List.cons_ne_nil _ _)
      exact ⟨pef_and (e_ok e sc x X c h1).1 q1, pwf_and (e_ok e sc x X c h1).2 q2⟩
theorem or_ok : ∀ (es : MEs) (sc : Scope) (l : List Expr) (X : Cx) (pos : Pos), Cok C G N isFn isGl free cd k X sc → chkEs N isFn isGl free cd es sc l = true → l ≠ [] → PEf X (.BoolOp .Or l pos) (evOr C G F es) ∧ PWf X (.BoolOp .Or l pos) (evOr C G F es)
  | .nil, _, [], _, _, _, _, n => absurd rfl n
  | .nil, _, _ :: _, _, _, _, h, _ => by cases h
  | .cons _ _, _, [], _, _, _, h, _ => by cases h
  | .cons e .nil, sc, x :: xs, X, pos, c, h, _ => by
    have h : (chkE N isFn isGl free cd e false sc x && chkEs N isFn isGl free cd .nil sc xs) = true := h
    obtain ⟨h1, h2⟩ := ba2 h
    cases xs with
    | nil => exact ⟨pef_one (e_ok e sc x X c h1).1, pwf_or1 (e_ok e sc x X c h1).2⟩
    | cons => cases h2
  | .cons e (.cons e2 r), sc, x :: xs, X, pos, c, h, _ => by
    have h : (chkE N isFn isGl free cd e false sc x && chkEs N isFn isGl free cd (.cons e2 r) sc xs) = true := h
    obtain ⟨h1, h2⟩ := ba2 h
    cases xs with
    | nil => cases h2
    | cons y ys =>
      obtain ⟨q1, q2⟩ := or_ok (.cons e2 r) sc (y :: ys) X pos c h2 (List.cons_ne_nil _ _)
      exact ⟨pef_or (e_ok e sc x X c h1).1 q1, pwf_or (e_ok e sc x X c h1).2 q2⟩
theorem ts_ok : ∀ (es : MEs) (sc : Scope) (l : List Expr) (X : Cx), Cok C G N isFn isGl free cd k X sc → chkEs N isFn isGl free cd es sc l = true → l.length ≤ 1 → PTs X l (tTs X.K X.mg (evTs C G F es))
  | .nil, _, [], _, _, _, _ => ptsf_nil
  | .nil, _, _ :: _, _, _, h, _ => by cases h
  | .cons _ _, _, [], _, _, h, _ => by cases h
  | .cons e r, sc, x :: xs, X, c, h, hl => by
    have h : (chkE N isFn isGl free cd e false sc x && chkEs N isFn isGl free cd r sc xs) = true := h
    obtain ⟨h1, h2⟩ := ba2 h
    cases xs with
    | nil =>
      cases r with
      | nil => exact ptsf_one (e_ok e sc x X c h1).2
      | cons => cases h2
    | cons => simp at hl
theorem i_ok : ∀ (it : ME) (sc : Scope) (e tg : Expr) (X : Cx), Cok C G N isFn isGl free cd k X sc → chkE N isFn isGl free cd it true sc e = true → PIf X tg e (ev C G F it)
  | .rng es, sc, e, tg, X, c, h => by
    cases e <;> first | (cases h; done) | skip
    rename_i f args kws p
    cases f <;> first | (cases h; done) | skip
    rename_i y p2
    cases kws <;> first | (cases h; done) | skip
    have h : (true && decide (y = ("range" : Str)) && glbB sc y && free y && chkEs N isFn isGl free cd es sc args && (args.length == 1 || args.length == 2)) = true := h
    obtain ⟨h, h5⟩ := ba2 h
    obtain ⟨h, h4⟩ := ba2 h
    obtain ⟨h, h3⟩ := ba2 h
    obtain ⟨h, h2⟩ := ba2 h
    obtain ⟨_, h1⟩ := ba2 h
    have h1 := of_decide_eq_true h1
    subst h1
    have q := es_ok es sc args X c h4
    have st := chks_star h4
    have ln := fun ρ s ds s' e => evs_len (C := C) (G := G) (F := F) h4 ρ s ds s' e
    match args, q, st, ln, h5 with
    | [a], q, st, ln, _ =>
      simp only [List.all_cons, List.all_nil, Bool.and_true] at st
      exact pif_rng1 (c.gl h2) (c.free _ h3) q st ln
    | [a, b], q, st, ln, _ =>
      simp only [List.all_cons, List.all_nil, Bool.and_true, Bool.and_eq_true] at st
      exact pif_rng2 (c.gl h2) (c.free _ h3) q st.1 st.2 ln
    | [], _, _, _, h5 => cases h5
    | _ :: _ :: _ :: _, _, _, _, h5 => simp at h5
  | .slot i, sc, e, tg, X, c, h => pif_val (e_ok (.slot i) sc e X c h).1
  | .cst i, sc, e, tg, X, c, h => pif_val (e_ok (.cst i) sc e X c h).1
  | .glob i, sc, e, tg, X, c, h => pif_val (e_ok (.glob i) sc e X c h).1
  | .bty i, sc, e, tg, X, c, h => pif_val (e_ok (.bty i) sc e X c h).1
  | .tup i, sc, e, tg, X, c, h => pif_val (e_ok (.tup i) sc e X c h).1
  | .lst m i, sc, e, tg, X, c, h => pif_val (e_ok (.lst m i) sc e X c h).1
  | .bin o a b, sc, e, tg, X, c, h => pif_val (e_ok (.bin o a b) sc e X c h).1
  | .neg a, sc, e, tg, X, c, h => pif_val (e_ok (.neg a) sc e X c h).1
  | .cmp o a b, sc, e, tg, X, c, h => pif_val (e_ok (.cmp o a b) sc e X c h).1
  | .chain o q a b d, sc, e, tg, X, c, h => pif_val (e_ok (.chain o q a b d) sc e X c h).1
  | .and_ a, sc, e, tg, X, c, h => pif_val (e_ok (.and_ a) sc e X c h).1
  | .or_ a, sc, e, tg, X, c, h => pif_val (e_ok (.or_ a) sc e X c h).1
  | .not_ a, sc, e, tg, X, c, h => pif_val (e_ok (.not_ a) sc e X c h).1
  | .ife a b d, sc, e, tg, X, c, h => pif_val (e_ok (.ife a b d) sc e X c h).1
  | .ix a b, sc, e, tg, X, c, h => pif_val (e_ok (.ix a b) sc e X c h).1
  | .slc a b d, sc, e, tg, X, c, h => pif_val (e_ok (.slc a b d) sc e X c h).1
  | .bad, sc, e, tg, X, c, h => pif_val (e_ok .bad sc e X c h).1
  | .dnew i, sc, e, tg, X, c, h => pif_val (e_ok (.dnew i) sc e X c h).1
  | .dsing a b, sc, e, tg, X, c, h => pif_val (e_ok (.dsing a b) sc e X c h).1
  | .dget a b, sc, e, tg, X, c, h => pif_val (e_ok (.dget a b) sc e X c h).1
  | .dget2 a b d, sc, e, tg, X, c, h => pif_val (e_ok (.dget2 a b d) sc e X c h).1
  | .ddisp a, sc, e, tg, X, c, h => pif_val (e_ok (.ddisp a) sc e X c h).1
  | .cget a b d, sc, e, tg, X, c, h => pif_val (e_ok (.cget a b d) sc e X c h).1
  | .cin g a b d, sc, e, tg, X, c, h => pif_val (e_ok (.cin g a b d) sc e X c h).1
  | .callv a b, sc, e, tg, X, c, h => pif_val (e_ok (.callv a b) sc e X c h).1
  | .pm m a b, sc, e, tg, X, c, h => pif_val (e_ok (.pm m a b) sc e X c h).1
  | .mxd a b, sc, e, tg, X, c, h => pif_val (e_ok (.mxd a b) sc e X c h).1
  | .itf b es, sc, e, tg, X, c, h => by
    cases e <;> first | (cases h; done) | skip
    rename_i f args kws p
    cases f <;> first | (cases h; done) | skip
    cases kws <;> cases h
  | .nop, sc, e, tg, X, c, h => by cases h
  | .call x a, sc, e, tg, X, c, h => pif_val (e_ok (.call x a) sc e X c h).1
  | .bi x a, sc, e, tg, X, c, h => pif_val (e_ok (.bi x a) sc e X c h).1
  | .meth m x a, sc, e, tg, X, c, h => pif_val (e_ok (.meth m x a) sc e X c (by cases m; exact h)).1
  | .lc a b d f g, sc, e, tg, X, c, h => pif_val (e_ok (.lc a b d f g) sc e X c h).1
  | .lcd a b d f g, sc, e, tg, X, c, h => pif_val (e_ok (.lcd a b d f g) sc e X c h).1
theorem ps_ok : ∀ (es : MEs) (sc : Scope) (ks : List (Option Expr)) (vs : List Expr) (p : Pos) (X : Cx), Cok C G N isFn isGl free cd k X sc → chkPs N isFn isGl free cd es sc ks vs = true → PPf X p ks vs (evs C G F es)
  | .nil, _, [], [], _, _, _, _ => ppf_nil
  | .nil, _, [], _ :: _, _, _, _, h => by cases h
  | .nil, _, _ :: _, _, _, _, _, h => by cases h
  | .cons _ _, _, [], _, _, _, _, h => by cases h
  | .cons _ _, _, none :: _, _, _, _, _, h => by cases h
  | .cons _ _, _, some _ :: _, [], _, _, _, h => by cases h
  | .cons _ .nil, _, some _ :: _, _ :: _, _, _, _, h => by cases h
  | .cons a (.cons v r), sc, some ke :: ks, ve :: vs, p, X, c, h => by
    have h : (chkE N isFn isGl free cd a false sc ke && chkE N isFn isGl free cd v false sc ve && chkPs N isFn isGl free cd r sc ks vs) = true := h
    obtain ⟨h, h3⟩ := ba2 h
    obtain ⟨h1, h2⟩ := ba2 h
    exact ppf_cons (e_ok a sc ke X c h1).1 (e_ok v sc ve X c h2).1 (ps_ok r sc ks vs p X c h3)
end
end
end Rf

set_option Elab.async false
set_option linter.all false
set_option maxRecDepth 100000
set_option maxHeartbeats 4000000
/-! Rf14: statements that pass the check are sound. -/
namespace Rf
open PySem PySem.Spec PyProof.Rows L2

section
variable (N : List Str) (isFn isGl free : Str → Bool) (cd : Str → List (Str × Str) → Bool)
def notTuple : Expr → Bool
  | .Tuple .. => false
  | _ => true
/-- name = [..]: whether the model stores it inside the comprehension -/
def swLc (sc : Scope) (y : Str) (py : Pos) (e : Expr) : Option Bool := match e with
  | .ListComp _ _ scope pos => some (sc.names.lookup y == some .local && py.line == pos.line && !(scope.names.any fun (n, k) => n == y && (k == .local || k == .cell)))
  | _ => if notComp e then some false else none
def namesAt (sc : Scope) (is : List Nat) (names : List Str) : Bool := match is, names with
  | [], [] => true
  | i :: is, x :: xs => decide (N[i]? = some x) && (sc.names.lookup x == some .local) && namesAt sc is xs
  | _, _ => false
def notSl (i : Expr) : Bool := match i with
  | .Slice _ _ none _ => false
  | _ => true
def chkMs : MTs → Scope → List Expr → Bool
  | .nil, _, [] => true
  | .nm i r, sc, e :: es => (match e with
    | .Name x _ => decide (N[i]? = some x) && locB sc x
    | _ => false) && chkMs r sc es
  | .ix o i r, sc, e :: es => (match e with
    | .Subscript o' i' _ => chkE N isFn isGl free cd o false sc o' && chkE N isFn isGl free cd i false sc i' && notSl i'
    | _ => false) && chkMs r sc es
  | _, _, _ => false
mutual
def chkS : MSt → Scope → Stmt → Bool
  | .bad, _, _ => true
  | .asg t e, sc, st => match st with
    | .Assign [tg] v _ => chkE N isFn isGl free cd e false sc v && chkT N sc t tg && (match tg with
      | .Name y py => (match swLc sc y py v with
        | some true => (match e with | .lc .. => true | .lcd .. => true | _ => false)
        | some false => true
        | none => false)
      | .Tuple ts _ _ => (match v with
        | .Tuple vs _ _ => decide (swF sc ts vs = some none)
        | _ => true)
      | _ => false)
    | _ => false
  | .par is es, sc, st => match st with
    | .Assign [.Tuple ts _ _] (.Tuple vs _ _) _ => chkEs N isFn isGl free cd es sc vs && (match swF sc ts vs with
      | some (some names) => namesAt N sc is names
      | _ => false) && decide is.Nodup && decide (is.length ≤ 1000)
    | _ => false
  | .asgM ts e, sc, st => match st with
    | .Assign [.Tuple es _ _] v _ => chkE N isFn isGl free cd e false sc v && chkMs N isFn isGl free cd ts sc es && decide (es.length = ts.len) && (match v with
      | .Tuple vs _ _ => decide (swF sc es vs = some none)
      | _ => true)
    | _ => false
  | .asgIx o i e, sc, st => match st with
    | .Assign [.Subscript o' i' _] v _ => chkE N isFn isGl free cd e false sc v && chkE N isFn isGl free cd o false sc o' && chkE N isFn isGl free cd i false sc i' && notSl i'
    | _ => false
  | .aug i o e, sc, st => match st with
    | .AugAssign (.Name x _) .Add v _ => decide (o = .Add) && decide (N[i]? = some x) && locB sc x && chkE N isFn isGl free cd e false sc v
    | _ => false
  | .expr e, sc, st => match st with
    | .Expr v _ => chkE N isFn isGl free cd e false sc v && notComp v
    | _ => false
  | .ret e, sc, st => match st with
    | .Return (some v) _ => chkE N isFn isGl free cd e false sc v
    | _ => false
  | .retN, _, st => match st with
    | .Return none _ => true
    | _ => false
  | .ife c a b, sc, st => match st with
    | .If c' a' b' _ => chkE N isFn isGl free cd c false sc c' && chkSs a sc a' && chkSs b sc b'
    | _ => false
  | .fr t it b, sc, st => match st with
    | .For tg iter b' [] _ => chkE N isFn isGl free cd it true sc iter && chkT N sc t tg && chkSs b sc b' && notSet iter
    | _ => false
  | .wh c b, sc, st => match st with
    | .While c' b' [] _ => chkE N isFn isGl free cd c false sc c' && chkSs b sc b'
    | _ => false
  | .bk, _, st => match st with
    | .Break _ => true
    | _ => false
  | .ct, _, st => match st with
    | .Continue _ => true
    | _ => false
  | .ps, _, st => match st with
    | .Pass _ => true
    | _ => false
def chkSs : MSts → Scope → List Stmt → Bool
  | .nil, _, l => l.isEmpty
  | .cons e r, sc, l => match l with
    | x :: xs => chkS e sc x && chkSs r sc xs
    | _ => false
end
end
section
variable {C : Str → List D → Store → R D} {G : Str → Option D} {F : Nat} {N : List Str} {isFn isGl free : Str → Bool} {cd : Str → List (Str × Str) → Bool} {k : Nat}
/-- a def's body -/
structure Sok (C : Str → List D → Store → R D) (G : Str → Option D) (N : List Str) (isFn isGl free : Str → Bool) (cd : Str → List (Str × Str) → Bool) (k : Nat) (X : Cx) (sc : Scope) : Prop where
  c : Cok C G N isFn isGl free cd k X sc
  eqs : X.env.scope = sc
  kind : sc.kind = .function
  pass : PassesOwn (model X.prog X.w) X.A X.env X.xe
theorem swLc_ok {sc : Scope} {y : Str} {py : Pos} {e : Expr} {l : Nat} {env : PySem.Env} {b : Bool} (h : swLc sc y py e = some b) (hs : env.scope = sc) (hk : sc.kind = .function) : swapsWith e (some (.Name y py)) l env = pure b := by
  have hb : env.blockKind = .function := by unfold Env.blockKind; rw [hs, hk]; rfl
  unfold swLc at h
  split at h
  · rename_i el gs scope pos
    cases h
    unfold swapsWith
    simp only [hb, Expr.pos]
    unfold Env.kindOf
    rw [hs]
    rfl
  · split at h
    · rename_i hn
      cases h
      exact sw_plain hn
    · cases h
theorem namesAt_ok {X : Cx} {sc : Scope} (hN : X.N = N) (hs : X.env.scope = sc) : ∀ {is : List Nat} {names : List Str}, namesAt N sc is names = true → NmOk X is names
  | [], [], _ => .nil
  | [], _ :: _, h => by cases h
  | _ :: _, [], h => by cases h
  | i :: is, x :: xs, h => by
    have h : (decide (N[i]? = some x) && (sc.names.lookup x == some .local) && namesAt N sc is xs) = true := h
    obtain ⟨h, h3⟩ := ba2 h
    obtain ⟨h1, h2⟩ := ba2 h
    exact .cons (by rw [hN]; exact of_decide_eq_true h1) (by rw [hs]; exact beq_iff_eq.mp h2) (namesAt_ok hN hs h3)
theorem swap_none {ts : List Expr} {kk : Nat} {p : Pos} {v : Expr} {env : PySem.Env} (h : ∀ vs a b, v ≠ .Tuple vs a b) : swappedStores [.Tuple ts kk p] v env = pure none := by
  cases v <;> first | rfl | exact absurd rfl (h _ _ _)
theorem psf_lc {X : Cx} {sc : Scope} {y : Str} {py spos : Pos} {i : Nat} {e : Expr} {elt it : ME} {tg : TGT} {ifs : MEs} {own : List Nat} (s : Sok C G N isFn isGl free cd k X sc) (hi : X.N[i]? = some y) (hsw : swLc sc y py e = some true)
    (h : chkE N isFn isGl free cd (.lc elt tg it ifs own) false sc e = true) : PSf X (.Assign [.Name y py] e spos) (asgF (ev C G F (.lc elt tg it ifs own)) (.nm i)) := by
  have hsw2 := swLc_ok (l := spos.line) hsw s.eqs s.kind
  cases e <;> first | (cases h; done) | skip
  rename_i el gens scope p
  have c := s.c
  have hyl : X.env.scope.names.lookup y = some .local := by
    unfold swLc at hsw
    simp only [Option.some.injEq, Bool.and_eq_true, beq_iff_eq] at hsw
    rw [s.eqs]; exact hsw.1.1
  match gens, h, hsw2 with
  | [⟨tgt, iter, ifs', asy⟩], h, hsw2 =>
    have h : (decide (asy = 0) && chkE N isFn isGl free cd it true sc iter && chkT N scope tg tgt && chkEs N isFn isGl free cd ifs scope ifs' && decide (ifs'.length ≤ 1) && chkE N isFn isGl free cd elt false scope el && blkC N sc scope (ownOf N own) && decide ((ownOf N own).map (·.2) = own) &&
      tg.slots.all own.contains && notSet iter) = true := h
    obtain ⟨h, h9⟩ := ba2 h
    obtain ⟨h, h8⟩ := ba2 h
    obtain ⟨h, h7⟩ := ba2 h
    obtain ⟨h, h6⟩ := ba2 h
    obtain ⟨h, h5⟩ := ba2 h
    obtain ⟨h, h4⟩ := ba2 h
    obtain ⟨h, h3⟩ := ba2 h
    obtain ⟨h, h2⟩ := ba2 h
    obtain ⟨h0, h1⟩ := ba2 h
    have h0 := of_decide_eq_true h0
    subst h0
    have h7 : (ownOf N own).map (fun (p : Str × Nat) => p.2) = own := of_decide_eq_true h7
    refine (ps_setLc (wi := tI X.K X.mg (ev C G F it)) (g := gT X.K tg) (tt := tTs X.K X.mg (evTs C G F ifs)) (te := tE X.K X.mg (ev C G F elt)) (own := ownOf N own) c.calm c.nd hi hyl hsw2 (i_ok it sc iter tgt X c h1) (c.blkOk h6)
      (fun s H A cl fp => chkT_ok (c.blk scope s H A cl fp) h2)
      (fun s H A cl fp => ts_ok ifs scope ifs' _ (c.blk scope s H A cl fp) h3 (of_decide_eq_true h4))
      (fun s H A cl fp => (e_ok elt scope el _ (c.blk scope s H A cl fp) h5).1) (folded_of h9)).imp fun D₀ σ H q => ?_
    have q2 := asg_read q
    have hsl : ∀ i ∈ tg.slots, i ∈ own := fun i hi => by
      have := List.all_eq_true.mp h8 i hi
      simpa using this
    show tLc _ _ _ _ ((ownOf N own).map (fun (p : Str × Nat) => p.2)) σ H (fun x H1 => gName i x σ H1 D₀.nx)
    rw [h7]
    exact lc_read (F := F) hsl q2
  | [], h, _ => cases h
  | _ :: _ :: _, h, _ => simp only [chkE, Bool.false_eq_true] at h
theorem psf_lcd {X : Cx} {sc : Scope} {y : Str} {py spos : Pos} {i : Nat} {e : Expr} {elt it : ME} {tg : TGT} {ifs : MEs} {own : List Nat} (s : Sok C G N isFn isGl free cd k X sc) (hi : X.N[i]? = some y) (hsw : swLc sc y py e = some true)
    (h : chkE N isFn isGl free cd (.lcd elt tg it ifs own) false sc e = true) : PSf X (.Assign [.Name y py] e spos) (asgF (ev C G F (.lcd elt tg it ifs own)) (.nm i)) := by
  have hsw2 := swLc_ok (l := spos.line) hsw s.eqs s.kind
  cases e <;> first | (cases h; done) | skip
  rename_i el gens scope p
  have c := s.c
  have hyl : X.env.scope.names.lookup y = some .local := by
    unfold swLc at hsw
    simp only [Option.some.injEq, Bool.and_eq_true, beq_iff_eq] at hsw
    rw [s.eqs]; exact hsw.1.1
  match gens, h, hsw2 with
  | [⟨tgt, iter, ifs', asy⟩], h, hsw2 =>
    have h : (decide (asy = 0) && chkE N isFn isGl free cd it false sc iter && chkT N scope tg tgt && chkEs N isFn isGl free cd ifs scope ifs' && decide (ifs'.length ≤ 1) && chkE N isFn isGl free cd elt false scope el && blkC N sc scope (ownOf N own) && decide ((ownOf N own).map (·.2) = own) &&
      tg.slots.all own.contains && notSet iter) = true := h
    obtain ⟨h, h9⟩ := ba2 h
    obtain ⟨h, h8⟩ := ba2 h
    obtain ⟨h, h7⟩ := ba2 h
    obtain ⟨h, h6⟩ := ba2 h
    obtain ⟨h, h5⟩ := ba2 h
    obtain ⟨h, h4⟩ := ba2 h
    obtain ⟨h, h3⟩ := ba2 h
    obtain ⟨h, h2⟩ := ba2 h
    obtain ⟨h0, h1⟩ := ba2 h
    have h0 := of_decide_eq_true h0
    subst h0
    have h7 : (ownOf N own).map (fun (p : Str × Nat) => p.2) = own := of_decide_eq_true h7
    refine (ps_lock (ps_setLc (wi := iKeys (tE X.K X.mg (ev C G F it))) (g := gT X.K tg) (tt := tTs X.K X.mg (evTs C G F ifs)) (te := tE X.K X.mg (ev C G F elt)) (own := ownOf N own) c.calm c.nd hi hyl hsw2 (pi_keys (e_ok (F := F) it sc iter X c h1).1) (c.blkOk h6)
      (fun s H A cl fp => chkT_ok (c.blk scope s H A cl fp) h2)
      (fun s H A cl fp => ts_ok ifs scope ifs' _ (c.blk scope s H A cl fp) h3 (of_decide_eq_true h4))
      (fun s H A cl fp => (e_ok elt scope el _ (c.blk scope s H A cl fp) h5).1) (folded_of h9))).imp fun D₀ σ H q => ?_
    have q2 := asg_read q
    have hsl : ∀ i ∈ tg.slots, i ∈ own := fun i hi => by
      have := List.all_eq_true.mp h8 i hi
      simpa using this
    have q3 := lcd_read hsl q2
    show ∃ d u, H d = some u ∧ Mut (some u) ∧ ∀ od, tLc _ _ _ _ ((ownOf N own).map (fun (p : Str × Nat) => p.2)) σ (upd H d (.frz od u)) fun v H' => H' d = some (.frz od u) ∧ D₀.nx (σ.set i (some v)) (upd H' d u)
    rw [h7]
    exact q3
  | [], h, _ => cases h
  | _ :: _ :: _, h, _ => simp only [chkE, Bool.false_eq_true] at h
theorem sub_asg {o i : Expr} {p : Pos} {env : PySem.Env} (h : notSl i = true) : ∀ v, assign (.Subscript o i p) env v = (do
      let ov ← holding [v] (eval o env)
      let iv ← holding [v, ov] (eval i env)
      standAt p
      holding [v, ov, iv] (setItem ov iv v)
      release [v, ov, iv] []) := by
  intro v
  unfold assign
  cases i <;> first
    | rfl
    | (rename_i l u st q
       cases st with
       | none => cases h
       | some w => rfl)
theorem ms_ok : ∀ (ts : MTs) (sc : Scope) (es : List Expr) (X : Cx), Sok C G N isFn isGl free cd k X sc → chkMs N isFn isGl free cd ts sc es = true →
    PGs X es (gMs C G F X.K X.mg ts) ∧ (assignEach es X.env).length = es.length ∧ (assignEach es X.env).findIdx? (·.1) = none
  | .nil, _, [], _, _, _ => ⟨pgs_nil, rfl, rfl⟩
  | .nil, _, _ :: _, _, _, h => by cases h
  | .nm _ _, _, [], _, _, h => by cases h
  | .ix _ _ _, _, [], _, _, h => by cases h
  | .nm i r, sc, e :: es, X, s, h => by
    simp only [chkMs, Bool.and_eq_true] at h
    obtain ⟨h, h3⟩ := h
    cases e <;> first | (cases h; done) | skip
    rename_i x p
    simp only [Bool.and_eq_true, decide_eq_true_eq] at h
    obtain ⟨h1, h2⟩ := h
    obtain ⟨q1, q2, q3⟩ := ms_ok r sc es X s h3
    obtain ⟨l1, l2⟩ := s.c.loc h2
    refine ⟨pgs_cons (pg_name s.c.nd (by rw [s.c.names]; exact h1) l1 l2) q1, ?_, ?_⟩
    · show (assignEach es X.env).length + 1 = _
      rw [q2]; rfl
    · show List.findIdx? _ ((false, _) :: assignEach es X.env) = none
      rw [List.findIdx?_cons]
      simp only [Bool.false_eq_true, if_false, q3, Option.map_none]
  | .ix o i r, sc, e :: es, X, s, h => by
    simp only [chkMs, Bool.and_eq_true] at h
    obtain ⟨h, h3⟩ := h
    cases e <;> first | (cases h; done) | skip
    rename_i o' i' p
    simp only [Bool.and_eq_true] at h
    obtain ⟨⟨h1, h2⟩, h4⟩ := h
    obtain ⟨q1, q2, q3⟩ := ms_ok r sc es X s h3
    refine ⟨pgs_cons (pg_sub (e_ok (F := F) o sc o' X s.c h1).1 (e_ok (F := F) i sc i' X s.c h2).1 (pset_all (by have := s.c.units; omega)) (sub_asg h4)) q1, ?_, ?_⟩
    · show (assignEach es X.env).length + 1 = _
      rw [q2]; rfl
    · show List.findIdx? _ ((false, _) :: assignEach es X.env) = none
      rw [List.findIdx?_cons]
      simp only [Bool.false_eq_true, if_false, q3, Option.map_none]
mutual
theorem s_ok : ∀ (ms : MSt) (sc : Scope) (st : Stmt) (X : Cx), Sok C G N isFn isGl free cd k X sc → chkS N isFn isGl free cd ms sc st = true → PSf X st (ex C G F ms)
  | .bad, sc, st, X, s, h => by
    refine ⟨fun pins s σ H D₀ I q => ?_⟩
    obtain ⟨_, _, _, _, _, _, _, _, e, _⟩ := q
    unfold ex at e
    cases e
  | .asg t e, sc, st, X, s, h => by
    cases st <;> first | (cases h; done) | skip
    rename_i tgs v pos
    match tgs, h with
    | [tg], h =>
      simp only [chkS, Bool.and_eq_true] at h
      obtain ⟨⟨h1, h2⟩, h3⟩ := h
      have he := (e_ok (F := F) e sc v X s.c h1).1
      cases tg <;> first | (cases h3; done) | skip
      · rename_i y py
        have h2' := h2
        cases t <;> first | (cases h2; done) | skip
        rename_i i
        unfold chkT at h2
        simp only [Bool.and_eq_true, decide_eq_true_eq] at h2
        obtain ⟨l1, l2⟩ := s.c.loc h2.2
        have hi : X.N[i]? = some y := by rw [s.c.names]; exact h2.1
        simp only at h3
        cases hsw : swLc sc y py v with
        | none => rw [hsw] at h3; cases h3
        | some b =>
          cases b with
          | false => exact psf_set s.c.nd hi l1 he (swLc_ok hsw s.eqs s.kind) l2
          | true =>
            rw [hsw] at h3
            simp only at h3
            split at h3
            · exact psf_lc s hi hsw h1
            · exact psf_lcd s hi hsw h1
            · cases h3
      · rename_i ts kk pt
        have hg := chkT_ok s.c h2
        cases t <;> first | (cases h2; done) | skip
        rename_i is
        refine psf_tup he hg ?_
        simp only at h3
        split at h3
        · exact swF_ok (of_decide_eq_true h3) s.eqs s.kind
        · rename_i hn
          exact swap_none fun vs a b e => hn vs a b e
    | [], h => cases h
    | _ :: _ :: _, h => simp only [chkS, Bool.false_eq_true] at h
  | .par is es, sc, st, X, s, h => by
    cases st <;> first | (cases h; done) | skip
    rename_i tgs v pos
    match tgs, v, h with
    | [.Tuple ts kk pt], .Tuple vs k2 p2, h =>
      simp only [chkS, Bool.and_eq_true] at h
      obtain ⟨⟨⟨h1, h2⟩, h3⟩, h4⟩ := h
      cases hw : swF sc ts vs with
      | none => rw [hw] at h2; cases h2
      | some o =>
        cases o with
        | none => rw [hw] at h2; cases h2
        | some names =>
          rw [hw] at h2
          exact psf_par s.c.calm s.c.nd (namesAt_ok s.c.names s.eqs h2) (of_decide_eq_true h3) (es_ok es sc vs X s.c h1) (swF_ok hw s.eqs s.kind) (of_decide_eq_true h4)
  | .asgM ts e, sc, st, X, s, h => by
    cases st <;> first | (cases h; done) | skip
    rename_i tgs v pos
    match tgs, h with
    | [.Tuple es kk pt], h =>
      simp only [chkS, Bool.and_eq_true] at h
      obtain ⟨⟨⟨h1, h2⟩, h3⟩, h4⟩ := h
      have h3 := of_decide_eq_true h3
      obtain ⟨q1, q2, q3⟩ := ms_ok (F := F) ts sc es X s h2
      refine psf_asgM s.c.calm (e_ok e sc v X s.c h1).1 q1 (q2.trans h3) q3 ?_
      split at h4
      · exact swF_ok (of_decide_eq_true h4) s.eqs s.kind
      · rename_i hn
        exact swap_none fun vs a b e => hn vs a b e
  | .asgIx o i e, sc, st, X, s, h => by
    cases st <;> first | (cases h; done) | skip
    rename_i tgs v pos
    match tgs, h with
    | [.Subscript o' i' p2], h =>
      simp only [chkS, Bool.and_eq_true] at h
      obtain ⟨⟨⟨h1, h2⟩, h3⟩, h4⟩ := h
      refine psf_asgIx (by have := s.c.units; omega) (e_ok e sc v X s.c h1).1 (e_ok o sc o' X s.c h2).1 (e_ok i sc i' X s.c h3).1 fun l u p ei => ?_
      rw [ei] at h4
      cases h4
  | .aug i o e, sc, st, X, s, h => by
    cases st <;> first | (cases h; done) | skip
    rename_i tg op v pos
    cases tg <;> first | (cases h; done) | skip
    cases op <;> first | (cases h; done) | skip
    rename_i x p
    simp only [chkS, Bool.and_eq_true] at h
    obtain ⟨⟨⟨h1, h2⟩, h3⟩, h4⟩ := h
    have h1 := of_decide_eq_true h1
    subst h1
    obtain ⟨l1, l2⟩ := s.c.loc h3
    exact psf_aug s.c.nd (by rw [s.c.names]; exact of_decide_eq_true h2) l1 (e_ok e sc v X s.c h4).1 l2
  | .expr e, sc, st, X, s, h => by
    cases st <;> first | (cases h; done) | skip
    simp only [chkS, Bool.and_eq_true] at h
    exact psf_expr (e_ok e sc _ X s.c h.1).1 h.2
  | .ret e, sc, st, X, s, h => by
    cases st <;> first | (cases h; done) | skip
    rename_i v pos
    cases v with
    | none => cases h
    | some v => exact psf_ret (e_ok e sc v X s.c h).1
  | .retN, sc, st, X, s, h => by
    cases st <;> first | (cases h; done) | skip
    rename_i v pos
    cases v with
    | none => exact psf_retN
    | some v => cases h
  | .ife c a b, sc, st, X, s, h => by
    cases st <;> first | (cases h; done) | skip
    simp only [chkS, Bool.and_eq_true] at h
    exact psf_ife (e_ok c sc _ X s.c h.1.1).2 (ss_ok a sc _ X s h.1.2) (ss_ok b sc _ X s h.2)
  | .fr t it b, sc, st, X, s, h => by
    cases st <;> first | (cases h; done) | skip
    rename_i tg iter b' el pos
    cases el with
    | cons => cases h
    | nil =>
      simp only [chkS, Bool.and_eq_true] at h
      obtain ⟨⟨⟨h1, h2⟩, h3⟩, h4⟩ := h
      exact psf_for s.pass s.c.calm (i_ok it sc iter tg X s.c h1) (chkT_ok s.c h2) (ss_ok b sc b' X s h3) (folded_of h4)
  | .wh c b, sc, st, X, s, h => by
    cases st <;> first | (cases h; done) | skip
    rename_i c' b' el pos
    cases el with
    | cons => cases h
    | nil =>
      simp only [chkS, Bool.and_eq_true] at h
      exact psf_while s.pass (e_ok c sc c' X s.c h.1).2 (ss_ok b sc b' X s h.2)
  | .bk, sc, st, X, s, h => by
    cases st <;> first | (cases h; done) | skip
    exact psf_bk
  | .ct, sc, st, X, s, h => by
    cases st <;> first | (cases h; done) | skip
    exact psf_ct
  | .ps, sc, st, X, s, h => by
    cases st <;> first | (cases h; done) | skip
    exact psf_ps
theorem ss_ok : ∀ (ms : MSts) (sc : Scope) (l : List Stmt) (X : Cx), Sok C G N isFn isGl free cd k X sc → chkSs N isFn isGl free cd ms sc l = true → PSsf X l (exs C G F ms)
  | .nil, _, l, _, _, h => by
    cases l with
    | nil => exact pssf_nil
    | cons => cases h
  | .cons e r, sc, l, X, s, h => by
    cases l with
    | nil => cases h
    | cons x xs =>
      have h : (chkS N isFn isGl free cd e sc x && chkSs N isFn isGl free cd r sc xs) = true := h
      obtain ⟨h1, h2⟩ := ba2 h
      exact pssf_cons (s_ok e sc x X s h1) (ss_ok r sc xs X s h2)
end
end
end Rf

set_option Elab.async false
set_option linter.all false
set_option maxRecDepth 100000
set_option maxHeartbeats 4000000
/-! Rf15: defs keep the promise of the evaluator's calls. -/
namespace Rf
open PySem PySem.Spec PyProof.Rows L2

/-! ### binding of plain parameters -/
theorem lookup_zip : ∀ {ps : List Str} {us : List Value}, ps.Nodup → us.length = ps.length → ps.filterMap (fun n => ((ps.zip us).lookup n).map (n, ·)) = ps.zip us ∧ (ps.filter fun n => ((ps.zip us).lookup n).isNone) = []
  | ps, us, nd, hl => by
    have key : ∀ (qs : List Str) (ws : List Value) (l : List (Str × Value)), qs.Nodup → ws.length = qs.length → (∀ n ∈ qs, l.lookup n = (qs.zip ws).lookup n) →
        qs.filterMap (fun n => (l.lookup n).map (n, ·)) = qs.zip ws ∧ (qs.filter fun n => (l.lookup n).isNone) = [] := by
      intro qs
      induction qs with
      | nil => intro ws l _ _ _; exact ⟨by simp, rfl⟩
      | cons q qs ih =>
        intro ws l nd hl h
        cases ws with
        | nil => cases hl
        | cons w ws =>
          have h0 : l.lookup q = some w := by
            rw [h q List.mem_cons_self]
            simp [List.lookup_cons]
          obtain ⟨n1, n2⟩ := List.nodup_cons.mp nd
          obtain ⟨i1, i2⟩ := ih ws l n2 (by simpa using hl) fun n hn => by
            rw [h n (List.mem_cons_of_mem _ hn)]
            have hne : (n == q) = false := by
              rw [beq_eq_false_iff_ne]
              exact fun e => n1 (e ▸ hn)
            simp [List.lookup_cons, hne]
          refine ⟨?_, ?_⟩
          · rw [List.filterMap_cons, h0]
            simp only [Option.map_some, List.zip_cons_cons]
            rw [i1]
          · rw [List.filter_cons, h0]
            simp only [Option.isNone_some, Bool.false_eq_true, if_false]
            exact i2
    exact key ps us (ps.zip us) nd hl fun _ _ => rfl
def plainArgs (a : Arguments) : Bool := a.posonlyargs.isEmpty && a.vararg.isNone && a.kwonlyargs.isEmpty && a.kwarg.isNone && a.defaults.isEmpty
theorem sem_pure_bind {α β : Type} (a : α) (f : α → Sem β) : ((pure a : Sem α) >>= f) = f a := rfl
theorem seqItems_none : seqItems? Value.none = pure none := rfl
theorem bind_plain {fd : FuncData} {us : List Value} (hp : plainArgs fd.params = true) (hd : fd.defaults = .none) (nd : (fd.params.args.map (·.arg)).Nodup) (hl : us.length = (fd.params.args.map (·.arg)).length) :
    bindArgs fd ⟨us, []⟩ = pure ((fd.params.args.map (·.arg)).zip us) := by
  unfold plainArgs at hp
  simp only [Bool.and_eq_true, List.isEmpty_iff, Option.isNone_iff_eq_none] at hp
  obtain ⟨⟨⟨⟨p1, p2⟩, p3⟩, p4⟩, p5⟩ := hp
  obtain ⟨z1, z2⟩ := lookup_zip nd hl
  unfold bindArgs
  simp only [p1, p2, p3, p4, hd, List.map_nil, List.nil_append, List.append_nil, List.forIn_nil, sem_pure_bind, seqItems_none, Option.getD_none, Array.toList_empty, List.length_nil, List.drop_nil, Nat.sub_zero, List.take_length, z2, z1, hl, Nat.lt_irrefl, gt_iff_lt, decide_false, Bool.false_and, Bool.false_eq_true, if_false, List.isEmpty_nil, Bool.not_true, List.zip_nil_right, List.take_of_length_le (Nat.le_refl _)]

/-! ### the store at a call's end -/
section
variable {K : PySem.W.Frag} {mg : Str → Option Value} {φ φ' W : List Addr} {H H' : Hp}
mutual
theorem below_rep {l : List Addr} : ∀ (d : D) (v : V), below φ.length d = true → Rep K mg (φ ++ l) W H d v → Rep K mg φ W H d v
  | .non, _, _, h => by cases h; exact .non
  | .bl b, _, _, h => by cases h; exact .bl b
  | .int i, _, _, h => by cases h; exact .int i
  | .str y, _, _, h => by cases h with | str _ e => exact .str y e
  | .ty t, _, _, h => by cases h; exact .ty t
  | .glo y, _, _, h => by cases h with | glo e => exact .glo e
  | .ref m, _, b, h => by
    cases h with
    | ref e =>
      have hm : m < φ.length := of_decide_eq_true b
      rw [List.getElem?_append_left hm] at e
      exact .ref e
  | .tup ds, _, b, h => by cases h with | tup e r => exact .tup e (belowL_rep ds _ b r)
  | .ktu ds, _, b, h => by cases h with | ktu e r => exact .ktu e (belowL_rep ds _ b r)
  | .lst ds, _, b, h => by
    cases h with
    | lst e n n' r => exact .lst e (fun z => n (List.mem_append_left _ z)) n' (belowL_rep ds _ b r)
  | .scr ds, _, b, h => by cases h with | scr e r => exact .scr e (belowL_rep ds _ b r)
  | .dk _, _, _, h => by cases h
  | .dt _, _, _, h => by cases h
  | .nop, _, _, h => by cases h
theorem belowL_rep {l : List Addr} : ∀ (ds : List D) (vs : List V), belowL φ.length ds = true → RepL K mg (φ ++ l) W H ds vs → RepL K mg φ W H ds vs
  | [], _, _, h => by cases h; exact .nil
  | d :: ds, _, b, h => by
    obtain ⟨b1, b2⟩ := ba2 (show (below φ.length d && belowL φ.length ds) = true from b)
    cases h with | cons r t => exact .cons (below_rep d _ b1 r) (belowL_rep ds _ b2 t)
end
theorem drop_ok {s s' : Store} {d : D} {v : V} (x : Ext φ H φ' H') (hl : φ.length = s.length) (so : StOk K mg φ' W H' s') (r : Rep K mg φ' W H' d v) (b1 : below s.length d = true) (b2 : (s'.take s.length).all (belowO s.length) = true) :
    Ext φ H φ H' ∧ StOk K mg φ W H' (s'.take s.length) ∧ Rep K mg φ W H' d v := by
  obtain ⟨l, e⟩ := x.pre
  subst e
  rw [← hl] at b1 b2
  refine ⟨⟨⟨[], by simp⟩, fun a o h n => ⟨(x.keep a o h n).1, n⟩, x.tups, x.frzs, x.some_⟩, ?_, below_rep d v b1 r⟩
  refine ⟨(List.nodup_append.mp so.nd).1, ?_, fun m a o e1 e2 => ?_, fun a ha => ?_⟩
  · rw [List.length_take]
    have := so.len
    simp only [List.length_append] at this
    omega
  · have hm : m < φ.length := (List.getElem?_eq_some_iff.mp e1).1
    have e3 : s'[m]? = some o := by
      rw [List.getElem?_take_of_lt (by omega)] at e2
      exact e2
    have q := so.obj m a o (by rw [List.getElem?_append_left hm]; exact e1) e3
    have b3 : belowO φ.length o = true := by
      rw [← hl] at e2
      exact List.all_eq_true.mp b2 o (List.mem_of_getElem? e2)
    cases o with
    | lst l' => obtain ⟨xs, h1, r1⟩ := q; exact ⟨xs, h1, belowL_rep l' xs b3 r1⟩
    | dk l' => obtain ⟨xs, h1, r1⟩ := q; exact ⟨xs, h1, r1.1, belowL_rep _ _ b3 r1.2⟩
    | dt l' => obtain ⟨xs, h1, r1⟩ := q; exact ⟨xs, h1, r1.1, belowL_rep _ _ b3 r1.2⟩
    | lkd => exact q
  · obtain ⟨n, o⟩ := so.w a ha
    exact ⟨fun z => n (List.mem_append_left _ z), o⟩
end
/-! ### the table of defs -/
/-- name: how the module calls it; dn: the def's own name -/
structure FE where
  name : Str
  dn : Str
  st : Stmt
  N : List Str
  mf : MFn
def FE.ps (fe : FE) : List Str := (defArgs fe.st).args.map (·.arg)
def tabT (tab : List FE) (x : Str) : Option MFn := (tab.find? fun fe => decide (fe.name = x)).map (·.mf)
def tabFn (tab : List FE) (x : Str) : Bool := tab.any fun fe => decide (fe.name = x)
def isLoc : Option NameKind → Bool
  | some .local => true
  | some .cell => true
  | _ => false
def chkF (isFn isGl free : Str → Bool) (cd : Str → List (Str × Str) → Bool) (fe : FE) : Bool :=
  plainArgs (defArgs fe.st) && decide ((defScope fe.st).kind = .function) && !(defScope fe.st).isCoroutine && !(defScope fe.st).isGenerator && decide fe.N.Nodup && decide (fe.N.take fe.ps.length = fe.ps) &&
    fe.ps.all (fun x => isLoc ((defScope fe.st).names.lookup x)) && (defScope fe.st).names.all (fun y => decide (y.2 ≠ .free)) && decide (fe.mf.np = fe.ps.length) && decide (fe.mf.ns = fe.N.length) &&
    chkSs fe.N isFn isGl free cd fe.mf.body (defScope fe.st) (defBody fe.st)
theorem chkF_scope {isFn isGl free : Str → Bool} {cd : Str → List (Str × Str) → Bool} {fe : FE} (h : chkF isFn isGl free cd fe = true) : FnScope fe.N fe.ps (defScope fe.st) ∧ plainArgs (defArgs fe.st) = true ∧ fe.mf.np = fe.ps.length ∧ fe.mf.ns = fe.N.length ∧ chkSs fe.N isFn isGl free cd fe.mf.body (defScope fe.st) (defBody fe.st) = true := by
  unfold chkF at h
  simp only [Bool.and_eq_true, decide_eq_true_eq, Bool.not_eq_true', List.all_eq_true] at h
  obtain ⟨⟨⟨⟨⟨⟨⟨⟨⟨⟨h1, h2⟩, h3⟩, h4⟩, h5⟩, h6⟩, h7⟩, h8⟩, h9⟩, h10⟩, h11⟩ := h
  refine ⟨⟨h2, h3, h4, h5, h6, fun x hx => ?_, fun y hy => h8 y hy⟩, h1, h9, h10, h11⟩
  have q := h7 x hx
  unfold isLoc at q
  split at q
  · rename_i e; exact .inl e
  · rename_i e; exact .inr e
  · cases q
section
variable {P : Program} {w : World} {K : PySem.W.Frag} {mg : Str → Option Value} {base : Heap} {G : Str → Option D} {F : Nat} {tab : List FE} {isGl free : Str → Bool} {cd : Str → List (Str × Str) → Bool}
theorem mcall_fn {n : Nat} {x : Str} {ds : List D} {s s' : Store} {d : D} (e : mcall (tabT tab) G F n x ds s = .ok d s') : tabFn tab x = true := by
  cases n with
  | zero => cases e
  | succ n =>
    unfold mcall at e
    cases h : tabT tab x with
    | none => rw [h] at e; cases e
    | some f =>
      unfold tabT at h
      obtain ⟨fe, h1, _⟩ := Option.map_eq_some_iff.mp h
      unfold tabFn
      exact List.any_eq_true.mpr ⟨fe, List.mem_of_find?_eq_some h1, by simpa using List.find?_some h1⟩
/-- every def of the table, at each level -/
theorem tab_ok (hc : ∀ fe ∈ tab, chkF (tabFn tab) isGl free cd fe = true) (hf : ∀ fe ∈ tab, ∃ f fd, FunD K fe.dn fe.dn (defArgs fe.st) (defBody fe.st) (defScope fe.st) [] [] f fd ∧ mg fe.name = some (.ref f))
    (hfree : ∀ x, free x = true → mg x = none) (hcd : ∀ x l, cd x l = true → TabAt K w mg x l) (hglo : ∀ x d, isGl x = true → G x = some d → ∃ v u, mg x = some u ∧ RelV v u ∧ ∀ φ W H, Rep K mg φ W H d v) :
    ∀ n x, tabFn tab x = true → ∃ f fd ps, FnOk P w K mg base CX0 n f fd ps (spF K mg (mcall (tabT tab) G F n) x) ∧ mg x = some (.ref f) ∧ PySem.W.keepIn K (.ref f) = true ∧ Binds K fd ps [] ∧
      ∃ fe ∈ tab, fe.name = x ∧ ps = fe.ps ∧ FunD K fe.dn fe.dn (defArgs fe.st) (defBody fe.st) (defScope fe.st) [] [] f fd := by
  intro n
  induction n with
  | zero =>
    intro x hx
    obtain ⟨fe, hm, e⟩ := List.any_eq_true.mp hx
    have e := of_decide_eq_true e
    obtain ⟨f, fd, Fd, hg⟩ := hf fe hm
    obtain ⟨S, hp, _, _, _⟩ := chkF_scope (hc fe hm)
    refine ⟨f, fd, fe.ps, ⟨fun vs H Q E h => ?_, fun A outer s H args us vs Q E hr e0 hb r h => ?_⟩, e ▸ hg, Fd.kp, ?_, fe, hm, e, rfl, Fd⟩
    · obtain ⟨φ, W, s, ds, d, s', _, _, q, _⟩ := h; cases q
    · obtain ⟨φ, W, s, ds, d, s', _, _, q, _⟩ := h; cases q
    · refine Fd.bindsN fun kV doc pm an cdv ct us hl => bind_plain hp rfl ?_ hl
      have : fe.ps.Nodup := by rw [← S.pre]; exact S.nd.sublist (List.take_sublist _ _)
      exact this
  | succ n ih =>
    intro x hx
    cases hfi : tab.find? (fun fe => decide (fe.name = x)) with
    | none =>
      obtain ⟨fe, hm, e⟩ := List.any_eq_true.mp hx
      exact absurd e (by simpa using List.find?_eq_none.mp hfi fe hm)
    | some fe =>
      have hm := List.mem_of_find?_eq_some hfi
      have e : fe.name = x := by simpa using List.find?_some hfi
      obtain ⟨f, fd, Fd, hg⟩ := hf fe hm
      obtain ⟨S, hp, hnp, hns, hck⟩ := chkF_scope (hc fe hm)
      have hT : tabT tab x = some fe.mf := by unfold tabT; rw [hfi]; rfl
      have unf : ∀ ds s, mcall (tabT tab) G F (n + 1) x ds s = if ds.length = fe.mf.np then
          (exs (mcall (tabT tab) G F n) G F fe.mf.body (ds.map some ++ List.replicate (fe.mf.ns - fe.mf.np) none) s).bnd fun o s1 =>
            (ofO (match o with
              | .rt d => some d
              | .nx _ => some .non
              | _ => none) s1).bnd fun d s2 =>
            if fe.mf.drop then (if below s.length d && (s2.take s.length).all (belowO s.length) then .ok d (s2.take s.length) else .bad) else .ok d s2
        else .bad := fun ds s => by
        show (match tabT tab x with | none => _ | some f => _) = _
        rw [hT] <;> rfl
      refine ⟨f, fd, fe.ps, ?_, e ▸ hg, Fd.kp, ?_, fe, hm, e, rfl, Fd⟩
      · refine Fd.ok S (fun vs H Q E h => ?_) (fun cdv A outer s H vs Q E hr h => ?_)
        · obtain ⟨φ, W, s, ds, d, s', r, _, q, _⟩ := h
          rw [unf] at q
          split at q
          · rename_i hl
            rw [← r.length, hl, hnp]
          · cases q
        · obtain ⟨φ, W, s0, ds, d, s', r, so, q, kt⟩ := h
          rw [unf] at q
          split at q
          · rename_i hl
            obtain ⟨o, s1, e1, e2⟩ := R.bnd_ok q
            obtain ⟨d1, s2, e3, e4⟩ := R.bnd_ok e2
            obtain ⟨e5, rfl⟩ := ofO_ok e3
            generalize hX : (cxOf CX0 P w K mg base fe.N fe.dn (defScope fe.st) f cdv A outer s H E).nox = X
            have hX' : X.N = fe.N ∧ X.calm = true ∧ X.A = A.deeper (envOfC fe.dn (defScope fe.st) s.heap.objs.size f cdv) ∧ X.env.scope = defScope fe.st ∧ (∀ x, X.fn x = true) ∧ X.mg = mg ∧ X.K = K ∧ X.prog = P ∧ X.w = w ∧ X.base = base ∧ X.xe = (fun _ _ => False) := by
              subst hX; exact ⟨rfl, rfl, rfl, rfl, fun _ => rfl, rfl, rfl, rfl, rfl, rfl, rfl⟩
            obtain ⟨x1, x2, x3, x4, x5, x6, x7, x8, x9, x10, x11⟩ := hX'
            have ck : Sok (mcall (tabT tab) G F n) G fe.N (tabFn tab) isGl free cd n X (defScope fe.st) := by
              refine ⟨⟨x1, by rw [x1]; exact S.nd, x2, by rw [x3]; exact hr, by rw [x4]; exact ScR.refl _, fun y _ => x5 y, by rw [x6]; exact hfree, by rw [x6, x7]; exact hglo, by rw [x6, x7, x9]; exact hcd, fun y ds s d s' e => mcall_fn e, fun y hy => ?_⟩, x4, S.kind, by rw [x11]; exact PassesOwn.never⟩
              obtain ⟨f2, fd2, ps2, F2, g2, k2, b2, _⟩ := ih y hy
              exact ⟨f2, fd2, ps2, by rw [x6, x7, x8, x9, x10]; exact F2, by rw [x6]; exact g2, by rw [x7]; exact k2, by rw [x7]; exact b2⟩
            have body := ss_ok (F := F) fe.mf.body (defScope fe.st) (defBody fe.st) X ck hck
            subst hX
            refine ⟨_, PSs.nox body, φ, W, _, s0, o, s2, ?_, so, e1, ?_⟩
            · show EnvOk K mg φ W H (ds.map some ++ List.replicate (fe.mf.ns - fe.mf.np) none) (L2.start fe.N vs)
              have hlv : ds.length = vs.length := r.length
              unfold L2.start
              rw [hns, ← hl, hlv]
              refine ⟨by simp [hlv], fun i d' hd => ?_⟩
              by_cases hi : i < ds.length
              · rw [List.getElem?_append_left (by simpa using hi)] at hd
                rw [List.getElem?_append_left (by simpa using (hlv ▸ hi))]
                rw [List.getElem?_map] at hd ⊢
                cases hdi : ds[i]? with
                | none => rw [hdi] at hd; cases hd
                | some d2 =>
                  rw [hdi] at hd
                  simp only [Option.map_some, Option.some.injEq] at hd
                  subst hd
                  obtain ⟨v, hv, rv⟩ := r.get hdi
                  exact ⟨v, by rw [hv]; rfl, rv⟩
              · rw [List.getElem?_append_right (by simpa using hi)] at hd
                rw [List.getElem?_replicate] at hd
                split at hd <;> cases hd
            · have fin : ∀ φ' H' v, Ext φ H φ' H' → StOk K mg φ' W H' s2 → Rep K mg φ' W H' d1 v → Q v H' := fun φ' H' v x so' rv => by
                cases hdr : fe.mf.drop with
                | false =>
                  rw [hdr] at e4
                  cases e4
                  exact kt φ' H' v x so' rv
                | true =>
                  rw [hdr] at e4
                  simp only [if_true] at e4
                  split at e4
                  · rename_i hb
                    obtain ⟨b1, b2⟩ := ba2 hb
                    cases e4
                    obtain ⟨y1, y2, y3⟩ := drop_ok x so.len so' rv b1 b2
                    exact kt φ H' v y1 y2 y3
                  · cases e4
              cases o with
              | nx ρ =>
                cases e5
                exact fun φ' σ' H' x so' _ => fin φ' H' .non x so' .non
              | rt d2 =>
                cases e5
                exact fin
              | bk ρ => cases e5
              | ct ρ => cases e5
          · cases q
      · refine Fd.bindsN fun kV doc pm an cdv ct us hl => bind_plain hp rfl ?_ hl
        have : fe.ps.Nodup := by rw [← S.pre]; exact S.nd.sublist (List.take_sublist _ _)
        exact this
end
end Rf

set_option Elab.async false
set_option linter.all false
set_option maxRecDepth 100000
set_option maxHeartbeats 4000000
/-! Rf16: a law's end. -/
namespace Rf
open PySem PySem.Spec PyProof.Rows L2

/-- walk_ofE with the script's bits -/
theorem walk_ofEB {l : PySem.W.OpenLaw} {n k : Nat} {q : Program} {loose : List Str} {XP : (Str → Option Value) → Heap → Prop} {YP : World → Heap → Prop} {d : DefRec} {CX : CXT} {x : Str}
    (hn : l.most = some n) (hn2 : n ≤ sizeLine) (hdf : d.params.defaults = []) (hr : Room k callerA)
    (F : ∀ (w : World) (mg : Str → Option Value) (fa : Addr) (h : Heap), YP w h → h.Ns mainGlobals mg → mg d.name = some (.ref fa) →
      ∃ (K : PySem.W.Frag) (fd : FuncData) (sp : Sp), K.In h ∧ (∀ (s : Shared) (u : Value), BindsTo s fd ⟨[u], []⟩ [(x, u)]) ∧
        (∀ (H : Hp) (a : Addr) (ns : List Int), ns.length ≤ n → (∀ z ∈ ns, Builtin.Int.intBits z ≤ 1048576) → Only H → SqL K H a (ns.map V.int) → sp [.ref a] H (fun v _ => v = .bl true) fun _ _ _ => False) ∧
        ∀ base : Heap, K.In base → base.Ns mainGlobals mg → FnOk l.prog w K mg base CX k fa fd [x] sp)
    (hCX : ∀ (H : Hp) (s : Shared) (e : Value) (s' : Shared), CX [] H s (fun _ _ _ => False) e s' → False) :
    PySem.W.WalkO q loose XP YP l.row.toRowW d [] (fun f vs => PySem.call f vs) := by
  refine Att.attach_callB hn hdf fun w s₀ s₁ mg mb fa o pm cd doc a vs ns G Y ho hd hcd hmg hobj hints hlen hbits hg => ?_
  obtain ⟨K, fd, sp, KX, hb, hsp, hF⟩ := F w mg fa _ Y G.T.g hmg
  exact law_call KX G.T.g G.T.b G.T.builtins G.T.nolimit hg hobj hints (Nat.le_trans hlen hn2) hr hF hb (fun H hO hS => hsp H a ns hlen hbits hO hS) fun H e s' => hCX H s₁ e s'

/-! ### the module's constants -/
def glG (gl : List (Str × D)) (x : Str) : Option D := gl.lookup x
def glB (gl : List (Str × D)) (x : Str) : Bool := (gl.lookup x).isSome
mutual
def repB (K : PySem.W.Frag) : D → Value → Bool
  | .non, u => (match u with | .none => true | _ => false)
  | .bl b, u => (match u with | .bool c => b == c | _ => false)
  | .int i, u => (match u with | .int j _ => decide (i = j) | _ => false)
  | .str x, u => (match u with | .str y _ => decide (x = y) && PyData.strOk x | _ => false)
  | .glo x, u => (match u with | .ref a => decide (PySem.W.nsIn K mainGlobals x = some (some (.ref a))) | _ => false)
  | .ktu l, u => (match u with
    | .ref a => (match K.lookup a with
      | some ⟨.type c, _, .seq its _, _⟩ => decide (c = "tuple") && decide (its.size ≤ sizeLine) && repBs K l its.toList
      | _ => false)
    | _ => false)
  | .scr l, u => (match u with
    | .ref a => (match K.lookup a with
      | some ⟨.type c, _, .seq its _, _⟩ => decide (c = "tuple") && decide (its.size ≤ sizeLine) && repBs K l its.toList
      | _ => false)
    | _ => false)
  | _, _ => false
def repBs (K : PySem.W.Frag) : List D → List Value → Bool
  | [], us => us.isEmpty
  | d :: ds, us => (match us with
    | u :: us => repB K d u && repBs K ds us
    | [] => false)
end
section
variable {K : PySem.W.Frag} {h : Heap} {mg : Str → Option Value}
mutual
theorem repB_ok (X : K.In h) (G : h.Ns mainGlobals mg) : ∀ (d : D) (u : Value), repB K d u = true → ∃ v, RelV v u ∧ ∀ φ W H, Rep K mg φ W H d v
  | .non, u, c => by cases u <;> first | (cases c; done) | exact ⟨.non, rfl, fun _ _ _ => .non⟩
  | .bl b, u, c => by
    cases u <;> first | (cases c; done) | skip
    have e := beq_iff_eq.mp (show (b == _) = true from c)
    subst e
    exact ⟨.bl b, rfl, fun _ _ _ => .bl b⟩
  | .int i, u, c => by
    cases u <;> first | (cases c; done) | skip
    have e := of_decide_eq_true (show decide (i = _) = true from c)
    subst e
    exact ⟨.int i, ⟨_, rfl⟩, fun _ _ _ => .int i⟩
  | .str x, u, c => by
    cases u <;> first | (cases c; done) | skip
    obtain ⟨c1, c2⟩ := ba2 (show (decide (x = _) && PyData.strOk x) = true from c)
    have e := of_decide_eq_true c1
    subst e
    exact ⟨.str x, ⟨_, rfl⟩, fun _ _ _ => .str x c2⟩
  | .glo x, u, c => by
    cases u <;> first | (cases c; done) | skip
    rename_i a
    have e : PySem.W.nsIn K mainGlobals x = some (some (.ref a)) := of_decide_eq_true c
    exact ⟨.ref a, rfl, fun _ _ _ => .glo (PySem.W.mg_of X G e)⟩
  | .tup _, _, c => by cases c
  | .scr l, u, c => by
    cases u <;> first | (cases c; done) | skip
    rename_i a
    simp only [repB] at c
    split at c
    · rename_i cc dd its n sl e
      simp only [Bool.and_eq_true, decide_eq_true_eq] at c
      obtain ⟨⟨c1, c2⟩, c3⟩ := c
      obtain ⟨vs, rv, rl⟩ := repBs_ok X G l its.toList c3
      refine ⟨.ref a, rfl, fun φ W H => .scr (.inr ⟨_, its, n, e, ?_, rfl, c2, rv⟩) (rl φ W H)⟩
      show Value.type cc = _
      rw [c1]
    · cases c
  | .ktu l, u, c => by
    cases u <;> first | (cases c; done) | skip
    rename_i a
    simp only [repB] at c
    split at c
    · rename_i cc dd its n sl e
      simp only [Bool.and_eq_true, decide_eq_true_eq] at c
      obtain ⟨⟨c1, c2⟩, c3⟩ := c
      obtain ⟨vs, rv, rl⟩ := repBs_ok X G l its.toList c3
      refine ⟨.ref a, rfl, fun φ W H => .ktu ⟨_, its, n, e, ?_, rfl, c2, rv⟩ (rl φ W H)⟩
      show Value.type cc = _
      rw [c1]
    · cases c
  | .lst _, _, c => by cases c
  | .dk _, _, c => by cases c
  | .dt _, _, c => by cases c
  | .ref _, _, c => by cases c
  | .ty _, _, c => by cases c
  | .nop, _, c => by cases c
theorem repBs_ok (X : K.In h) (G : h.Ns mainGlobals mg) : ∀ (ds : List D) (us : List Value), repBs K ds us = true → ∃ vs, Vals vs us ∧ ∀ φ W H, RepL K mg φ W H ds vs
  | [], us, c => by
    cases us with
    | nil => exact ⟨[], .nil, fun _ _ _ => .nil⟩
    | cons => cases c
  | d :: ds, us, c => by
    cases us with
    | nil => cases c
    | cons u us =>
      obtain ⟨c1, c2⟩ := ba2 (show (repB K d u && repBs K ds us) = true from c)
      obtain ⟨v, r, q⟩ := repB_ok X G d u c1
      obtain ⟨vs, rs, qs⟩ := repBs_ok X G ds us c2
      exact ⟨v :: vs, .cons r rs, fun φ W H => .cons (q φ W H) (qs φ W H)⟩
end
end
def conB (K : PySem.W.Frag) (p : Str × D) : Bool := match PySem.W.nsIn K mainGlobals p.1 with
  | some (some u) => repB K p.2 u
  | _ => false

/-! ### the Hook -/
def feD (fe : FE) : He.DefD := ⟨(fe.name, none), fe.dn, fe.dn, defArgs fe.st, defBody fe.st, defScope fe.st, [], []⟩
/-- a module's tables: name, keys and defs -/
abbrev Tbs := List (Str × List (Str × Str))
def facts (tab : List FE) (fr : List Str) (ts : Tbs) : List He.Fa := tab.map (fun fe => He.Fa.glo fe.name) ++ fr.map He.Fa.free ++ ts.map fun t => He.Fa.glo t.1
/-- a table's values -/
def tbB (K : PySem.W.Frag) (t : Str × List (Str × Str)) : Bool := t.2.all fun kv => match PySem.W.nsIn K (He.ga K t.1) kv.1, PySem.W.nsIn K mainGlobals kv.2 with
  | some (some (.ref a)), some (some (.ref b)) => decide (a = b)
  | _, _ => false
abbrev AlR := (Bool × Bool) × He.AlD × List (Option (List (Option (Str × Int))))
def obsK (tab : List FE) (fr : List Str) (gl : List (Str × D)) (ts : Tbs) (K : PySem.W.Frag) : AlR :=
  ((gl.all (conB K), ts.all (tbB K)), He.obsD (facts tab fr ts) (tab.map feD) K, ts.map fun t => He.dicW K (He.ga K t.1))
def obsR (n : Nat) (tab : List FE) (fr : List Str) (gl : List (Str × D)) (ts : Tbs) (g : Addr → Option Obj) : AlR := obsK tab fr gl ts (He.frG g (He.asD g n))
def valR (tab : List FE) (ts : Tbs) (w : World) : AlR := ((true, true), He.valD (tab.map feD), ts.map fun t => some (He.keysIn w.params (t.2.map (·.1))))
def hookR (n : Nat) (tab : List FE) (fr : List Str) (gl : List (Str × D)) (ts : Tbs) : PySem.W.Hook where
  α := AlR
  obs := fun s => obsR n tab fr gl ts s.heap.get?
  val := fun w => valR tab ts w
  says := fun w h => ∃ K : PySem.W.Frag, K.In h ∧ obsK tab fr gl ts K = valR tab ts w
  of := fun _ _ e => ⟨_, He.frG_in, e⟩
  keeps := fun _ _ _ ⟨K, hK, c⟩ k => ⟨K, PySem.W.Frag.In.keeps hK k, c⟩
def obR (n : Nat) (tab : List FE) (fr : List Str) (gl : List (Str × D)) (ts : Tbs) (s : PySem.W.SharedT) : AlR := obsR n tab fr gl ts (HandSHeadRun.getT s)
theorem obR_eq (n : Nat) (tab : List FE) (fr : List Str) (gl : List (Str × D)) (ts : Tbs) (s : PySem.W.SharedT) : obR n tab fr gl ts s = (hookR n tab fr gl ts).obs s.abs := by
  have e : HandSHeadRun.getT s = s.abs.heap.get? := funext (HandSHeadRun.getT_eq s)
  unfold obR
  rw [e] <;> rfl
def cdB (ts : Tbs) (x : Str) (l : List (Str × Str)) : Bool := decide ((x, l) ∈ ts)
/-- a table that is there -/
theorem isStr_key {e : DictEntry} {x : Str} {q : Int} (h : He.keyOf e = some (x, q)) (z : Str) : e.key.isStr z = (x == z) ∧ e.refKey = false := by
  unfold He.keyOf at h
  split at h
  · rename_i y t hk
    cases h
    constructor
    · rw [hk]; rfl
    · unfold DictEntry.refKey
      rw [hk]
  · cases h
theorem find_keys {P : Params} {z : Str} : ∀ {es : List DictEntry} {l : List (Str × Str)}, es.map He.keyOf = He.keysIn P (l.map (·.1)) → (l.find? fun kv => strEq kv.1 z) = none → (es.find? fun e => e.key.isStr z) = none ∧ (es.any fun e => e.refKey) = false
  | [], _, _, _ => ⟨rfl, rfl⟩
  | e :: es, [], h, _ => by cases h
  | e :: es, kv :: l, h, hn => by
    have h : He.keyOf e :: es.map He.keyOf = some (kv.1, PyData.keyHash P kv.1) :: He.keysIn P (l.map (·.1)) := h
    injection h with h1 h2
    rw [List.find?_cons] at hn
    cases hk : strEq kv.1 z with
    | true => rw [hk] at hn; cases hn
    | false =>
      rw [hk] at hn
      obtain ⟨q1, q2⟩ := isStr_key h1 z
      obtain ⟨i1, i2⟩ := find_keys h2 hn
      rw [strEq_eq] at hk
      exact ⟨by rw [List.find?_cons, q1, hk]; exact i1, by rw [List.any_cons, q2, i2]; rfl⟩
theorem tab_at {K : PySem.W.Frag} {h : Heap} {w : World} {mg : Str → Option Value} {x : Str} {l : List (Str × Str)} (X : K.In h) (G : h.Ns mainGlobals mg) (g : (He.Fa.glo x).ok K = true) (b : tbB K (x, l) = true) (d : He.dicW K (He.ga K x) = some (He.keysIn w.params (l.map (·.1)))) : TabAt K w mg x l := by
  obtain ⟨es, n, D₀⟩ := He.dicW_ok d
  refine ⟨He.ga K x, es, n, He.glo_ok X G g, D₀, fun z => ⟨fun f hf => ?_, fun hn => ?_⟩⟩
  · obtain ⟨kv, h1, h2⟩ := Option.map_eq_some_iff.mp hf
    have h3 : kv.1 = z := by
      have := List.find?_some h1
      rw [strEq_eq] at this
      exact beq_iff_eq.mp this
    have h4 := List.all_eq_true.mp b kv (List.mem_of_find?_eq_some h1)
    split at h4
    · rename_i a' b' e1 e2
      have h5 := of_decide_eq_true h4
      subst h5 h2
      rw [← h3]
      exact ⟨a', e1, PySem.W.mg_of X G e2⟩
    · cases h4
  · have e1 : es.toList.map He.keyOf = He.keysIn w.params (l.map (·.1)) := by
      unfold He.dicW at d
      rw [D₀.at_] at d
      simp only at d
      split at d
      · exact Option.some.inj d
      · cases d
    obtain ⟨q1, q2⟩ := find_keys e1 hn
    unfold PySem.W.nsIn
    rw [D₀.at_]
    simp only [q1, q2]
    rfl
theorem says_fact {fa : List He.Fa} {fn : List He.DefD} {K : PySem.W.Frag} (c : He.SaysD fa fn K) {f : He.Fa} (h : f ∈ fa) : f.ok K = true := by
  obtain ⟨i, hi, e⟩ := List.mem_iff_getElem.mp h
  exact c.fact i (f := f) (by rw [List.getElem?_eq_getElem hi, e])
theorem says_def {fa : List He.Fa} {fn : List He.DefD} {K : PySem.W.Frag} (c : He.SaysD fa fn K) {d : He.DefD} (h : d ∈ fn) : ∃ fd, FunD K d.name d.qual d.params d.body d.scope (d.dvs K) (d.kws K) (He.fAd K d.at_) fd := by
  obtain ⟨i, hi, e⟩ := List.mem_iff_getElem.mp h
  exact c.def_ i (d := d) (by rw [List.getElem?_eq_getElem hi, e])

/-- THE END: what the evaluator says of the law, for all scripts -/
theorem walk_law {l : PySem.W.OpenLaw} {m n lv F : Nat} {q : Program} {loose : List Str} {XP : (Str → Option Value) → Heap → Prop} {d : DefRec} {tab : List FE} {fr : List Str} {gl : List (Str × D)} {ts : Tbs} {x : Str}
    (hn : l.most = some m) (hn2 : m ≤ sizeLine) (hdf : d.params.defaults = []) (hr : Room lv callerA) (hname : d.name = ("law" : Str))
    (hlaw : tabFn tab ("law" : Str) = true) (hps : ∀ fe ∈ tab, fe.name = ("law" : Str) → fe.ps = [x]) (hc : tab.all (chkF (tabFn tab) (glB gl) fr.contains (cdB ts)) = true)
    (main : ∀ ns : List Int, ns.length ≤ m → (∀ z ∈ ns, Builtin.Int.intBits z ≤ 1048576) → ∃ s, mcall (tabT tab) (glG gl) F lv ("law" : Str) [.scr (ns.map .int)] [] = .ok (.bl true) s) :
    PySem.W.WalkO q loose XP (hookR n tab fr gl ts).says l.row.toRowW d [] (fun f vs => PySem.call f vs) := by
  refine walk_ofEB (k := lv) (x := x) (CX := CX0) hn hn2 hdf hr (fun w mg fa h Y G hmg => ?_) (fun _ _ _ _ z => z)
  obtain ⟨K, KX, cc⟩ := Y
  have c : He.SaysD (facts tab fr ts) (tab.map feD) K := congrArg (fun z : AlR => z.2.1) cc
  have cg : gl.all (conB K) = true := congrArg (fun z : AlR => z.1.1) cc
  have ct : ts.all (tbB K) = true := congrArg (fun z : AlR => z.1.2) cc
  have cw : (ts.map fun t => He.dicW K (He.ga K t.1)) = ts.map fun t => some (He.keysIn w.params (t.2.map (·.1))) := congrArg (fun z : AlR => z.2.2) cc
  have hf : ∀ fe ∈ tab, ∃ f fd, FunD K fe.dn fe.dn (defArgs fe.st) (defBody fe.st) (defScope fe.st) [] [] f fd ∧ mg fe.name = some (.ref f) := fun fe hm => by
    obtain ⟨fd, Fd⟩ := says_def c (List.mem_map.mpr ⟨fe, hm, rfl⟩)
    exact ⟨_, fd, Fd, He.glo_ok KX G (says_fact c (List.mem_append_left _ (List.mem_append_left _ (List.mem_map.mpr ⟨fe, hm, rfl⟩))))⟩
  have hfree : ∀ x, fr.contains x = true → mg x = none := fun x hx => by
    have hx : x ∈ fr := by simpa using hx
    exact He.free_ok KX G (says_fact c (List.mem_append_left _ (List.mem_append_right _ (List.mem_map.mpr ⟨x, hx, rfl⟩))))
  have hglo : ∀ x d, glB gl x = true → glG gl x = some d → ∃ v u, mg x = some u ∧ RelV v u ∧ ∀ φ W H, Rep K mg φ W H d v := fun x d _ hd => by
    have hm : (x, d) ∈ gl := PySem.mem_of_lookup hd
    have q := List.all_eq_true.mp cg _ hm
    unfold conB at q
    split at q
    · rename_i u e
      obtain ⟨v, r, z⟩ := repB_ok KX G d u q
      exact ⟨v, u, PySem.W.mg_of KX G e, r, z⟩
    · cases q
  have hcd : ∀ x l, cdB ts x l = true → TabAt K w mg x l := fun x l hm => by
    have hm : (x, l) ∈ ts := of_decide_eq_true hm
    obtain ⟨i, hi, ei⟩ := List.mem_iff_getElem.mp hm
    have cw2 := congrArg (·[i]?) cw
    simp only [List.getElem?_map, List.getElem?_eq_getElem hi, ei, Option.map_some, Option.some.injEq] at cw2
    exact tab_at KX G (says_fact c (List.mem_append_right _ (List.mem_map.mpr ⟨_, hm, rfl⟩))) (List.all_eq_true.mp ct _ hm) cw2
  have hc' : ∀ fe ∈ tab, chkF (tabFn tab) (glB gl) fr.contains (cdB ts) fe = true := fun fe hm => List.all_eq_true.mp hc fe hm
  have key := fun base => tab_ok (P := l.prog) (w := w) (K := K) (mg := mg) (base := base) (G := glG gl) (F := F) hc' hf hfree hcd hglo lv ("law" : Str) hlaw
  rw [hname] at hmg
  obtain ⟨f, fd, ps, Fn, hg, hk, hb, fe, hm, en, ep, Fd⟩ := key h
  have e1 : ps = [x] := by rw [ep]; exact hps fe hm en
  subst e1
  have e2 : fa = f := by
    have := hmg.symm.trans hg
    cases this; rfl
  subst e2
  refine ⟨K, fd, spF K mg (mcall (tabT tab) (glG gl) F lv) ("law" : Str), KX, fun s u => ?_, fun H a ns hl hbits hO hS => ?_, fun base hK hB => ?_⟩
  · obtain ⟨S, hp, _, _, _⟩ := chkF_scope (hc' fe hm)
    have hnd : fe.ps.Nodup := by rw [← S.pre]; exact S.nd.sublist (List.take_sublist _ _)
    have z := FunD.bindsA (ps := fe.ps) Fd (fun kV doc pm an cdv ct us hl => bind_plain hp rfl hnd hl) s [u] (by rw [← ep]; rfl)
    rw [← ep] at z
    exact z
  · obtain ⟨s, hs⟩ := main ns hl hbits
    refine ⟨[], [], [], _, _, s, .cons (.scr (xs := ns.map V.int) ?_ ?_) .nil, ⟨List.nodup_nil, rfl, fun m a o e => by simp at e, fun a ha => by simp at ha⟩, hs, fun φ' H' v _ _ r => by cases r; rfl⟩
    · rcases hS with (z | z) | z
      · rcases hO a with y | ⟨o, xs, y⟩
        · rw [y] at z; cases z
        · rw [y] at z; cases z
      · exact .inl (.inl z)
      · exact .inl (.inr z)
    · have key : ∀ l : List Int, RepL K mg [] [] H (l.map D.int) (l.map V.int) := by
        intro l
        induction l with
        | nil => exact .nil
        | cons i l ih => exact .cons (.int i) ih
      exact key ns
  · obtain ⟨f2, fd2, ps2, Fn2, hg2, _, _, fe2, hm2, en2, ep2, Fd2⟩ := key base
    have ef : f2 = fa := by have := hg2.symm.trans hg; cases this; rfl
    subst ef
    have eps : ps2 = [x] := by rw [ep2]; exact hps fe2 hm2 en2
    subst eps
    -- one function object
    have efd : fd2 = fd := by
      obtain ⟨_, _, _, _, _, _, _, _, _, _, _, l1, _⟩ := Fd.ex
      obtain ⟨_, _, _, _, _, _, _, _, _, _, _, l2, _⟩ := Fd2.ex
      rw [l1] at l2
      cases l2
      rfl
    subst efd
    exact Fn2
end Rf

set_option Elab.async false
set_option linter.all false
set_option maxRecDepth 100000
set_option maxHeartbeats 4000000
/-! Rf17: the evaluator read backwards: what must hold ahead of a text that Q holds behind it. -/
namespace Rf
open PySem PySem.Spec PyProof.Rows L2

/-- a stop of the reading: a result, and what holds of it -/
inductive Wp {α : Type} (r : R α) (Q : α → Store → Prop) : Prop
  | mk (a : α) (s : Store) (h : r = .ok a s) (q : Q a s)
theorem Wp.ok {α : Type} {a : α} {s : Store} {Q : α → Store → Prop} (q : Q a s) : Wp (.ok a s) Q := ⟨a, s, rfl, q⟩
theorem Wp.bnd {α β : Type} {r : R α} {f : α → Store → R β} {Q : β → Store → Prop} (h : Wp r fun a s => Wp (f a s) Q) : Wp (r.bnd f) Q := by
  obtain ⟨a, s, e, q⟩ := h
  rw [e]
  exact q
theorem Wp.imp {α : Type} {r : R α} {Q Q' : α → Store → Prop} (h : Wp r Q) (f : ∀ a s, Q a s → Q' a s) : Wp r Q' := by
  obtain ⟨a, s, e, q⟩ := h
  exact ⟨a, s, e, f a s q⟩
/-- an option: none is false -/
def wO {α : Type} (o : Option α) (Q : α → Prop) : Prop := match o with
  | some a => Q a
  | none => False
/-- the same, where the reading stops -/
inductive WO {α : Type} (o : Option α) (Q : α → Prop) : Prop
  | mk (a : α) (h : o = some a) (q : Q a)
theorem WO.imp {α : Type} {o : Option α} {Q Q' : α → Prop} (h : WO o Q) (f : ∀ a, Q a → Q' a) : wO o Q' := by
  obtain ⟨a, e, q⟩ := h
  subst e
  exact f a q
theorem wO_ok {α : Type} {o : Option α} {s : Store} {Q : α → Store → Prop} (h : wO o fun a => Q a s) : Wp (ofO o s) Q := by
  cases o with
  | none => cases h
  | some a => exact .ok h
/-- a truth value's two ways -/
def wB (k : Bool) (A B : Prop) : Prop := match k with
  | true => A
  | false => B
section
variable (C : Str → List D → Store → R D) (G : Str → Option D) (F : Nat)
mutual
def wE : ME → Env → Store → (D → Store → Prop) → Prop
  | .bad, _, _, _ => False
  | .slot i, ρ, s, Q => wO (ρ[i]?) fun o => wO o fun d => Q d s
  | .cst d, _, s, Q => Q d s
  | .glob x, _, s, Q => wO (G x) fun d => Q d s
  | .bty t, _, s, Q => Q (.ty t) s
  | .tup es, ρ, s, Q => wEs es ρ s fun ds s1 => Q (.tup ds) s1
  | .lst mu es, ρ, s, Q => wEs es ρ s fun ds s1 => wB mu (Q (.ref s1.length) (s1 ++ [.lst ds])) (Q (.lst ds) s1)
  | .dnew t, ρ, s, Q => Q (.ref s.length) (s ++ [if t then .dt [] else .dk []])
  | .dsing k v, ρ, s, Q => wE k ρ s fun x s1 => wE v ρ s1 fun y s2 => wO (keyT x) fun ks => Q (.ref s2.length) (s2 ++ [.dt [(ks, y)]])
  | .dget o k, ρ, s, Q => wE o ρ s fun x s1 => wO (isDct s1 x) fun _ => wE k ρ s1 fun y s2 => wO (atD (deref s2 x) y) fun o => Q (o.getD .non) s2
  | .dget2 o k d, ρ, s, Q => wE o ρ s fun x s1 => wO (isDct s1 x) fun _ => wE k ρ s1 fun y s2 => wE d ρ s2 fun z s3 => wO (atD (deref s3 x) y) fun o => Q (o.getD z) s3
  | .ddisp es, ρ, s, Q => wEs es ρ s fun ds s1 => wO (pairO ds) fun ob => Q (.ref s1.length) (s1 ++ [ob])
  | .cget x l k, ρ, s, Q => wE k ρ s fun y s1 => wO (cgetD l y) fun o => Q o s1
  | .cin neg x l k, ρ, s, Q => wE k ρ s fun y s1 => wO (cinD l y) fun o => Q (.bl (if neg then !o else o)) s1
  | .callv i es, ρ, s, Q => wO (ρ[i]?) fun o => wO o fun d => match d with
    | .glo x => wEs es ρ s fun ds s1 => Wp (C x ds s1) Q
    | _ => False
  | .pm m o a, ρ, s, Q => wE o ρ s fun x s1 => wO (pmOn m x) fun _ => wE a ρ s1 fun y s2 => wO (pmD m x (deref s2 y)) fun z => Q z s2
  | .mxd e d, ρ, s, Q => wE e ρ s fun x s1 => wE d ρ s1 fun y s2 => wO (mxdD (deref s2 x) y) fun z => Q z s2
  | .itf b es, ρ, s, Q => wEs es ρ s fun ds s1 => WO (itfD b ds) fun l => Q (.scr l) s1
  | .bin o a b, ρ, s, Q => wE a ρ s fun x s1 => wE b ρ s1 fun y s2 => wO (binD o (deref s2 x) (deref s2 y)) fun z => Q z s2
  | .neg a, ρ, s, Q => wE a ρ s fun x s1 => match x with
    | .int i => Q (.int (-i)) s1
    | _ => False
  | .cmp o a b, ρ, s, Q => wE a ρ s fun x s1 => wE b ρ s1 fun y s2 => wO (cmpD o (deref s2 x) (deref s2 y)) fun k => Q (.bl k) s2
  | .chain o o' a b c, ρ, s, Q => wE a ρ s fun x s1 => wE b ρ s1 fun y s2 => wO (cmpD o (deref s2 x) (deref s2 y)) fun k =>
      wB k (wE c ρ s2 fun z s4 => wO (cmpD o' (deref s4 y) (deref s4 z)) fun k' => Q (.bl k') s4) (Q (.bl false) s2)
  | .and_ es, ρ, s, Q => wAnd es ρ s Q
  | .or_ es, ρ, s, Q => wOr es ρ s Q
  | .not_ a, ρ, s, Q => wE a ρ s fun x s1 => wO (truth s1 x) fun k => Q (.bl (!k)) s1
  | .ife c a b, ρ, s, Q => wE c ρ s fun x s1 => wO (truth s1 x) fun k => wB k (wE a ρ s1 Q) (wE b ρ s1 Q)
  | .ix a i, ρ, s, Q => wE a ρ s fun x s1 => wE i ρ s1 fun y s2 => wO (ixV (deref s2 x) y) fun z => Q z s2
  | .slc a lo hi, ρ, s, Q => wE a ρ s fun x s1 => wE lo ρ s1 fun l s2 => wE hi ρ s2 fun h s3 => wO (partD l) fun l' => wO (partD h) fun h' => wO (slcD (deref s3 x) l' h') fun z => Q z s3
  | .nop, _, s, Q => Q .nop s
  | .call x es, ρ, s, Q => wEs es ρ s fun ds s1 => Wp (C x ds s1) Q
  | .bi b es, ρ, s, Q => wEs es ρ s fun ds s1 => wO (biD b (ds.map (deref s1))) fun z => Q z s1
  | .meth .append o es, ρ, s, Q => wE o ρ s fun x s1 => wO (isLst s1 x) fun _ => wEs es ρ s1 fun ds s2 => match x, ds with
    | .ref m, [y] => wO (s2[m]?) fun o => match o with
      | .lst l => l.length < LINE ∧ Q .non (s2.set m (.lst (l ++ [y])))
      | _ => False
    | _, _ => False
  | .rng es, ρ, s, Q => wEs es ρ s fun ds s1 => WO (rngD ds) fun l => Q (.scr l) s1
  | .lc elt tg it ifs own, ρ, s, Q => Wp (ev C G F (.lc elt tg it ifs own) ρ s) Q
  | .lcd elt tg it ifs own, ρ, s, Q => Wp (ev C G F (.lcd elt tg it ifs own) ρ s) Q
def wEs : MEs → Env → Store → (List D → Store → Prop) → Prop
  | .nil, _, s, Q => Q [] s
  | .cons e r, ρ, s, Q => wE e ρ s fun d s1 => wEs r ρ s1 fun ds s2 => Q (d :: ds) s2
def wAnd : MEs → Env → Store → (D → Store → Prop) → Prop
  | .nil, _, _, _ => False
  | .cons e r, ρ, s, Q => match r with
    | .nil => wE e ρ s Q
    | .cons .. => wE e ρ s fun x s1 => wO (truth s1 x) fun k => wB k (wAnd r ρ s1 Q) (Q x s1)
def wOr : MEs → Env → Store → (D → Store → Prop) → Prop
  | .nil, _, _, _ => False
  | .cons e r, ρ, s, Q => match r with
    | .nil => wE e ρ s Q
    | .cons .. => wE e ρ s fun x s1 => wO (truth s1 x) fun k => wB k (Q x s1) (wOr r ρ s1 Q)
end
def wTs : MEs → Env → Store → (Bool → Store → Prop) → Prop
  | .nil, _, s, Q => Q true s
  | .cons e r, ρ, s, Q => wE C G F e ρ s fun x s1 => wO (truth s1 x) fun k => wB k (wTs r ρ s1 Q) (Q false s1)
end
section
variable {C : Str → List D → Store → R D} {G : Str → Option D} {F : Nat}
theorem wB_ok {k : Bool} {α : Type} {r r' : R α} {A B : Prop} {Q : α → Store → Prop} (h : wB k A B) (ha : A → Wp r Q) (hb : B → Wp r' Q) : Wp (match k with | true => r | false => r') Q := by
  cases k
  · exact hb h
  · exact ha h
theorem wO_imp {α : Type} {o : Option α} {Q Q' : α → Prop} (h : wO o Q) (f : ∀ a, Q a → Q' a) : wO o Q' := by
  cases o with
  | none => cases h
  | some a => exact f a h
mutual
theorem wE_ok : ∀ (e : ME) (ρ : Env) (s : Store) (Q : D → Store → Prop), wE C G F e ρ s Q → Wp (ev C G F e ρ s) Q
  | .bad, _, _, _, h => by unfold wE at h; cases h
  | .slot i, ρ, s, Q, h => by
    unfold wE at h
    unfold ev
    cases e : ρ[i]? with
    | none => rw [e] at h; cases h
    | some o =>
      rw [e] at h
      cases o with
      | none => cases h
      | some d => exact .ok h
  | .cst d, _, s, Q, h => by unfold wE at h; unfold ev; exact .ok h
  | .glob x, _, s, Q, h => by unfold wE at h; unfold ev; exact wO_ok h
  | .bty t, _, s, Q, h => by unfold wE at h; unfold ev; exact .ok h
  | .tup es, ρ, s, Q, h => by
    unfold wE at h; unfold ev
    exact .bnd ((wEs_ok es ρ s _ h).imp fun _ _ z => .ok z)
  | .lst mu es, ρ, s, Q, h => by
    unfold wE at h; unfold ev
    refine .bnd ((wEs_ok es ρ s _ h).imp fun _ _ z => ?_)
    cases mu
    · exact .ok z
    · exact .ok z
  | .bin o a b, ρ, s, Q, h => by
    unfold wE at h; unfold ev
    exact .bnd ((wE_ok a ρ s _ h).imp fun _ _ h => .bnd ((wE_ok b ρ _ _ h).imp fun _ _ h => wO_ok h))
  | .neg a, ρ, s, Q, h => by
    unfold wE at h; unfold ev
    refine .bnd ((wE_ok a ρ s _ h).imp fun x _ h => ?_)
    cases x <;> first | exact .ok h | cases h
  | .cmp o a b, ρ, s, Q, h => by
    unfold wE at h; unfold ev
    exact .bnd ((wE_ok a ρ s _ h).imp fun _ _ h => .bnd ((wE_ok b ρ _ _ h).imp fun _ _ h => .bnd (wO_ok (wO_imp h fun _ z => .ok z))))
  | .chain o o' a b c, ρ, s, Q, h => by
    unfold wE at h; unfold ev
    refine .bnd ((wE_ok a ρ s _ h).imp fun _ _ h => .bnd ((wE_ok b ρ _ _ h).imp fun _ _ h => .bnd (wO_ok (wO_imp h fun k z => ?_))))
    cases k
    · exact .ok z
    · exact .bnd ((wE_ok c ρ _ _ z).imp fun _ _ h => .bnd (wO_ok (wO_imp h fun _ z => .ok z)))
  | .and_ es, ρ, s, Q, h => by unfold wE at h; unfold ev; exact wAnd_ok es ρ s Q h
  | .or_ es, ρ, s, Q, h => by unfold wE at h; unfold ev; exact wOr_ok es ρ s Q h
  | .not_ a, ρ, s, Q, h => by
    unfold wE at h; unfold ev
    exact .bnd ((wE_ok a ρ s _ h).imp fun _ _ h => .bnd (wO_ok (wO_imp h fun _ z => .ok z)))
  | .ife c a b, ρ, s, Q, h => by
    unfold wE at h; unfold ev
    refine .bnd ((wE_ok c ρ s _ h).imp fun _ _ h => .bnd (wO_ok (wO_imp h fun k z => ?_)))
    cases k
    · exact wE_ok b ρ _ Q z
    · exact wE_ok a ρ _ Q z
  | .ix a i, ρ, s, Q, h => by
    unfold wE at h; unfold ev
    exact .bnd ((wE_ok a ρ s _ h).imp fun _ _ h => .bnd ((wE_ok i ρ _ _ h).imp fun y _ h => wO_ok h))
  | .dnew t, ρ, s, Q, h => by unfold wE at h; unfold ev; exact .ok h
  | .dsing k v, ρ, s, Q, h => by
    unfold wE at h; unfold ev
    exact .bnd ((wE_ok k ρ s _ h).imp fun _ _ h => .bnd ((wE_ok v ρ _ _ h).imp fun y _ h => .bnd (wO_ok (wO_imp h fun _ z => .ok z))))
  | .dget o k, ρ, s, Q, h => by
    unfold wE at h; unfold ev
    exact .bnd ((wE_ok o ρ s _ h).imp fun _ _ h => .bnd (wO_ok (wO_imp h fun _ h => .bnd ((wE_ok k ρ _ _ h).imp fun y _ h => .bnd (wO_ok (wO_imp h fun _ z => .ok z))))))
  | .dget2 o k d, ρ, s, Q, h => by
    unfold wE at h; unfold ev
    exact .bnd ((wE_ok o ρ s _ h).imp fun _ _ h => .bnd (wO_ok (wO_imp h fun _ h => .bnd ((wE_ok k ρ _ _ h).imp fun y _ h => .bnd ((wE_ok d ρ _ _ h).imp fun z _ h => .bnd (wO_ok (wO_imp h fun _ z => .ok z)))))))
  | .ddisp es, ρ, s, Q, h => by
    unfold wE at h; unfold ev
    exact .bnd ((wEs_ok es ρ s _ h).imp fun _ _ h => .bnd (wO_ok (wO_imp h fun _ z => .ok z)))
  | .cget x l k, ρ, s, Q, h => by
    unfold wE at h; unfold ev
    exact .bnd ((wE_ok k ρ s _ h).imp fun _ _ h => .bnd (wO_ok (wO_imp h fun _ z => .ok z)))
  | .cin neg x l k, ρ, s, Q, h => by
    unfold wE at h; unfold ev
    exact .bnd ((wE_ok k ρ s _ h).imp fun _ _ h => .bnd (wO_ok (wO_imp h fun _ z => .ok z)))
  | .callv i es, ρ, s, Q, h => by
    unfold wE at h; unfold ev
    cases e : ρ[i]? with
    | none => rw [e] at h; cases h
    | some o =>
      rw [e] at h
      cases o with
      | none => cases h
      | some d =>
        cases d <;> first | (cases h; done) | skip
        exact .bnd ((wEs_ok es ρ s _ h).imp fun _ _ z => z)
  | .pm m o a, ρ, s, Q, h => by
    unfold wE at h; unfold ev
    exact .bnd ((wE_ok o ρ s _ h).imp fun _ _ h => .bnd (wO_ok (wO_imp h fun _ h => .bnd ((wE_ok a ρ _ _ h).imp fun y _ h => wO_ok h))))
  | .mxd a b, ρ, s, Q, h => by
    unfold wE at h; unfold ev
    exact .bnd ((wE_ok a ρ s _ h).imp fun _ _ h => .bnd ((wE_ok b ρ _ _ h).imp fun _ _ h => wO_ok h))
  | .itf b es, ρ, s, Q, h => by
    unfold wE at h; unfold ev
    exact .bnd ((wEs_ok es ρ s _ h).imp fun _ _ h => .bnd (wO_ok (h.imp fun _ z => .ok z)))
  | .slc a lo hi, ρ, s, Q, h => by
    unfold wE at h; unfold ev
    refine .bnd ((wE_ok a ρ s _ h).imp fun _ _ h => .bnd ((wE_ok lo ρ _ _ h).imp fun l _ h => .bnd ((wE_ok hi ρ _ _ h).imp fun r _ h => ?_)))
    cases el : partD l with
    | none => rw [el] at h; cases h
    | some l' =>
      rw [el] at h
      cases er : partD r with
      | none =>
        have h : wO (partD r) _ := h
        rw [er] at h; cases h
      | some r' =>
        have h : wO (partD r) _ := h
        rw [er] at h
        exact wO_ok h
  | .nop, _, s, Q, h => by unfold wE at h; unfold ev; exact .ok h
  | .call x es, ρ, s, Q, h => by
    unfold wE at h; unfold ev
    exact .bnd ((wEs_ok es ρ s _ h).imp fun _ _ z => z)
  | .bi b es, ρ, s, Q, h => by
    unfold wE at h; unfold ev
    exact .bnd ((wEs_ok es ρ s _ h).imp fun _ _ z => wO_ok z)
  | .meth .append o es, ρ, s, Q, h => by
    unfold wE at h; unfold ev
    refine .bnd ((wE_ok o ρ s _ h).imp fun x _ h => .bnd (wO_ok (wO_imp h fun _ h => .bnd ((wEs_ok es ρ _ _ h).imp fun ds s2 h => ?_))))
    split at h
    · rename_i m y _ _
      cases e : s2[m]? with
      | none => rw [e] at h; cases h
      | some o =>
        rw [e] at h
        cases o with
        | lst l =>
          obtain ⟨h1, h2⟩ := (show l.length < LINE ∧ _ from h)
          first
            | (show Wp (match s2[m]? with | some (.lst l) => if l.length < LINE then R.ok D.non (s2.set m (.lst (l ++ [y]))) else R.bad | _ => R.bad) Q
               rw [e])
            | skip
          show Wp (if l.length < LINE then R.ok D.non (s2.set m (.lst (l ++ [y]))) else R.bad) Q
          rw [if_pos h1]
          exact .ok h2
        | dk l => cases h
        | dt l => cases h
        | lkd => cases h
    · cases h
  | .rng es, ρ, s, Q, h => by
    unfold wE at h; unfold ev
    exact .bnd ((wEs_ok es ρ s _ h).imp fun _ _ h => .bnd (wO_ok (h.imp fun _ z => .ok z)))
  | .lc elt tg it ifs own, ρ, s, Q, h => by unfold wE at h; exact h
  | .lcd elt tg it ifs own, ρ, s, Q, h => by unfold wE at h; exact h
theorem wEs_ok : ∀ (es : MEs) (ρ : Env) (s : Store) (Q : List D → Store → Prop), wEs C G F es ρ s Q → Wp (evs C G F es ρ s) Q
  | .nil, ρ, s, Q, h => by unfold wEs at h; unfold evs; exact .ok h
  | .cons e r, ρ, s, Q, h => by
    unfold wEs at h; unfold evs
    exact .bnd ((wE_ok e ρ s _ h).imp fun _ _ h => .bnd ((wEs_ok r ρ _ _ h).imp fun _ _ z => .ok z))
theorem wAnd_ok : ∀ (es : MEs) (ρ : Env) (s : Store) (Q : D → Store → Prop), wAnd C G F es ρ s Q → Wp (evAnd C G F es ρ s) Q
  | .nil, ρ, s, Q, h => by unfold wAnd at h; cases h
  | .cons e .nil, ρ, s, Q, h => by unfold wAnd at h; unfold evAnd; exact wE_ok e ρ s Q h
  | .cons e (.cons e2 r), ρ, s, Q, h => by
    unfold wAnd at h; unfold evAnd
    refine .bnd ((wE_ok e ρ s _ h).imp fun x _ h => .bnd (wO_ok (wO_imp h fun k z => ?_)))
    cases k
    · exact .ok z
    · exact wAnd_ok (.cons e2 r) ρ _ Q z
theorem wOr_ok : ∀ (es : MEs) (ρ : Env) (s : Store) (Q : D → Store → Prop), wOr C G F es ρ s Q → Wp (evOr C G F es ρ s) Q
  | .nil, ρ, s, Q, h => by unfold wOr at h; cases h
  | .cons e .nil, ρ, s, Q, h => by unfold wOr at h; unfold evOr; exact wE_ok e ρ s Q h
  | .cons e (.cons e2 r), ρ, s, Q, h => by
    unfold wOr at h; unfold evOr
    refine .bnd ((wE_ok e ρ s _ h).imp fun x _ h => .bnd (wO_ok (wO_imp h fun k z => ?_)))
    cases k
    · exact wOr_ok (.cons e2 r) ρ _ Q z
    · exact .ok z
end
theorem wTs_ok : ∀ (es : MEs) (ρ : Env) (s : Store) (Q : Bool → Store → Prop), wTs C G F es ρ s Q → Wp (evTs C G F es ρ s) Q
  | .nil, ρ, s, Q, h => by unfold wTs at h; unfold evTs; exact .ok h
  | .cons e r, ρ, s, Q, h => by
    unfold wTs at h; unfold evTs
    refine .bnd ((wE_ok e ρ s _ h).imp fun x _ h => .bnd (wO_ok (wO_imp h fun k z => ?_)))
    cases k
    · exact .ok z
    · exact wTs_ok r ρ _ Q z
end
section
variable (C : Str → List D → Store → R D) (G : Str → Option D) (F : Nat)
def wMs : MTs → List D → Env → Store → (Env → Store → Prop) → Prop
  | .nil, [], ρ, s, Q => Q ρ s
  | .nm i r, d :: ds, ρ, s, Q => wMs r ds (ρ.set i (some d)) s Q
  | .ix o i r, d :: ds, ρ, s, Q => wE C G F o ρ s fun x s2 => wE C G F i ρ s2 fun k s3 => match x with
    | .ref m => wO ((s3[m]?).bind fun ob => putO ob k d) fun ob => wMs r ds ρ (s3.set m ob) Q
    | _ => False
  | _, _, _, _, _ => False
mutual
def wS : MSt → Env → Store → (Out → Store → Prop) → Prop
  | .bad, _, _, _ => False
  | .asg t e, ρ, s, Q => wE C G F e ρ s fun d s1 => wO (asgT s1 t d ρ) fun ρ' => Q (.nx ρ') s1
  | .par is es, ρ, s, Q => wEs C G F es ρ s fun ds s1 => ds.length = is.length ∧ Q (.nx (putN ρ is ds)) s1
  | .asgM ts e, ρ, s, Q => wE C G F e ρ s fun d s1 => match d with
    | .tup ds => ds.length = ts.len ∧ wMs C G F ts ds ρ s1 fun ρ' s2 => Q (.nx ρ') s2
    | _ => False
  | .asgIx o i e, ρ, s, Q => wE C G F e ρ s fun v s1 => wE C G F o ρ s1 fun x s2 => wE C G F i ρ s2 fun k s3 => match x with
    | .ref m => wO ((s3[m]?).bind fun ob => putO ob k v) fun ob => Q (.nx ρ) (s3.set m ob)
    | _ => False
  | .aug i o e, ρ, s, Q => wO (ρ[i]?) fun ox => wO ox fun x => wE C G F e ρ s fun y s1 => wO (augD o x y) fun z => Q (.nx (ρ.set i (some z))) s1
  | .expr e, ρ, s, Q => wE C G F e ρ s fun _ s1 => Q (.nx ρ) s1
  | .ret e, ρ, s, Q => wE C G F e ρ s fun d s1 => Q (.rt d) s1
  | .retN, _, s, Q => Q (.rt .non) s
  | .ife c a b, ρ, s, Q => wE C G F c ρ s fun x s1 => wO (truth s1 x) fun k => wB k (wSs a ρ s1 Q) (wSs b ρ s1 Q)
  | .fr t it b, ρ, s, Q => wE C G F it ρ s fun di s0 => wO (iterD s0 di) fun is => match is with
    | .snap l => Wp (forSnap (fun ρ s => exs C G F b ρ s) t l ρ s0) Q
    | .live m => Wp (forLive (fun ρ s => exs C G F b ρ s) t m F 0 ρ s0) Q
  | .wh c b, ρ, s, Q => Wp (whileF (fun ρ s => ev C G F c ρ s) (fun ρ s => exs C G F b ρ s) F ρ s) Q
  | .bk, ρ, s, Q => Q (.bk ρ) s
  | .ct, ρ, s, Q => Q (.ct ρ) s
  | .ps, ρ, s, Q => Q (.nx ρ) s
def wSs : MSts → Env → Store → (Out → Store → Prop) → Prop
  | .nil, ρ, s, Q => Q (.nx ρ) s
  | .cons e r, ρ, s, Q => wS e ρ s fun o s1 => match o with
    | .nx ρ' => wSs r ρ' s1 Q
    | o => Q o s1
end
end
section
variable {C : Str → List D → Store → R D} {G : Str → Option D} {F : Nat}
theorem wMs_ok : ∀ (ts : MTs) (ds : List D) (ρ : Env) (s : Store) (Q : Env → Store → Prop), wMs C G F ts ds ρ s Q → Wp (asgMs C G F ts ds ρ s) Q
  | .nil, [], ρ, s, Q, h => .ok h
  | .nil, _ :: _, _, _, _, h => by cases h
  | .nm i r, [], _, _, _, h => by cases h
  | .nm i r, d :: ds, ρ, s, Q, h => wMs_ok r ds _ s Q h
  | .ix o i r, [], _, _, _, h => by cases h
  | .ix o i r, d :: ds, ρ, s, Q, h => by
    unfold wMs at h; unfold asgMs
    refine .bnd ((wE_ok o ρ s _ h).imp fun x s2 h => .bnd ((wE_ok i ρ _ _ h).imp fun k s3 h => ?_))
    cases x <;> first | (cases h; done) | skip
    exact .bnd (wO_ok (wO_imp h fun _ z => wMs_ok r ds ρ _ Q z))
mutual
theorem wS_ok : ∀ (e : MSt) (ρ : Env) (s : Store) (Q : Out → Store → Prop), wS C G F e ρ s Q → Wp (ex C G F e ρ s) Q
  | .bad, _, _, _, h => by unfold wS at h; cases h
  | .asg t e, ρ, s, Q, h => by
    unfold wS at h; unfold ex
    refine .bnd ((wE_ok e ρ s _ h).imp fun d s1 h => ?_)
    cases el : asgT s1 t d ρ with
    | none => rw [el] at h; cases h
    | some ρ' => rw [el] at h; exact .ok h
  | .par is es, ρ, s, Q, h => by
    unfold wS at h; unfold ex
    refine .bnd ((wEs_ok es ρ s _ h).imp fun d s1 h => ?_)
    rw [if_pos h.1]
    exact .ok h.2
  | .asgM ts e, ρ, s, Q, h => by
    unfold wS at h; unfold ex
    refine .bnd ((wE_ok e ρ s _ h).imp fun d s1 h => ?_)
    cases d <;> first | (cases h; done) | skip
    rename_i ds
    obtain ⟨h1, h2⟩ := (show ds.length = ts.len ∧ _ from h)
    show Wp (if ds.length = ts.len then _ else _) Q
    rw [if_pos h1]
    exact .bnd ((wMs_ok ts _ ρ _ _ h2).imp fun _ _ z => .ok z)
  | .asgIx o i e, ρ, s, Q, h => by
    unfold wS at h; unfold ex
    refine .bnd ((wE_ok e ρ s _ h).imp fun v s1 h => .bnd ((wE_ok o ρ _ _ h).imp fun x s2 h => .bnd ((wE_ok i ρ _ _ h).imp fun k s3 h => ?_)))
    cases x <;> first | (cases h; done) | skip
    exact .bnd (wO_ok (wO_imp h fun _ z => .ok z))
  | .aug i o e, ρ, s, Q, h => by
    unfold wS at h; unfold ex
    cases el : ρ[i]? with
    | none => rw [el] at h; cases h
    | some ox =>
      rw [el] at h
      cases ox with
      | none => cases h
      | some x =>
        refine .bnd ((wE_ok e ρ s _ h).imp fun d s1 h => .bnd (wO_ok (wO_imp h fun _ z => .ok z)))
  | .expr e, ρ, s, Q, h => by
    unfold wS at h; unfold ex
    exact .bnd ((wE_ok e ρ s _ h).imp fun d s1 h => .ok h)
  | .ret e, ρ, s, Q, h => by
    unfold wS at h; unfold ex
    exact .bnd ((wE_ok e ρ s _ h).imp fun d s1 h => .ok h)
  | .retN, ρ, s, Q, h => by unfold wS at h; unfold ex; exact .ok h
  | .ife c a b, ρ, s, Q, h => by
    unfold wS at h; unfold ex
    refine .bnd ((wE_ok c ρ s _ h).imp fun _ _ h => .bnd (wO_ok (wO_imp h fun k z => ?_)))
    cases k
    · exact wSs_ok b ρ _ Q z
    · exact wSs_ok a ρ _ Q z
  | .fr t it b, ρ, s, Q, h => by
    unfold wS at h; unfold ex
    refine .bnd ((wE_ok it ρ s _ h).imp fun _ _ h => .bnd (wO_ok (wO_imp h fun k z => ?_)))
    cases k
    · exact z
    · exact z
  | .wh c b, ρ, s, Q, h => by unfold wS at h; unfold ex; exact h
  | .bk, ρ, s, Q, h => by unfold wS at h; unfold ex; exact .ok h
  | .ct, ρ, s, Q, h => by unfold wS at h; unfold ex; exact .ok h
  | .ps, ρ, s, Q, h => by unfold wS at h; unfold ex; exact .ok h
theorem wSs_ok : ∀ (e : MSts) (ρ : Env) (s : Store) (Q : Out → Store → Prop), wSs C G F e ρ s Q → Wp (exs C G F e ρ s) Q
  | .nil, ρ, s, Q, h => by unfold wSs at h; unfold exs; exact .ok h
  | .cons e r, ρ, s, Q, h => by
    unfold wSs at h; unfold exs
    refine .bnd ((wS_ok e ρ s _ h).imp fun o s1 h => ?_)
    cases o
    · exact wSs_ok r _ _ Q h
    · exact .ok h
    · exact .ok h
    · exact .ok h
end
/-! ### loops -/
/-- behind a turn -/
def turnQ (I : Env → Store → Prop) (Q : Out → Store → Prop) (o : Out) (s : Store) : Prop := match o with
  | .nx ρ => I ρ s
  | .ct ρ => I ρ s
  | .bk ρ => Q (.nx ρ) s
  | .rt d => Q (.rt d) s
theorem for_inv (I : Nat → Env → Store → Prop) {b : MSts} {t : TGT} {l : List D} {ρ : Env} {s : Store} {Q : Out → Store → Prop} (h0 : I 0 ρ s)
    (step : ∀ i d ρ s, l[i]? = some d → I i ρ s → wO (asgT s t d ρ) fun ρ1 => wSs C G F b ρ1 s (turnQ (I (i + 1)) Q))
    (fin : ∀ ρ s, I l.length ρ s → Q (.nx ρ) s) : Wp (forSnap (fun ρ s => exs C G F b ρ s) t l ρ s) Q := by
  have key : ∀ (r : List D) (i : Nat) (ρ : Env) (s : Store), l.drop i = r → i + r.length = l.length → I i ρ s → Wp (forSnap (fun ρ s => exs C G F b ρ s) t r ρ s) Q := by
    intro r
    induction r with
    | nil =>
      intro i ρ s hd hl hi
      refine .ok (fin ρ s ?_)
      rw [show l.length = i by simpa using hl.symm]
      exact hi
    | cons d r ih =>
      intro i ρ s hd hl hi
      have hx : l[i]? = some d := by
        have := congrArg (·[0]?) hd
        simpa using this
      have hd2 : l.drop (i + 1) = r := by
        rw [← List.drop_drop, hd]
        rfl
      have q := step i d ρ s hx hi
      unfold forSnap
      cases ea : asgT s t d ρ with
      | none => rw [ea] at q; cases q
      | some ρ1 =>
        rw [ea] at q
        refine .bnd ((wSs_ok _ _ _ _ q).imp fun o s1 z => ?_)
        cases o with
        | nx ρ2 => exact ih (i + 1) ρ2 s1 hd2 (by simp at hl ⊢; omega) z
        | ct ρ2 => exact ih (i + 1) ρ2 s1 hd2 (by simp at hl ⊢; omega) z
        | bk ρ2 => exact .ok z
        | rt d => exact .ok z
  exact key l 0 ρ s rfl (by simp) h0
/-- one turn of a comprehension -/
def wTurn (C : Str → List D → Store → R D) (G : Str → Option D) (F : Nat) (elt : ME) (tg : TGT) (ifs : MEs) (own : List Nat) (ρ : Env) (d : D) (s : Store) (Q : Option D → Store → Prop) : Prop :=
  wO (asgT s tg d (wipeE ρ own)) fun ρ' => wTs C G F ifs ρ' s fun k s3 => wB k (wE C G F elt ρ' s3 fun y s4 => Q (some y) s4) (Q none s3)
theorem lcSnap_wp (I : Nat → List D → Store → Prop) {f : D → Store → R (Option D)} {l : List D} {s : Store} {Q : List D → Store → Prop} (h0 : I 0 [] s)
    (step : ∀ i d ys s, l[i]? = some d → I i ys s → Wp (f d s) fun o s1 => I (i + 1) (ys ++ o.toList) s1)
    (fin : ∀ ys s, I l.length ys s → Q ys s) : Wp (lcSnap f l s) Q := by
  have key : ∀ (r : List D) (i : Nat) (ys : List D) (s : Store), l.drop i = r → i + r.length = l.length → I i ys s → Wp (lcSnap f r s) fun zs s1 => I l.length (ys ++ zs) s1 := by
    intro r
    induction r with
    | nil =>
      intro i ys s hd hl hi
      refine .ok ?_
      rw [show l.length = i by simpa using hl.symm, List.append_nil]
      exact hi
    | cons d r ih =>
      intro i ys s hd hl hi
      have hx : l[i]? = some d := by
        have := congrArg (·[0]?) hd
        simpa using this
      have hd2 : l.drop (i + 1) = r := by
        rw [← List.drop_drop, hd]
        rfl
      unfold lcSnap
      refine .bnd ((step i d ys s hx hi).imp fun o s1 z => .bnd ((ih (i + 1) _ s1 hd2 (by simp at hl ⊢; omega) z).imp fun zs s2 z => ?_))
      cases o with
      | none => exact .ok (by simpa using z)
      | some y => exact .ok (by simpa using z)
  exact (key l 0 [] s rfl (by simp) h0).imp fun zs s1 z => fin _ _ (by simpa using z)
theorem lcI_wp (I : Nat → List D → Store → Prop) {elt it : ME} {tg : TGT} {ifs : MEs} {own : List Nat} {ρ : Env} {s : Store} {Q : D → Store → Prop}
    (h : wE C G F it ρ s fun di s0 => ∃ l, iterD s0 di = some (.snap l) ∧ I 0 [] s0 ∧ (∀ i d ys s, l[i]? = some d → I i ys s → wTurn C G F elt tg ifs own ρ d s fun o s1 => I (i + 1) (ys ++ o.toList) s1) ∧
      ∀ ys s, I l.length ys s → ys.length ≤ 16777216 ∧ Q (.lst ys) s) : Wp (ev C G F (.lc elt tg it ifs own) ρ s) Q := by
  unfold ev
  refine .bnd ((wE_ok _ _ _ _ h).imp fun di s0 ⟨l, el, h0, step, fin⟩ => ?_)
  rw [el]
  refine .bnd (.ok ?_)
  refine .bnd (lcSnap_wp I h0 (fun i d ys s hx hi => ?_) fun ys s z => ?_)
  · have q := step i d ys s hx hi
    unfold wTurn at q
    cases ea : asgT s tg d (wipeE ρ own) with
    | none => rw [ea] at q; cases q
    | some ρ1 =>
      rw [ea] at q
      refine .bnd ((wTs_ok _ _ _ _ q).imp fun k s1 z => ?_)
      cases k
      · exact .ok z
      · exact .bnd ((wE_ok _ _ _ _ z).imp fun y s2 z => .ok z)
  · obtain ⟨z1, z2⟩ := fin ys s z
    rw [if_pos z1]
    exact .ok z2
/-- a comprehension without change: what it gives is a row's filterMap -/
theorem lcP_wp (g : D → Option D) {elt it : ME} {tg : TGT} {ifs : MEs} {own : List Nat} {ρ : Env} {s : Store} {Q : D → Store → Prop}
    (h : wE C G F it ρ s fun di s0 => ∃ l, iterD s0 di = some (.snap l) ∧ l.length ≤ 16777216 ∧ (∀ d ∈ l, wTurn C G F elt tg ifs own ρ d s0 fun o s1 => s1 = s0 ∧ o = g d) ∧ Q (.lst (l.filterMap g)) s0) : Wp (ev C G F (.lc elt tg it ifs own) ρ s) Q := by
  unfold ev
  refine .bnd ((wE_ok _ _ _ _ h).imp fun di s0 ⟨l, el, hl, step, fin⟩ => ?_)
  rw [el]
  refine .bnd (.ok ?_)
  have key : ∀ (r : List D), (∀ d ∈ r, wTurn C G F elt tg ifs own ρ d s0 fun o s1 => s1 = s0 ∧ o = g d) →
      lcSnap (fun d s2 => match asgT s2 tg d (wipeE ρ own) with
        | none => .bad
        | some ρ' => (evTs C G F ifs ρ' s2).bnd fun k s3 => match k with
          | false => .ok none s3
          | true => (ev C G F elt ρ' s3).bnd fun y s4 => .ok (some y) s4) r s0 = .ok (r.filterMap g) s0 := by
    intro r
    induction r with
    | nil => intro _; rfl
    | cons d r ih =>
      intro st
      have q := st d List.mem_cons_self
      have w : Wp (match asgT s0 tg d (wipeE ρ own) with
        | none => .bad
        | some ρ' => (evTs C G F ifs ρ' s0).bnd fun k s3 => match k with
          | false => .ok none s3
          | true => (ev C G F elt ρ' s3).bnd fun y s4 => .ok (some y) s4) fun o s1 => s1 = s0 ∧ o = g d := by
        unfold wTurn at q
        cases ea : asgT s0 tg d (wipeE ρ own) with
        | none => rw [ea] at q; cases q
        | some ρ1 =>
          rw [ea] at q
          refine .bnd ((wTs_ok _ _ _ _ q).imp fun k s1 z => ?_)
          cases k
          · exact .ok z
          · exact .bnd ((wE_ok _ _ _ _ z).imp fun y s2 z => .ok z)
      obtain ⟨o, s1, e1, rfl, rfl⟩ := w
      unfold lcSnap
      rw [e1]
      show ((lcSnap _ r _).bnd _) = _
      rw [ih fun d hd => st d (List.mem_cons_of_mem _ hd)]
      cases hg : g d <;> simp [R.bnd, List.filterMap_cons, hg]
  refine .bnd ⟨_, _, key l step, ?_⟩
  rw [if_pos (Nat.le_trans (List.length_filterMap_le _ _) hl)]
  exact .ok fin
/-- a comprehension over a dict's keys, without change -/
theorem lcdP_wp (g : D → Option D) {elt it : ME} {tg : TGT} {ifs : MEs} {own : List Nat} {ρ : Env} {s : Store} {m : Nat} {ob : MO} {keys : List D} {Q : D → Store → Prop} (hk : keysOf s m = some (ob, keys)) (h1 : wE C G F it ρ s fun di _ => di = .ref m)
    (h2 : wE C G F it ρ (s.set m .lkd) fun di s1 => di = .ref m ∧ s1 = s.set m .lkd) (hl : keys.length ≤ 16777216) (step : ∀ d ∈ keys, wTurn C G F elt tg ifs own ρ d (s.set m .lkd) fun o s1 => s1 = s.set m .lkd ∧ o = g d) (fin : Q (.lst (keys.filterMap g)) s) :
    Wp (ev C G F (.lcd elt tg it ifs own) ρ s) Q := by
  unfold ev
  refine .bnd ((wE_ok _ _ _ _ h1).imp fun di _ z => ?_)
  subst z
  simp only [hk]
  refine .bnd (.ok (.bnd ((wE_ok _ _ _ _ h2).imp fun di s1 z => ?_)))
  obtain ⟨rfl, rfl⟩ := z
  simp only [if_pos]
  generalize hL : s.set m .lkd = sL at step ⊢
  have key : ∀ (r : List D), (∀ d ∈ r, wTurn C G F elt tg ifs own ρ d sL fun o s1 => s1 = sL ∧ o = g d) →
      lcSnap (fun d s2 => match asgT s2 tg d (wipeE ρ own) with
        | none => .bad
        | some ρ' => (evTs C G F ifs ρ' s2).bnd fun k s3 => match k with
          | false => .ok none s3
          | true => (ev C G F elt ρ' s3).bnd fun y s4 => .ok (some y) s4) r sL = .ok (r.filterMap g) sL := by
    intro r
    induction r with
    | nil => intro _; rfl
    | cons d r ih =>
      intro st
      have q := st d List.mem_cons_self
      have w : Wp (match asgT sL tg d (wipeE ρ own) with
        | none => .bad
        | some ρ' => (evTs C G F ifs ρ' sL).bnd fun k s3 => match k with
          | false => .ok none s3
          | true => (ev C G F elt ρ' s3).bnd fun y s4 => .ok (some y) s4) fun o s1 => s1 = sL ∧ o = g d := by
        unfold wTurn at q
        cases ea : asgT sL tg d (wipeE ρ own) with
        | none => rw [ea] at q; cases q
        | some ρ1 =>
          rw [ea] at q
          refine .bnd ((wTs_ok _ _ _ _ q).imp fun k s1 z => ?_)
          cases k
          · exact .ok z
          · exact .bnd ((wE_ok _ _ _ _ z).imp fun y s2 z => .ok z)
      obtain ⟨o, s1, e1, rfl, rfl⟩ := w
      unfold lcSnap
      rw [e1]
      show ((lcSnap _ r _).bnd _) = _
      rw [ih fun d hd => st d (List.mem_cons_of_mem _ hd)]
      cases hg : g d <;> simp [R.bnd, List.filterMap_cons, hg]
  refine .bnd ⟨_, _, key keys step, ?_⟩
  have hm : m < s.length := by
    unfold keysOf at hk
    cases e : s[m]? with
    | none => rw [e] at hk; cases hk
    | some o => exact (List.getElem?_eq_some_iff.mp e).1
  have hob : s[m]? = some ob := by
    unfold keysOf at hk
    cases e : s[m]? with
    | none => rw [e] at hk; cases hk
    | some o =>
      rw [e] at hk
      cases o with
      | lst l => cases hk
      | lkd => cases hk
      | dk l => simp only at hk; split at hk <;> cases hk; rfl
      | dt l => simp only at hk; split at hk <;> cases hk; rfl
  subst hL
  rw [List.getElem?_set_self hm]
  simp only
  rw [if_pos (Nat.le_trans (List.length_filterMap_le _ _) hl), List.set_set]
  have : s.set m ob = s := List.ext_getElem? fun j => by
    by_cases hj : m = j
    · subst hj; rw [List.getElem?_set_self hm, hob]
    · rw [List.getElem?_set_ne hj]
  rw [this]
  exact .ok fin
end
/-! ### calls -/
theorem call_wp {T : Str → Option MFn} {G : Str → Option D} {F n : Nat} {x : Str} {ds : List D} {s : Store} {f : MFn} {Q : D → Store → Prop} (hT : T x = some f) (hn : ds.length = f.np) (hd : f.drop = false)
    (h : wSs (mcall T G F n) G F f.body (ds.map some ++ List.replicate (f.ns - f.np) none) s fun o s1 => match o with
      | .rt d => Q d s1
      | .nx _ => Q .non s1
      | _ => False) : Wp (mcall T G F (n + 1) x ds s) Q := by
  unfold mcall
  rw [hT]
  show Wp (if ds.length = f.np then _ else _) Q
  rw [if_pos hn]
  refine .bnd ((wSs_ok _ _ _ _ h).imp fun o s1 z => ?_)
  cases o with
  | rt d => refine .bnd (.ok ?_); rw [hd]; exact .ok z
  | nx ρ => refine .bnd (.ok ?_); rw [hd]; exact .ok z
  | bk ρ => cases z
  | ct ρ => cases z
theorem callD_wp {T : Str → Option MFn} {G : Str → Option D} {F n : Nat} {x : Str} {ds : List D} {s : Store} {f : MFn} {Q : D → Store → Prop} (hT : T x = some f) (hn : ds.length = f.np) (hd : f.drop = true)
    (h : wSs (mcall T G F n) G F f.body (ds.map some ++ List.replicate (f.ns - f.np) none) s fun o s1 => wO (match o with
      | .rt d => some d
      | .nx _ => some .non
      | _ => none) fun d => below s.length d = true ∧ (s1.take s.length).all (belowO s.length) = true ∧ Q d (s1.take s.length)) : Wp (mcall T G F (n + 1) x ds s) Q := by
  unfold mcall
  rw [hT]
  show Wp (if ds.length = f.np then _ else _) Q
  rw [if_pos hn]
  refine .bnd ((wSs_ok _ _ _ _ h).imp fun o s1 z => .bnd (wO_ok (wO_imp z fun d z => ?_)))
  rw [hd]
  obtain ⟨z1, z2, z3⟩ := z
  rw [if_pos rfl, z1, z2]
  exact .ok z3
end Rf

set_option Elab.async false
set_option linter.all false
set_option maxRecDepth 100000
/-! Rf18: small rules of the backward reading. -/
namespace Rf
open PySem PySem.Spec PyProof.Rows L2
theorem wD_by {p : Prop} [Decidable p] {A B : Prop} (h1 : p → A) (h2 : ¬p → B) : wB (decide p) A B := by
  by_cases h : p
  · rw [decide_eq_true h]; exact h1 h
  · rw [decide_eq_false h]; exact h2 h
theorem wN_by {p : Prop} [Decidable p] {A B : Prop} (h1 : ¬p → A) (h2 : p → B) : wB (!decide p) A B := by
  by_cases h : p
  · rw [decide_eq_true h]; exact h2 h
  · rw [decide_eq_false h]; exact h1 h
theorem wB_by {k : Bool} {A B : Prop} (h1 : k = true → A) (h2 : k = false → B) : wB k A B := by
  cases k
  · exact h2 rfl
  · exact h1 rfl
theorem wO_if {α : Type} {c : Prop} [Decidable c] {o o' : Option α} {Q : α → Prop} (hc : c) (h : wO o Q) : wO (if c then o else o') Q := by
  rw [if_pos hc]; exact h
theorem wO_eq {α : Type} {o : Option α} {a : α} {Q : α → Prop} (e : o = some a) (h : Q a) : wO o Q := by
  rw [e]; exact h
theorem bits_nat {a : Nat} {k : Nat} (h : a < 2 ^ k) (hk : 0 < k) : a.log2 + 1 ≤ k := by
  cases Nat.eq_zero_or_pos a with
  | inl e => subst e; simp; omega
  | inr p =>
    have := (Nat.log2_lt (by omega)).mpr h
    omega
theorem bits_lt {i : Int} {k : Nat} (h0 : 0 ≤ i) (h : i < (2 : Int) ^ k) (hk : 0 < k) : bitsI i ≤ k := by
  unfold bitsI
  refine bits_nat ?_ hk
  have : ((i.natAbs : Nat) : Int) < ((2 ^ k : Nat) : Int) := by
    rw [Int.natAbs_of_nonneg h0]
    simpa using h
  exact Int.ofNat_lt.mp this
theorem mul_ok {i j : Int} {Q : D → Prop} {p q : Nat} (hi : bitsI i ≤ p) (hj : bitsI j ≤ q) (h : p + q ≤ 100000000) (hq : Q (.int (i * j))) : wO (binD .Mult (.int i) (.int j)) Q :=
  wO_if (c := bitsI i + bitsI j ≤ 100000000) (by omega) hq
theorem div_ok {i j : Int} {Q : D → Prop} (h0 : 0 < j) (h1 : j < 18446744073709551616) (hq : Q (.int (i / j))) : wO (binD .FloorDiv (.int i) (.int j)) Q := wO_if ⟨h0, h1⟩ hq
theorem mod_ok {i j : Int} {Q : D → Prop} (h0 : 0 < j) (hq : Q (.int (i % j))) : wO (binD .Mod (.int i) (.int j)) Q := wO_if h0 hq
theorem addL_ok {a b : List D} {Q : D → Prop} (h : a.length + b.length ≤ 16777216) (hq : Q (.lst (a ++ b))) : wO (binD .Add (.lst a) (.lst b)) Q := wO_if (c := a.length + b.length ≤ LINE) h hq
theorem addT_ok {a b : List D} {Q : D → Prop} (h : a.length + b.length ≤ 16777216) (hq : Q (.tup (a ++ b))) : wO (binD .Add (.tup a) (.tup b)) Q := wO_if (c := a.length + b.length ≤ LINE) h hq
theorem ixL_ok {l : List D} {i : Int} {d : D} {Q : D → Prop} (h : atI l i = some d) (hq : Q d) : wO (ixD (.lst l) i) Q := wO_eq (o := atI l i) h hq
theorem ixT_ok {l : List D} {i : Int} {d : D} {Q : D → Prop} (h : atI l i = some d) (hq : Q d) : wO (ixD (.tup l) i) Q := wO_eq (o := atI l i) h hq
theorem atI_nat {α : Type} {l : List α} {i : Nat} {x : α} (h : l[i]? = some x) : atI l (i : Int) = some x := by
  have hi := (List.getElem?_eq_some_iff.mp h).1
  unfold atI ixN
  rw [if_pos (by omega), if_pos (by omega)]
  simpa using h
theorem atI_ex {α : Type} {l : List α} {i : Int} (h0 : 0 ≤ i) (h1 : i < l.length) : ∃ x, atI l i = some x ∧ l[i.toNat]? = some x ∧ x ∈ l := by
  have hx : i.toNat < l.length := by omega
  refine ⟨l[i.toNat], ?_, List.getElem?_eq_getElem hx, List.getElem_mem hx⟩
  have := atI_nat (List.getElem?_eq_getElem hx)
  rw [Int.toNat_of_nonneg h0] at this
  exact this
theorem bits_abs (z : Int) : bitsI (if z < 0 then -z else z) = bitsI z := by
  unfold bitsI
  split
  · rw [Int.natAbs_neg]
  · rfl
theorem abs_nn (z : Int) : 0 ≤ (if z < 0 then -z else z) := by
  split <;> omega
theorem head_of {ns : List Int} {k : Nat} (hb : ∀ z ∈ ns, Builtin.Int.intBits z ≤ k) (hk : 0 < k) : ∃ z, atI (ns.map D.int ++ [D.int 0]) 0 = some (.int z) ∧ bitsI z ≤ k := by
  cases ns with
  | nil => exact ⟨0, rfl, hk⟩
  | cons z ns =>
    refine ⟨z, atI_nat (i := 0) rfl, ?_⟩
    have := hb z List.mem_cons_self
    unfold Builtin.Int.intBits at this
    unfold bitsI
    split at this
    · rename_i e
      have e := beq_iff_eq.mp e
      subst e
      exact hk
    · exact this
theorem rng1_ok {j : Int} {Q : List D → Prop} (h0 : -4611686018427387904 ≤ j) (h1 : j < 4611686018427387904) (hq : Q ((List.range j.toNat).map fun (k : Nat) => .int (0 + (k : Int)))) : WO (rngD [.int j]) Q := ⟨_, if_pos (c := -(2 ^ 62) ≤ j ∧ j < 2 ^ 62) ⟨h0, h1⟩, hq⟩
theorem rng2_ok {i j : Int} {Q : List D → Prop} (h0 : -4611686018427387904 ≤ i) (h1 : i < 4611686018427387904) (h2 : -4611686018427387904 ≤ j) (h3 : j < 4611686018427387904) (hq : Q ((List.range (j - i).toNat).map fun (k : Nat) => .int (i + (k : Int)))) : WO (rngD [.int i, .int j]) Q := ⟨_, if_pos (c := (-(2 ^ 62) ≤ i ∧ i < 2 ^ 62) ∧ (-(2 ^ 62) ≤ j ∧ j < 2 ^ 62)) ⟨⟨h0, h1⟩, ⟨h2, h3⟩⟩, hq⟩
section
variable {C : Str → List D → Store → R D} {G : Str → Option D} {F : Nat}
theorem for_rng (I : Nat → Env → Store → Prop) {n : Nat} {a : Int} {b : MSts} {t : TGT} {ρ : Env} {s : Store} {Q : Out → Store → Prop} (h0 : I 0 ρ s)
    (step : ∀ i ρ s, i < n → I i ρ s → wO (asgT s t (.int (a + (i : Int))) ρ) fun ρ1 => wSs C G F b ρ1 s (turnQ (I (i + 1)) Q))
    (fin : ∀ ρ s, I n ρ s → Q (.nx ρ) s) : Wp (forSnap (fun ρ s => exs C G F b ρ s) t ((List.range n).map fun (k : Nat) => .int (a + (k : Int))) ρ s) Q := by
  refine for_inv I h0 (fun i d ρ s hx hi => ?_) fun ρ s z => ?_
  · have hn : i < n := by
      have := (List.getElem?_eq_some_iff.mp hx).1
      simpa using this
    have e : d = .int (a + (i : Int)) := by
      rw [List.getElem?_map, List.getElem?_range hn] at hx
      simpa using hx.symm
    subst e
    exact step i ρ s hn hi
  · simp only [List.length_map, List.length_range] at z
    exact fin ρ s z
end
theorem natsEq_refl : ∀ l : List Nat, natsEq l l = true
  | [] => rfl
  | x :: xs => by
    show (Nat.beq x x && natsEq xs xs) = true
    rw [Nat.beq_refl, natsEq_refl xs]
    rfl
theorem strEq_refl (x : Str) : strEq x x = true := natsEq_refl _
theorem allEq_refl {f : D → D → Bool} : ∀ l : List D, (∀ d ∈ l, f d d = true) → allEq f l l = true
  | [], _ => rfl
  | x :: xs, h => by
    show (f x x && allEq f xs xs) = true
    rw [h x List.mem_cons_self, allEq_refl xs fun d hd => h d (List.mem_cons_of_mem _ hd)]
    rfl
theorem eqF_refl : ∀ (n : Nat) (d : D), shp n d = true → eqF n d d = true
  | 0, _, h => by cases h
  | n + 1, d, h => by
    cases d <;> first | (cases h; done) | rfl | skip
    · simp [eqF]
    · simp [eqF]
    · exact strEq_refl _
    all_goals refine allEq_refl _ fun d hd => eqF_refl n d (List.all_eq_true.mp h d hd)
theorem shp_mono : ∀ (n : Nat) (d : D), shp n d = true → shp (n + 1) d = true
  | 0, _, h => by cases h
  | n + 1, d, h => by
    cases d <;> first | (cases h; done) | rfl | skip
    all_goals refine List.all_eq_true.mpr fun d hd => shp_mono n d (List.all_eq_true.mp h d hd)
theorem shp_le {n m : Nat} (hm : n ≤ m) {d : D} (h : shp n d = true) : shp m d = true := by
  induction hm with
  | refl => exact h
  | step _ ih => exact shp_mono _ _ ih
/-- a row of values that == looks through -/
def ShL (l : List D) : Prop := ∀ d ∈ l, shp 40 d = true
theorem ShL.nil : ShL [] := fun d hd => by simp at hd
theorem ShL.tup {l : List D} (h : ShL l) : shp DEEP (.tup l) = true := List.all_eq_true.mpr fun d hd => shp_le (by decide) (h d hd)
theorem ShL.lst {l : List D} (h : ShL l) : shp DEEP (.lst l) = true := List.all_eq_true.mpr fun d hd => shp_le (by decide) (h d hd)
theorem ShL.drop {l : List D} (h : ShL l) (k : Nat) : ShL (l.drop k) := fun d hd => h d (List.mem_of_mem_drop hd)
theorem ShL.take {l : List D} (h : ShL l) (k : Nat) : ShL (l.take k) := fun d hd => h d (List.mem_of_mem_take hd)
theorem eqD_refl {d : D} (h : shp DEEP d = true) : eqD d d = some true := by
  unfold eqD
  rw [h, eqF_refl _ _ h]
  rfl
theorem eqT_ok {a b : List D} {Q : Bool → Prop} (h : ShL a) (e : a = b) (hq : Q true) : wO (eqD (.tup a) (.tup b)) Q := by
  subst e
  rw [eqD_refl h.tup]
  exact hq
theorem eqL_ok {a b : List D} {Q : Bool → Prop} (h : ShL a) (e : a = b) (hq : Q true) : wO (eqD (.lst a) (.lst b)) Q := by
  subst e
  rw [eqD_refl h.lst]
  exact hq
theorem neT_ok {a b : List D} {Q : Bool → Prop} (h : ShL a) (e : a = b) (hq : Q false) : wO (cmpD .NotEq (.tup a) (.tup b)) Q := by
  subst e
  show wO ((eqD _ _).map _) Q
  rw [eqD_refl h.tup]
  exact hq
theorem neL_ok {a b : List D} {Q : Bool → Prop} (h : ShL a) (e : a = b) (hq : Q false) : wO (cmpD .NotEq (.lst a) (.lst b)) Q := by
  subst e
  show wO ((eqD _ _).map _) Q
  rw [eqD_refl h.lst]
  exact hq
theorem cutD_nat {l : List D} {i j : Nat} : cutD l (some (i : Int)) (some (j : Int)) = (l.drop i).take (j - i) := by
  unfold cutD
  rw [HT.sIx_nat, HT.sIx_nat]
  rcases Nat.le_total i l.length with h | h
  · rw [Nat.min_eq_left h]
    rcases Nat.le_total j l.length with h2 | h2
    · rw [Nat.min_eq_left h2]
    · rw [Nat.min_eq_right h2, List.take_of_length_le (by simp), List.take_of_length_le (by simp; omega)]
  · rw [Nat.min_eq_right h, List.drop_of_length_le (Nat.le_refl _), List.drop_of_length_le h]
    simp
theorem cutD_from {l : List D} {i : Nat} : cutD l (some (i : Int)) none = l.drop i := by
  unfold cutD
  rw [HT.sIx_nat]
  show (l.drop (min i l.length)).take (l.length - min i l.length) = _
  rcases Nat.le_total i l.length with h | h
  · rw [Nat.min_eq_left h, List.take_of_length_le (by simp)]
  · rw [Nat.min_eq_right h, List.drop_of_length_le (Nat.le_refl _), List.drop_of_length_le h]
    simp
theorem cutD_to {l : List D} {j : Nat} : cutD l none (some (j : Int)) = l.take j := by
  unfold cutD
  rw [HT.sIx_nat]
  show (l.drop 0).take (min j l.length - 0) = _
  simp
theorem wB_imp {k : Bool} {A B A' B' : Prop} (h : wB k A B) (ha : A → A') (hb : B → B') : wB k A' B' := by
  cases k
  · exact hb h
  · exact ha h
section
variable {C : Str → List D → Store → R D} {G : Str → Option D} {F : Nat}
mutual
theorem wE_mono : ∀ (e : ME) (ρ : Env) (s : Store) (Q Q' : D → Store → Prop), (∀ d s, Q d s → Q' d s) → wE C G F e ρ s Q → wE C G F e ρ s Q'
  | .bad, _, _, _, _, _, h => by unfold wE at h; cases h
  | .slot i, ρ, s, Q, Q', m, h => by unfold wE at h ⊢; exact wO_imp h fun _ z => wO_imp z fun _ z => m _ _ z
  | .cst d, _, s, Q, Q', m, h => by unfold wE at h ⊢; exact m _ _ h
  | .glob x, _, s, Q, Q', m, h => by unfold wE at h ⊢; exact wO_imp h fun _ z => m _ _ z
  | .bty t, _, s, Q, Q', m, h => by unfold wE at h ⊢; exact m _ _ h
  | .tup es, ρ, s, Q, Q', m, h => by unfold wE at h ⊢; exact wEs_mono es ρ s _ _ (fun _ _ z => m _ _ z) h
  | .lst mu es, ρ, s, Q, Q', m, h => by unfold wE at h ⊢; exact wEs_mono es ρ s _ _ (fun _ _ z => wB_imp z (m _ _) (m _ _)) h
  | .bin o a b, ρ, s, Q, Q', m, h => by unfold wE at h ⊢; exact wE_mono a ρ s _ _ (fun _ _ z => wE_mono b ρ _ _ _ (fun _ _ z => wO_imp z fun _ z => m _ _ z) z) h
  | .neg a, ρ, s, Q, Q', m, h => by
    unfold wE at h ⊢
    refine wE_mono a ρ s _ _ (fun x _ z => ?_) h
    cases x <;> first | exact m _ _ z | cases z
  | .cmp o a b, ρ, s, Q, Q', m, h => by unfold wE at h ⊢; exact wE_mono a ρ s _ _ (fun _ _ z => wE_mono b ρ _ _ _ (fun _ _ z => wO_imp z fun _ z => m _ _ z) z) h
  | .chain o o' a b c, ρ, s, Q, Q', m, h => by
    unfold wE at h ⊢
    exact wE_mono a ρ s _ _ (fun _ _ z => wE_mono b ρ _ _ _ (fun _ _ z => wO_imp z fun _ z => wB_imp z (fun z => wE_mono c ρ _ _ _ (fun _ _ z => wO_imp z fun _ z => m _ _ z) z) (m _ _)) z) h
  | .and_ es, ρ, s, Q, Q', m, h => by unfold wE at h ⊢; exact wAnd_mono es ρ s _ _ m h
  | .or_ es, ρ, s, Q, Q', m, h => by unfold wE at h ⊢; exact wOr_mono es ρ s _ _ m h
  | .not_ a, ρ, s, Q, Q', m, h => by unfold wE at h ⊢; exact wE_mono a ρ s _ _ (fun _ _ z => wO_imp z fun _ z => m _ _ z) h
  | .ife c a b, ρ, s, Q, Q', m, h => by unfold wE at h ⊢; exact wE_mono c ρ s _ _ (fun _ _ z => wO_imp z fun _ z => wB_imp z (wE_mono a ρ _ _ _ m) (wE_mono b ρ _ _ _ m)) h
  | .ix a i, ρ, s, Q, Q', m, h => by unfold wE at h ⊢; exact wE_mono a ρ s _ _ (fun x _ z => wE_mono i ρ _ _ _ (fun y _ z => wO_imp z fun _ z => m _ _ z) z) h
  | .dnew t, ρ, s, Q, Q', m, h => by unfold wE at h ⊢; exact m _ _ h
  | .dsing k v, ρ, s, Q, Q', m, h => by unfold wE at h ⊢; exact wE_mono k ρ s _ _ (fun _ _ z => wE_mono v ρ _ _ _ (fun _ _ z => wO_imp z fun _ z => m _ _ z) z) h
  | .dget o k, ρ, s, Q, Q', m, h => by unfold wE at h ⊢; exact wE_mono o ρ s _ _ (fun _ _ z => wO_imp z fun _ z => wE_mono k ρ _ _ _ (fun _ _ z => wO_imp z fun _ z => m _ _ z) z) h
  | .dget2 o k d, ρ, s, Q, Q', m, h => by unfold wE at h ⊢; exact wE_mono o ρ s _ _ (fun _ _ z => wO_imp z fun _ z => wE_mono k ρ _ _ _ (fun _ _ z => wE_mono d ρ _ _ _ (fun _ _ z => wO_imp z fun _ z => m _ _ z) z) z) h
  | .ddisp es, ρ, s, Q, Q', m, h => by unfold wE at h ⊢; exact wEs_mono es ρ s _ _ (fun _ _ z => wO_imp z fun _ z => m _ _ z) h
  | .cget x l k, ρ, s, Q, Q', m, h => by unfold wE at h ⊢; exact wE_mono k ρ s _ _ (fun _ _ z => wO_imp z fun _ z => m _ _ z) h
  | .cin x y l k, ρ, s, Q, Q', m, h => by unfold wE at h ⊢; exact wE_mono k ρ s _ _ (fun _ _ z => wO_imp z fun _ z => m _ _ z) h
  | .callv i es, ρ, s, Q, Q', m, h => by
    unfold wE at h ⊢
    refine wO_imp h fun o z => wO_imp z fun d z => ?_
    cases d <;> first | (cases z; done) | skip
    exact wEs_mono es ρ s _ _ (fun _ _ z => z.imp m) z
  | .pm x o a, ρ, s, Q, Q', m, h => by unfold wE at h ⊢; exact wE_mono o ρ s _ _ (fun _ _ z => wO_imp z fun _ z => wE_mono a ρ _ _ _ (fun _ _ z => wO_imp z fun _ z => m _ _ z) z) h
  | .mxd a b, ρ, s, Q, Q', m, h => by unfold wE at h ⊢; exact wE_mono a ρ s _ _ (fun _ _ z => wE_mono b ρ _ _ _ (fun _ _ z => wO_imp z fun _ z => m _ _ z) z) h
  | .itf b es, ρ, s, Q, Q', m, h => by unfold wE at h ⊢; exact wEs_mono es ρ s _ _ (fun _ _ z => by obtain ⟨a, e, q⟩ := z; exact ⟨a, e, m _ _ q⟩) h
  | .slc a lo hi, ρ, s, Q, Q', m, h => by
    unfold wE at h ⊢
    exact wE_mono a ρ s _ _ (fun x _ z => wE_mono lo ρ _ _ _ (fun y _ z => wE_mono hi ρ _ _ _ (fun y _ z => wO_imp z fun _ z => wO_imp z fun _ z => wO_imp z fun _ z => m _ _ z) z) z) h
  | .nop, _, s, Q, Q', m, h => by unfold wE at h ⊢; exact m _ _ h
  | .call x es, ρ, s, Q, Q', m, h => by unfold wE at h ⊢; exact wEs_mono es ρ s _ _ (fun _ _ z => z.imp m) h
  | .bi b es, ρ, s, Q, Q', m, h => by unfold wE at h ⊢; exact wEs_mono es ρ s _ _ (fun _ _ z => wO_imp z fun _ z => m _ _ z) h
  | .meth .append o es, ρ, s, Q, Q', m, h => by
    unfold wE at h ⊢
    refine wE_mono o ρ s _ _ (fun x _ z => wO_imp z fun _ z => wEs_mono es ρ _ _ _ (fun ds s2 z => ?_) z) h
    split at z
    · refine wO_imp z fun o z => ?_
      cases o with
      | lst l => exact ⟨z.1, m _ _ z.2⟩
      | dk l => cases z
      | dt l => cases z
      | lkd => cases z
    · cases z
  | .rng es, ρ, s, Q, Q', m, h => by unfold wE at h ⊢; exact wEs_mono es ρ s _ _ (fun _ _ z => by obtain ⟨a, e, q⟩ := z; exact ⟨a, e, m _ _ q⟩) h
  | .lc elt tg it ifs own, ρ, s, Q, Q', m, h => by unfold wE at h ⊢; exact h.imp m
  | .lcd elt tg it ifs own, ρ, s, Q, Q', m, h => by unfold wE at h ⊢; exact h.imp m
theorem wEs_mono : ∀ (e : MEs) (ρ : Env) (s : Store) (Q Q' : List D → Store → Prop), (∀ d s, Q d s → Q' d s) → wEs C G F e ρ s Q → wEs C G F e ρ s Q'
  | .nil, ρ, s, Q, Q', m, h => by unfold wEs at h ⊢; exact m _ _ h
  | .cons e r, ρ, s, Q, Q', m, h => by unfold wEs at h ⊢; exact wE_mono e ρ s _ _ (fun _ _ z => wEs_mono r ρ _ _ _ (fun _ _ z => m _ _ z) z) h
theorem wAnd_mono : ∀ (e : MEs) (ρ : Env) (s : Store) (Q Q' : D → Store → Prop), (∀ d s, Q d s → Q' d s) → wAnd C G F e ρ s Q → wAnd C G F e ρ s Q'
  | .nil, ρ, s, Q, Q', m, h => by unfold wAnd at h; cases h
  | .cons e .nil, ρ, s, Q, Q', m, h => by unfold wAnd at h ⊢; exact wE_mono e ρ s _ _ m h
  | .cons e (.cons e2 r), ρ, s, Q, Q', m, h => by
    unfold wAnd at h ⊢
    exact wE_mono e ρ s _ _ (fun _ _ z => wO_imp z fun _ z => wB_imp z (fun z => wAnd_mono (.cons e2 r) ρ _ _ _ m z) (m _ _)) h
theorem wOr_mono : ∀ (e : MEs) (ρ : Env) (s : Store) (Q Q' : D → Store → Prop), (∀ d s, Q d s → Q' d s) → wOr C G F e ρ s Q → wOr C G F e ρ s Q'
  | .nil, ρ, s, Q, Q', m, h => by unfold wOr at h; cases h
  | .cons e .nil, ρ, s, Q, Q', m, h => by unfold wOr at h ⊢; exact wE_mono e ρ s _ _ m h
  | .cons e (.cons e2 r), ρ, s, Q, Q', m, h => by
    unfold wOr at h ⊢
    exact wE_mono e ρ s _ _ (fun _ _ z => wO_imp z fun _ z => wB_imp z (m _ _) (fun z => wOr_mono (.cons e2 r) ρ _ _ _ m z)) h
end
theorem wMs_mono : ∀ (ts : MTs) (ds : List D) (ρ : Env) (s : Store) (Q Q' : Env → Store → Prop), (∀ d s, Q d s → Q' d s) → wMs C G F ts ds ρ s Q → wMs C G F ts ds ρ s Q'
  | .nil, [], ρ, s, Q, Q', m, h => m _ _ h
  | .nil, _ :: _, _, _, _, _, _, h => by cases h
  | .nm i r, [], _, _, _, _, _, h => by cases h
  | .nm i r, d :: ds, ρ, s, Q, Q', m, h => wMs_mono r ds _ s Q Q' m h
  | .ix o i r, [], _, _, _, _, _, h => by cases h
  | .ix o i r, d :: ds, ρ, s, Q, Q', m, h => by
    unfold wMs at h ⊢
    refine wE_mono o ρ s _ _ (fun x s2 h => wE_mono i ρ _ _ _ (fun k s3 h => ?_) h) h
    cases x <;> first | (cases h; done) | skip
    exact wO_imp h fun _ z => wMs_mono r ds ρ _ Q Q' m z
mutual
theorem wS_mono : ∀ (e : MSt) (ρ : Env) (s : Store) (Q Q' : Out → Store → Prop), (∀ d s, Q d s → Q' d s) → wS C G F e ρ s Q → wS C G F e ρ s Q'
  | .bad, _, _, _, _, _, h => by unfold wS at h; cases h
  | .asg t e, ρ, s, Q, Q', m, h => by unfold wS at h ⊢; exact wE_mono e ρ s _ _ (fun _ _ z => wO_imp z fun _ z => m _ _ z) h
  | .par is es, ρ, s, Q, Q', m, h => by unfold wS at h ⊢; exact wEs_mono es ρ s _ _ (fun _ _ z => ⟨z.1, m _ _ z.2⟩) h
  | .asgM ts e, ρ, s, Q, Q', m, h => by
    unfold wS at h ⊢
    refine wE_mono e ρ s _ _ (fun d s1 h => ?_) h
    cases d <;> first | (cases h; done) | skip
    exact ⟨h.1, wMs_mono ts _ ρ _ _ _ (fun _ _ z => m _ _ z) h.2⟩
  | .asgIx o i e, ρ, s, Q, Q', m, h => by
    unfold wS at h ⊢
    refine wE_mono e ρ s _ _ (fun v _ z => wE_mono o ρ _ _ _ (fun x _ z => wE_mono i ρ _ _ _ (fun k s3 z => ?_) z) z) h
    cases x <;> first | (cases z; done) | skip
    exact wO_imp z fun _ z => m _ _ z
  | .aug i o e, ρ, s, Q, Q', m, h => by unfold wS at h ⊢; exact wO_imp h fun _ z => wO_imp z fun _ z => wE_mono e ρ s _ _ (fun _ _ z => wO_imp z fun _ z => m _ _ z) z
  | .expr e, ρ, s, Q, Q', m, h => by unfold wS at h ⊢; exact wE_mono e ρ s _ _ (fun _ _ z => m _ _ z) h
  | .ret e, ρ, s, Q, Q', m, h => by unfold wS at h ⊢; exact wE_mono e ρ s _ _ (fun _ _ z => m _ _ z) h
  | .retN, ρ, s, Q, Q', m, h => by unfold wS at h ⊢; exact m _ _ h
  | .ife c a b, ρ, s, Q, Q', m, h => by unfold wS at h ⊢; exact wE_mono c ρ s _ _ (fun _ _ z => wO_imp z fun _ z => wB_imp z (wSs_mono a ρ _ _ _ m) (wSs_mono b ρ _ _ _ m)) h
  | .fr t it b, ρ, s, Q, Q', m, h => by
    unfold wS at h ⊢
    refine wE_mono it ρ s _ _ (fun _ _ z => wO_imp z fun k z => ?_) h
    cases k
    · exact z.imp m
    · exact z.imp m
  | .wh c b, ρ, s, Q, Q', m, h => by unfold wS at h ⊢; exact h.imp m
  | .bk, ρ, s, Q, Q', m, h => by unfold wS at h ⊢; exact m _ _ h
  | .ct, ρ, s, Q, Q', m, h => by unfold wS at h ⊢; exact m _ _ h
  | .ps, ρ, s, Q, Q', m, h => by unfold wS at h ⊢; exact m _ _ h
theorem wSs_mono : ∀ (e : MSts) (ρ : Env) (s : Store) (Q Q' : Out → Store → Prop), (∀ d s, Q d s → Q' d s) → wSs C G F e ρ s Q → wSs C G F e ρ s Q'
  | .nil, ρ, s, Q, Q', m, h => by unfold wSs at h ⊢; exact m _ _ h
  | .cons e r, ρ, s, Q, Q', m, h => by
    unfold wSs at h ⊢
    refine wS_mono e ρ s _ _ (fun o s1 z => ?_) h
    cases o
    · exact wSs_mono r _ _ _ _ m z
    · exact m _ _ z
    · exact m _ _ z
    · exact m _ _ z
end
/-- an if whose ways come together again -/
def jn (J : Env → Store → Prop) (o : Out) (s : Store) : Prop := ∃ ρ, o = .nx ρ ∧ J ρ s
theorem if_join (J : Env → Store → Prop) {k : Bool} {a b : MSts} {ρ : Env} {s : Store} {K : Out → Store → Prop} (h : wB k (wSs C G F a ρ s (jn J)) (wSs C G F b ρ s (jn J))) (hk : ∀ ρ s, J ρ s → K (.nx ρ) s) :
    wB k (wSs C G F a ρ s K) (wSs C G F b ρ s K) := by
  have m : ∀ (e : MSts), wSs C G F e ρ s (jn J) → wSs C G F e ρ s K := fun e => wSs_mono e ρ s _ _ fun o s1 z => by
    obtain ⟨ρ1, rfl, z⟩ := z
    exact hk _ _ z
  exact wB_imp h (m a) (m b)
end
theorem wQ_by {a b : Int} {A B : Prop} (h1 : a = b → A) (h2 : a ≠ b → B) : wB (eqF DEEP (.int a) (.int b)) A B := by
  have e : eqF DEEP (.int a) (.int b) = (a == b) := rfl
  rw [e]
  by_cases h : a = b
  · rw [beq_iff_eq.mpr h]; exact h1 h
  · rw [beq_eq_false_iff_ne.mpr h]; exact h2 h
theorem wT_of {k : Bool} {A B : Prop} (h : k = true) (a : A) : wB k A B := by subst h; exact a
theorem wF_of {k : Bool} {A B : Prop} (h : k = false) (b : B) : wB k A B := by subst h; exact b
theorem eqE_ok {x y : D} {Q : Bool → Prop} (hx : shp DEEP x = true) (hy : shp DEEP y = true) (hq : Q (eqF DEEP x y)) : wO (cmpD .Eq x y) Q := by
  show wO (eqD x y) Q
  unfold eqD
  rw [hx, hy]
  exact hq
theorem neE_ok {x y : D} {Q : Bool → Prop} (hx : shp DEEP x = true) (hy : shp DEEP y = true) (hq : Q (!eqF DEEP x y)) : wO (cmpD .NotEq x y) Q := by
  show wO ((eqD x y).map _) Q
  unfold eqD
  rw [hx, hy]
  exact hq
theorem inL_ok {x : D} {l : List D} {Q : Bool → Prop} (hx : shp DEEP x = true) (hy : shp DEEP (.lst l) = true) (hq : Q (l.any fun d => eqF DEEP d x)) : wO (cmpD .In x (.lst l)) Q := by
  show wO (if shp DEEP x && shp DEEP (.lst l) then _ else _) Q
  rw [hx, hy]
  exact hq
theorem inT_ok {x : D} {l : List D} {Q : Bool → Prop} (hx : shp DEEP x = true) (hy : shp DEEP (.tup l) = true) (hq : Q (l.any fun d => eqF DEEP d x)) : wO (cmpD .In x (.tup l)) Q := by
  show wO (if shp DEEP x && shp DEEP (.tup l) then _ else _) Q
  rw [hx, hy]
  exact hq
/-! ### the cup -/
def Cup (o : MO) : Prop := ∃ a b : Int, o = .lst [.int a, .int b] ∧ 0 ≤ a ∧ 0 ≤ b ∧ b < 4294967296
end Rf

set_option Elab.async false
set_option linter.all false
set_option maxRecDepth 100000
set_option maxHeartbeats 1000000
/-! Rf19: a table: a dict from paths (tuples of names) to None or a tuple. -/
namespace Rf
open PySem PySem.Spec PyProof.Rows L2
abbrev Path := List Str
def pD (p : Path) : D := .tup (p.map .str)
def kP (p : Path) : List Key := p.map .inr
theorem keyDT_kP (p : Path) : keyDT (kP p) = pD p := by
  unfold keyDT kP pD
  rw [List.map_map]
  rfl
theorem keyT_pD (p : Path) : keyT (pD p) = some (kP p) := by
  show keysK (p.map .str) = _
  unfold kP
  induction p with
  | nil => rfl
  | cons x p ih => rw [List.map_cons, keysK, ih]; rfl
theorem kP_inj {p q : Path} (h : kP p = kP q) : p = q := List.map_inj_right (fun _ _ e => by cases e; rfl) |>.mp h
theorem pD_inj {p q : Path} (h : pD p = pD q) : p = q := by
  unfold pD at h
  injection h with h
  exact List.map_inj_right (fun _ _ e => by cases e; rfl) |>.mp h
/-- what stands in a table -/
abbrev Tab := List (Path × D)
def tO (T : Tab) : MO := .dt (T.map fun e => (kP e.1, e.2))
def look (T : Tab) (p : Path) : Option D := (T.find? fun e => decide (e.1 = p)).map (·.2)
theorem val_look (T : Tab) (p : Path) : valD (T.map fun e => (kP e.1, e.2)) (kP p) = look T p := by
  unfold valD look
  induction T with
  | nil => rfl
  | cons e T ih =>
    rw [List.map_cons, List.find?_cons, List.find?_cons]
    by_cases h : e.1 = p
    · simp [h]
    · have h2 : ¬ kP e.1 = kP p := fun z => h (kP_inj z)
      simp only [h, h2, decide_false]
      exact ih
def put (T : Tab) (p : Path) (v : D) : Tab := if (T.any fun e => decide (e.1 = p)) = true then T.map (fun e => if e.1 = p then (e.1, v) else e) else T ++ [(p, v)]
theorem put_tO (T : Tab) (p : Path) (v : D) : putD (T.map fun e => (kP e.1, e.2)) (kP p) v = (put T p v).map fun e => (kP e.1, e.2) := by
  unfold putD put
  have h1 : ((T.map fun e => (kP e.1, e.2)).any fun kv => decide (kv.1 = kP p)) = T.any fun e => decide (e.1 = p) := by
    rw [List.any_map]
    congr 1
    funext e
    show decide (kP e.1 = kP p) = decide (e.1 = p)
    by_cases h : e.1 = p
    · rw [h]; simp
    · rw [decide_eq_false h, decide_eq_false fun z => h (kP_inj z)]
  rw [h1]
  split
  · rw [List.map_map, List.map_map]
    congr 1
    funext e
    show (if kP e.1 = kP p then (kP e.1, v) else (kP e.1, e.2)) = _
    by_cases h : e.1 = p
    · simp [h]
    · have h2 : ¬ kP e.1 = kP p := fun z => h (kP_inj z)
      simp [h, h2]
  · rw [List.map_append]
    rfl
/-! ### its keys in order -/
def lePath (p q : Path) : Bool := leD (pD p) (pD q)
def srt (T : Tab) : List Path := isortB lePath (T.map (·.1))
theorem ins_map {α β : Type} (f : α → β) (le : β → β → Bool) (x : α) : ∀ l : List α, (insB (fun a b => le (f a) (f b)) x l).map f = insB le (f x) (l.map f)
  | [] => rfl
  | y :: r => by
    show (if le (f x) (f y) then x :: y :: r else y :: insB (fun a b => le (f a) (f b)) x r).map f = if le (f x) (f y) then _ else _
    split
    · rfl
    · rw [List.map_cons, ins_map f le x r]
theorem isort_map {α β : Type} (f : α → β) (le : β → β → Bool) : ∀ l : List α, (isortB (fun a b => le (f a) (f b)) l).map f = isortB le (l.map f)
  | [] => rfl
  | x :: r => by
    show (insB _ x (isortB _ r)).map f = insB le (f x) (isortB le (r.map f))
    rw [ins_map, isort_map f le r]
theorem srt_mem {T : Tab} {p : Path} : p ∈ srt T ↔ p ∈ T.map (·.1) := by
  have h : ∀ {α : Type} (le : α → α → Bool) (l : List α), (isortB le l).Perm l := by
    intro α le l
    have ins : ∀ (x : α) (l : List α), (insB le x l).Perm (x :: l) := by
      intro x l
      induction l with
      | nil => exact .refl _
      | cons y r ih =>
        unfold insB
        split
        · exact .refl _
        · exact (ih.cons y).trans (List.Perm.swap x y r)
    induction l with
    | nil => exact .refl _
    | cons x r ih => exact (ins x _).trans (ih.cons x)
  exact (h _ _).mem_iff
def dP (p : Path) : PyData := .tuple (p.map .str)
theorem toPD_pD (p : Path) : toPD (pD p) = some (dP p) := by
  show (toPDs (p.map .str)).map PyData.tuple = some (PyData.tuple (p.map .str))
  have : toPDs (p.map D.str) = some (p.map PyData.str) := by
    induction p with
    | nil => rfl
    | cons x p ih => rw [List.map_cons, toPDs, ih]; rfl
  rw [this]
  rfl
theorem toPDs_paths (l : List Path) : toPDs (l.map pD) = some (l.map dP) := by
  induction l with
  | nil => rfl
  | cons x p ih => rw [List.map_cons, toPDs, ih, toPD_pD]; rfl
theorem alike_strs : ∀ p q : Path, PySem.W.alikeAll (p.map .str) (q.map .str) = true
  | [], _ => by simp [PySem.W.alikeAll]
  | _ :: _, [] => by simp [PySem.W.alikeAll]
  | x :: p, y :: q => by
    simp only [List.map_cons, PySem.W.alikeAll, alike_strs p q, Bool.and_true]
    simp [PySem.W.alike]
theorem depth_strs : ∀ p : Path, PyData.depthAll (p.map .str) = 0
  | [] => by simp [PyData.depthAll]
  | x :: p => by simp [PyData.depthAll, PyData.depth, depth_strs p]
theorem sortOk_paths (l : List Path) : sortOk (l.map dP) = true := by
  unfold sortOk
  simp only [Bool.and_eq_true, Bool.or_eq_true, List.all_eq_true, List.mem_map, forall_exists_index, and_imp, forall_apply_eq_imp_iff₂, decide_eq_true_eq]
  refine ⟨⟨fun p _ q _ => ?_, .inl fun p _ => rfl⟩, fun p _ => ?_⟩
  · show PySem.W.alike (.tuple _) (.tuple _) = true
    rw [PySem.W.alike]
    exact alike_strs p q
  · show PyData.depth (.tuple _) ≤ 20
    simp [PyData.depth, depth_strs]
theorem sort_paths (l : List Path) : sortL (l.map pD) = some ((isortB lePath l).map pD) := by
  unfold sortL
  rw [toPDs_paths]
  show (if sortOk (l.map dP) = true then some (isortB leD (l.map pD)) else none) = _
  rw [if_pos (sortOk_paths l)]
  show some _ = some ((isortB (fun a b => leD (pD a) (pD b)) l).map pD)
  rw [isort_map pD leD l]
/-- all names are texts -/
def NamesOk (T : Tab) : Prop := ∀ e ∈ T, ∀ x ∈ e.1, PyData.strOk x = true
theorem sorted_ok {T : Tab} {Q : D → Prop} (h : NamesOk T) (hq : Q (.lst ((srt T).map pD))) : wO (biD .sorted [.dt (T.map fun e => (kP e.1, e.2))]) Q := by
  have h1 : ((T.map fun e => (kP e.1, e.2)).all fun kv => kv.1.all kOk) = true := by
    simp only [List.all_eq_true, List.mem_map, forall_exists_index, and_imp, forall_apply_eq_imp_iff₂]
    intro e he k hk
    obtain ⟨x, hx, rfl⟩ := List.mem_map.mp hk
    exact h e he x hx
  have h2 : ((T.map fun e => (kP e.1, e.2)).map fun kv => keyDT kv.1) = (T.map (·.1)).map pD := by
    rw [List.map_map, List.map_map]
    congr 1
    funext e
    exact keyDT_kP e.1
  show wO (if _ then _ else _) Q
  rw [if_pos h1, h2, sort_paths]
  exact hq
theorem deref_tab {s : Store} {m : Nat} {T : Tab} (h : s[m]? = some (tO T)) : deref s (.ref m) = .dt (T.map fun e => (kP e.1, e.2)) := by
  show (match s[m]? with | some (.lst l) => D.lst l | some (.dk l) => .dk l | some (.dt l) => .dt l | some .lkd => .ref m | none => .ref m) = _
  rw [h]
  rfl
theorem sortedM_ok {s : Store} {m : Nat} {T : Tab} {Q : D → Prop} (hm : s[m]? = some (tO T)) (h : NamesOk T) (hq : Q (.lst ((srt T).map pD))) : wO (biD .sorted (List.map (deref s) [.ref m])) Q := by
  rw [List.map_cons, List.map_nil, deref_tab hm]
  exact sorted_ok h hq
/-- table[p] -/
theorem ixM_ok {s : Store} {m : Nat} {T : Tab} {p : Path} {d : D} {Q : D → Prop} (hm : s[m]? = some (tO T)) (hp : look T p = some d) (hq : Q d) : wO (ixV (deref s (.ref m)) (pD p)) Q := by
  rw [deref_tab hm]
  show wO ((atD (.dt (T.map fun e => (kP e.1, e.2))) (pD p)).bind id) Q
  unfold atD
  rw [keyT_pD]
  show wO (((some (kP p)).map (valD (T.map fun e => (kP e.1, e.2)))).bind id) Q
  rw [Option.map_some, val_look, hp]
  exact hq
theorem hasM_ok {s : Store} {m : Nat} {T : Tab} {p : Path} {Q : Bool → Prop} (hm : s[m]? = some (tO T)) (hq : Q (!(look T p).isSome)) : wO (cmpD .NotIn (pD p) (deref s (.ref m))) Q := by
  rw [deref_tab hm]
  show wO ((hasD (pD p) (.dt (T.map fun e => (kP e.1, e.2)))).map (!·)) Q
  unfold hasD
  rw [keyT_pD]
  show wO (((some (kP p)).map fun k => (valD (T.map fun e => (kP e.1, e.2)) k).isSome).map (!·)) Q
  rw [Option.map_some, val_look]
  exact hq
theorem srt_len {T : Tab} : (srt T).length = T.length := by
  have ins : ∀ {α : Type} (le : α → α → Bool) (x : α) (l : List α), (insB le x l).length = l.length + 1 := by
    intro α le x l
    induction l with
    | nil => rfl
    | cons y r ih =>
      unfold insB
      split
      · rfl
      · simp [ih]
  have h : ∀ {α : Type} (le : α → α → Bool) (l : List α), (isortB le l).length = l.length := by
    intro α le l
    induction l with
    | nil => rfl
    | cons x r ih => show (insB le x (isortB le r)).length = _; rw [ins, ih]; rfl
  unfold srt
  rw [h, List.length_map]
theorem cut_last {l : List D} : cutD l none (some (-1)) = l.dropLast := by
  unfold cutD HT.sIx
  simp only [Nat.sub_zero, List.drop_zero, show ((-1 : Int) < 0) from by omega, if_true]
  rw [List.dropLast_eq_take]
  congr 1
  omega
theorem atI_last {l : List D} {d : D} (h : l.getLast? = some d) : atI l (-1) = some d := by
  have hne : l ≠ [] := fun z => by rw [z] at h; cases h
  have hl : 0 < l.length := List.length_pos_iff.mpr hne
  unfold atI ixN
  rw [if_neg (by omega), if_pos (by omega)]
  show l[((-1 : Int) + l.length).toNat]? = _
  rw [← h, List.getLast?_eq_getElem?]
  congr 1
  omega
theorem look_map (T : Tab) (p q : Path) (v : D) : look (T.map fun e => if e.1 = p then (e.1, v) else e) q = (look T q).map fun d => if q = p then v else d := by
  unfold look
  induction T with
  | nil => rfl
  | cons e T ih =>
    rw [List.map_cons, List.find?_cons, List.find?_cons]
    by_cases h1 : e.1 = p
    · by_cases h2 : e.1 = q
      · have h3 : q = p := h2.symm.trans h1
        simp [h1, h2, h3]
      · simp only [h1, if_true] at *
        have h4 : ¬ p = q := h2
        simp only [h4, decide_false]
        exact ih
    · by_cases h2 : e.1 = q
      · have h3 : ¬ q = p := fun z => h1 (h2.trans z)
        simp [h1, h2, h3]
      · simp only [h1, if_false, h2, decide_false]
        exact ih
theorem look_put (T : Tab) (p q : Path) (v : D) : look (put T p v) q = if q = p then some v else look T q := by
  unfold put
  split
  · rename_i h
    rw [look_map]
    by_cases hq : q = p
    · subst hq
      obtain ⟨e, h1, h2⟩ := List.any_eq_true.mp h
      have : ∃ d, look T q = some d := by
        unfold look
        cases hf : T.find? (fun e => decide (e.1 = q)) with
        | none => exact absurd h2 (by simpa using List.find?_eq_none.mp hf e h1)
        | some e => exact ⟨e.2, rfl⟩
      obtain ⟨d, hd⟩ := this
      rw [hd]
      simp
    · simp [hq]
  · rename_i h
    have hn : ∀ e ∈ T, ¬ e.1 = p := fun e he z => h (List.any_eq_true.mpr ⟨e, he, decide_eq_true z⟩)
    unfold look
    rw [List.find?_append]
    by_cases hq : q = p
    · subst hq
      rw [List.find?_eq_none.mpr fun e he => by simpa using hn e he]
      simp
    · have h2 : ¬ p = q := fun z => hq z.symm
      simp [h2, hq]
theorem keys_put {T : Tab} {p : Path} {v : D} (h : p ∈ T.map (·.1)) : (put T p v).map (·.1) = T.map (·.1) := by
  unfold put
  obtain ⟨e, h1, h2⟩ := List.mem_map.mp h
  rw [if_pos (List.any_eq_true.mpr ⟨e, h1, decide_eq_true h2⟩), List.map_map]
  congr 1
  funext e
  show (if e.1 = p then (e.1, v) else e).1 = e.1
  split <;> rfl
theorem srt_put {T : Tab} {p : Path} {v : D} (h : p ∈ T.map (·.1)) : srt (put T p v) = srt T := by
  unfold srt
  rw [keys_put h]
theorem put_len (T : Tab) (p : Path) (v : D) : (put T p v).length ≤ T.length + 1 := by
  unfold put
  split <;> simp
theorem put_mem {T : Tab} {p : Path} {v : D} {e : Path × D} (h : e ∈ put T p v) : e.1 = p ∨ e ∈ T := by
  unfold put at h
  split at h
  · obtain ⟨e', h1, rfl⟩ := List.mem_map.mp h
    split
    · rename_i z; exact .inl z
    · exact .inr h1
  · rcases List.mem_append.mp h with h | h
    · exact .inr h
    · rw [List.mem_singleton.mp h]; exact .inl rfl
/-- table[p] = v -/
theorem putM_ok {s : Store} {m : Nat} {T : Tab} {p : Path} {v : D} {Q : MO → Prop} (hm : s[m]? = some (tO T)) (hl : T.length < 16777216) (hq : Q (tO (put T p v))) : wO ((s[m]?).bind fun ob => putO ob (pD p) v) Q := by
  rw [hm]
  show wO (putO (tO T) (pD p) v) Q
  unfold tO putO
  show wO ((keyT (pD p)).bind _) Q
  rw [keyT_pD]
  show wO (if (T.map fun e => (kP e.1, e.2)).length < LINE then _ else _) Q
  rw [if_pos (by rw [List.length_map]; exact hl), put_tO]
  exact hq
end Rf

set_option Elab.async false
set_option linter.all false
set_option maxRecDepth 100000
set_option maxHeartbeats 1000000
/-! Rf20: trees of a table of paths; appends. -/
namespace Rf
open PySem PySem.Spec PyProof.Rows L2
theorem wN_or {k : Bool} {A B : Prop} (h1 : k = false → A) (h2 : k = true → B) : wB (!k) A B := by
  cases k
  · exact h1 rfl
  · exact h2 rfl
theorem Wp.run {r : R D} {d : D} {s : Store} {Q : D → Store → Prop} (h : r = .ok d s) (q : Q d s) : Wp r Q := ⟨d, s, h, q⟩
theorem mulT_ok {a : List D} {j : Int} {Q : D → Prop} (h : a.isEmpty = false) (h2 : 2 ≤ j) (h3 : j ≤ 1000) (h4 : a.length ≤ 1000) (hq : Q (.tup (List.replicate j.toNat a).flatten)) : wO (binD .Mult (.tup a) (.int j)) Q :=
  wO_if (c := a.isEmpty = false ∧ 2 ≤ j ∧ j ≤ 1000 ∧ a.length ≤ 1000) ⟨h, h2, h3, h4⟩ hq
theorem fm_congr {α β : Type} {f g : α → Option β} : ∀ (l : List α), (∀ a ∈ l, f a = g a) → l.filterMap f = l.filterMap g
  | [], _ => rfl
  | a :: l, h => by rw [List.filterMap_cons, List.filterMap_cons, h a List.mem_cons_self, fm_congr l fun b hb => h b (List.mem_cons_of_mem _ hb)]
/-! ### octets -/
def Oc (l : List D) : Prop := ∀ d ∈ l, ∃ i : Int, d = .int i ∧ 0 ≤ i ∧ i < 256
theorem Oc.nil : Oc [] := fun d hd => by simp at hd
theorem Oc.app {a b : List D} (h : Oc a) (h' : Oc b) : Oc (a ++ b) := fun d hd => (List.mem_append.mp hd).elim (h d) (h' d)
theorem Oc.fl {l : List D} (h : Oc l) : ∀ d ∈ l, shp 1 d = true := fun d hd => by
  obtain ⟨i, rfl, _⟩ := h d hd
  rfl
theorem Oc.rep {i : Int} (h : 0 ≤ i ∧ i < 256) (k : Nat) : Oc (List.replicate k [D.int i]).flatten ∧ (List.replicate k [D.int i]).flatten.length = k := by
  induction k with
  | zero => exact ⟨Oc.nil, rfl⟩
  | succ k ih =>
    rw [List.replicate_succ, List.flatten_cons]
    refine ⟨fun d hd => ?_, by simp⟩
    rcases List.mem_append.mp hd with z | z
    · rw [List.mem_singleton.mp z]; exact ⟨i, rfl, h⟩
    · exact ih.1 d z
/-! ### paths -/
theorem shp_path {n : Nat} (p : Path) : shp (n + 2) (pD p) = true := by
  show (p.map D.str).all (shp (n + 1)) = true
  simp [shp]
theorem eq_path (p q : Path) : eqF DEEP (pD p) (pD q) = decide (p = q) := by
  show allEq (eqF 59) (p.map .str) (q.map .str) = _
  have key : ∀ p q : Path, allEq (eqF 59) (p.map D.str) (q.map D.str) = decide (p = q) := by
    intro p
    induction p with
    | nil => intro q; cases q <;> rfl
    | cons x p ih =>
      intro q
      cases q with
      | nil => rfl
      | cons y q =>
        show (strEq x y && allEq (eqF 59) (p.map D.str) (q.map D.str)) = _
        rw [ih, strEq_eq]
        by_cases h : x = y <;> by_cases h2 : p = q <;> simp [h, h2]
  exact key p q
theorem strs_back (q : Path) : ((q.map D.str).filterMap fun x => match x with | .str y => some y | _ => none) = q := by
  induction q with
  | nil => rfl
  | cons x q ih => rw [List.map_cons, List.filterMap_cons]; simp only; rw [ih]
theorem eqP_ok {p q : Path} {Q : Bool → Prop} (hq : Q (decide (p = q))) : wO (cmpD .Eq (pD p) (pD q)) Q := by
  refine eqE_ok (shp_path (n := 58) p) (shp_path (n := 58) q) ?_
  rw [eq_path]
  exact hq
def backP : D → Path
  | .tup q => q.filterMap fun x => match x with | .str y => some y | _ => none
  | _ => []
theorem backP_pD (p : Path) : backP (pD p) = p := strs_back p
theorem fm_paths (f : Path → D) (l : List Path) : (l.map pD).filterMap (fun d => some (f (backP d))) = l.map f := by
  induction l with
  | nil => rfl
  | cons x l ih => rw [List.map_cons, List.filterMap_cons, List.map_cons, backP_pD]; simp only; rw [ih]
/-! ### order of texts -/
theorem natsLt_tot : ∀ a b : List Nat, natsLt a b = false → a ≠ b → natsLt b a = true
  | [], [], _, h => absurd rfl h
  | [], _ :: _, h, _ => by simp [natsLt] at h
  | _ :: _, [], _, _ => rfl
  | x :: xs, y :: ys, h, hn => by
    simp only [natsLt, Bool.or_eq_false_iff, Bool.and_eq_false_iff] at h
    simp only [natsLt, Bool.or_eq_true, Bool.and_eq_true, Nat.blt_eq, Nat.beq_eq]
    have h1 : ¬ x < y := fun z => by rw [← Nat.blt_eq, h.1] at z; cases z
    by_cases e : x = y
    · subst e
      refine .inr ⟨rfl, natsLt_tot xs ys ?_ fun z => hn (by rw [z])⟩
      rcases h.2 with z | z
      · exact absurd (Nat.beq_refl x) (by rw [z]; exact Bool.false_ne_true)
      · exact z
    · exact .inl (by omega)
theorem natsLt_irr (a : List Nat) : natsLt a a = false := by rw [natsLt_eq]; exact decide_eq_false (List.lt_irrefl a)
theorem natsLt_tr {a b c : List Nat} (h : natsLt a b = true) (h' : natsLt b c = true) : natsLt a c = true := by
  rw [natsLt_eq] at *
  exact decide_eq_true (List.lt_trans (of_decide_eq_true h) (of_decide_eq_true h'))
theorem natsLt_asym {a b : List Nat} (h : natsLt a b = true) : natsLt b a = false := by
  cases e : natsLt b a
  · rfl
  · have := natsLt_tr h e
    rw [natsLt_irr] at this
    cases this
theorem strLt_irr (a : Str) : strLt a a = false := natsLt_irr _
theorem strLt_asym {a b : Str} (h : strLt a b = true) : strLt b a = false := natsLt_asym h
/-- ascending -/
def Asc (l : List Str) : Prop := l.Pairwise fun a b => strLt a b = true
theorem asc_split {x : Str} : ∀ {l : List Str}, Asc l → x ∈ l → l.filter (fun y => strLt y x) ++ x :: l.filter (fun y => strLt x y) = l
  | [], _, h => by simp at h
  | a :: l, h, hx => by
    obtain ⟨h1, h2⟩ := List.pairwise_cons.mp h
    rcases List.mem_cons.mp hx with z | z
    · subst z
      have e1 : l.filter (fun y => strLt y x) = [] := List.filter_eq_nil_iff.mpr fun y hy => by rw [strLt_asym (h1 y hy)]; exact Bool.false_ne_true
      have e2 : l.filter (fun y => strLt x y) = l := List.filter_eq_self.mpr fun y hy => h1 y hy
      rw [List.filter_cons, List.filter_cons, strLt_irr, e1, e2]
      rfl
    · have e1 := h1 x z
      have e2 := strLt_asym e1
      rw [List.filter_cons, List.filter_cons, e1, e2]
      simp only [if_true, Bool.false_eq_true, if_false, List.cons_append]
      rw [asc_split h2 z]
def toks (p : Path) : List (Int ⊕ List Nat) := p.flatMap fun x => [.inl 1, .inr x.cps.toList]
theorem toks_app (p : Path) (r : List PyData) : PySem.W.keyToksAll (p.map .str ++ r) = toks p ++ PySem.W.keyToksAll r := by
  induction p with
  | nil => rfl
  | cons x p ih =>
    rw [List.map_cons, List.cons_append, PySem.W.keyToksAll, ih]
    rfl
theorem encD_pD (p : Path) : encD (pD p) = dP p := by
  unfold encD
  rw [toPD_pD]
  rfl
theorem le_snoc {p : Path} {x y : Str} (h : lePath (p ++ [x]) (p ++ [y]) = true) (hn : x ≠ y) : strLt x y = true := by
  have h : (!PyProof.Rows.lexLt PyProof.Rows.itemOrd (PySem.W.keyToks (encD (pD (p ++ [y])))) (PySem.W.keyToks (encD (pD (p ++ [x]))))) = true := h
  have hx : x.cps.toList ≠ y.cps.toList := fun z => hn (PySem.W.str_of_cps z)
  have e : ∀ z : Str, PySem.W.keyToks (encD (pD (p ++ [z]))) = toks p ++ [.inl 1, .inr z.cps.toList, .inl 0] := fun z => by
    rw [encD_pD]
    show PySem.W.keyToksAll ((p ++ [z]).map .str) = _
    rw [List.map_append, toks_app]
    rfl
  rw [e, e, PySem.W.lex_pre] at h
  rw [PyProof.Rows.lex_self (O := PyProof.Rows.itemOrd), PyProof.Rows.lex_diff (O := PyProof.Rows.itemOrd) (by intro z; exact hx (Sum.inr.inj z).symm)] at h
  have h2 : PyProof.Rows.itemLt (Sum.inr y.cps.toList) (Sum.inr x.cps.toList) = false := by
    rw [Bool.not_eq_true'] at h
    exact h
  have h3 : natsLt y.cps.toList x.cps.toList = false := by
    rw [natsLt_eq]
    exact h2
  exact natsLt_tot _ _ h3 (Ne.symm hx)
/-! ### the names below p -/
def kid (p q : Path) : Option Str := if q.length = p.length + 1 ∧ q.dropLast = p then q.getLast? else none
def kids (S : List Path) (p : Path) : List Str := S.filterMap (kid p)
theorem kid_eq {p q : Path} {x : Str} : kid p q = some x ↔ q = p ++ [x] := by
  unfold kid
  constructor
  · intro e
    split at e
    · rename_i hh
      have hne : q ≠ [] := fun z => by subst z; simp at hh
      rw [List.getLast?_eq_some_getLast hne] at e
      cases e
      rw [← hh.2, List.dropLast_concat_getLast]
    · cases e
  · rintro rfl
    simp
theorem kid_mem {S : List Path} {p : Path} {x : Str} : x ∈ kids S p ↔ p ++ [x] ∈ S := by
  unfold kids
  rw [List.mem_filterMap]
  constructor
  · rintro ⟨q, hq, e⟩
    rw [kid_eq] at e
    rw [← e]; exact hq
  · intro h
    exact ⟨_, h, kid_eq.mpr rfl⟩
theorem kids_asc {S : List Path} (hs : S.Pairwise fun a b => lePath a b = true) (hn : S.Nodup) (p : Path) : Asc (kids S p) := by
  unfold Asc kids
  rw [List.pairwise_filterMap]
  refine (hs.and hn).imp fun {a b} h x hx y hy => ?_
  rw [kid_eq] at hx hy
  subst hx hy
  exact le_snoc h.1 fun z => h.2 (by rw [z])
theorem lePath_total : PySem.W.TotalLe lePath where
  trans a b c h1 h2 := leD_total.trans _ _ _ h1 h2
  total a b := leD_total.total _ _
theorem srt_asc {T : Tab} (hn : (T.map (·.1)).Nodup) (p : Path) : Asc (kids (srt T) p) :=
  kids_asc (isortB_pw lePath_total _) ((isortB_perm _).nodup_iff.mpr hn) p
/-! ### nodes -/
/-- the node at p, n deep -/
def nodeD (T : Tab) (S : List Path) : Nat → Path → D
  | 0, _ => .non
  | n + 1, p => match look T p with
    | some .non => .tup [.str ("dir" : Str), .tup ((kids S p).map fun x => .tup [.str x, nodeD T S n (p ++ [x])])]
    | some v => .tup [.str ("file" : Str), v]
    | none => .non
theorem look_mem {T : Tab} {p : Path} (h : p ∈ T.map (·.1)) : ∃ d, look T p = some d := by
  unfold look
  induction T with
  | nil => simp at h
  | cons e T ih =>
    rw [List.find?_cons]
    by_cases he : e.1 = p
    · simp [he]
    · simp only [he, decide_false]
      rw [List.map_cons] at h
      rcases List.mem_cons.mp h with z | z
      · exact absurd z.symm he
      · exact ih z
theorem look_in {T : Tab} {p : Path} {d : D} (h : look T p = some d) : p ∈ T.map (·.1) := by
  unfold look at h
  obtain ⟨e, h1, h2⟩ := Option.map_eq_some_iff.mp h
  have h3 := List.find?_some h1
  have h4 := List.mem_of_find?_eq_some h1
  exact List.mem_map.mpr ⟨e, h4, of_decide_eq_true h3⟩
/-- names that the laws draw -/
def okNms : List Str := [("a" : Str), ("ab" : Str), ("b" : Str), ("c" : Str), ("f" : Str), ("g" : Str), ("x" : Str)]
theorem okNms_str {x : Str} (h : x ∈ okNms) : PyData.strOk x = true := by
  unfold okNms at h
  simp only [List.mem_cons, List.not_mem_nil, or_false] at h
  rcases h with rfl | rfl | rfl | rfl | rfl | rfl | rfl <;> decide +kernel
/-- a table of a tree -/
structure Tr (i : Nat) (T : Tab) : Prop where
  names : ∀ p d, look T p = some d → ∀ x ∈ p, x ∈ okNms
  len : T.length ≤ i
  root : look T [] = some .non
  deep : ∀ p d, look T p = some d → p.length ≤ 5
  vals : ∀ p d, look T p = some d → d = .non ∨ ∃ l, d = .tup l ∧ Oc l ∧ l.length ≤ 256
  nd : (T.map (·.1)).Nodup
  cl : ∀ p x d, look T (p ++ [x]) = some d → look T p = some .non
theorem Tr.le {i j : Nat} {T : Tab} (h : Tr i T) (hij : i ≤ j) : Tr j T := ⟨h.names, Nat.le_trans h.len hij, h.root, h.deep, h.vals, h.nd, h.cl⟩
theorem Tr.nok {i : Nat} {T : Tab} (h : Tr i T) : NamesOk T := fun e he x hx => by
  obtain ⟨d, hd⟩ := look_mem (List.mem_map.mpr ⟨e, he, rfl⟩)
  exact okNms_str (h.names _ _ hd x hx)
theorem put_nd {T : Tab} {p : Path} {v : D} (h : (T.map (·.1)).Nodup) : ((put T p v).map (·.1)).Nodup := by
  by_cases hp : p ∈ T.map (·.1)
  · rw [keys_put hp]; exact h
  · unfold put
    rw [if_neg (fun z => by
      obtain ⟨e, h1, h2⟩ := List.any_eq_true.mp z
      exact hp (List.mem_map.mpr ⟨e, h1, of_decide_eq_true h2⟩)), List.map_append, List.nodup_append]
    exact ⟨h, by simp, fun a ha b hb => by
      have : b = p := by simpa using hb
      subst this
      exact fun e => hp (e ▸ ha)⟩
/-- a new entry -/
theorem Tr.new {i : Nat} {T : Tab} (h : Tr i T) {p : Path} {x : Str} {v : D} (hp : look T p = some .non) (hn : look T (p ++ [x]) = none) (hx : x ∈ okNms) (hd : p.length < 5) (hv : v = .non ∨ ∃ l, v = .tup l ∧ Oc l ∧ l.length ≤ 256) : Tr (i + 1) (Rf.put T (p ++ [x]) v) := by
  refine ⟨fun q d hq => ?_, by have := put_len T (p ++ [x]) v; have := h.len; omega, ?_, fun q d hq => ?_, fun q d hq => ?_, put_nd h.nd, fun q y d hq => ?_⟩
  · rw [look_put] at hq
    split at hq
    · rename_i z
      intro y hy
      rw [z] at hy
      rcases List.mem_append.mp hy with w | w
      · exact h.names p _ hp y w
      · rw [List.mem_singleton.mp w]; exact hx
    · exact h.names q d hq
  · rw [look_put, if_neg (by simp)]
    exact h.root
  · rw [look_put] at hq
    split at hq
    · rename_i z; rw [z]; simp; omega
    · exact h.deep q d hq
  · rw [look_put] at hq
    split at hq
    · cases hq; exact hv
    · exact h.vals q d hq
  · rw [look_put] at hq
    rw [look_put]
    have key : ∀ q, look T q = some .non → (if q = p ++ [x] then some v else look T q) = some .non := fun q hq => by
      rw [if_neg fun z => by rw [z, hn] at hq; cases hq]
      exact hq
    split at hq
    · rename_i z
      have := List.append_inj' z rfl
      rw [this.1]
      exact key p hp
    · exact key q (h.cl q y d hq)
/-- a file's octets change -/
theorem Tr.upd {i : Nat} {T : Tab} (h : Tr i T) {p : Path} {l l' : List D} (hp : look T p = some (.tup l)) (hl : Oc l') (hl2 : l'.length ≤ 256) : Tr i (Rf.put T p (.tup l')) ∧ srt (Rf.put T p (.tup l')) = srt T := by
  have hin := look_in hp
  refine ⟨⟨fun q d hq => ?_, ?_, ?_, fun q d hq => ?_, fun q d hq => ?_, put_nd h.nd, fun q y d hq => ?_⟩, srt_put hin⟩
  · rw [look_put] at hq
    split at hq
    · rename_i z; rw [z]; exact h.names p _ hp
    · exact h.names q d hq
  · have := congrArg List.length (keys_put (v := D.tup l') hin)
    rw [List.length_map, List.length_map] at this
    rw [this]
    exact h.len
  · rw [look_put, if_neg fun z => by rw [← z, h.root] at hp; cases hp]
    exact h.root
  · rw [look_put] at hq
    split at hq
    · rename_i z; rw [z]; exact h.deep p _ hp
    · exact h.deep q d hq
  · rw [look_put] at hq
    split at hq
    · cases hq; exact .inr ⟨l', rfl, hl, hl2⟩
    · exact h.vals q d hq
  · have hq2 : ∃ d, look T (q ++ [y]) = some d := by
      rw [look_put] at hq
      split at hq
      · rename_i z; exact ⟨_, by rw [z]; exact hp⟩
      · exact ⟨d, hq⟩
    obtain ⟨d2, hd2⟩ := hq2
    have := h.cl q y d2 hd2
    rw [look_put, if_neg fun z => by rw [z, hp] at this; cases this]
    exact this
theorem shp_node {i : Nat} {T : Tab} (hT : Tr i T) (S : List Path) : ∀ (j : Nat) (p : Path), shp (3 * j + 3) (nodeD T S j p) = true
  | 0, p => rfl
  | j + 1, p => by
    unfold nodeD
    cases hl : look T p with
    | none => rfl
    | some d =>
      rcases hT.vals p d hl with rfl | ⟨l, rfl, hf, _⟩
      · show ([D.str ("dir" : Str), .tup ((kids S p).map fun x => .tup [.str x, nodeD T S j (p ++ [x])])] : List D).all (shp (3 * j + 5)) = true
        simp only [List.all_cons, List.all_nil, Bool.and_true, Bool.and_eq_true]
        refine ⟨rfl, ?_⟩
        show ((kids S p).map fun x => D.tup [.str x, nodeD T S j (p ++ [x])]).all (shp (3 * j + 4)) = true
        refine List.all_eq_true.mpr fun e he => ?_
        obtain ⟨x, _, rfl⟩ := List.mem_map.mp he
        show ([D.str x, nodeD T S j (p ++ [x])] : List D).all (shp (3 * j + 3)) = true
        simp only [List.all_cons, List.all_nil, Bool.and_true, Bool.and_eq_true]
        exact ⟨rfl, shp_node hT S j _⟩
      · show ([D.str ("file" : Str), .tup l] : List D).all (shp (3 * j + 5)) = true
        simp only [List.all_cons, List.all_nil, Bool.and_true, Bool.and_eq_true]
        refine ⟨rfl, ?_⟩
        show l.all (shp (3 * j + 4)) = true
        exact List.all_eq_true.mpr fun e he => shp_le (by omega) (hf.fl e he)
/-- a table in which one file is longer -/
structure Longer (T T' : Tab) (P : Path) (l o : List D) : Prop where
  at_ : look T P = some (.tup l)
  now : look T' P = some (.tup (l ++ o))
  oth : ∀ q, q ≠ P → look T' q = look T q
  srt_ : srt T' = srt T
theorem Longer.put {T : Tab} {P : Path} {l o : List D} (h : look T P = some (.tup l)) : Longer T (Rf.put T P (.tup (l ++ o))) P l o :=
  ⟨h, by rw [look_put, if_pos rfl], fun q hq => by rw [look_put, if_neg hq], srt_put (look_in h)⟩
theorem node_same {T T' : Tab} {P : Path} {l o : List D} (h : Longer T T' P l o) {S : List Path} : ∀ (j : Nat) (q : Path), ¬ q <+: P → nodeD T S j q = nodeD T' S j q := by
  intro j
  induction j with
  | zero => intro q _; rfl
  | succ j ih =>
    intro q hq
    unfold nodeD
    rw [h.oth q fun z => hq (z ▸ List.prefix_refl _)]
    have e : ∀ x, nodeD T S j (q ++ [x]) = nodeD T' S j (q ++ [x]) := fun x => ih _ fun z => hq ((List.prefix_append q [x]).trans z)
    simp only [e]
/-! ### an append on the table -/
def noD (x : Str) : D := .tup [.str ("no" : Str), .str x]
def isDir : Option D → Bool
  | some .non => true
  | _ => false
theorem isDir_eq {o : Option D} : isDir o = true ↔ o = some .non := by
  unfold isDir
  split <;> simp_all
def apT (T : Tab) (P : Path) (o : List D) : Tab × D :=
  if !P.isEmpty && !isDir (look T P.dropLast) then (T, noD ("path" : Str))
  else match look T P with
    | none => (T, noD ("missing" : Str))
    | some (.tup l) => if 256 < l.length + o.length then (T, noD ("full" : Str)) else (Rf.put T P (.tup (l ++ o)), .tup [.str ("appended" : Str), .int ((l.length : Int) + o.length)])
    | some _ => (T, noD ("kind" : Str))
/-- what of a path's starts are directories -/
theorem Tr.up {i : Nat} {T : Tab} (h : Tr i T) : ∀ (r p : Path) (d : D), look T (p ++ r) = some d → r ≠ [] → look T p = some .non
  | [], p, d, _, hr => absurd rfl hr
  | x :: r, p, d, hl, _ => by
    have e : p ++ x :: r = (p ++ [x]) ++ r := by simp
    rw [e] at hl
    cases r with
    | nil => rw [List.append_nil] at hl; exact h.cl p x d hl
    | cons y r => exact h.cl p x _ (h.up (y :: r) (p ++ [x]) d hl (List.cons_ne_nil _ _))
theorem Tr.take {i : Nat} {T : Tab} (h : Tr i T) {P : Path} {d : D} (hl : look T P = some d) {k : Nat} (hk : k < P.length) : look T (P.take k) = some .non :=
  h.up (P.drop k) (P.take k) d (by rw [List.take_append_drop]; exact hl) fun z => by
    have := congrArg List.length z
    simp at this
    omega
theorem apT_ok {i : Nat} {T : Tab} (h : Tr i T) {P : Path} {o : List D} (ho : Oc o) : Tr i (apT T P o).1 ∧ srt (apT T P o).1 = srt T := by
  unfold apT
  split
  · exact ⟨h, rfl⟩
  · split
    · exact ⟨h, rfl⟩
    · rename_i l hl
      split
      · exact ⟨h, rfl⟩
      · rcases h.vals P _ hl with z | ⟨l', e, hf, _⟩
        · cases z
        · cases e
          exact h.upd hl (hf.app ho) (by rw [List.length_append]; omega)
    · exact ⟨h, rfl⟩
end Rf

set_option Elab.async false
set_option linter.all false
set_option maxRecDepth 100000
set_option maxHeartbeats 0
namespace Lk55
open PySem PySem.Spec PyProof.Rows L2 Rf
abbrev pw : Program := PySem.Challenge.pw_farleases_k55_whole_copies_are_what_the
abbrev rw' : PySem.W.OpenLaw := PySem.Challenge.rw_farleases_k55_whole_copies_are_what_the
def top (i : Nat) : Stmt := pw.main.body.getD i (.Pass ⟨0, 0, 0, 0⟩)
def b_is_tuple_of : MSts := (.cons (.ret (.and_ (.cons (.bi .isinst (.cons (.slot 0) (.cons (.bty "tuple") .nil))) (.cons (.chain .LtE .LtE (.slot 1) (.bi .len (.cons (.slot 0) .nil)) (.slot 2)) .nil))))
    .nil)
def fe_is_tuple_of : FE := ⟨("is_tuple_of" : Str), ("is_tuple_of" : Str), top 6, [("value" : Str), ("low" : Str), ("high" : Str)], ⟨3, 3, b_is_tuple_of, false⟩⟩
def b_is_text : MSts := (.cons (.ret (.and_ (.cons (.bi .isinst (.cons (.slot 0) (.cons (.bty "str") .nil))) (.cons (.chain .LtE .LtE (.slot 1) (.bi .len (.cons (.slot 0) .nil)) (.slot 2)) (.cons (.bi .all (.cons (.lc (.cmp .In (.slot 3) (.glob ("LETTERS" : Str))) (.nm 3) (.slot 0) .nil [3]) .nil)) .nil)))))
    .nil)
def fe_is_text : FE := ⟨("is_text" : Str), ("is_text" : Str), top 7, [("value" : Str), ("low" : Str), ("high" : Str), ("sign" : Str)], ⟨3, 4, b_is_text, false⟩⟩
def b_fits_name : MSts := (.cons (.ret (.call ("is_text" : Str) (.cons (.slot 0) (.cons (.cst (.int 1)) (.cons (.glob ("NAME" : Str)) .nil)))))
    .nil)
def fe_fits_name : FE := ⟨("fits_name" : Str), ("fits_name" : Str), top 11, [("value" : Str)], ⟨1, 1, b_fits_name, false⟩⟩
def b_fits_path : MSts := (.cons (.ret (.and_ (.cons (.call ("is_tuple_of" : Str) (.cons (.slot 0) (.cons (.cst (.int 0)) (.cons (.glob ("NAMES" : Str)) .nil)))) (.cons (.bi .all (.cons (.lc (.call ("fits_name" : Str) (.cons (.slot 1) .nil)) (.nm 1) (.slot 0) .nil [1]) .nil)) .nil))))
    .nil)
def fe_fits_path : FE := ⟨("fits_path" : Str), ("fits_path" : Str), top 12, [("value" : Str), ("name" : Str)], ⟨1, 2, b_fits_path, false⟩⟩
def b_is_inside : MSts := (.cons (.ret (.cmp .Eq (.slc (.slot 0) .nop (.bi .len (.cons (.slot 1) .nil))) (.slot 1)))
    .nil)
def fe_is_inside : FE := ⟨("is_inside" : Str), ("is_inside" : Str), top 13, [("path" : Str), ("other" : Str)], ⟨2, 2, b_is_inside, false⟩⟩
def b_need_path_1 : MSts := (.cons .bad
    .nil)
def b_need_path : MSts := (.cons (.ife (.not_ (.call ("fits_path" : Str) (.cons (.slot 0) .nil))) b_need_path_1 .nil)
    .nil)
def fe_need_path : FE := ⟨("need_path" : Str), ("need_path" : Str), top 14, [("value" : Str)], ⟨1, 1, b_need_path, false⟩⟩
def b_need_names_1 : MSts := (.cons .bad
    .nil)
def b_need_names : MSts := (.cons (.expr (.call ("need_path" : Str) (.cons (.slot 0) .nil)))
    (.cons (.ife (.cmp .Eq (.slot 0) (.tup .nil)) b_need_names_1 .nil)
    .nil))
def fe_need_names : FE := ⟨("need_names" : Str), ("need_names" : Str), top 15, [("value" : Str)], ⟨1, 1, b_need_names, false⟩⟩
def b_is_path : MSts := (.cons (.ret (.call ("fits_path" : Str) (.cons (.slot 0) .nil)))
    .nil)
def fe_is_path : FE := ⟨("is_path" : Str), ("is_path" : Str), top 16, [("value" : Str)], ⟨1, 1, b_is_path, false⟩⟩
def b_parent_of : MSts := (.cons (.expr (.call ("need_names" : Str) (.cons (.slot 0) .nil)))
    (.cons (.ret (.slc (.slot 0) .nop (.neg (.cst (.int 1)))))
    .nil))
def fe_parent_of : FE := ⟨("parent_of" : Str), ("parent_of" : Str), top 17, [("path" : Str)], ⟨1, 1, b_parent_of, false⟩⟩
def b_is_octets_1 : MSts := (.cons (.ret (.cst (.bl false)))
    .nil)
def b_is_octets_3 : MSts := (.cons (.ret (.cst (.bl false)))
    .nil)
def b_is_octets_2 : MSts := (.cons (.ife (.or_ (.cons (.not_ (.bi .isinst (.cons (.slot 2) (.cons (.bty "int") .nil)))) (.cons (.bi .isinst (.cons (.slot 2) (.cons (.bty "bool") .nil))) (.cons (.cmp .Lt (.slot 2) (.cst (.int 0))) (.cons (.cmp .Gt (.slot 2) (.cst (.int 255))) .nil))))) b_is_octets_3 .nil)
    .nil)
def b_is_octets : MSts := (.cons (.ife (.or_ (.cons (.not_ (.bi .isinst (.cons (.slot 0) (.cons (.bty "tuple") .nil)))) (.cons (.cmp .Gt (.bi .len (.cons (.slot 0) .nil)) (.slot 1)) .nil))) b_is_octets_1 .nil)
    (.cons (.fr (.nm 2) (.slot 0) b_is_octets_2)
    (.cons (.ret (.cst (.bl true)))
    .nil)))
def fe_is_octets : FE := ⟨("is_octets" : Str), ("is_octets" : Str), top 25, [("row" : Str), ("most" : Str), ("octet" : Str)], ⟨2, 3, b_is_octets, false⟩⟩
def b_is_tree_deed_1 : MSts := (.cons (.ret (.cst (.bl false)))
    .nil)
def b_is_tree_deed_2 : MSts := (.cons (.ret (.cst (.bl false)))
    .nil)
def b_is_tree_deed_3 : MSts := (.cons (.ret (.cmp .In (.ix (.slot 0) (.cst (.int 0))) (.glob ("SHORT_DEEDS" : Str))))
    .nil)
def b_is_tree_deed_4 : MSts := (.cons (.ret (.call ("is_path" : Str) (.cons (.ix (.slot 0) (.cst (.int 2))) .nil)))
    .nil)
def b_is_tree_deed : MSts := (.cons (.ife (.or_ (.cons (.not_ (.bi .isinst (.cons (.slot 0) (.cons (.bty "tuple") .nil)))) (.cons (.cmp .Lt (.bi .len (.cons (.slot 0) .nil)) (.cst (.int 2))) (.cons (.cmp .Gt (.bi .len (.cons (.slot 0) .nil)) (.cst (.int 3))) .nil)))) b_is_tree_deed_1 .nil)
    (.cons (.ife (.or_ (.cons (.not_ (.bi .isinst (.cons (.ix (.slot 0) (.cst (.int 0))) (.cons (.bty "str") .nil)))) (.cons (.not_ (.call ("is_path" : Str) (.cons (.ix (.slot 0) (.cst (.int 1))) .nil))) .nil))) b_is_tree_deed_2 .nil)
    (.cons (.ife (.cmp .Eq (.bi .len (.cons (.slot 0) .nil)) (.cst (.int 2))) b_is_tree_deed_3 .nil)
    (.cons (.ife (.cmp .Eq (.ix (.slot 0) (.cst (.int 0))) (.cst (.str ("rename" : Str)))) b_is_tree_deed_4 .nil)
    (.cons (.ret (.and_ (.cons (.cmp .Eq (.ix (.slot 0) (.cst (.int 0))) (.cst (.str ("append" : Str)))) (.cons (.call ("is_octets" : Str) (.cons (.ix (.slot 0) (.cst (.int 2))) (.cons (.glob ("MOST_APPENDED" : Str)) .nil))) .nil))))
    .nil)))))
def fe_is_tree_deed : FE := ⟨("is_tree_deed" : Str), ("is_tree_deed" : Str), top 26, [("deed" : Str)], ⟨1, 1, b_is_tree_deed, false⟩⟩
def b__many_in_1 : MSts := (.cons (.ret (.cst (.int 0)))
    .nil)
def b__many_in : MSts := (.cons (.ife (.cmp .Eq (.ix (.slot 0) (.cst (.int 0))) (.cst (.str ("file" : Str)))) b__many_in_1 .nil)
    (.cons (.ret (.bi .sum (.cons (.lc (.bin .Add (.cst (.int 1)) (.call ("_many_in" : Str) (.cons (.slot 2) .nil))) (.tp [1, 2]) (.ix (.slot 0) (.cst (.int 1))) .nil [1, 2]) .nil)))
    .nil))
def fe__many_in : FE := ⟨("_many_in" : Str), ("_many_in" : Str), top 28, [("tree" : Str), ("name" : Str), ("below" : Str)], ⟨1, 3, b__many_in, false⟩⟩
def b__height_1 : MSts := (.cons (.ret (.cst (.int 0)))
    .nil)
def b__height : MSts := (.cons (.ife (.cmp .Eq (.ix (.slot 0) (.cst (.int 0))) (.cst (.str ("file" : Str)))) b__height_1 .nil)
    (.cons .bad
    .nil))
def fe__height : FE := ⟨("_height" : Str), ("_height" : Str), top 29, [("tree" : Str), ("name" : Str), ("below" : Str)], ⟨1, 3, b__height, false⟩⟩
def b__child_3 : MSts := (.cons (.ret (.ix (.slot 2) (.cst (.int 1))))
    .nil)
def b__child_2 : MSts := (.cons (.ife (.cmp .Eq (.ix (.slot 2) (.cst (.int 0))) (.slot 1)) b__child_3 .nil)
    .nil)
def b__child_1 : MSts := (.cons (.fr (.nm 2) (.ix (.slot 0) (.cst (.int 1))) b__child_2)
    .nil)
def b__child : MSts := (.cons (.ife (.cmp .Eq (.ix (.slot 0) (.cst (.int 0))) (.cst (.str ("dir" : Str)))) b__child_1 .nil)
    (.cons (.ret (.cst (.non)))
    .nil))
def fe__child : FE := ⟨("_child" : Str), ("_child" : Str), top 30, [("tree" : Str), ("name" : Str), ("row" : Str)], ⟨2, 3, b__child, false⟩⟩
def b_tree_at_2 : MSts := (.cons (.ret (.cst (.non)))
    .nil)
def b_tree_at_1 : MSts := (.cons (.asg (.nm 0) (.call ("_child" : Str) (.cons (.slot 0) (.cons (.slot 2) .nil))))
    (.cons (.ife (.cmp .Is (.slot 0) (.cst (.non))) b_tree_at_2 .nil)
    .nil))
def b_tree_at : MSts := (.cons (.fr (.nm 2) (.slot 1) b_tree_at_1)
    (.cons (.ret (.slot 0))
    .nil))
def fe_tree_at : FE := ⟨("tree_at" : Str), ("tree_at" : Str), top 31, [("tree" : Str), ("path" : Str), ("name" : Str)], ⟨2, 3, b_tree_at, false⟩⟩
def b__why_not_1 : MSts := (.cons (.ret (.cst (.str ("" : Str))))
    .nil)
def b__why_not_2 : MSts := (.cons (.ret (.cst (.str ("path" : Str))))
    .nil)
def b__why_not : MSts := (.cons (.ife (.not_ (.slot 1)) b__why_not_1 .nil)
    (.cons (.asg (.nm 2) (.call ("tree_at" : Str) (.cons (.slot 0) (.cons (.call ("parent_of" : Str) (.cons (.slot 1) .nil)) .nil))))
    (.cons (.ife (.or_ (.cons (.cmp .Is (.slot 2) (.cst (.non))) (.cons (.cmp .Eq (.ix (.slot 2) (.cst (.int 0))) (.cst (.str ("file" : Str)))) .nil))) b__why_not_2 .nil)
    (.cons (.ret (.ife (.cmp .Is (.call ("_child" : Str) (.cons (.slot 2) (.cons (.ix (.slot 1) (.neg (.cst (.int 1)))) .nil))) (.cst (.non))) (.cst (.str ("missing" : Str))) (.cst (.str ("" : Str)))))
    .nil))))
def fe__why_not : FE := ⟨("_why_not" : Str), ("_why_not" : Str), top 32, [("tree" : Str), ("path" : Str), ("above" : Str)], ⟨2, 3, b__why_not, false⟩⟩
def b__with_child : MSts := (.cons (.asg (.nm 3) (.lc (.slot 6) (.nm 6) (.ix (.slot 0) (.cst (.int 1))) (.cons (.cmp .Lt (.ix (.slot 6) (.cst (.int 0))) (.slot 1)) .nil) [6]))
    (.cons (.asg (.nm 4) (.lc (.slot 6) (.nm 6) (.ix (.slot 0) (.cst (.int 1))) (.cons (.cmp .Gt (.ix (.slot 6) (.cst (.int 0))) (.slot 1)) .nil) [6]))
    (.cons (.asg (.nm 5) (.ife (.cmp .Is (.slot 2) (.cst (.non))) (.lst false .nil) (.lst false (.cons (.tup (.cons (.slot 1) (.cons (.slot 2) .nil))) .nil))))
    (.cons (.ret (.tup (.cons (.cst (.str ("dir" : Str))) (.cons (.bi .tuple (.cons (.bin .Add (.bin .Add (.slot 3) (.slot 5)) (.slot 4)) .nil)) .nil))))
    .nil))))
def fe__with_child : FE := ⟨("_with_child" : Str), ("_with_child" : Str), top 33, [("tree" : Str), ("name" : Str), ("below" : Str), ("ahead" : Str), ("behind" : Str), ("own" : Str), ("row" : Str)], ⟨3, 7, b__with_child, false⟩⟩
def b__put_1 : MSts := (.cons (.ret (.call ("_with_child" : Str) (.cons (.slot 0) (.cons (.ix (.slot 1) (.cst (.int 0))) (.cons (.call ("_put" : Str) (.cons (.call ("_child" : Str) (.cons (.slot 0) (.cons (.ix (.slot 1) (.cst (.int 0))) .nil))) (.cons (.slc (.slot 1) (.cst (.int 1)) .nop) (.cons (.slot 2) .nil)))) .nil)))))
    .nil)
def b__put : MSts := (.cons (.ife (.cmp .Gt (.bi .len (.cons (.slot 1) .nil)) (.cst (.int 1))) b__put_1 .nil)
    (.cons (.ret (.call ("_with_child" : Str) (.cons (.slot 0) (.cons (.ix (.slot 1) (.cst (.int 0))) (.cons (.slot 2) .nil)))))
    .nil))
def fe__put : FE := ⟨("_put" : Str), ("_put" : Str), top 34, [("tree" : Str), ("path" : Str), ("below" : Str)], ⟨3, 3, b__put, false⟩⟩
def b__make_1 : MSts := (.cons (.ret (.tup (.cons (.slot 0) (.cons (.tup (.cons (.cst (.str ("no" : Str))) (.cons (.cst (.str ("there" : Str))) .nil))) .nil))))
    .nil)
def b__make_2 : MSts := (.cons (.ret (.tup (.cons (.slot 0) (.cons (.tup (.cons (.cst (.str ("no" : Str))) (.cons (.or_ (.cons (.slot 3) (.cons (.cst (.str ("there" : Str))) .nil))) .nil))) .nil))))
    .nil)
def b__make_3 : MSts := (.cons (.ret (.tup (.cons (.slot 0) (.cons (.tup (.cons (.cst (.str ("no" : Str))) (.cons (.cst (.str ("full" : Str))) .nil))) .nil))))
    .nil)
def b__make : MSts := (.cons (.asg (.nm 2) (.ix (.slot 1) (.cst (.int 1))))
    (.cons (.ife (.not_ (.slot 2)) b__make_1 .nil)
    (.cons (.asg (.nm 3) (.call ("_why_not" : Str) (.cons (.slot 0) (.cons (.slot 2) .nil))))
    (.cons (.ife (.cmp .NotEq (.slot 3) (.cst (.str ("missing" : Str)))) b__make_2 .nil)
    (.cons (.ife (.or_ (.cons (.cmp .Eq (.call ("_many_in" : Str) (.cons (.slot 0) .nil)) (.glob ("MOST_ENTRIES" : Str))) (.cons (.cmp .Eq (.bi .len (.cons (.ix (.call ("tree_at" : Str) (.cons (.slot 0) (.cons (.call ("parent_of" : Str) (.cons (.slot 2) .nil)) .nil))) (.cst (.int 1))) .nil)) (.glob ("MOST_NAMES" : Str))) .nil))) b__make_3 .nil)
    (.cons (.ret (.tup (.cons (.call ("_put" : Str) (.cons (.slot 0) (.cons (.slot 2) (.cons (.tup (.cons (.ife (.cmp .Eq (.ix (.slot 1) (.cst (.int 0))) (.cst (.str ("makedir" : Str)))) (.cst (.str ("dir" : Str))) (.cst (.str ("file" : Str)))) (.cons (.tup .nil) .nil))) .nil)))) (.cons (.tup (.cons (.cst (.str ("made" : Str))) .nil)) .nil))))
    .nil))))))
def fe__make : FE := ⟨("_make" : Str), ("_make" : Str), top 35, [("tree" : Str), ("deed" : Str), ("path" : Str), ("why" : Str)], ⟨2, 4, b__make, false⟩⟩
def b__append_1 : MSts := (.cons (.ret (.tup (.cons (.slot 0) (.cons (.tup (.cons (.cst (.str ("no" : Str))) (.cons (.slot 2) .nil))) .nil))))
    .nil)
def b__append_2 : MSts := (.cons (.ret (.tup (.cons (.slot 0) (.cons (.tup (.cons (.cst (.str ("no" : Str))) (.cons (.cst (.str ("kind" : Str))) .nil))) .nil))))
    .nil)
def b__append_3 : MSts := (.cons (.ret (.tup (.cons (.slot 0) (.cons (.tup (.cons (.cst (.str ("no" : Str))) (.cons (.cst (.str ("full" : Str))) .nil))) .nil))))
    .nil)
def b__append : MSts := (.cons (.asg (.nm 2) (.call ("_why_not" : Str) (.cons (.slot 0) (.cons (.ix (.slot 1) (.cst (.int 1))) .nil))))
    (.cons (.ife (.slot 2) b__append_1 .nil)
    (.cons (.asg (.nm 3) (.call ("tree_at" : Str) (.cons (.slot 0) (.cons (.ix (.slot 1) (.cst (.int 1))) .nil))))
    (.cons (.ife (.cmp .Eq (.ix (.slot 3) (.cst (.int 0))) (.cst (.str ("dir" : Str)))) b__append_2 .nil)
    (.cons (.asg (.nm 4) (.bin .Add (.ix (.slot 3) (.cst (.int 1))) (.ix (.slot 1) (.cst (.int 2)))))
    (.cons (.ife (.cmp .Gt (.bi .len (.cons (.slot 4) .nil)) (.glob ("MOST_OCTETS" : Str))) b__append_3 .nil)
    (.cons (.ret (.tup (.cons (.call ("_put" : Str) (.cons (.slot 0) (.cons (.ix (.slot 1) (.cst (.int 1))) (.cons (.tup (.cons (.cst (.str ("file" : Str))) (.cons (.slot 4) .nil))) .nil)))) (.cons (.tup (.cons (.cst (.str ("appended" : Str))) (.cons (.bi .len (.cons (.slot 4) .nil)) .nil))) .nil))))
    .nil)))))))
def fe__append : FE := ⟨("_append" : Str), ("_append" : Str), top 36, [("tree" : Str), ("deed" : Str), ("why" : Str), ("its" : Str), ("octets" : Str)], ⟨2, 5, b__append, false⟩⟩
def b__reading_1 : MSts := (.cons (.ret (.tup (.cons (.slot 0) (.cons (.tup (.cons (.cst (.str ("no" : Str))) (.cons (.slot 2) .nil))) .nil))))
    .nil)
def b__reading_2 : MSts := (.cons (.ret (.tup (.cons (.slot 0) (.cons (.tup (.cons (.cst (.str ("no" : Str))) (.cons (.cst (.str ("kind" : Str))) .nil))) .nil))))
    .nil)
def b__reading_3 : MSts := (.cons (.ret (.tup (.cons (.slot 0) (.cons (.tup (.cons (.cst (.str ("names" : Str))) (.cons (.bi .tuple (.cons (.lc (.slot 4) (.tp [4, 5]) (.ix (.slot 3) (.cst (.int 1))) .nil [4, 5]) .nil)) .nil))) .nil))))
    .nil)
def b__reading : MSts := (.cons (.asg (.nm 2) (.call ("_why_not" : Str) (.cons (.slot 0) (.cons (.ix (.slot 1) (.cst (.int 1))) .nil))))
    (.cons (.ife (.slot 2) b__reading_1 .nil)
    (.cons (.asg (.nm 3) (.call ("tree_at" : Str) (.cons (.slot 0) (.cons (.ix (.slot 1) (.cst (.int 1))) .nil))))
    (.cons (.ife (.cmp .NotEq (.cmp .Eq (.ix (.slot 3) (.cst (.int 0))) (.cst (.str ("dir" : Str)))) (.cmp .Eq (.ix (.slot 1) (.cst (.int 0))) (.cst (.str ("list" : Str))))) b__reading_2 .nil)
    (.cons (.ife (.cmp .Eq (.ix (.slot 1) (.cst (.int 0))) (.cst (.str ("list" : Str)))) b__reading_3 .nil)
    (.cons (.ret (.tup (.cons (.slot 0) (.cons (.ife (.cmp .Eq (.ix (.slot 1) (.cst (.int 0))) (.cst (.str ("size" : Str)))) (.tup (.cons (.cst (.str ("size" : Str))) (.cons (.bi .len (.cons (.ix (.slot 3) (.cst (.int 1))) .nil)) .nil))) (.tup (.cons (.cst (.str ("octets" : Str))) (.cons (.ix (.slot 3) (.cst (.int 1))) .nil)))) .nil))))
    .nil))))))
def fe__reading : FE := ⟨("_reading" : Str), ("_reading" : Str), top 37, [("tree" : Str), ("deed" : Str), ("why" : Str), ("its" : Str), ("name" : Str), ("below" : Str)], ⟨2, 6, b__reading, false⟩⟩
def b__remove_1 : MSts := (.cons (.ret (.tup (.cons (.slot 0) (.cons (.tup (.cons (.cst (.str ("no" : Str))) (.cons (.cst (.str ("kept" : Str))) .nil))) .nil))))
    .nil)
def b__remove_2 : MSts := (.cons (.ret (.tup (.cons (.slot 0) (.cons (.tup (.cons (.cst (.str ("no" : Str))) (.cons (.slot 2) .nil))) .nil))))
    .nil)
def b__remove_3 : MSts := (.cons (.ret (.tup (.cons (.slot 0) (.cons (.tup (.cons (.cst (.str ("no" : Str))) (.cons (.cst (.str ("kept" : Str))) .nil))) .nil))))
    .nil)
def b__remove : MSts := (.cons (.ife (.not_ (.ix (.slot 1) (.cst (.int 1)))) b__remove_1 .nil)
    (.cons (.asg (.nm 2) (.call ("_why_not" : Str) (.cons (.slot 0) (.cons (.ix (.slot 1) (.cst (.int 1))) .nil))))
    (.cons (.ife (.slot 2) b__remove_2 .nil)
    (.cons (.asg (.nm 3) (.call ("tree_at" : Str) (.cons (.slot 0) (.cons (.ix (.slot 1) (.cst (.int 1))) .nil))))
    (.cons (.ife (.and_ (.cons (.cmp .Eq (.ix (.slot 3) (.cst (.int 0))) (.cst (.str ("dir" : Str)))) (.cons (.ix (.slot 3) (.cst (.int 1))) .nil))) b__remove_3 .nil)
    (.cons (.ret (.tup (.cons (.call ("_put" : Str) (.cons (.slot 0) (.cons (.ix (.slot 1) (.cst (.int 1))) (.cons (.cst (.non)) .nil)))) (.cons (.tup (.cons (.cst (.str ("removed" : Str))) .nil)) .nil))))
    .nil))))))
def fe__remove : FE := ⟨("_remove" : Str), ("_remove" : Str), top 38, [("tree" : Str), ("deed" : Str), ("why" : Str), ("its" : Str)], ⟨2, 4, b__remove, false⟩⟩
def b__why_not_moved_1 : MSts := (.cons (.ret (.cst (.str ("kept" : Str))))
    .nil)
def b__why_not_moved_2 : MSts := (.cons (.ret (.slot 3))
    .nil)
def b__why_not_moved_3 : MSts := (.cons (.ret (.cst (.str ("there" : Str))))
    .nil)
def b__why_not_moved_4 : MSts := (.cons (.ret (.cst (.str ("within" : Str))))
    .nil)
def b__why_not_moved_5 : MSts := (.cons (.ret (.or_ (.cons (.slot 3) (.cons (.cst (.str ("there" : Str))) .nil))))
    .nil)
def b__why_not_moved_6 : MSts := (.cons (.ret (.cst (.str ("deep" : Str))))
    .nil)
def b__why_not_moved_7 : MSts := (.cons (.ret (.cst (.str ("full" : Str))))
    .nil)
def b__why_not_moved : MSts := (.cons (.ife (.not_ (.slot 1)) b__why_not_moved_1 .nil)
    (.cons (.asg (.nm 3) (.call ("_why_not" : Str) (.cons (.slot 0) (.cons (.slot 1) .nil))))
    (.cons (.ife (.slot 3) b__why_not_moved_2 .nil)
    (.cons (.ife (.or_ (.cons (.not_ (.slot 2)) (.cons (.cmp .Eq (.slot 2) (.slot 1)) .nil))) b__why_not_moved_3 .nil)
    (.cons (.ife (.call ("is_inside" : Str) (.cons (.slot 2) (.cons (.slot 1) .nil))) b__why_not_moved_4 .nil)
    (.cons (.asg (.nm 3) (.call ("_why_not" : Str) (.cons (.slot 0) (.cons (.slot 2) .nil))))
    (.cons (.ife (.cmp .NotEq (.slot 3) (.cst (.str ("missing" : Str)))) b__why_not_moved_5 .nil)
    (.cons (.ife (.cmp .Gt (.bin .Add (.bi .len (.cons (.slot 2) .nil)) (.call ("_height" : Str) (.cons (.call ("tree_at" : Str) (.cons (.slot 0) (.cons (.slot 1) .nil))) .nil))) (.glob ("MOST_STEPS" : Str))) b__why_not_moved_6 .nil)
    (.cons (.ife (.and_ (.cons (.cmp .NotEq (.call ("parent_of" : Str) (.cons (.slot 2) .nil)) (.call ("parent_of" : Str) (.cons (.slot 1) .nil))) (.cons (.cmp .Eq (.bi .len (.cons (.ix (.call ("tree_at" : Str) (.cons (.slot 0) (.cons (.call ("parent_of" : Str) (.cons (.slot 2) .nil)) .nil))) (.cst (.int 1))) .nil)) (.glob ("MOST_NAMES" : Str))) .nil))) b__why_not_moved_7 .nil)
    (.cons (.ret (.cst (.str ("" : Str))))
    .nil))))))))))
def fe__why_not_moved : FE := ⟨("_why_not_moved" : Str), ("_why_not_moved" : Str), top 39, [("tree" : Str), ("path" : Str), ("other" : Str), ("why" : Str)], ⟨3, 4, b__why_not_moved, false⟩⟩
def b__rename_1 : MSts := (.cons (.ret (.tup (.cons (.slot 0) (.cons (.tup (.cons (.cst (.str ("no" : Str))) (.cons (.slot 2) .nil))) .nil))))
    .nil)
def b__rename : MSts := (.cons (.asg (.nm 2) (.call ("_why_not_moved" : Str) (.cons (.slot 0) (.cons (.ix (.slot 1) (.cst (.int 1))) (.cons (.ix (.slot 1) (.cst (.int 2))) .nil)))))
    (.cons (.ife (.slot 2) b__rename_1 .nil)
    (.cons (.asg (.nm 3) (.call ("tree_at" : Str) (.cons (.slot 0) (.cons (.ix (.slot 1) (.cst (.int 1))) .nil))))
    (.cons (.ret (.tup (.cons (.call ("_put" : Str) (.cons (.call ("_put" : Str) (.cons (.slot 0) (.cons (.ix (.slot 1) (.cst (.int 1))) (.cons (.cst (.non)) .nil)))) (.cons (.ix (.slot 1) (.cst (.int 2))) (.cons (.slot 3) .nil)))) (.cons (.tup (.cons (.cst (.str ("renamed" : Str))) .nil)) .nil))))
    .nil))))
def fe__rename : FE := ⟨("_rename" : Str), ("_rename" : Str), top 40, [("tree" : Str), ("deed" : Str), ("why" : Str), ("moved" : Str)], ⟨2, 4, b__rename, false⟩⟩
def b_tree_done_1 : MSts := (.cons .bad
    .nil)
def b_tree_done : MSts := (.cons (.ife (.not_ (.call ("is_tree_deed" : Str) (.cons (.slot 1) .nil))) b_tree_done_1 .nil)
    (.cons (.asg (.nm 2) (.cget ("DEEDS" : Str) [(("makedir" : Str), ("_make" : Str)), (("makefile" : Str), ("_make" : Str)), (("append" : Str), ("_append" : Str)), (("read" : Str), ("_reading" : Str)), (("list" : Str), ("_reading" : Str)), (("size" : Str), ("_reading" : Str)), (("remove" : Str), ("_remove" : Str)), (("rename" : Str), ("_rename" : Str))] (.ix (.slot 1) (.cst (.int 0)))))
    (.cons (.ret (.callv 2 (.cons (.slot 0) (.cons (.slot 1) .nil))))
    .nil)))
def fe_tree_done : FE := ⟨("tree_done" : Str), ("tree_done" : Str), top 42, [("tree" : Str), ("deed" : Str), ("do" : Str)], ⟨2, 3, b_tree_done, false⟩⟩
def b_covers : MSts := (.cons (.ret (.or_ (.cons (.cmp .Eq (.ix (.slot 0) (.cst (.int 0))) (.slot 1)) (.cons (.and_ (.cons (.cmp .Eq (.ix (.slot 0) (.cst (.int 1))) (.cst (.str ("folder" : Str)))) (.cons (.call ("is_inside" : Str) (.cons (.slot 1) (.cons (.ix (.slot 0) (.cst (.int 0))) .nil))) .nil))) .nil))))
    .nil)
def fe_covers : FE := ⟨("covers" : Str), ("covers" : Str), top 46, [("one" : Str), ("path" : Str)], ⟨2, 2, b_covers, false⟩⟩
def b_answered_by_1 : MSts := (.cons (.ret (.cst (.non)))
    .nil)
def b_answered_by_3 : MSts := (.cons (.ret (.ix (.call ("tree_done" : Str) (.cons (.ix (.slot 2) (.cst (.int 3))) (.cons (.tup (.cons (.ix (.slot 1) (.cst (.int 0))) (.cons (.slc (.ix (.slot 1) (.cst (.int 1))) (.bi .len (.cons (.ix (.slot 2) (.cst (.int 0))) .nil)) .nop) .nil))) .nil))) (.cst (.int 1))))
    .nil)
def b_answered_by_2 : MSts := (.cons (.ife (.call ("covers" : Str) (.cons (.slot 2) (.cons (.ix (.slot 1) (.cst (.int 1))) .nil))) b_answered_by_3 .nil)
    .nil)
def b_answered_by : MSts := (.cons (.ife (.cmp .NotIn (.ix (.slot 1) (.cst (.int 0))) (.glob ("READINGS" : Str))) b_answered_by_1 .nil)
    (.cons (.fr (.nm 2) (.slot 0) b_answered_by_2)
    (.cons (.ret (.cst (.non)))
    .nil)))
def fe_answered_by : FE := ⟨("answered_by" : Str), ("answered_by" : Str), top 47, [("copies" : Str), ("deed" : Str), ("one" : Str)], ⟨2, 3, b_answered_by, false⟩⟩
def b_node_with_1 : MSts := (.cons (.ret (.ife (.cmp .Eq (.slot 1) (.tup .nil)) (.tup (.cons (.cst (.str ("file" : Str))) (.cons (.bin .Add (.ix (.slot 0) (.cst (.int 1))) (.slot 2)) .nil))) (.slot 0)))
    .nil)
def b_node_with_2 : MSts := (.cons (.asg (.nm 3) (.bin .Add (.slot 3) (.lst false (.cons (.tup (.cons (.slot 4) (.cons (.ife (.cmp .Eq (.slc (.slot 1) .nop (.cst (.int 1))) (.tup (.cons (.slot 4) .nil))) (.call ("node_with" : Str) (.cons (.slot 5) (.cons (.slc (.slot 1) (.cst (.int 1)) .nop) (.cons (.slot 2) .nil)))) (.slot 5)) .nil))) .nil))))
    .nil)
def b_node_with : MSts := (.cons (.ife (.cmp .Eq (.ix (.slot 0) (.cst (.int 0))) (.cst (.str ("file" : Str)))) b_node_with_1 .nil)
    (.cons (.asg (.nm 3) (.lst false .nil))
    (.cons (.fr (.tp [4, 5]) (.ix (.slot 0) (.cst (.int 1))) b_node_with_2)
    (.cons (.ret (.tup (.cons (.cst (.str ("dir" : Str))) (.cons (.bi .tuple (.cons (.slot 3) .nil)) .nil))))
    .nil))))
def fe_node_with : FE := ⟨("node_with" : Str), ("node_with" : Str), top 48, [("node" : Str), ("path" : Str), ("octets" : Str), ("rows" : Str), ("name" : Str), ("below" : Str)], ⟨3, 6, b_node_with, false⟩⟩
def b_longer_1 : MSts := (.cons (.ret (.slot 0))
    .nil)
def b_longer : MSts := (.cons (.ife (.not_ (.call ("covers" : Str) (.cons (.slot 0) (.cons (.slot 1) .nil)))) b_longer_1 .nil)
    (.cons (.ret (.tup (.cons (.ix (.slot 0) (.cst (.int 0))) (.cons (.ix (.slot 0) (.cst (.int 1))) (.cons (.ix (.slot 0) (.cst (.int 2))) (.cons (.call ("node_with" : Str) (.cons (.ix (.slot 0) (.cst (.int 3))) (.cons (.slc (.slot 1) (.bi .len (.cons (.ix (.slot 0) (.cst (.int 0))) .nil)) .nop) (.cons (.slot 2) .nil)))) .nil))))))
    .nil))
def fe_longer : FE := ⟨("longer" : Str), ("longer" : Str), top 49, [("one" : Str), ("path" : Str), ("octets" : Str)], ⟨3, 3, b_longer, false⟩⟩
def b_own_done_1 : MSts := (.cons (.ret (.cst (.non)))
    .nil)
def b_own_done_2 : MSts := (.cons (.ret (.tup (.cons (.slot 0) (.cons (.tup (.cons (.cst (.str ("no" : Str))) (.cons (.cst (.str ("full" : Str))) .nil))) .nil))))
    .nil)
def b_own_done : MSts := (.cons (.asg (.tp [2, 3]) (.tup (.cons (.ix (.slot 1) (.cst (.int 1))) (.cons (.ix (.slot 1) (.cst (.int 2))) .nil))))
    (.cons (.asg (.nm 4) (.lc (.slot 9) (.tp [6, 7, 8, 9]) (.slot 0) (.cons (.and_ (.cons (.cmp .Eq (.slot 6) (.slot 2)) (.cons (.cmp .Eq (.slot 7) (.cst (.str ("write" : Str)))) .nil))) .nil) [6, 7, 8, 9]))
    (.cons (.ife (.not_ (.slot 4)) b_own_done_1 .nil)
    (.cons (.asg (.nm 5) (.bin .Add (.bi .len (.cons (.ix (.ix (.slot 4) (.cst (.int 0))) (.cst (.int 1))) .nil)) (.bi .len (.cons (.slot 3) .nil))))
    (.cons (.ife (.cmp .Gt (.slot 5) (.glob ("SIZE" : Str))) b_own_done_2 .nil)
    (.cons (.ret (.tup (.cons (.bi .tuple (.cons (.lc (.call ("longer" : Str) (.cons (.slot 10) (.cons (.slot 2) (.cons (.slot 3) .nil)))) (.nm 10) (.slot 0) .nil [10]) .nil)) (.cons (.tup (.cons (.cst (.str ("appended" : Str))) (.cons (.slot 5) .nil))) .nil))))
    .nil))))))
def fe_own_done : FE := ⟨("own_done" : Str), ("own_done" : Str), top 50, [("copies" : Str), ("deed" : Str), ("path" : Str), ("octets" : Str), ("files" : Str), ("size" : Str), ("place" : Str), ("kind" : Str), ("serial" : Str), ("node" : Str), ("one" : Str)], ⟨2, 11, b_own_done, false⟩⟩
def b_fresh_own : MSts := (.cons (.ret (.tup (.cons (.cst (.int 0)) (.cons (.tup .nil) .nil))))
    .nil)
def fe_fresh_own : FE := ⟨("fresh_own" : Str), ("fresh_own" : Str), top 53, [], ⟨0, 0, b_fresh_own, false⟩⟩
def b_with_own : MSts := (.cons (.ret (.tup (.cons (.ix (.slot 0) (.cst (.int 0))) (.cons (.bin .Add (.ix (.slot 0) (.cst (.int 1))) (.tup (.cons (.tup (.cons (.slot 1) (.cons (.slot 2) (.cons (.slot 3) .nil)))) .nil))) .nil))))
    .nil)
def fe_with_own : FE := ⟨("with_own" : Str), ("with_own" : Str), top 54, [("own" : Str), ("serial" : Str), ("path" : Str), ("octets" : Str)], ⟨4, 4, b_with_own, false⟩⟩
def b_is_crowded : MSts := (.cons (.ret (.cmp .GtE (.bi .len (.cons (.ix (.slot 0) (.cst (.int 1))) .nil)) (.glob ("CROWD" : Str))))
    .nil)
def fe_is_crowded : FE := ⟨("is_crowded" : Str), ("is_crowded" : Str), top 55, [("own" : Str)], ⟨1, 1, b_is_crowded, false⟩⟩
def b_to_hand : MSts := (.cons (.ret (.tup (.cons (.bin .Add (.ix (.slot 0) (.cst (.int 0))) (.cst (.int 1))) (.cons (.bi .tuple (.cons (.lc (.tup (.cons (.slot 2) (.cons (.slot 3) .nil))) (.tp [1, 2, 3]) (.ix (.slot 0) (.cst (.int 1))) .nil [1, 2, 3]) .nil)) .nil))))
    .nil)
def fe_to_hand : FE := ⟨("to_hand" : Str), ("to_hand" : Str), top 56, [("own" : Str), ("serial" : Str), ("path" : Str), ("octets" : Str)], ⟨1, 4, b_to_hand, false⟩⟩
def b_handed_up_1 : MSts := (.cons (.ret (.slot 0))
    .nil)
def b_handed_up : MSts := (.cons (.asg (.tp [2, 3]) (.slot 0))
    (.cons (.ife (.not_ (.chain .LtE .LtE (.slot 2) (.slot 1) (.bin .Add (.slot 2) (.bi .len (.cons (.slot 3) .nil))))) b_handed_up_1 .nil)
    (.cons (.ret (.tup (.cons (.slot 1) (.cons (.slc (.slot 3) (.bin .Sub (.slot 1) (.slot 2)) .nop) .nil))))
    .nil)))
def fe_handed_up : FE := ⟨("handed_up" : Str), ("handed_up" : Str), top 57, [("own" : Str), ("number" : Str), ("known" : Str), ("appends" : Str)], ⟨2, 4, b_handed_up, false⟩⟩
def b_beyond_1 : MSts := (.cons (.ret (.tup .nil))
    .nil)
def b_beyond : MSts := (.cons (.ife (.cmp .Gt (.slot 1) (.bin .Add (.slot 0) (.cst (.int 1)))) b_beyond_1 .nil)
    (.cons (.ret (.slc (.slot 2) (.bin .Sub (.bin .Add (.slot 0) (.cst (.int 1))) (.slot 1)) .nop))
    .nil))
def fe_beyond : FE := ⟨("beyond" : Str), ("beyond" : Str), top 58, [("handed" : Str), ("first" : Str), ("appends" : Str)], ⟨3, 3, b_beyond, false⟩⟩
def b_handed_on_1 : MSts := (.cons (.asg (.tp [0, 5]) (.call ("tree_done" : Str) (.cons (.slot 0) (.cons (.tup (.cons (.cst (.str ("append" : Str))) (.cons (.slot 3) (.cons (.slot 4) .nil)))) .nil))))
    (.cons (.asg (.nm 2) (.bin .Add (.slot 2) (.tup (.cons (.slot 5) .nil))))
    .nil))
def b_handed_on : MSts := (.cons (.asg (.nm 2) (.tup .nil))
    (.cons (.fr (.tp [3, 4]) (.slot 1) b_handed_on_1)
    (.cons (.ret (.tup (.cons (.slot 0) (.cons (.slot 2) .nil))))
    .nil)))
def fe_handed_on : FE := ⟨("handed_on" : Str), ("handed_on" : Str), top 59, [("tree" : Str), ("appends" : Str), ("answers" : Str), ("path" : Str), ("octets" : Str), ("answer" : Str)], ⟨2, 6, b_handed_on, false⟩⟩
def b__law_cup : MSts := (.cons (.asg (.nm 1) (.bi .abs (.cons (.ix (.bin .Add (.bi .list (.cons (.slot 0) .nil)) (.lst false (.cons (.cst (.int 0)) .nil))) (.cst (.int 0))) .nil)))
    (.cons (.ret (.lst true (.cons (.ife (.cmp .GtE (.slot 1) (.bin .Pow (.cst (.int 10)) (.cst (.int 18)))) (.bin .FloorDiv (.slot 1) (.cst (.int 67))) (.cst (.int 0))) (.cons (.bin .Add (.bin .Mod (.bi .int (.cons (.bin .Add (.bin .Mult (.slot 1) (.cst (.int 277))) (.cst (.int 2609))) .nil)) (.cst (.int 2077503167))) (.cst (.int 163))) .nil))))
    .nil))
def fe__law_cup : FE := ⟨("_law_cup" : Str), ("_law_cup" : Str), top 61, [("script" : Str), ("cell" : Str)], ⟨1, 2, b__law_cup, false⟩⟩
def b__law_roll_1 : MSts := (.cons (.asg (.nm 2) (.bin .Mod (.bi .int (.cons (.ix (.slot 0) (.cst (.int 0))) .nil)) (.slot 1)))
    (.cons (.asgIx (.slot 0) (.cst (.int 0)) (.bin .FloorDiv (.ix (.slot 0) (.cst (.int 0))) (.slot 1)))
    (.cons (.ret (.slot 2))
    .nil)))
def b__law_roll : MSts := (.cons (.ife (.cmp .Gt (.ix (.slot 0) (.cst (.int 0))) (.cst (.int 0))) b__law_roll_1 .nil)
    (.cons (.asgIx (.slot 0) (.cst (.int 1)) (.bin .Mod (.bi .int (.cons (.bin .Add (.bin .Mult (.ix (.slot 0) (.cst (.int 1))) (.cst (.int 31051))) (.cst (.int 7993))) .nil)) (.cst (.int 2147483543))))
    (.cons (.asg (.nm 3) (.bin .Mod (.bi .int (.cons (.bin .Mult (.ix (.slot 0) (.cst (.int 1))) (.bin .Add (.ix (.slot 0) (.cst (.int 1))) (.cst (.int 229)))) .nil)) (.cst (.int 2147483587))))
    (.cons (.ret (.bin .Mod (.bi .int (.cons (.bin .FloorDiv (.slot 3) (.cst (.int 821))) .nil)) (.slot 1)))
    .nil))))
def fe__law_roll : FE := ⟨("_law_roll" : Str), ("_law_roll" : Str), top 62, [("cup" : Str), ("many" : Str), ("found" : Str), ("deep" : Str)], ⟨2, 4, b__law_roll, false⟩⟩
def b__law_some : MSts := (.cons (.ret (.ix (.slot 1) (.call ("_law_roll" : Str) (.cons (.slot 0) (.cons (.bi .len (.cons (.slot 1) .nil)) .nil)))))
    .nil)
def fe__law_some : FE := ⟨("_law_some" : Str), ("_law_some" : Str), top 63, [("cup" : Str), ("things" : Str)], ⟨2, 2, b__law_some, false⟩⟩
def b__law_some_octets : MSts := (.cons (.ret (.bi .tuple (.cons (.lc (.call ("_law_roll" : Str) (.cons (.slot 0) (.cons (.cst (.int 256)) .nil))) (.nm 2) (.rng (.cons (.call ("_law_roll" : Str) (.cons (.slot 0) (.cons (.bin .Add (.slot 1) (.cst (.int 1))) .nil))) .nil)) .nil [2]) .nil)))
    .nil)
def fe__law_some_octets : FE := ⟨("_law_some_octets" : Str), ("_law_some_octets" : Str), top 64, [("cup" : Str), ("most" : Str), ("turn" : Str)], ⟨2, 3, b__law_some_octets, false⟩⟩
def b__law_table_2 : MSts := (.cons (.asgIx (.slot 1) (.slot 4) (.ife (.cmp .Gt (.call ("_law_roll" : Str) (.cons (.slot 0) (.cons (.cst (.int 5)) .nil))) (.cst (.int 1))) (.call ("_law_some_octets" : Str) (.cons (.slot 0) (.cons (.cst (.int 12)) .nil))) (.cst (.non))))
    .nil)
def b__law_table_1 : MSts := (.cons (.asg (.nm 3) (.call ("_law_some" : Str) (.cons (.slot 0) (.cons (.lc (.slot 4) (.nm 4) (.bi .sorted (.cons (.slot 1) .nil)) (.cons (.and_ (.cons (.cmp .Is (.ix (.slot 1) (.slot 4)) (.cst (.non))) (.cons (.cmp .Lt (.bi .len (.cons (.slot 4) .nil)) (.cst (.int 5))) .nil))) .nil) [4]) .nil))))
    (.cons (.asg (.nm 4) (.bin .Add (.slot 3) (.tup (.cons (.call ("_law_some" : Str) (.cons (.slot 0) (.cons (.lst false (.cons (.cst (.str ("a" : Str))) (.cons (.cst (.str ("b" : Str))) (.cons (.cst (.str ("c" : Str))) .nil)))) .nil))) .nil))))
    (.cons (.ife (.cmp .NotIn (.slot 4) (.slot 1)) b__law_table_2 .nil)
    .nil)))
def b__law_table : MSts := (.cons (.asg (.nm 1) (.dsing (.tup .nil) (.cst (.non))))
    (.cons (.fr (.nm 2) (.rng (.cons (.bin .Add (.cst (.int 2)) (.call ("_law_roll" : Str) (.cons (.slot 0) (.cons (.cst (.int 7)) .nil)))) .nil)) b__law_table_1)
    (.cons (.ret (.slot 1))
    .nil)))
def fe__law_table : FE := ⟨("_law_table" : Str), ("_law_table" : Str), top 65, [("cup" : Str), ("table" : Str), ("turn" : Str), ("above" : Str), ("path" : Str)], ⟨1, 5, b__law_table, false⟩⟩
def b__law_names : MSts := (.cons (.ret (.lc (.ix (.slot 2) (.neg (.cst (.int 1)))) (.nm 2) (.bi .sorted (.cons (.slot 0) .nil)) (.cons (.and_ (.cons (.cmp .Eq (.bi .len (.cons (.slot 2) .nil)) (.bin .Add (.bi .len (.cons (.slot 1) .nil)) (.cst (.int 1)))) (.cons (.cmp .Eq (.slc (.slot 2) .nop (.neg (.cst (.int 1)))) (.slot 1)) .nil))) .nil) [2]))
    .nil)
def fe__law_names : FE := ⟨("_law_names" : Str), ("_law_names" : Str), top 66, [("table" : Str), ("path" : Str), ("one" : Str)], ⟨2, 3, b__law_names, false⟩⟩
def b__law_node_1 : MSts := (.cons (.ret (.tup (.cons (.cst (.str ("file" : Str))) (.cons (.ix (.slot 0) (.slot 1)) .nil))))
    .nil)
def b__law_node : MSts := (.cons (.ife (.cmp .IsNot (.ix (.slot 0) (.slot 1)) (.cst (.non))) b__law_node_1 .nil)
    (.cons (.ret (.tup (.cons (.cst (.str ("dir" : Str))) (.cons (.bi .tuple (.cons (.lc (.tup (.cons (.slot 2) (.cons (.call ("_law_node" : Str) (.cons (.slot 0) (.cons (.bin .Add (.slot 1) (.tup (.cons (.slot 2) .nil))) .nil))) .nil))) (.nm 2) (.call ("_law_names" : Str) (.cons (.slot 0) (.cons (.slot 1) .nil))) .nil [2]) .nil)) .nil))))
    .nil))
def fe__law_node : FE := ⟨("_law_node" : Str), ("_law_node" : Str), top 67, [("table" : Str), ("path" : Str), ("name" : Str)], ⟨2, 3, b__law_node, false⟩⟩
def b__law_answer_2 : MSts := (.cons (.ret (.tup (.cons (.cst (.str ("no" : Str))) (.cons (.cst (.str ("path" : Str))) .nil))))
    .nil)
def b__law_answer_1 : MSts := (.cons (.ife (.cmp .IsNot (.dget2 (.slot 0) (.slc (.slot 2) .nop (.slot 3)) (.tup .nil)) (.cst (.non))) b__law_answer_2 .nil)
    .nil)
def b__law_answer_3 : MSts := (.cons (.ret (.tup (.cons (.cst (.str ("no" : Str))) (.cons (.cst (.str ("missing" : Str))) .nil))))
    .nil)
def b__law_answer_4 : MSts := (.cons (.ret (.tup (.cons (.cst (.str ("no" : Str))) (.cons (.cst (.str ("kind" : Str))) .nil))))
    .nil)
def b__law_answer_5 : MSts := (.cons (.ret (.tup (.cons (.cst (.str ("names" : Str))) (.cons (.bi .tuple (.cons (.call ("_law_names" : Str) (.cons (.slot 0) (.cons (.slot 2) .nil))) .nil)) .nil))))
    .nil)
def b__law_answer : MSts := (.cons (.asg (.nm 2) (.ix (.slot 1) (.cst (.int 1))))
    (.cons (.fr (.nm 3) (.rng (.cons (.bi .len (.cons (.slot 2) .nil)) .nil)) b__law_answer_1)
    (.cons (.ife (.cmp .NotIn (.slot 2) (.slot 0)) b__law_answer_3 .nil)
    (.cons (.ife (.cmp .NotEq (.cmp .Is (.ix (.slot 0) (.slot 2)) (.cst (.non))) (.cmp .Eq (.ix (.slot 1) (.cst (.int 0))) (.cst (.str ("list" : Str))))) b__law_answer_4 .nil)
    (.cons (.ife (.cmp .Eq (.ix (.slot 1) (.cst (.int 0))) (.cst (.str ("list" : Str)))) b__law_answer_5 .nil)
    (.cons (.ret (.ife (.cmp .Eq (.ix (.slot 1) (.cst (.int 0))) (.cst (.str ("size" : Str)))) (.tup (.cons (.cst (.str ("size" : Str))) (.cons (.bi .len (.cons (.ix (.slot 0) (.slot 2)) .nil)) .nil))) (.tup (.cons (.cst (.str ("octets" : Str))) (.cons (.ix (.slot 0) (.slot 2)) .nil)))))
    .nil))))))
def fe__law_answer : FE := ⟨("_law_answer" : Str), ("_law_answer" : Str), top 68, [("table" : Str), ("deed" : Str), ("path" : Str), ("size" : Str)], ⟨2, 4, b__law_answer, false⟩⟩
def b__law_copies : MSts := (.cons (.ret (.bi .tuple (.cons (.lc (.tup (.cons (.slot 2) (.cons (.ix (.ix (.slot 1) (.slot 2)) (.cst (.int 0))) (.cons (.ix (.ix (.slot 1) (.slot 2)) (.cst (.int 1))) (.cons (.call ("_law_node" : Str) (.cons (.slot 0) (.cons (.slot 2) .nil))) .nil))))) (.nm 2) (.bi .sorted (.cons (.slot 1) .nil)) .nil [2]) .nil)))
    .nil)
def fe__law_copies : FE := ⟨("_law_copies" : Str), ("_law_copies" : Str), top 69, [("table" : Str), ("covered" : Str), ("path" : Str)], ⟨2, 3, b__law_copies, false⟩⟩
def b__law_append_1 : MSts := (.cons (.ret (.and_ (.cons (.cmp .Is (.call ("is_crowded" : Str) (.cons (.ix (.slot 1) (.cst (.str ("own" : Str)))) .nil)) (.cst (.bl true))) (.cons (.cmp .Eq (.slot 4) (.cst (.int 8))) .nil))))
    .nil)
def b__law_append_2 : MSts := (.cons (.ret (.cmp .Eq (.slot 5) (.tup (.cons (.ix (.slot 1) (.cst (.str ("copies" : Str)))) (.cons (.tup (.cons (.cst (.str ("no" : Str))) (.cons (.cst (.str ("full" : Str))) .nil))) .nil)))))
    .nil)
def b__law_append : MSts := (.cons (.asg (.nm 2) (.call ("_law_some" : Str) (.cons (.slot 0) (.cons (.ix (.slot 1) (.cst (.str ("files" : Str)))) .nil))))
    (.cons (.asg (.nm 3) (.call ("_law_some_octets" : Str) (.cons (.slot 0) (.cons (.call ("_law_some" : Str) (.cons (.slot 0) (.cons (.lst false (.cons (.cst (.int 2)) (.cons (.cst (.int 9)) (.cons (.cst (.int 64)) .nil)))) .nil))) .nil))))
    (.cons (.asg (.nm 4) (.bi .len (.cons (.ix (.call ("to_hand" : Str) (.cons (.ix (.slot 1) (.cst (.str ("own" : Str)))) .nil)) (.cst (.int 1))) .nil)))
    (.cons (.ife (.or_ (.cons (.cmp .NotEq (.call ("is_crowded" : Str) (.cons (.ix (.slot 1) (.cst (.str ("own" : Str)))) .nil)) (.cmp .Eq (.slot 4) (.cst (.int 8)))) (.cons (.cmp .Eq (.slot 4) (.cst (.int 8))) .nil))) b__law_append_1 .nil)
    (.cons (.asg (.nm 5) (.call ("own_done" : Str) (.cons (.ix (.slot 1) (.cst (.str ("copies" : Str)))) (.cons (.tup (.cons (.cst (.str ("append" : Str))) (.cons (.slot 2) (.cons (.slot 3) .nil)))) .nil))))
    (.cons (.asg (.nm 6) (.bin .Add (.bi .len (.cons (.ix (.ix (.slot 1) (.cst (.str ("table" : Str)))) (.slot 2)) .nil)) (.bi .len (.cons (.slot 3) .nil))))
    (.cons (.ife (.cmp .Gt (.slot 6) (.cst (.int 256))) b__law_append_2 .nil)
    (.cons (.asgIx (.ix (.slot 1) (.cst (.str ("table" : Str)))) (.slot 2) (.bin .Add (.ix (.ix (.slot 1) (.cst (.str ("table" : Str)))) (.slot 2)) (.slot 3)))
    (.cons (.expr (.meth .append (.ix (.slot 1) (.cst (.str ("made" : Str)))) (.cons (.tup (.cons (.slot 2) (.cons (.slot 3) .nil))) .nil)))
    (.cons (.asgM (.ix (.slot 1) (.cst (.str ("copies" : Str))) (.nm 7 .nil)) (.slot 5))
    (.cons (.asgIx (.slot 1) (.cst (.str ("own" : Str))) (.call ("with_own" : Str) (.cons (.ix (.slot 1) (.cst (.str ("own" : Str)))) (.cons (.bin .Mult (.cst (.int 2)) (.bi .len (.cons (.ix (.slot 1) (.cst (.str ("made" : Str)))) .nil))) (.cons (.slot 2) (.cons (.slot 3) .nil))))))
    (.cons (.ret (.cmp .Eq (.slot 7) (.tup (.cons (.cst (.str ("appended" : Str))) (.cons (.slot 6) .nil)))))
    .nil))))))))))))
def fe__law_append : FE := ⟨("_law_append" : Str), ("_law_append" : Str), top 70, [("cup" : Str), ("world" : Str), ("path" : Str), ("octets" : Str), ("many" : Str), ("found" : Str), ("size" : Str), ("answer" : Str)], ⟨2, 8, b__law_append, false⟩⟩
def b__law_read : MSts := (.cons (.asg (.nm 2) (.call ("_law_some" : Str) (.cons (.slot 0) (.cons (.bi .sorted (.cons (.ix (.slot 1) (.cst (.str ("table" : Str)))) .nil)) .nil))))
    (.cons (.asg (.nm 2) (.ife (.cmp .Eq (.call ("_law_roll" : Str) (.cons (.slot 0) (.cons (.cst (.int 4)) .nil))) (.cst (.int 0))) (.bin .Add (.slot 2) (.tup (.cons (.call ("_law_some" : Str) (.cons (.slot 0) (.cons (.lst false (.cons (.cst (.str ("a" : Str))) (.cons (.cst (.str ("f" : Str))) (.cons (.cst (.str ("x" : Str))) .nil)))) .nil))) .nil))) (.slot 2)))
    (.cons (.asg (.nm 3) (.tup (.cons (.call ("_law_some" : Str) (.cons (.slot 0) (.cons (.lst false (.cons (.cst (.str ("read" : Str))) (.cons (.cst (.str ("size" : Str))) (.cons (.cst (.str ("list" : Str))) .nil)))) .nil))) (.cons (.slot 2) .nil))))
    (.cons (.asg (.nm 4) (.lcd (.slot 5) (.nm 5) (.ix (.slot 1) (.cst (.str ("covered" : Str)))) (.cons (.or_ (.cons (.cmp .Eq (.slot 5) (.slot 2)) (.cons (.and_ (.cons (.cmp .Is (.ix (.ix (.slot 1) (.cst (.str ("table" : Str)))) (.slot 5)) (.cst (.non))) (.cons (.cmp .Eq (.slc (.slot 2) .nop (.bi .len (.cons (.slot 5) .nil))) (.slot 5)) .nil))) .nil))) .nil) [5]))
    (.cons (.ret (.cmp .Eq (.call ("answered_by" : Str) (.cons (.ix (.slot 1) (.cst (.str ("copies" : Str)))) (.cons (.slot 3) .nil))) (.ife (.cmp .NotEq (.slot 4) (.lst false .nil)) (.call ("_law_answer" : Str) (.cons (.ix (.slot 1) (.cst (.str ("table" : Str)))) (.cons (.slot 3) .nil))) (.cst (.non)))))
    .nil)))))
def fe__law_read : FE := ⟨("_law_read" : Str), ("_law_read" : Str), top 71, [("cup" : Str), ("world" : Str), ("path" : Str), ("deed" : Str), ("around" : Str), ("one" : Str)], ⟨2, 6, b__law_read, false⟩⟩
def b__law_letter_1 : MSts := (.cons (.ret (.cst (.bl true)))
    .nil)
def b__law_letter : MSts := (.cons (.ife (.cmp .Eq (.bi .len (.cons (.ix (.slot 1) (.cst (.str ("letters" : Str)))) .nil)) (.cst (.int 0))) b__law_letter_1 .nil)
    (.cons (.asg (.tp [2, 3]) (.call ("_law_some" : Str) (.cons (.slot 0) (.cons (.ix (.slot 1) (.cst (.str ("letters" : Str)))) .nil))))
    (.cons (.asg (.nm 4) (.call ("beyond" : Str) (.cons (.bi .len (.cons (.ix (.slot 1) (.cst (.str ("done" : Str)))) .nil)) (.cons (.slot 2) (.cons (.slot 3) .nil)))))
    (.cons (.asgM (.ix (.slot 1) (.cst (.str ("tree" : Str))) (.nm 5 .nil)) (.call ("handed_on" : Str) (.cons (.ix (.slot 1) (.cst (.str ("tree" : Str)))) (.cons (.slot 4) .nil))))
    (.cons (.asgIx (.slot 1) (.cst (.str ("done" : Str))) (.bin .Add (.ix (.slot 1) (.cst (.str ("done" : Str)))) (.bi .list (.cons (.slot 4) .nil))))
    (.cons (.expr (.meth .append (.ix (.slot 1) (.cst (.str ("answers" : Str)))) (.cons (.bi .len (.cons (.ix (.slot 1) (.cst (.str ("done" : Str)))) .nil)) .nil)))
    (.cons (.ret (.and_ (.cons (.cmp .Eq (.ix (.slot 1) (.cst (.str ("done" : Str)))) (.slc (.ix (.slot 1) (.cst (.str ("made" : Str)))) .nop (.bi .len (.cons (.ix (.slot 1) (.cst (.str ("done" : Str)))) .nil)))) (.cons (.cmp .Eq (.lc (.slot 6) (.nm 6) (.slot 5) (.cons (.cmp .NotEq (.ix (.slot 6) (.cst (.int 0))) (.cst (.str ("appended" : Str)))) .nil) [6]) (.lst false .nil)) .nil))))
    .nil)))))))
def fe__law_letter : FE := ⟨("_law_letter" : Str), ("_law_letter" : Str), top 72, [("cup" : Str), ("world" : Str), ("first" : Str), ("appends" : Str), ("fresh" : Str), ("answers" : Str), ("one" : Str)], ⟨2, 7, b__law_letter, false⟩⟩
def b__law_written_1 : MSts := (.cons (.ret (.cst (.bl false)))
    .nil)
def b__law_written_2 : MSts := (.cons (.ret (.cst (.bl false)))
    .nil)
def b__law_written : MSts := (.cons (.asg (.tp [0, 1]) (.tup (.cons (.tup (.cons (.cst (.str ("dir" : Str))) (.cons (.tup (.cons (.tup (.cons (.cst (.str ("f" : Str))) (.cons (.tup (.cons (.cst (.str ("file" : Str))) (.cons (.tup .nil) .nil))) .nil))) .nil)) .nil))) (.cons (.tup (.cons (.cst (.str ("f" : Str))) .nil)) .nil))))
    (.cons (.asg (.tp [2, 3]) (.call ("own_done" : Str) (.cons (.tup (.cons (.tup (.cons (.tup .nil) (.cons (.cst (.str ("folder" : Str))) (.cons (.cst (.int 1)) (.cons (.slot 0) .nil))))) (.cons (.tup (.cons (.slot 1) (.cons (.cst (.str ("write" : Str))) (.cons (.cst (.int 2)) (.cons (.tup (.cons (.cst (.str ("file" : Str))) (.cons (.tup .nil) .nil))) .nil))))) .nil))) (.cons (.tup (.cons (.cst (.str ("append" : Str))) (.cons (.slot 1) (.cons (.tup (.cons (.cst (.int 1)) .nil)) .nil)))) .nil))))
    (.cons (.asg (.nm 4) (.call ("with_own" : Str) (.cons (.call ("fresh_own" : Str) .nil) (.cons (.cst (.int 3)) (.cons (.slot 1) (.cons (.tup (.cons (.cst (.int 1)) .nil)) .nil))))))
    (.cons (.asg (.tp [2, 5]) (.call ("own_done" : Str) (.cons (.slot 2) (.cons (.tup (.cons (.cst (.str ("append" : Str))) (.cons (.slot 1) (.cons (.tup (.cons (.cst (.int 2)) .nil)) .nil)))) .nil))))
    (.cons (.asg (.nm 6) (.call ("with_own" : Str) (.cons (.slot 4) (.cons (.cst (.int 4)) (.cons (.slot 1) (.cons (.tup (.cons (.cst (.int 2)) .nil)) .nil))))))
    (.cons (.ife (.cmp .NotEq (.lst false (.cons (.slot 3) (.cons (.slot 5) (.cons (.call ("answered_by" : Str) (.cons (.slot 2) (.cons (.tup (.cons (.cst (.str ("read" : Str))) (.cons (.slot 1) .nil))) .nil))) .nil)))) (.lst false (.cons (.tup (.cons (.cst (.str ("appended" : Str))) (.cons (.cst (.int 1)) .nil))) (.cons (.tup (.cons (.cst (.str ("appended" : Str))) (.cons (.cst (.int 2)) .nil))) (.cons (.tup (.cons (.cst (.str ("octets" : Str))) (.cons (.tup (.cons (.cst (.int 1)) (.cons (.cst (.int 2)) .nil))) .nil))) .nil))))) b__law_written_1 .nil)
    (.cons (.ife (.or_ (.cons (.cmp .NotEq (.ix (.slot 2) (.cst (.int 0))) (.tup (.cons (.tup .nil) (.cons (.cst (.str ("folder" : Str))) (.cons (.cst (.int 1)) (.cons (.tup (.cons (.cst (.str ("dir" : Str))) (.cons (.tup (.cons (.tup (.cons (.cst (.str ("f" : Str))) (.cons (.tup (.cons (.cst (.str ("file" : Str))) (.cons (.tup (.cons (.cst (.int 1)) (.cons (.cst (.int 2)) .nil))) .nil))) .nil))) .nil)) .nil))) .nil)))))) (.cons (.cmp .NotEq (.call ("beyond" : Str) (.cons (.cst (.int 2)) (.cons (.cst (.int 1)) (.cons (.ix (.call ("to_hand" : Str) (.cons (.slot 4) .nil)) (.cst (.int 1))) .nil)))) (.tup .nil)) .nil))) b__law_written_2 .nil)
    (.cons (.asg (.tp [0, 7]) (.call ("handed_on" : Str) (.cons (.slot 0) (.cons (.call ("beyond" : Str) (.cons (.cst (.int 0)) (.cons (.cst (.int 1)) (.cons (.ix (.call ("to_hand" : Str) (.cons (.slot 6) .nil)) (.cst (.int 1))) .nil)))) .nil))))
    (.cons (.ret (.and_ (.cons (.cmp .Eq (.slot 0) (.ix (.ix (.slot 2) (.cst (.int 0))) (.cst (.int 3)))) (.cons (.cmp .Eq (.call ("handed_up" : Str) (.cons (.call ("handed_up" : Str) (.cons (.slot 6) (.cons (.cst (.int 2)) .nil))) (.cons (.cst (.int 1)) .nil))) (.tup (.cons (.cst (.int 2)) (.cons (.tup .nil) .nil)))) (.cons (.cmp .Eq (.call ("beyond" : Str) (.cons (.cst (.int 1)) (.cons (.cst (.int 1)) (.cons (.ix (.call ("to_hand" : Str) (.cons (.slot 6) .nil)) (.cst (.int 1))) .nil)))) (.tup (.cons (.tup (.cons (.slot 1) (.cons (.tup (.cons (.cst (.int 2)) .nil)) .nil))) .nil))) .nil)))))
    .nil)))))))))
def fe__law_written : FE := ⟨("_law_written" : Str), ("_law_written" : Str), top 73, [("tree" : Str), ("path" : Str), ("copies" : Str), ("first" : Str), ("one" : Str), ("second" : Str), ("two" : Str), ("answers" : Str)], ⟨0, 8, b__law_written, false⟩⟩
def b_law_1 : MSts := (.cons (.ret (.cst (.bl false)))
    .nil)
def b_law_3 : MSts := (.cons (.asgIx (.slot 3) (.slot 4) (.tup (.cons (.cst (.str ("folder" : Str))) (.cons (.bin .Add (.cst (.int 3)) (.bi .len (.cons (.slot 3) .nil))) .nil))))
    .nil)
def b_law_2 : MSts := (.cons (.ife (.and_ (.cons (.cmp .Is (.ix (.slot 2) (.slot 4)) (.cst (.non))) (.cons (.cmp .Eq (.call ("_law_roll" : Str) (.cons (.slot 1) (.cons (.cst (.int 3)) .nil))) (.cst (.int 0))) .nil))) b_law_3 .nil)
    .nil)
def b_law_5 : MSts := (.cons (.asg (.nm 8) (.call ("_law_append" : Str) (.cons (.slot 1) (.cons (.slot 5) .nil))))
    .nil)
def b_law_7 : MSts := (.cons (.asg (.nm 8) (.call ("_law_read" : Str) (.cons (.slot 1) (.cons (.slot 5) .nil))))
    .nil)
def b_law_9 : MSts := (.cons (.expr (.meth .append (.ix (.slot 5) (.cst (.str ("letters" : Str)))) (.cons (.call ("to_hand" : Str) (.cons (.ix (.slot 5) (.cst (.str ("own" : Str)))) .nil)) .nil)))
    .nil)
def b_law_11 : MSts := (.cons (.asg (.nm 8) (.call ("_law_letter" : Str) (.cons (.slot 1) (.cons (.slot 5) .nil))))
    .nil)
def b_law_12 : MSts := (.cons (.asgIx (.slot 5) (.cst (.str ("own" : Str))) (.call ("handed_up" : Str) (.cons (.ix (.slot 5) (.cst (.str ("own" : Str)))) (.cons (.call ("_law_some" : Str) (.cons (.slot 1) (.cons (.ix (.slot 5) (.cst (.str ("answers" : Str)))) .nil))) .nil))))
    .nil)
def b_law_10 : MSts := (.cons (.ife (.cmp .Lt (.slot 7) (.cst (.int 7))) b_law_11 b_law_12)
    .nil)
def b_law_8 : MSts := (.cons (.ife (.cmp .Eq (.slot 7) (.cst (.int 4))) b_law_9 b_law_10)
    .nil)
def b_law_6 : MSts := (.cons (.ife (.cmp .Eq (.slot 7) (.cst (.int 3))) b_law_7 b_law_8)
    .nil)
def b_law_13 : MSts := (.cons (.ret (.cst (.bl false)))
    .nil)
def b_law_4 : MSts := (.cons (.par [7, 8] (.cons (.call ("_law_roll" : Str) (.cons (.slot 1) (.cons (.cst (.int 8)) .nil))) (.cons (.cst (.bl true)) .nil)))
    (.cons (.ife (.cmp .Lt (.slot 7) (.cst (.int 3))) b_law_5 b_law_6)
    (.cons (.ife (.not_ (.slot 8)) b_law_13 .nil)
    .nil)))
def b_law : MSts := (.cons (.asg (.nm 1) (.call ("_law_cup" : Str) (.cons (.slot 0) .nil)))
    (.cons (.ife (.not_ (.call ("_law_written" : Str) .nil)) b_law_1 .nil)
    (.cons (.asg (.nm 2) (.call ("_law_table" : Str) (.cons (.slot 1) .nil)))
    (.cons (.asgM (.ix (.slot 2) (.tup (.cons (.cst (.str ("f" : Str))) .nil)) (.ix (.slot 2) (.tup (.cons (.cst (.str ("g" : Str))) .nil)) .nil)) (.tup (.cons (.call ("_law_some_octets" : Str) (.cons (.slot 1) (.cons (.cst (.int 9)) .nil))) (.cons (.bin .Mult (.tup (.cons (.cst (.int 5)) .nil)) (.bin .Sub (.cst (.int 256)) (.call ("_law_roll" : Str) (.cons (.slot 1) (.cons (.cst (.int 90)) .nil))))) .nil))))
    (.cons (.asg (.nm 3) (.ddisp (.cons (.tup (.cons (.cst (.str ("f" : Str))) .nil)) (.cons (.tup (.cons (.cst (.str ("write" : Str))) (.cons (.cst (.int 1)) .nil))) (.cons (.tup (.cons (.cst (.str ("g" : Str))) .nil)) (.cons (.tup (.cons (.cst (.str ("write" : Str))) (.cons (.cst (.int 2)) .nil))) .nil))))))
    (.cons (.fr (.nm 4) (.bi .sorted (.cons (.slot 2) .nil)) b_law_2)
    (.cons (.asg (.nm 5) (.ddisp (.cons (.cst (.str ("table" : Str))) (.cons (.slot 2) (.cons (.cst (.str ("tree" : Str))) (.cons (.call ("_law_node" : Str) (.cons (.slot 2) (.cons (.tup .nil) .nil))) (.cons (.cst (.str ("copies" : Str))) (.cons (.call ("_law_copies" : Str) (.cons (.slot 2) (.cons (.slot 3) .nil))) (.cons (.cst (.str ("own" : Str))) (.cons (.call ("fresh_own" : Str) .nil) (.cons (.cst (.str ("made" : Str))) (.cons (.lst true .nil) (.cons (.cst (.str ("done" : Str))) (.cons (.lst false .nil) (.cons (.cst (.str ("letters" : Str))) (.cons (.lst true .nil) (.cons (.cst (.str ("answers" : Str))) (.cons (.lst true (.cons (.cst (.int 0)) .nil)) (.cons (.cst (.str ("files" : Str))) (.cons (.lst false (.cons (.tup (.cons (.cst (.str ("f" : Str))) .nil)) (.cons (.tup (.cons (.cst (.str ("f" : Str))) .nil)) (.cons (.tup (.cons (.cst (.str ("g" : Str))) .nil)) .nil)))) (.cons (.cst (.str ("covered" : Str))) (.cons (.slot 3) .nil))))))))))))))))))))))
    (.cons (.fr (.nm 6) (.rng (.cons (.bin .Add (.cst (.int 1)) (.call ("_law_roll" : Str) (.cons (.slot 1) (.cons (.cst (.int 40)) .nil)))) .nil)) b_law_4)
    (.cons (.asg (.tp [9, 10]) (.call ("to_hand" : Str) (.cons (.ix (.slot 5) (.cst (.str ("own" : Str)))) .nil)))
    (.cons (.asg (.nm 11) (.call ("beyond" : Str) (.cons (.bi .len (.cons (.ix (.slot 5) (.cst (.str ("done" : Str)))) .nil)) (.cons (.slot 9) (.cons (.slot 10) .nil)))))
    (.cons (.asg (.tp [12, 13]) (.call ("handed_on" : Str) (.cons (.ix (.slot 5) (.cst (.str ("tree" : Str)))) (.cons (.slot 11) .nil))))
    (.cons (.ret (.and_ (.cons (.cmp .Eq (.bin .Add (.ix (.slot 5) (.cst (.str ("done" : Str)))) (.bi .list (.cons (.slot 11) .nil))) (.ix (.slot 5) (.cst (.str ("made" : Str))))) (.cons (.cmp .Eq (.slot 12) (.call ("_law_node" : Str) (.cons (.ix (.slot 5) (.cst (.str ("table" : Str)))) (.cons (.tup .nil) .nil)))) .nil))))
    .nil))))))))))))
def fe_law : FE := ⟨("law" : Str), ("law" : Str), top 74, [("script" : Str), ("cup" : Str), ("table" : Str), ("covered" : Str), ("path" : Str), ("world" : Str), ("turn" : Str), ("way" : Str), ("fine" : Str), ("first" : Str), ("appends" : Str), ("fresh" : Str), ("tree" : Str), ("answers" : Str)], ⟨1, 14, b_law, false⟩⟩
def tab : List FE := [fe_is_tuple_of, fe_is_text, fe_fits_name, fe_fits_path, fe_is_inside, fe_need_path, fe_need_names, fe_is_path, fe_parent_of, fe_is_octets, fe_is_tree_deed, fe__many_in, fe__height, fe__child, fe_tree_at, fe__why_not, fe__with_child, fe__put, fe__make, fe__append, fe__reading, fe__remove, fe__why_not_moved, fe__rename, fe_tree_done, fe_covers, fe_answered_by, fe_node_with, fe_longer, fe_own_done, fe_fresh_own, fe_with_own, fe_is_crowded, fe_to_hand, fe_handed_up, fe_beyond, fe_handed_on, fe__law_cup, fe__law_roll, fe__law_some, fe__law_some_octets, fe__law_table, fe__law_names, fe__law_node, fe__law_answer, fe__law_copies, fe__law_append, fe__law_read, fe__law_letter, fe__law_written, fe_law]
def fr : List Str := [("abs" : Str), ("all" : Str), ("bool" : Str), ("int" : Str), ("isinstance" : Str), ("len" : Str), ("list" : Str), ("range" : Str), ("sorted" : Str), ("str" : Str), ("sum" : Str), ("tuple" : Str)]
def gl : List (Str × D) := [(("CROWD" : Str), .int 8), (("LETTERS" : Str), .str ("abcdefghijklmnopqrstuvwxyz" : Str)), (("MOST_APPENDED" : Str), .int 64), (("MOST_ENTRIES" : Str), .int 64), (("MOST_NAMES" : Str), .int 16), (("MOST_OCTETS" : Str), .int 256), (("MOST_STEPS" : Str), .int 6), (("NAME" : Str), .int 8), (("NAMES" : Str), .int 6), (("READINGS" : Str), .ktu [.str ("read" : Str), .str ("size" : Str), .str ("list" : Str)]), (("SHORT_DEEDS" : Str), .ktu [.str ("makedir" : Str), .str ("makefile" : Str), .str ("read" : Str), .str ("list" : Str), .str ("size" : Str), .str ("remove" : Str)]), (("SIZE" : Str), .int 256)]
def ts : Tbs := [(("DEEDS" : Str), [(("makedir" : Str), ("_make" : Str)), (("makefile" : Str), ("_make" : Str)), (("append" : Str), ("_append" : Str)), (("read" : Str), ("_reading" : Str)), (("list" : Str), ("_reading" : Str)), (("size" : Str), ("_reading" : Str)), (("remove" : Str), ("_remove" : Str)), (("rename" : Str), ("_rename" : Str))])]
def loose : List Str := [("is_tuple_of" : Str), ("is_text" : Str), ("fits_name" : Str), ("fits_path" : Str), ("is_inside" : Str), ("need_path" : Str), ("need_names" : Str), ("is_path" : Str), ("parent_of" : Str), ("is_octets" : Str), ("is_tree_deed" : Str), ("_many_in" : Str), ("_height" : Str), ("_child" : Str), ("tree_at" : Str), ("_why_not" : Str), ("_with_child" : Str), ("_put" : Str), ("_make" : Str), ("_append" : Str), ("_reading" : Str), ("_remove" : Str), ("_why_not_moved" : Str), ("_rename" : Str), ("tree_done" : Str), ("covers" : Str), ("answered_by" : Str), ("node_with" : Str), ("longer" : Str), ("own_done" : Str), ("fresh_own" : Str), ("with_own" : Str), ("is_crowded" : Str), ("to_hand" : Str), ("handed_up" : Str), ("beyond" : Str), ("handed_on" : Str), ("_law_cup" : Str), ("_law_roll" : Str), ("_law_some" : Str)] ++ [("_law_some_octets" : Str), ("_law_table" : Str), ("_law_names" : Str), ("_law_node" : Str), ("_law_answer" : Str), ("_law_copies" : Str), ("_law_append" : Str), ("_law_read" : Str), ("_law_letter" : Str), ("_law_written" : Str), ("LETTERS" : Str), ("NAME" : Str), ("NAMES" : Str), ("MOST_NAMES" : Str), ("MOST_ENTRIES" : Str), ("MOST_OCTETS" : Str), ("MOST_APPENDED" : Str), ("MOST_STEPS" : Str), ("SHORT_DEEDS" : Str), ("SIZE" : Str), ("READINGS" : Str), ("CROWD" : Str), ("DEEDS" : Str), ("StoreError" : Str), ("InvalidPath" : Str), ("InvalidDeed" : Str)]
def lawIx : Nat := 74
theorem chk : tab.all (chkF (tabFn tab) (glB gl) fr.contains (cdB ts)) = true := by decide +kernel
abbrev T := tabT tab
abbrev G := glG gl
theorem t_is_tuple_of : T ("is_tuple_of" : Str) = some fe_is_tuple_of.mf := by rfl
theorem t_is_text : T ("is_text" : Str) = some fe_is_text.mf := by rfl
theorem t_fits_name : T ("fits_name" : Str) = some fe_fits_name.mf := by rfl
theorem t_fits_path : T ("fits_path" : Str) = some fe_fits_path.mf := by rfl
theorem t_is_inside : T ("is_inside" : Str) = some fe_is_inside.mf := by rfl
theorem t_need_path : T ("need_path" : Str) = some fe_need_path.mf := by rfl
theorem t_need_names : T ("need_names" : Str) = some fe_need_names.mf := by rfl
theorem t_is_path : T ("is_path" : Str) = some fe_is_path.mf := by rfl
theorem t_parent_of : T ("parent_of" : Str) = some fe_parent_of.mf := by rfl
theorem t_is_octets : T ("is_octets" : Str) = some fe_is_octets.mf := by rfl
theorem t_is_tree_deed : T ("is_tree_deed" : Str) = some fe_is_tree_deed.mf := by rfl
theorem t__many_in : T ("_many_in" : Str) = some fe__many_in.mf := by rfl
theorem t__height : T ("_height" : Str) = some fe__height.mf := by rfl
theorem t__child : T ("_child" : Str) = some fe__child.mf := by rfl
theorem t_tree_at : T ("tree_at" : Str) = some fe_tree_at.mf := by rfl
theorem t__why_not : T ("_why_not" : Str) = some fe__why_not.mf := by rfl
theorem t__with_child : T ("_with_child" : Str) = some fe__with_child.mf := by rfl
theorem t__put : T ("_put" : Str) = some fe__put.mf := by rfl
theorem t__make : T ("_make" : Str) = some fe__make.mf := by rfl
theorem t__append : T ("_append" : Str) = some fe__append.mf := by rfl
theorem t__reading : T ("_reading" : Str) = some fe__reading.mf := by rfl
theorem t__remove : T ("_remove" : Str) = some fe__remove.mf := by rfl
theorem t__why_not_moved : T ("_why_not_moved" : Str) = some fe__why_not_moved.mf := by rfl
theorem t__rename : T ("_rename" : Str) = some fe__rename.mf := by rfl
theorem t_tree_done : T ("tree_done" : Str) = some fe_tree_done.mf := by rfl
theorem t_covers : T ("covers" : Str) = some fe_covers.mf := by rfl
theorem t_answered_by : T ("answered_by" : Str) = some fe_answered_by.mf := by rfl
theorem t_node_with : T ("node_with" : Str) = some fe_node_with.mf := by rfl
theorem t_longer : T ("longer" : Str) = some fe_longer.mf := by rfl
theorem t_own_done : T ("own_done" : Str) = some fe_own_done.mf := by rfl
theorem t_fresh_own : T ("fresh_own" : Str) = some fe_fresh_own.mf := by rfl
theorem t_with_own : T ("with_own" : Str) = some fe_with_own.mf := by rfl
theorem t_is_crowded : T ("is_crowded" : Str) = some fe_is_crowded.mf := by rfl
theorem t_to_hand : T ("to_hand" : Str) = some fe_to_hand.mf := by rfl
theorem t_handed_up : T ("handed_up" : Str) = some fe_handed_up.mf := by rfl
theorem t_beyond : T ("beyond" : Str) = some fe_beyond.mf := by rfl
theorem t_handed_on : T ("handed_on" : Str) = some fe_handed_on.mf := by rfl
theorem t__law_cup : T ("_law_cup" : Str) = some fe__law_cup.mf := by rfl
theorem t__law_roll : T ("_law_roll" : Str) = some fe__law_roll.mf := by rfl
theorem t__law_some : T ("_law_some" : Str) = some fe__law_some.mf := by rfl
theorem t__law_some_octets : T ("_law_some_octets" : Str) = some fe__law_some_octets.mf := by rfl
theorem t__law_table : T ("_law_table" : Str) = some fe__law_table.mf := by rfl
theorem t__law_names : T ("_law_names" : Str) = some fe__law_names.mf := by rfl
theorem t__law_node : T ("_law_node" : Str) = some fe__law_node.mf := by rfl
theorem t__law_answer : T ("_law_answer" : Str) = some fe__law_answer.mf := by rfl
theorem t__law_copies : T ("_law_copies" : Str) = some fe__law_copies.mf := by rfl
theorem t__law_append : T ("_law_append" : Str) = some fe__law_append.mf := by rfl
theorem t__law_read : T ("_law_read" : Str) = some fe__law_read.mf := by rfl
theorem t__law_letter : T ("_law_letter" : Str) = some fe__law_letter.mf := by rfl
theorem t__law_written : T ("_law_written" : Str) = some fe__law_written.mf := by rfl
theorem t_law : T ("law" : Str) = some fe_law.mf := by rfl
theorem roll_wp {n F : Nat} {o : MO} {t : Store} {k : Int} {Q : D → Store → Prop} (hc : Cup o) (h0 : 0 < k) (h1 : k < 18446744073709551616)
    (hq : ∀ o' r, Cup o' → 0 ≤ r → r < k → Q (.int r) (o' :: t)) : Wp (mcall T G F (n + 1) ("_law_roll" : Str) [.ref 0, .int k] (o :: t)) Q := by
  obtain ⟨a, b, rfl, ha, hb, hb2⟩ := hc
  refine call_wp t__law_roll rfl rfl ?_
  conv => whnf
  refine wD_by (fun h => ?_) (fun h => ?_)
  · refine mod_ok h0 ?_
    refine div_ok h0 h1 ?_
    exact hq _ _ ⟨_, _, rfl, Int.ediv_nonneg ha (Int.le_of_lt h0), hb, hb2⟩ (Int.emod_nonneg _ (by omega)) (Int.emod_lt_of_pos _ h0)
  · refine mul_ok (p := 32) (q := 32) (bits_lt hb (by omega) (by decide)) (by decide) (by decide) ?_
    have hx : 0 ≤ (b * 31051 + 7993) % 2147483543 ∧ (b * 31051 + 7993) % 2147483543 < 2147483543 := ⟨Int.emod_nonneg _ (by decide), Int.emod_lt_of_pos _ (by decide)⟩
    conv => whnf
    refine mul_ok (p := 32) (q := 32) (bits_lt hx.1 (by omega) (by decide)) (bits_lt (by omega) (by omega) (by decide)) (by decide) ?_
    conv => whnf
    refine mod_ok h0 ?_
    exact hq _ _ ⟨_, _, rfl, ha, hx.1, by omega⟩ (Int.emod_nonneg _ (by omega)) (Int.emod_lt_of_pos _ h0)
theorem cup_wp {n F : Nat} {ns : List Int} {Q : D → Store → Prop} (hl : ns.length ≤ 63) (hb : ∀ z ∈ ns, Builtin.Int.intBits z ≤ 1048576)
    (hq : ∀ o, Cup o → Q (.ref 0) [o]) : Wp (mcall T G F (n + 1) ("_law_cup" : Str) [.scr (ns.map .int)] []) Q := by
  refine call_wp t__law_cup rfl rfl ?_
  conv => whnf
  refine addL_ok (by simp; omega) ?_
  obtain ⟨z, ez, hz⟩ := head_of hb (by decide)
  refine ixL_ok ez ?_
  have hn := abs_nn z
  have hbz := bits_abs z
  conv => whnf
  revert hn hbz
  generalize (if z < 0 then -z else z) = c
  intro hn hbz
  refine wD_by (fun h => ?_) (fun h => ?_)
  · refine mul_ok (p := 1048576) (q := 10) (by omega) (by decide) (by decide) ?_
    conv => whnf
    have hx : 0 ≤ (c * 277 + 2609) % 2077503167 ∧ (c * 277 + 2609) % 2077503167 < 2077503167 := ⟨Int.emod_nonneg _ (by decide), Int.emod_lt_of_pos _ (by decide)⟩
    exact hq _ ⟨_, _, rfl, Int.ediv_nonneg hn (by decide), by omega, by omega⟩
  · refine mul_ok (p := 1048576) (q := 10) (by omega) (by decide) (by decide) ?_
    conv => whnf
    have hx : 0 ≤ (c * 277 + 2609) % 2077503167 ∧ (c * 277 + 2609) % 2077503167 < 2077503167 := ⟨Int.emod_nonneg _ (by decide), Int.emod_lt_of_pos _ (by decide)⟩
    exact hq _ ⟨_, _, rfl, by decide, by omega, by omega⟩
theorem some_wp {n F : Nat} {o : MO} {t : Store} {l : List D} {Q : D → Store → Prop} (hc : Cup o) (h0 : 0 < l.length) (h1 : l.length < 1000000)
    (hq : ∀ o' d, Cup o' → d ∈ l → Q d (o' :: t)) : Wp (mcall T G F (n + 2) ("_law_some" : Str) [.ref 0, .lst l] (o :: t)) Q := by
  refine call_wp t__law_some rfl rfl ?_
  conv => whnf
  refine roll_wp hc (by omega) (by omega) fun o' r hc' h2 h3 => ?_
  obtain ⟨x, e1, _, e3⟩ := atI_ex h2 h3
  conv => whnf
  refine ixL_ok e1 ?_
  exact hq _ _ hc' e3

end Lk55

set_option Elab.async false
set_option linter.all false
set_option maxRecDepth 100000
set_option pp.maxSteps 600
namespace Lk55
open PySem PySem.Spec PyProof.Rows L2 Rf
/-! ### the program: names and paths -/
theorem fits_name_wp {n F : Nat} {s : Store} {x : Str} {Q : D → Store → Prop} (h : x ∈ okNms) (hq : Q (.bl true) s) : Wp (mcall Lk55.T G F (n + 2) ("fits_name" : Str) [.str x] s) Q := by
  unfold okNms at h
  simp only [List.mem_cons, List.not_mem_nil, or_false] at h
  rcases h with rfl | rfl | rfl | rfl | rfl | rfl | rfl <;> exact Wp.run (by kernel_rfl) hq
theorem all_true_ok {l : List D} {Q : D → Prop} (hq : Q (.bl true)) : wO (biD .all [.lst (l.filterMap fun _ => some (.bl true))]) Q := by
  have e : allBl (l.filterMap fun _ => some (.bl true)) = some (List.replicate l.length true) := by
    induction l with
    | nil => rfl
    | cons a l ih =>
      rw [List.filterMap_cons]
      show (allBl _).map (true :: ·) = _
      rw [ih]
      rfl
  show wO ((allBl _).map _) Q
  rw [e]
  show Q (.bl ((List.replicate l.length true).all id))
  have e2 : (List.replicate l.length true).all id = true := by
    rw [List.all_eq_true]
    intro b hb
    rw [(List.mem_replicate.mp hb).2]
    rfl
  rw [e2]
  exact hq
theorem tuple_of_wp {n F : Nat} {s : Store} {l : List D} {hi : Int} {Q : D → Store → Prop} (h : (l.length : Int) ≤ hi) (hq : Q (.bl true) s) : Wp (mcall Lk55.T G F (n + 1) ("is_tuple_of" : Str) [.tup l, .int 0, .int hi] s) Q := by
  refine call_wp t_is_tuple_of rfl rfl ?_
  conv => whnf
  rw [decide_eq_true h]
  exact hq
theorem fits_path_wp {n F : Nat} {s : Store} {P : Path} {Q : D → Store → Prop} (h : ∀ x ∈ P, x ∈ okNms) (hl : P.length ≤ 6) (hq : Q (.bl true) s) : Wp (mcall Lk55.T G F (n + 3) ("fits_path" : Str) [pD P] s) Q := by
  refine call_wp t_fits_path rfl rfl ?_
  conv => whnf
  refine tuple_of_wp (by rw [List.length_map]; omega) ?_
  conv => whnf
  refine lcP_wp (fun _ => some (.bl true)) ?_
  conv => whnf
  refine ⟨_, rfl, by rw [List.length_map]; omega, fun d hd => ?_, ?_⟩
  · obtain ⟨x, hx, rfl⟩ := List.mem_map.mp hd
    conv => whnf
    refine fits_name_wp (h x hx) ?_
    conv => whnf
    exact ⟨rfl, rfl⟩
  · conv => whnf
    refine all_true_ok ?_
    exact hq
theorem parent_wp {n F : Nat} {s : Store} {P : Path} {Q : D → Store → Prop} (h : ∀ x ∈ P, x ∈ okNms) (hl : P.length ≤ 6) (hne : P ≠ []) (hq : Q (pD P.dropLast) s) : Wp (mcall Lk55.T G F (n + 6) ("parent_of" : Str) [pD P] s) Q := by
  refine call_wp (n := n + 5) t_parent_of rfl rfl ?_
  conv => whnf
  refine call_wp (n := n + 4) t_need_names rfl rfl ?_
  conv => whnf
  refine call_wp (n := n + 3) t_need_path rfl rfl ?_
  conv => whnf
  refine fits_path_wp h hl ?_
  conv => whnf
  refine eqP_ok (p := P) (q := []) ?_
  conv => whnf
  refine wF_of (decide_eq_false hne) ?_
  conv => whnf
  rw [cut_last, ← List.map_dropLast]
  exact hq
theorem is_path_wp {n F : Nat} {s : Store} {P : Path} {Q : D → Store → Prop} (h : ∀ x ∈ P, x ∈ okNms) (hl : P.length ≤ 6) (hq : Q (.bl true) s) : Wp (mcall Lk55.T G F (n + 4) ("is_path" : Str) [pD P] s) Q := by
  refine call_wp (n := n + 3) t_is_path rfl rfl ?_
  conv => whnf
  exact fits_path_wp h hl hq
theorem is_octets_wp {n F : Nat} {s : Store} {o : List D} {hi : Int} {Q : D → Store → Prop} (ho : Oc o) (hl : (o.length : Int) ≤ hi) (hq : Q (.bl true) s) : Wp (mcall Lk55.T G F (n + 1) ("is_octets" : Str) [.tup o, .int hi] s) Q := by
  refine call_wp t_is_octets rfl rfl ?_
  conv => whnf
  refine wD_by (fun h1 => absurd h1 (by omega)) fun h1 => ?_
  conv => whnf
  refine for_inv (fun i ρ s' => s' = s ∧ ∃ x, ρ = [some (.tup o), some (.int hi), x]) ⟨rfl, _, rfl⟩ ?_ ?_
  · rintro i d ρ s' hx ⟨rfl, x, rfl⟩
    obtain ⟨k, rfl, h2, h3⟩ := ho d (List.mem_of_getElem? hx)
    conv => whnf
    refine wD_by (fun h4 => absurd h4 (by omega)) fun h4 => ?_
    conv => whnf
    refine wD_by (fun h4 => absurd h4 (by omega)) fun h4 => ?_
    conv => whnf
    exact ⟨rfl, _, rfl⟩
  · rintro ρ s' ⟨rfl, x, rfl⟩
    exact hq
theorem tree_deed_wp {n F : Nat} {s : Store} {P : Path} {o : List D} {Q : D → Store → Prop} (h : ∀ x ∈ P, x ∈ okNms) (hl : P.length ≤ 6) (ho : Oc o) (hol : o.length ≤ 64) (hq : Q (.bl true) s) : Wp (mcall Lk55.T G F (n + 5) ("is_tree_deed" : Str) [.tup [.str ("append" : Str), pD P, .tup o]] s) Q := by
  refine call_wp (n := n + 4) t_is_tree_deed rfl rfl ?_
  conv => whnf
  refine is_path_wp h hl ?_
  conv => whnf
  refine is_octets_wp (n := n + 3) ho (by omega) ?_
  exact hq
/-! ### the program: the tree -/
section
variable {n F i : Nat} {s : Store} {T : Tab}
theorem node_dir {S : List Path} {j : Nat} {p : Path} (hp : look T p = some .non) : nodeD T S (j + 1) p = .tup [.str ("dir" : Str), .tup ((kids S p).map fun x => .tup [.str x, nodeD T S j (p ++ [x])])] := by rw [nodeD, hp]
theorem node_file {S : List Path} {j : Nat} {p : Path} {l : List D} (hp : look T p = some (.tup l)) : nodeD T S (j + 1) p = .tup [.str ("file" : Str), .tup l] := by rw [nodeD, hp]
theorem node_tup (hT : Tr i T) {S : List Path} {j : Nat} {p : Path} {d : D} (hp : look T p = some d) : ∃ l, nodeD T S (j + 1) p = .tup l := by
  rcases hT.vals p d hp with rfl | ⟨l, rfl, _⟩
  · exact ⟨_, node_dir hp⟩
  · exact ⟨_, node_file hp⟩
def chD (T : Tab) (j : Nat) (p : Path) : D := match look T p with
  | some _ => nodeD T (srt T) j p
  | none => .non
theorem kids_look {p : Path} {x : Str} : x ∈ kids (srt T) p ↔ ∃ d, look T (p ++ [x]) = some d := by
  rw [kid_mem, srt_mem]
  exact ⟨look_mem, fun ⟨d, h⟩ => look_in h⟩
theorem kids_len (hT : Tr i T) (p : Path) : (kids (srt T) p).length ≤ i := by
  have h1 : (kids (srt T) p).length ≤ (srt T).length := List.length_filterMap_le _ _
  rw [srt_len] at h1
  exact Nat.le_trans h1 hT.len
theorem child_wp (hT : Tr i T) {j : Nat} {p : Path} {x : Str} {d : D} {Q : D → Store → Prop} (hp : look T p = some d) (hq : Q (chD T j (p ++ [x])) s) :
    Wp (mcall Lk55.T G F (n + 1) ("_child" : Str) [nodeD T (srt T) (j + 1) p, .str x] s) Q := by
  rcases hT.vals p d hp with rfl | ⟨l, rfl, _⟩
  · rw [node_dir hp]
    refine call_wp t__child rfl rfl ?_
    conv => whnf
    refine for_inv (fun k ρ s' => s' = s ∧ (∀ y ∈ (kids (srt T) p).take k, y ≠ x) ∧ ∃ r, ρ = [some (.tup [.str ("dir" : Str), .tup ((kids (srt T) p).map fun x => .tup [.str x, nodeD T (srt T) j (p ++ [x])])]), some (.str x), r]) ⟨rfl, fun y hy => by simp at hy, _, rfl⟩ ?_ ?_
    · rintro k d ρ s' hx ⟨rfl, hk, r, rfl⟩
      rw [List.getElem?_map] at hx
      obtain ⟨y, hy, rfl⟩ := Option.map_eq_some_iff.mp hx
      conv => whnf
      refine wB_by (fun h => ?_) fun h => ?_
      · have h : strEq y x = true := h
        rw [strEq_eq, beq_iff_eq] at h
        subst h
        conv => whnf
        obtain ⟨d, hd⟩ := kids_look.mp (List.mem_of_getElem? hy)
        unfold chD at hq
        rw [hd] at hq
        exact hq
      · have h : strEq y x = false := h
        rw [strEq_eq, beq_eq_false_iff_ne] at h
        conv => whnf
        refine ⟨rfl, fun z hz => ?_, _, rfl⟩
        rw [List.take_add_one, hy] at hz
        rcases List.mem_append.mp hz with w | w
        · exact hk z w
        · rw [show z = y by simpa using w]; exact h
    · rintro ρ s' ⟨rfl, hk, r, rfl⟩
      conv => whnf
      rw [List.length_map, List.take_length] at hk
      unfold chD at hq
      cases hl : look T (p ++ [x]) with
      | none => rw [hl] at hq; exact hq
      | some d => exact absurd rfl (hk x (kids_look.mpr ⟨d, hl⟩))
  · rw [node_file hp]
    refine call_wp t__child rfl rfl ?_
    conv => whnf
    unfold chD at hq
    cases hl : look T (p ++ [x]) with
    | none => rw [hl] at hq; exact hq
    | some d =>
      have := hT.cl p x d hl
      rw [hp] at this
      cases this
theorem tree_at_wp (hT : Tr i T) {p P : Path} {d0 : D} {Q : D → Store → Prop} (hp : look T p = some d0) (hl : P.length ≤ 6) (hq : Q (chD T (7 - P.length) (p ++ P)) s) :
    Wp (mcall Lk55.T G F (n + 2) ("tree_at" : Str) [nodeD T (srt T) 7 p, pD P] s) Q := by
  refine call_wp (n := n + 1) t_tree_at rfl rfl ?_
  conv => whnf
  refine for_inv (fun k ρ s' => s' = s ∧ (∃ d, look T (p ++ P.take k) = some d) ∧ ∃ r, ρ = [some (nodeD T (srt T) (7 - k) (p ++ P.take k)), some (pD P), r]) ⟨rfl, ⟨d0, by rw [List.take_zero, List.append_nil]; exact hp⟩, none, by rw [List.take_zero, List.append_nil]; rfl⟩ ?_ ?_
  · rintro k d ρ s' hx ⟨rfl, ⟨e, he⟩, r, rfl⟩
    rw [List.getElem?_map] at hx
    obtain ⟨x, hx1, rfl⟩ := Option.map_eq_some_iff.mp hx
    have hk := (List.getElem?_eq_some_iff.mp hx1).1
    have e7 : 7 - k = (6 - k) + 1 := by omega
    have et : p ++ P.take (k + 1) = p ++ P.take k ++ [x] := by rw [List.take_add_one, hx1, List.append_assoc]; rfl
    conv => whnf
    rw [e7]
    refine child_wp hT he ?_
    rw [← et]
    unfold chD
    cases hl2 : look T (p ++ P.take (k + 1)) with
    | none =>
      conv => whnf
      have : look T (p ++ P) = none := by
        cases hP : look T (p ++ P) with
        | none => rfl
        | some d =>
          by_cases z : k + 1 < P.length
          · have := hT.take hP (k := p.length + (k + 1)) (by rw [List.length_append]; omega)
            rw [List.take_length_add_append] at this
            rw [this] at hl2; cases hl2
          · rw [List.take_of_length_le (by omega), hP] at hl2; cases hl2
      unfold chD at hq
      rw [this] at hq
      exact hq
    | some d =>
      have e6 : 6 - k = (5 - k) + 1 := by omega
      obtain ⟨l, hn⟩ := node_tup hT (S := srt T) (j := 5 - k) hl2
      rw [e6, hn]
      conv => whnf
      refine ⟨rfl, ⟨d, rfl⟩, some (.str x), ?_⟩
      rw [show 7 - (k + 1) = (5 - k) + 1 by omega, hn]
      rfl
  · rintro ρ s' ⟨rfl, ⟨d, hd⟩, r, rfl⟩
    rw [List.length_map, List.take_length] at hd ⊢
    conv => whnf
    unfold chD at hq
    rw [hd] at hq
    exact hq
def whyT (T : Tab) (p P : Path) : Str := if P.isEmpty then ("" : Str) else if isDir (look T (p ++ P.dropLast)) then (match look T (p ++ P) with | none => ("missing" : Str) | some _ => ("" : Str)) else ("path" : Str)
theorem why_wp (hT : Tr i T) {p P : Path} {d0 : D} {Q : D → Store → Prop} (hp : look T p = some d0) (h : ∀ x ∈ P, x ∈ okNms) (hl : P.length ≤ 6) (hq : Q (.str (whyT T p P)) s) :
    Wp (mcall Lk55.T G F (n + 7) ("_why_not" : Str) [nodeD T (srt T) 7 p, pD P] s) Q := by
  refine call_wp (n := n + 6) t__why_not rfl rfl ?_
  cases P with
  | nil =>
    conv => whnf
    exact hq
  | cons x0 P0 =>
    have hne : x0 :: P0 ≠ [] := List.cons_ne_nil _ _
    generalize hP : x0 :: P0 = P at *
    have hsp : P = P.dropLast ++ [P.getLast hne] := (List.dropLast_concat_getLast hne).symm
    have hpd : ∃ a b, pD P = .tup (a :: b) := by rw [← hP]; exact ⟨_, _, rfl⟩
    obtain ⟨a, b, hpd⟩ := hpd
    have hdl : P.dropLast.length + 1 = P.length := by
      have := congrArg List.length hsp
      rw [List.length_append] at this
      simpa using this.symm
    have he : P.isEmpty = false := by rw [← hP]; rfl
    rw [hpd]
    conv => whnf
    rw [← hpd]
    refine parent_wp h hl hne ?_
    conv => whnf
    refine tree_at_wp (n := n + 4) hT hp (by omega) ?_
    unfold whyT at hq
    rw [he] at hq
    unfold chD
    cases hl2 : look T (p ++ P.dropLast) with
    | none =>
      rw [hl2] at hq
      conv => whnf
      exact hq
    | some d =>
      rw [hl2] at hq
      have e7 : 7 - P.dropLast.length = (6 - P.dropLast.length) + 1 := by omega
      rcases hT.vals _ d hl2 with rfl | ⟨l, rfl, _⟩
      · simp only [isDir, Bool.false_eq_true, if_false, if_true] at hq
        rw [e7, node_dir hl2]
        conv => whnf
        have hgl : atI (P.map D.str) (-1) = some (.str (P.getLast hne)) := atI_last (by rw [List.getLast?_map, List.getLast?_eq_some_getLast hne]; rfl)
        refine ixT_ok hgl ?_
        conv => whnf
        rw [← node_dir hl2]
        refine child_wp (n := n + 5) hT hl2 ?_
        rw [List.append_assoc, ← hsp]
        unfold chD
        cases hl3 : look T (p ++ P) with
        | none =>
          rw [hl3] at hq
          conv => whnf
          exact hq
        | some d =>
          rw [hl3] at hq
          have e6 : 6 - P.dropLast.length = (5 - P.dropLast.length) + 1 := by omega
          obtain ⟨l, hn⟩ := node_tup hT (S := srt T) (j := 5 - P.dropLast.length) hl3
          rw [e6, hn]
          conv => whnf
          exact hq
      · rw [e7, node_file hl2]
        conv => whnf
        exact hq
/-! ### the program: a file put anew -/
theorem fm_rows {β : Type} (f : Str → D) (t : Str → Bool) (g : D → Option D) (hg : ∀ y, g (f y) = if t y = true then some (f y) else none) (l : List Str) : (l.map f).filterMap g = (l.filter t).map f := by
  induction l with
  | nil => rfl
  | cons y l ih =>
    rw [List.map_cons, List.filterMap_cons, hg, List.filter_cons]
    cases t y
    · exact ih
    · simp only [if_true, List.map_cons]
      rw [ih]
theorem with_child_wp {T' : Tab} {P : Path} {l o : List D} (hT : Tr i T) (hi : i ≤ 1000) (h : Longer T T' P l o) {j : Nat} {p : Path} {x : Str} {v : List D} {Q : D → Store → Prop} (hp : look T p = some .non) (hx : x ∈ kids (srt T) p) (hpre : p ++ [x] <+: P)
    (hv : nodeD T' (srt T) j (p ++ [x]) = .tup v) (hq : Q (nodeD T' (srt T) (j + 1) p) s) :
    Wp (mcall Lk55.T G F (n + 1) ("_with_child" : Str) [nodeD T (srt T) (j + 1) p, .str x, .tup v] s) Q := by
  rw [node_dir hp]
  have hlen := kids_len hT p
  have hasc := srt_asc hT.nd p
  have hpP : p ≠ P := fun z => by
    have := List.IsPrefix.length_le hpre
    rw [z] at this
    simp at this
    omega
  have hp' : look T' p = some .non := by rw [h.oth p hpP]; exact hp
  have sm : ∀ y, y ≠ x → nodeD T (srt T) j (p ++ [y]) = nodeD T' (srt T) j (p ++ [y]) := fun y hy => node_same h j _ fun z => by
    obtain ⟨r, e1⟩ := z
    obtain ⟨r2, e2⟩ := hpre
    rw [← e2, List.append_assoc, List.append_assoc] at e1
    have := List.append_cancel_left e1
    simp only [List.singleton_append, List.cons.injEq] at this
    exact hy this.1
  refine call_wp t__with_child rfl rfl ?_
  conv => whnf
  refine lcP_wp (fun d => match d with | .tup [.str y, e] => if strLt y x = true then some (.tup [.str y, e]) else none | _ => none) ?_
  conv => whnf
  refine ⟨_, rfl, by rw [List.length_map]; omega, fun d hd => ?_, ?_⟩
  · obtain ⟨y, hy, rfl⟩ := List.mem_map.mp hd
    conv => whnf
    refine wB_by (fun h1 => ?_) fun h1 => ?_
    · have h1 : strLt y x = true := h1
      conv => whnf
      refine ⟨rfl, ?_⟩
      simp only [h1, if_true]
    · have h1 : strLt y x = false := h1
      conv => whnf
      refine ⟨rfl, ?_⟩
      simp only [h1, Bool.false_eq_true, if_false]
  rw [fm_rows (β := Unit) (fun y => D.tup [.str y, nodeD T (srt T) j (p ++ [y])]) (fun y => strLt y x) _ (fun y => rfl)]
  conv => whnf
  refine lcP_wp (fun d => match d with | .tup [.str y, e] => if strLt x y = true then some (.tup [.str y, e]) else none | _ => none) ?_
  conv => whnf
  refine ⟨_, rfl, by rw [List.length_map]; omega, fun d hd => ?_, ?_⟩
  · obtain ⟨y, hy, rfl⟩ := List.mem_map.mp hd
    conv => whnf
    refine wB_by (fun h1 => ?_) fun h1 => ?_
    · have h1 : strLt x y = true := h1
      conv => whnf
      refine ⟨rfl, ?_⟩
      simp only [h1, if_true]
    · have h1 : strLt x y = false := h1
      conv => whnf
      refine ⟨rfl, ?_⟩
      simp only [h1, Bool.false_eq_true, if_false]
  rw [fm_rows (β := Unit) (fun y => D.tup [.str y, nodeD T (srt T) j (p ++ [y])]) (fun y => strLt x y) _ (fun y => rfl)]
  conv => whnf
  have f1 := List.length_filter_le (fun y => strLt y x) (kids (srt T) p)
  have f2 := List.length_filter_le (fun y => strLt x y) (kids (srt T) p)
  refine addL_ok (by rw [List.length_map]; show _ + 1 ≤ _; omega) ?_
  conv => whnf
  refine addL_ok (by rw [List.length_append, List.length_map, List.length_map]; show _ + 1 + _ ≤ _; omega) ?_
  conv => whnf
  rw [node_dir hp'] at hq
  have e : (kids (srt T) p).map (fun y => D.tup [.str y, nodeD T' (srt T) j (p ++ [y])]) = ((kids (srt T) p).filter fun y => strLt y x).map (fun y => D.tup [.str y, nodeD T (srt T) j (p ++ [y])]) ++ [.tup [.str x, .tup v]] ++ ((kids (srt T) p).filter fun y => strLt x y).map (fun y => D.tup [.str y, nodeD T (srt T) j (p ++ [y])]) := by
    conv => lhs; rw [← asc_split hasc hx]
    rw [List.map_append, List.map_cons, hv, List.append_assoc, List.singleton_append]
    congr 1
    · refine List.map_congr_left fun y hy => ?_
      rw [sm y fun z => by subst z; have := (List.mem_filter.mp hy).2; rw [strLt_irr] at this; cases this]
    · congr 1
      refine List.map_congr_left fun y hy => ?_
      rw [sm y fun z => by subst z; have := (List.mem_filter.mp hy).2; rw [strLt_irr] at this; cases this]
  rw [← e]
  exact hq
theorem put_wp {T' : Tab} {P : Path} {l o : List D} (hT : Tr i T) (hi : i ≤ 1000) (h : Longer T T' P l o) : ∀ (rest p : Path) (j n : Nat) (Q : D → Store → Prop), p ++ rest = P → rest ≠ [] → p.length + j = 6 → Q (nodeD T' (srt T) (j + 1) p) s →
    Wp (mcall Lk55.T G F (n + rest.length + 1) ("_put" : Str) [nodeD T (srt T) (j + 1) p, pD rest, .tup [.str ("file" : Str), .tup (l ++ o)]] s) Q
  | [], _, _, _, _, _, hne, _, _ => absurd rfl hne
  | [x], p, j, n, Q, hP, _, hj, hq => by
    have hp := hT.up [x] p _ (by rw [hP]; exact h.at_) (List.cons_ne_nil _ _)
    have hd := hT.deep P _ h.at_
    rw [← hP, List.length_append] at hd
    simp only [List.length_cons, List.length_nil] at hd
    refine call_wp (n := n + 1) t__put rfl rfl ?_
    conv => whnf
    refine with_child_wp (n := n) (p := p) (x := x) hT hi h hp (kids_look.mpr ⟨_, by rw [hP]; exact h.at_⟩) (by rw [hP]; exact List.prefix_refl _) ?_ hq
    rw [hP]
    obtain ⟨j', rfl⟩ : ∃ j', j = j' + 1 := ⟨j - 1, by omega⟩
    exact node_file h.now
  | x :: y :: r, p, j, n, Q, hP, _, hj, hq => by
    have hp := hT.up (x :: y :: r) p _ (by rw [hP]; exact h.at_) (List.cons_ne_nil _ _)
    have hP2 : (p ++ [x]) ++ (y :: r) = P := by rw [← hP]; simp
    have hp2 := hT.up (y :: r) (p ++ [x]) _ (by rw [hP2]; exact h.at_) (List.cons_ne_nil _ _)
    have hd := hT.deep P _ h.at_
    rw [← hP, List.length_append] at hd
    simp only [List.length_cons] at hd
    obtain ⟨j', rfl⟩ : ∃ j', j = j' + 1 := ⟨j - 1, by omega⟩
    have hne : p ++ [x] ≠ P := fun z => by rw [z, h.at_] at hp2; cases hp2
    have hp2' : look T' (p ++ [x]) = some .non := by rw [h.oth _ hne]; exact hp2
    refine call_wp (n := n + (r.length + 2)) t__put rfl rfl ?_
    conv => whnf
    refine wD_by (fun h1 => ?_) fun h1 => absurd h1 (by simp; omega)
    conv => whnf
    refine ixT_ok (atI_nat (i := 0) rfl) ?_
    conv => whnf
    refine ixT_ok (atI_nat (i := 0) rfl) ?_
    conv => whnf
    refine child_wp (n := n + r.length + 1) hT hp ?_
    unfold chD
    rw [hp2]
    conv => whnf
    rw [show Rf.cutD ((x :: y :: r).map D.str) (some 1) none = (y :: r).map D.str by rw [show (1 : Int) = ((1 : Nat) : Int) from rfl, cutD_from]; rfl]
    refine put_wp hT hi h (y :: r) (p ++ [x]) j' n _ hP2 (List.cons_ne_nil _ _) (by simp; omega) ?_
    rw [node_dir hp2']
    conv => whnf
    exact with_child_wp (n := n + r.length + 1) (p := p) (x := x) hT hi h hp (kids_look.mpr ⟨_, hp2⟩) ⟨_, hP2⟩ (node_dir hp2') hq
theorem whyT_eq {P : Path} (hT : Tr i T) (hd : (!P.isEmpty && !isDir (look T P.dropLast)) = false) : whyT T [] P = match look T P with | none => ("missing" : Str) | some _ => ("" : Str) := by
  unfold whyT
  cases hP : P.isEmpty with
  | true =>
    rw [List.isEmpty_iff] at hP
    subst hP
    rw [hT.root]
    rfl
  | false =>
    rw [hP] at hd
    have hd : isDir (look T P.dropLast) = true := by simpa using hd
    simp only [Bool.false_eq_true, if_false, List.nil_append, hd, if_true]
theorem append_wp (hT : Tr i T) (hi : i ≤ 1000) {P : Path} {o : List D} {Q : D → Store → Prop} (h : ∀ x ∈ P, x ∈ okNms) (hl : P.length ≤ 6) (ho : Oc o) (hol : o.length ≤ 64) (hq : Q (.tup [nodeD (apT T P o).1 (srt T) 7 [], (apT T P o).2]) s) :
    Wp (mcall Lk55.T G F (n + 8) ("_append" : Str) [nodeD T (srt T) 7 [], .tup [.str ("append" : Str), pD P, .tup o]] s) Q := by
  refine call_wp (n := n + 7) t__append rfl rfl ?_
  conv => whnf
  refine why_wp (p := []) hT hT.root h hl ?_
  unfold apT at hq
  cases hd : (!P.isEmpty && !isDir (look T P.dropLast)) with
  | true =>
    rw [hd, if_pos rfl] at hq
    have hw : whyT T [] P = ("path" : Str) := by
      unfold whyT
      rw [Bool.and_eq_true, Bool.not_eq_true', Bool.not_eq_true'] at hd
      rw [List.nil_append, hd.1, hd.2]
      rfl
    rw [hw]
    conv => whnf
    exact hq
  | false =>
    rw [hd, if_neg Bool.false_ne_true] at hq
    rw [whyT_eq hT hd]
    cases hlk : look T P with
    | none =>
      rw [hlk] at hq
      conv => whnf
      exact hq
    | some d =>
      rw [hlk] at hq
      conv => whnf
      refine tree_at_wp (n := n + 5) (p := []) hT hT.root hl ?_
      rw [List.nil_append]
      unfold chD
      rw [hlk]
      have hdp := hT.deep P d hlk
      have e7 : 7 - P.length = (6 - P.length) + 1 := by omega
      rcases hT.vals P d hlk with rfl | ⟨l, rfl, hf, hll⟩
      · rw [e7, node_dir hlk]
        conv => whnf
        exact hq
      · rw [e7, node_file hlk]
        conv => whnf
        refine addT_ok (by omega) ?_
        conv => whnf
        refine wD_by (fun h1 => ?_) fun h1 => ?_
        · rw [List.length_append] at h1
          conv => whnf
          simp only at hq
          rw [if_pos (by omega)] at hq
          exact hq
        · rw [List.length_append] at h1
          conv => whnf
          simp only at hq
          rw [if_neg (by omega)] at hq
          have hne : P ≠ [] := fun z => by rw [z, hT.root] at hlk; cases hlk
          have hPl : P.length = (P.length - 1) + 1 := by
            have := List.length_pos_iff.mpr hne
            omega
          have e8 : n + 7 = (n + 6 - P.length) + P.length + 1 := by omega
          show Wp (mcall Lk55.T G F (n + 7) _ _ _) _
          rw [e8]
          refine put_wp hT hi (Longer.put hlk) P [] 6 (n + 6 - P.length) _ rfl hne rfl ?_
          conv => whnf
          rw [List.length_append]
          exact hq
theorem tree_done_wp (hT : Tr i T) (hi : i ≤ 1000) {P : Path} {o : List D} {Q : D → Store → Prop} (h : ∀ x ∈ P, x ∈ okNms) (hl : P.length ≤ 6) (ho : Oc o) (hol : o.length ≤ 64) (hq : Q (.tup [nodeD (apT T P o).1 (srt T) 7 [], (apT T P o).2]) s) :
    Wp (mcall Lk55.T G F (n + 9) ("tree_done" : Str) [nodeD T (srt T) 7 [], .tup [.str ("append" : Str), pD P, .tup o]] s) Q := by
  refine call_wp (n := n + 8) t_tree_done rfl rfl ?_
  conv => whnf
  refine tree_deed_wp (n := n + 3) h hl ho hol ?_
  conv => whnf
  exact append_wp hT hi h hl ho hol hq
/-- appends one after another -/
def runT : Tab → List (Path × List D) → Tab × List D
  | T, [] => (T, [])
  | T, a :: r => ((runT (apT T a.1 a.2).1 r).1, (apT T a.1 a.2).2 :: (runT (apT T a.1 a.2).1 r).2)
theorem runT_snoc : ∀ (as : List (Path × List D)) (T : Tab) (a : Path × List D), runT T (as ++ [a]) = ((apT (runT T as).1 a.1 a.2).1, (runT T as).2 ++ [(apT (runT T as).1 a.1 a.2).2])
  | [], T, a => rfl
  | b :: as, T, a => by
    show ((runT _ (as ++ [a])).1, _ :: (runT _ (as ++ [a])).2) = _
    rw [runT_snoc as]
    rfl
structure ApOk (a : Path × List D) : Prop where
  names : ∀ x ∈ a.1, x ∈ okNms
  len : a.1.length ≤ 6
  oc : Oc a.2
  many : a.2.length ≤ 64
theorem runT_ok : ∀ {as : List (Path × List D)} {T : Tab}, Tr i T → (∀ a ∈ as, ApOk a) → Tr i (runT T as).1 ∧ srt (runT T as).1 = srt T ∧ (runT T as).2.length = as.length
  | [], T, hT, _ => ⟨hT, rfl, rfl⟩
  | a :: as, T, hT, h => by
    obtain ⟨h1, h2⟩ := apT_ok hT (h a List.mem_cons_self).oc (P := a.1)
    obtain ⟨h3, h4, h5⟩ := runT_ok (as := as) h1 fun b hb => h b (List.mem_cons_of_mem _ hb)
    exact ⟨h3, h4.trans h2, by show _ + 1 = _ + 1; rw [h5]⟩
def apD (a : Path × List D) : D := .tup [pD a.1, .tup a.2]
theorem handed_on_wp (hT : Tr i T) (hi : i ≤ 1000) {as : List (Path × List D)} {Q : D → Store → Prop} (h : ∀ a ∈ as, ApOk a) (hl : as.length ≤ 1000) (hq : Q (.tup [nodeD (runT T as).1 (srt T) 7 [], .tup (runT T as).2]) s) :
    Wp (mcall Lk55.T G F (n + 10) ("handed_on" : Str) [nodeD T (srt T) 7 [], .tup (as.map apD)] s) Q := by
  refine call_wp (n := n + 9) t_handed_on rfl rfl ?_
  conv => whnf
  refine for_inv (fun k ρ s' => s' = s ∧ ∃ x3 x4 x5, ρ = [some (nodeD (runT T (as.take k)).1 (srt T) 7 []), some (.tup (as.map apD)), some (.tup (runT T (as.take k)).2), x3, x4, x5]) ⟨rfl, none, none, none, rfl⟩ ?_ ?_
  · rintro k d ρ s' hx ⟨rfl, x3, x4, x5, rfl⟩
    rw [List.getElem?_map] at hx
    obtain ⟨a, ha, rfl⟩ := Option.map_eq_some_iff.mp hx
    have hk := (List.getElem?_eq_some_iff.mp ha).1
    have hin := List.mem_of_getElem? ha
    have hsub : ∀ b ∈ as.take k, ApOk b := fun b hb => h b (List.mem_of_mem_take hb)
    obtain ⟨r1, r2, r3⟩ := runT_ok hT hsub
    have ht : as.take (k + 1) = as.take k ++ [a] := by rw [List.take_add_one, ha]; rfl
    conv => whnf
    rw [← r2]
    refine tree_done_wp r1 hi (h a hin).names (h a hin).len (h a hin).oc (h a hin).many ?_
    conv => whnf
    refine addT_ok (by rw [r3, List.length_take]; show _ + 1 ≤ _; omega) ?_
    conv => whnf
    exact ⟨rfl, some (pD a.1), some (.tup a.2), some (apT (runT T (as.take k)).1 a.1 a.2).2, by rw [ht, runT_snoc, r2]; rfl⟩
  · rintro ρ s' ⟨rfl, x3, x4, x5, rfl⟩
    rw [List.length_map, List.take_length]
    conv => whnf
    exact hq
end
/-! ### the law's own table -/
theorem names_wp {n F m i : Nat} {s : Store} {T : Tab} {p : Path} {Q : D → Store → Prop} (hm : s[m]? = some (tO T)) (hT : Tr i T) (hi : i ≤ 1000) (hq : Q (.lst ((kids (srt T) p).map .str)) s) :
    Wp (mcall Lk55.T G F (n + 1) ("_law_names" : Str) [.ref m, pD p] s) Q := by
  have hlen := hT.len
  refine call_wp t__law_names rfl rfl ?_
  conv => whnf
  refine lcP_wp (fun d => (kid p (backP d)).map .str) ?_
  conv => whnf
  refine sortedM_ok hm hT.nok ?_
  conv => whnf
  refine ⟨_, rfl, by rw [List.length_map, srt_len]; omega, fun d hd => ?_, ?_⟩
  · obtain ⟨q, _, rfl⟩ := List.mem_map.mp hd
    rw [backP_pD]
    conv => whnf
    refine wQ_by (fun h => ?_) fun h => ?_
    · conv => whnf
      rw [cut_last, ← List.map_dropLast]
      refine eqP_ok (p := q.dropLast) (q := p) ?_
      conv => whnf
      refine wD_by (fun h2 => ?_) fun h2 => ?_
      · conv => whnf
        have hq0 : q ≠ [] := fun z => by subst z; simp at h; omega
        refine ixT_ok (atI_last (d := .str (q.getLast hq0)) (by rw [List.getLast?_map, List.getLast?_eq_some_getLast hq0]; rfl)) ?_
        conv => whnf
        refine ⟨rfl, ?_⟩
        unfold kid
        rw [if_pos ⟨by simp at h; omega, h2⟩, List.getLast?_eq_some_getLast hq0]
        rfl
      · conv => whnf
        refine ⟨rfl, ?_⟩
        unfold kid
        rw [if_neg fun z => h2 z.2]
        rfl
    · conv => whnf
      refine wF_of (by show eqF DEEP (.int _) (.int _) = false; exact beq_eq_false_iff_ne.mpr h) ?_
      conv => whnf
      refine ⟨rfl, ?_⟩
      unfold kid
      rw [if_neg fun z => h (by rw [List.length_map, List.length_map]; omega)]
      rfl
  · have e : ((srt T).map pD).filterMap (fun d => (kid p (backP d)).map D.str) = (kids (srt T) p).map .str := by
      unfold kids
      rw [List.filterMap_map, List.map_filterMap]
      congr 1
      funext q
      show (kid p (backP (pD q))).map D.str = _
      rw [backP_pD]
    rw [e]
    conv => whnf
    exact hq
theorem node_wp {F m i : Nat} {s : Store} {T : Tab} (hm : s[m]? = some (tO T)) (hT : Tr i T) (hi : i ≤ 1000) : ∀ (j n : Nat) (p : Path) (d : D) (Q : D → Store → Prop), look T p = some d → p.length + j ≥ 6 → j ≤ 7 → Q (nodeD T (srt T) (j + 1) p) s →
    Wp (mcall Lk55.T G F (n + j + 2) ("_law_node" : Str) [.ref m, pD p] s) Q := by
  intro j
  induction j with
  | zero =>
    intro n p d Q hp hj _ hq
    have := hT.deep p d hp
    omega
  | succ j ih =>
    intro n p d Q hp hj hj7 hq
    refine call_wp (n := n + j + 2) t__law_node rfl rfl ?_
    conv => whnf
    refine ixM_ok hm hp ?_
    unfold nodeD at hq
    rw [hp] at hq
    rcases hT.vals p d hp with rfl | ⟨l, rfl, _⟩
    · conv => whnf
      refine lcP_wp (fun d => match d with | .str x => some (.tup [.str x, nodeD T (srt T) (j + 1) (p ++ [x])]) | _ => none) ?_
      conv => whnf
      refine names_wp (n := n + j + 1) hm hT hi ?_
      refine ⟨_, rfl, ?_, fun e he => ?_, ?_⟩
      · rw [List.length_map]
        have := kids_len hT p
        omega
      · obtain ⟨x, hx, rfl⟩ := List.mem_map.mp he
        obtain ⟨d2, hd2⟩ := kids_look.mp hx
        have hp7 := hT.deep _ _ hp
        conv => whnf
        refine addT_ok (by rw [List.length_map]; show p.length + 1 ≤ _; omega) ?_
        rw [show p.map D.str ++ [.str x] = (p ++ [x]).map D.str by rw [List.map_append]; rfl]
        conv => whnf
        refine ih n (p ++ [x]) d2 _ hd2 (by simp; omega) (by omega) ?_
        conv => whnf
        exact ⟨rfl, rfl⟩
      · have e : ((kids (srt T) p).map D.str).filterMap (fun d => match d with | .str x => some (D.tup [.str x, nodeD T (srt T) (j + 1) (p ++ [x])]) | _ => none) = (kids (srt T) p).map fun x => D.tup [.str x, nodeD T (srt T) (j + 1) (p ++ [x])] := by
          generalize kids (srt T) p = l
          induction l with
          | nil => rfl
          | cons x l ih2 =>
            rw [List.map_cons, List.filterMap_cons, List.map_cons]
            simp only
            rw [ih2]
        rw [e]
        conv => whnf
        exact hq
    · conv => whnf
      refine ixM_ok hm hp ?_
      conv => whnf
      exact hq
theorem octets_wp {n F : Nat} {o : MO} {t : Store} {k : Int} {Q : D → Store → Prop} (hc : Cup o) (h0 : 0 ≤ k) (h1 : k < 1000) (hq : ∀ o' l, Cup o' → Oc l → (l.length : Int) ≤ k → Q (.tup l) (o' :: t)) :
    Wp (mcall Lk55.T G F (n + 2) ("_law_some_octets" : Str) [.ref 0, .int k] (o :: t)) Q := by
  refine call_wp t__law_some_octets rfl rfl ?_
  conv => whnf
  refine lcI_wp (fun j ys s => ∃ o, Cup o ∧ s = o :: t ∧ ys.length = j ∧ Oc ys) ?_
  conv => whnf
  refine roll_wp hc (by omega) (by omega) fun o2 r hc h2 h3 => ?_
  conv => whnf
  refine rng1_ok (by omega) (by omega) ?_
  conv => whnf
  refine ⟨_, rfl, ⟨_, hc, rfl, rfl, Oc.nil⟩, ?_, ?_⟩
  · rintro j d ys s hd ⟨o, hc, rfl, hl, hy⟩
    conv => whnf
    refine roll_wp hc (by decide) (by decide) fun o2 r hc h2 h3 => ?_
    conv => whnf
    refine ⟨_, hc, rfl, by simp [hl], fun d hd => ?_⟩
    rcases List.mem_append.mp hd with hd | hd
    · exact hy d hd
    · exact ⟨r, by simpa using hd, h2, h3⟩
  · rintro ys s ⟨o, hc, rfl, hl, hy⟩
    rw [List.length_map, List.length_range] at hl
    refine ⟨by omega, ?_⟩
    conv => whnf
    exact hq _ _ hc hy (by omega)
/-- a directory, not deep -/
def dirB (T : Tab) (p : Path) : Bool := match look T p with
  | some .non => decide (p.length < 5)
  | _ => false
theorem table_wp {n F : Nat} {o : MO} {Q : D → Store → Prop} (hc : Cup o) (hq : ∀ o' T, Cup o' → Tr 10 T → Q (.ref 1) [o', tO T]) : Wp (mcall Lk55.T G F (n + 4) ("_law_table" : Str) [.ref 0] [o]) Q := by
  refine call_wp (n := n + 3) t__law_table rfl rfl ?_
  conv => whnf
  refine roll_wp hc (by decide) (by decide) fun o2 r hc h2 h3 => ?_
  conv => whnf
  refine rng1_ok (by omega) (by omega) ?_
  conv => whnf
  have lk0 : ∀ p d, look [([], D.non)] p = some d → p = [] ∧ d = .non := fun p d h => by
    unfold look at h
    by_cases hp : ([] : Path) = p
    · subst hp; simp at h; exact ⟨rfl, h.symm⟩
    · simp [hp] at h
  refine for_rng (fun i ρ s => ∃ o T x2 x3 x4, Cup o ∧ Tr (i + 1) T ∧ s = [o, tO T] ∧ ρ = [some (.ref 0), some (.ref 1), x2, x3, x4]) ⟨o2, [([], .non)], none, none, none, hc,
    ⟨fun p d h x hx => by rw [(lk0 p d h).1] at hx; simp at hx, by simp, rfl, fun p d h => by rw [(lk0 p d h).1]; simp, fun p d h => .inl (lk0 p d h).2, by simp, fun p x d h => by have := (lk0 _ d h).1; simp at this⟩, rfl, rfl⟩ ?_ ?_
  · rintro i ρ s hi ⟨o, T, x2, x3, x4, hc, hT, rfl, rfl⟩
    conv => whnf
    have hm : ([o, tO T] : Store)[1]? = some (tO T) := rfl
    refine lcP_wp (fun d => if dirB T (backP d) then some (pD (backP d)) else none) ?_
    conv => whnf
    refine sortedM_ok hm hT.nok ?_
    conv => whnf
    refine ⟨_, rfl, by rw [List.length_map, srt_len]; have := hT.len; omega, fun d hd => ?_, ?_⟩
    · obtain ⟨p, hp, rfl⟩ := List.mem_map.mp hd
      obtain ⟨e, he⟩ := look_mem (srt_mem.mp hp)
      rw [backP_pD]
      conv => whnf
      refine ixM_ok hm he ?_
      rcases hT.vals p e he with rfl | ⟨l, rfl, _⟩
      · conv => whnf
        refine wD_by (fun h => ?_) fun h => ?_
        · conv => whnf
          refine ⟨rfl, ?_⟩
          unfold dirB
          rw [he]
          show _ = if decide (p.length < 5) = true then some (pD p) else none
          rw [if_pos (decide_eq_true (by rw [List.length_map] at h; omega))]
        · conv => whnf
          refine ⟨rfl, ?_⟩
          unfold dirB
          rw [he]
          show none = if decide (p.length < 5) = true then some (pD p) else none
          rw [if_neg (by rw [decide_eq_true_eq]; rw [List.length_map] at h; omega)]
      · conv => whnf
        refine ⟨rfl, ?_⟩
        unfold dirB
        rw [he]
        rfl
    · have e : ((srt T).map pD).filterMap (fun d => if dirB T (backP d) then some (pD (backP d)) else none) = ((srt T).filter (dirB T)).map pD := by
        rw [List.filterMap_map]
        generalize srt T = S
        induction S with
        | nil => rfl
        | cons p S ih =>
          rw [List.filterMap_cons, List.filter_cons]
          have e0 : ((fun d => if dirB T (backP d) = true then some (pD (backP d)) else none) ∘ pD) p = if dirB T p = true then some (pD p) else none := by
            show (if dirB T (backP (pD p)) = true then some (pD (backP (pD p))) else none) = _
            rw [backP_pD]
          rw [e0]
          cases dirB T p
          · exact ih
          · simp only [if_true, List.map_cons]
            rw [← ih]
      rw [e]
      conv => whnf
      have hne : [] ∈ (srt T).filter (dirB T) := List.mem_filter.mpr ⟨srt_mem.mpr (look_in hT.root), by unfold dirB; rw [hT.root]; rfl⟩
      have hlen : ((srt T).filter (dirB T)).length ≤ T.length := by rw [← srt_len (T := T)]; exact List.length_filter_le _ _
      refine some_wp hc (by rw [List.length_map]; exact List.length_pos_of_mem hne) (by rw [List.length_map]; have := hT.len; omega) fun o2 d hc hd => ?_
      obtain ⟨p, hp, rfl⟩ := List.mem_map.mp hd
      obtain ⟨hp1, hp2⟩ := List.mem_filter.mp hp
      have hpd : look T p = some .non ∧ p.length < 5 := by
        unfold dirB at hp2
        split at hp2
        · rename_i hh; exact ⟨hh, of_decide_eq_true hp2⟩
        · cases hp2
      conv => whnf
      refine some_wp hc (by decide) (by decide) fun o3 d2 hc hd2 => ?_
      have : ∃ x : Str, d2 = .str x ∧ x ∈ okNms := by
        simp only [List.mem_cons, List.not_mem_nil, or_false] at hd2
        rcases hd2 with rfl | rfl | rfl <;> exact ⟨_, rfl, by decide +kernel⟩
      obtain ⟨x, rfl, hx⟩ := this
      have hm2 : ([o3, tO T] : Store)[1]? = some (tO T) := rfl
      conv => whnf
      refine addT_ok (by rw [List.length_map]; show p.length + 1 ≤ _; omega) ?_
      rw [show p.map D.str ++ [.str x] = (p ++ [x]).map D.str by rw [List.map_append]; rfl]
      conv => whnf
      refine hasM_ok (p := p ++ [x]) hm2 ?_
      conv => whnf
      refine wN_or (fun hn => ?_) fun hn => ?_
      · have hn2 : look T (p ++ [x]) = none := by simpa using hn
        conv => whnf
        refine roll_wp hc (by decide) (by decide) fun o4 r hc h2 h3 => ?_
        conv => whnf
        refine wD_by (fun hr => ?_) fun hr => ?_
        · conv => whnf
          refine octets_wp hc (by decide) (by decide) fun o5 l hc hl hll => ?_
          conv => whnf
          refine putM_ok (T := T) (p := p ++ [x]) (m := 1) (s := [o5, tO T]) rfl (by have := hT.len; omega) ?_
          conv => whnf
          exact ⟨o5, _, _, _, _, hc, hT.new hpd.1 hn2 hx hpd.2 (.inr ⟨l, rfl, hl, by omega⟩), rfl, rfl⟩
        · conv => whnf
          refine putM_ok (T := T) (p := p ++ [x]) (m := 1) (s := [o4, tO T]) rfl (by have := hT.len; omega) ?_
          conv => whnf
          exact ⟨o4, _, _, _, _, hc, hT.new hpd.1 hn2 hx hpd.2 (.inl rfl), rfl, rfl⟩
      · conv => whnf
        exact ⟨o3, T, _, _, _, hc, hT.le (by omega), rfl, rfl⟩
  · rintro ρ s ⟨o, T, x2, x3, x4, hc, hT, rfl, rfl⟩
    conv => whnf
    exact hq _ _ hc (hT.le (by omega))
/-- table.get(p, d) -/
theorem atM_ok {s : Store} {m : Nat} {T : Tab} {p : Path} {Q : Option D → Prop} (hm : s[m]? = some (tO T)) (hq : Q (look T p)) : wO (atD (deref s (.ref m)) (pD p)) Q := by
  rw [deref_tab hm]
  unfold atD
  rw [keyT_pD]
  show wO ((some (kP p)).map (valD (T.map fun e => (kP e.1, e.2)))) Q
  rw [Option.map_some, val_look]
  exact hq
theorem noDir_of {T : Tab} {i : Nat} (hT : Tr i T) {P : Path} {k : Nat} (hk : k < P.length) (h : look T (P.take k) ≠ some .non) : (!P.isEmpty && !isDir (look T P.dropLast)) = true := by
  have hne : P ≠ [] := fun z => by rw [z] at hk; simp at hk
  rw [Bool.and_eq_true, Bool.not_eq_true', Bool.not_eq_true']
  refine ⟨by cases P; exact absurd rfl hne; rfl, ?_⟩
  cases e : isDir (look T P.dropLast) with
  | false => rfl
  | true =>
    rw [isDir_eq] at e
    exfalso
    rw [List.dropLast_eq_take] at e
    by_cases z : k = P.length - 1
    · rw [z] at h; exact h e
    · have := hT.take (P := P.take (P.length - 1)) e (k := k) (by rw [List.length_take]; omega)
      rw [List.take_take, Nat.min_eq_left (by omega)] at this
      exact h this
/-! ### copies -/
/-- what is covered: of each path its kind and a number -/
structure COk (T Cv : Tab) : Prop where
  names : NamesOk Cv
  len : Cv.length ≤ 1000
  vals : ∀ p d, look Cv p = some d → ∃ (k : Str) (c : Int) (d' : D), d = .tup [.str k, .int c] ∧ look T p = some d' ∧ (k = ("folder" : Str) ∧ d' = .non ∨ k = ("write" : Str) ∧ d' ≠ .non)
def copyD (T Cv : Tab) (p : Path) : D := match look Cv p with
  | some (.tup [k, c]) => .tup [pD p, k, c, nodeD T (srt T) 7 p]
  | _ => .non
theorem copies_wp {F m m2 n i : Nat} {s : Store} {T Cv : Tab} {Q : D → Store → Prop} (hm : s[m]? = some (tO T)) (hm2 : s[m2]? = some (tO Cv)) (hT : Tr i T) (hi : i ≤ 1000) (hC : COk T Cv) (hq : Q (.tup ((srt Cv).map (copyD T Cv))) s) :
    Wp (mcall Lk55.T G F (n + 9) ("_law_copies" : Str) [.ref m, .ref m2] s) Q := by
  refine call_wp (n := n + 8) t__law_copies rfl rfl ?_
  conv => whnf
  refine lcP_wp (fun d => some (copyD T Cv (backP d))) ?_
  conv => whnf
  refine sortedM_ok hm2 hC.names ?_
  conv => whnf
  refine ⟨_, rfl, by rw [List.length_map, srt_len]; have := hC.len; omega, fun d hd => ?_, ?_⟩
  · obtain ⟨p, hp, rfl⟩ := List.mem_map.mp hd
    obtain ⟨e, he⟩ := look_mem (srt_mem.mp hp)
    obtain ⟨k, c, d', rfl, hl, _⟩ := hC.vals p e he
    rw [backP_pD]
    have ec : copyD T Cv p = .tup [pD p, .str k, .int c, nodeD T (srt T) 7 p] := by
      unfold copyD
      rw [he]
    rw [ec]
    conv => whnf
    refine ixM_ok hm2 he ?_
    conv => whnf
    refine ixM_ok hm2 he ?_
    conv => whnf
    refine node_wp hm hT hi 6 n p d' _ hl (by omega) (by omega) ?_
    conv => whnf
    exact ⟨rfl, rfl⟩
  · rw [fm_paths]
    conv => whnf
    exact hq
theorem with_wp {F i : Nat} {s : Store} {T T' : Tab} {P : Path} {l o : List D} (hT : Tr i T) (hi : i ≤ 1000) (h : Longer T T' P l o) (ho : l.length + o.length ≤ 1000) : ∀ (j n : Nat) (p rest : Path) (d : D) (Q : D → Store → Prop), p ++ rest = P → look T p = some d → p.length + j ≥ 6 → j ≤ 7 → Q (nodeD T' (srt T) (j + 1) p) s →
    Wp (mcall Lk55.T G F (n + j + 2) ("node_with" : Str) [nodeD T (srt T) (j + 1) p, pD rest, .tup o] s) Q := by
  intro j
  induction j with
  | zero =>
    intro n p rest d Q _ hp hj _ hq
    have := hT.deep p d hp
    omega
  | succ j ih =>
    intro n p rest d Q hP hp hj hj7 hq
    rcases hT.vals p d hp with rfl | ⟨l', rfl, _, _⟩
    · have en : nodeD T (srt T) (j + 2) p = .tup [.str ("dir" : Str), .tup ((kids (srt T) p).map fun x => .tup [.str x, nodeD T (srt T) (j + 1) (p ++ [x])])] := by
        rw [nodeD, hp]
      have hne : p ≠ P := fun z => by rw [z, h.at_] at hp; cases hp
      have en' : nodeD T' (srt T) (j + 2) p = .tup [.str ("dir" : Str), .tup ((kids (srt T) p).map fun x => .tup [.str x, nodeD T' (srt T) (j + 1) (p ++ [x])])] := by
        rw [nodeD, h.oth p hne, hp]
      rw [en'] at hq
      rw [en]
      refine call_wp (n := n + j + 2) t_node_with rfl rfl ?_
      conv => whnf
      refine for_inv (fun ii ρ s' => s' = s ∧ ∃ x4 x5, ρ = [some (.tup [.str ("dir" : Str), .tup ((kids (srt T) p).map fun x => .tup [.str x, nodeD T (srt T) (j + 1) (p ++ [x])])]), some (pD rest), some (.tup o), some (.lst (((kids (srt T) p).take ii).map fun x => .tup [.str x, nodeD T' (srt T) (j + 1) (p ++ [x])])), x4, x5]) ⟨rfl, none, none, rfl⟩ ?_ ?_
      · rintro ii d ρ s' hx ⟨rfl, x4, x5, rfl⟩
        rw [List.getElem?_map] at hx
        obtain ⟨x, hx1, rfl⟩ := Option.map_eq_some_iff.mp hx
        have hkl : (kids (srt T) p).length ≤ 1000 := Nat.le_trans (kids_len hT p) hi
        have htk : ((kids (srt T) p).take (ii + 1)) = (kids (srt T) p).take ii ++ [x] := by rw [List.take_add_one, hx1]; rfl
        have fin : ∀ z, z = nodeD T' (srt T) (j + 1) (p ++ [x]) → ∃ y4 y5, [some (D.tup [.str ("dir" : Str), .tup ((kids (srt T) p).map fun x => .tup [.str x, nodeD T (srt T) (j + 1) (p ++ [x])])]), some (pD rest), some (.tup o), some (.lst (((kids (srt T) p).take ii).map (fun x => .tup [.str x, nodeD T' (srt T) (j + 1) (p ++ [x])]) ++ [.tup [.str x, z]])), some (.str x), some (nodeD T (srt T) (j + 1) (p ++ [x]))] =
            [some (D.tup [.str ("dir" : Str), .tup ((kids (srt T) p).map fun x => .tup [.str x, nodeD T (srt T) (j + 1) (p ++ [x])])]), some (pD rest), some (.tup o), some (.lst (((kids (srt T) p).take (ii + 1)).map fun x => .tup [.str x, nodeD T' (srt T) (j + 1) (p ++ [x])])), y4, y5] := fun z hz => by
          subst hz
          exact ⟨some (.str x), some (nodeD T (srt T) (j + 1) (p ++ [x])), by rw [htk, List.map_append]; rfl⟩
        conv => whnf
        rw [show Rf.cutD (rest.map D.str) none (some 1) = (rest.take 1).map D.str by rw [show (1 : Int) = ((1 : Nat) : Int) from rfl, cutD_to, List.map_take]]
        refine eqP_ok (p := rest.take 1) (q := [x]) ?_
        conv => whnf
        refine wD_by (fun h1 => ?_) fun h1 => ?_
        · have hr : rest = x :: rest.drop 1 := by
            cases rest with
            | nil => simp at h1
            | cons y r => simp at h1; simp [h1]
          conv => whnf
          rw [show Rf.cutD (rest.map D.str) (some 1) none = (rest.drop 1).map D.str by rw [show (1 : Int) = ((1 : Nat) : Int) from rfl, cutD_from, List.map_drop]]
          have hmem : x ∈ kids (srt T) p := List.mem_of_getElem? hx1
          obtain ⟨d2, hd2⟩ := kids_look.mp hmem
          refine ih n (p ++ [x]) (rest.drop 1) d2 _ (by rw [List.append_assoc]; show p ++ (x :: rest.drop 1) = P; rw [← hr]; exact hP) hd2 (by simp; omega) (by omega) ?_
          conv => whnf
          refine addL_ok (by rw [List.length_map, List.length_take]; show _ + 1 ≤ _; omega) ?_
          conv => whnf
          exact ⟨rfl, fin _ rfl⟩
        · conv => whnf
          refine addL_ok (by rw [List.length_map, List.length_take]; show _ + 1 ≤ _; omega) ?_
          conv => whnf
          refine ⟨rfl, fin _ (node_same h _ _ fun z => h1 ?_)⟩
          obtain ⟨r, hr⟩ := z
          rw [← hP, List.append_assoc] at hr
          have := List.append_cancel_left hr
          rw [← this]
          rfl
      · rintro ρ s' ⟨rfl, x4, x5, rfl⟩
        rw [List.length_map, List.take_length]
        conv => whnf
        exact hq
    · have en : nodeD T (srt T) (j + 2) p = .tup [.str ("file" : Str), .tup l'] := by
        rw [nodeD, hp]
      rw [en]
      refine call_wp (n := n + j + 2) t_node_with rfl rfl ?_
      conv => whnf
      refine eqP_ok (p := rest) (q := []) ?_
      conv => whnf
      refine wD_by (fun h1 => ?_) fun h1 => ?_
      · subst h1
        have hPp : p = P := by rw [List.append_nil] at hP; exact hP
        subst hPp
        have e1 : l' = l := by
          have := hp.symm.trans h.at_
          cases this
          rfl
        subst e1
        conv => whnf
        refine addT_ok (by omega) ?_
        conv => whnf
        rw [nodeD, h.now] at hq
        exact hq
      · have hne : p ≠ P := fun z => h1 (by rw [← z] at hP; exact List.append_right_eq_self.mp hP)
        conv => whnf
        rw [nodeD, h.oth p hne, hp] at hq
        exact hq
theorem inside_wp {n F : Nat} {s : Store} {P p : Path} {Q : D → Store → Prop} (hq : Q (.bl (decide (P.take p.length = p))) s) : Wp (mcall Lk55.T G F (n + 1) ("is_inside" : Str) [pD P, pD p] s) Q := by
  refine call_wp t_is_inside rfl rfl ?_
  conv => whnf
  rw [cutD_to, List.length_map, ← List.map_take]
  refine eqP_ok (p := P.take p.length) (q := p) ?_
  conv => whnf
  exact hq
def cov (k : Str) (p P : Path) : Bool := decide (p = P) || (eqF DEEP (.str k) (.str ("folder" : Str)) && decide (P.take p.length = p))
theorem covers_wp {n F : Nat} {s : Store} {P p : Path} {k : Str} {c nd : D} {Q : D → Store → Prop} (hq : Q (.bl (cov k p P)) s) : Wp (mcall Lk55.T G F (n + 2) ("covers" : Str) [.tup [pD p, .str k, c, nd], pD P] s) Q := by
  refine call_wp t_covers rfl rfl ?_
  conv => whnf
  refine eqP_ok (p := p) (q := P) ?_
  conv => whnf
  unfold cov at hq
  refine wD_by (fun h1 => ?_) fun h1 => ?_
  · conv => whnf
    rw [decide_eq_true h1] at hq ⊢
    exact hq
  · rw [decide_eq_false h1] at hq
    conv => whnf
    refine wB_by (fun h2 => ?_) fun h2 => ?_
    · have h2 : eqF DEEP (.str k) (.str ("folder" : Str)) = true := h2
      rw [h2] at hq
      conv => whnf
      refine inside_wp ?_
      conv => whnf
      exact hq
    · have h2' : eqF DEEP (.str k) (.str ("folder" : Str)) = false := h2
      rw [h2'] at hq
      conv => whnf
      rw [h2]
      exact hq
theorem longer_wp {n F i : Nat} {s : Store} {T T' : Tab} {P p : Path} {l o : List D} {k : Str} {c : Int} {d' : D} {Q : D → Store → Prop} (hT : Tr i T) (hi : i ≤ 1000) (h : Longer T T' P l o) (ho : l.length + o.length ≤ 1000) (hl : look T p = some d')
    (hk : k = ("folder" : Str) ∧ d' = .non ∨ k = ("write" : Str) ∧ d' ≠ .non) (hq : Q (.tup [pD p, .str k, .int c, nodeD T' (srt T) 7 p]) s) :
    Wp (mcall Lk55.T G F (n + 9) ("longer" : Str) [.tup [pD p, .str k, .int c, nodeD T (srt T) 7 p], pD P, .tup o] s) Q := by
  refine call_wp (n := n + 8) t_longer rfl rfl ?_
  conv => whnf
  refine covers_wp ?_
  conv => whnf
  refine wN_or (k := cov k p P) (fun hc => ?_) fun hc => ?_
  · conv => whnf
    have hns : nodeD T (srt T) 7 p = nodeD T' (srt T) 7 p := by
      unfold cov at hc
      simp only [Bool.or_eq_false_iff, decide_eq_false_iff_not, Bool.and_eq_false_iff] at hc
      rcases hk with ⟨rfl, _⟩ | ⟨_, hd⟩
      · refine node_same h _ _ fun z => ?_
        rcases hc.2 with q | q
        · have : eqF DEEP (.str ("folder" : Str)) (.str ("folder" : Str)) = true := by decide +kernel
          rw [this] at q
          cases q
        · exact q (List.prefix_iff_eq_take.mp z).symm
      · rcases hT.vals p d' hl with rfl | ⟨l2, rfl, _⟩
        · exact absurd rfl hd
        · unfold nodeD
          rw [h.oth p hc.1, hl]
    rw [hns]
    exact hq
  · conv => whnf
    rw [List.length_map, cutD_from, ← List.map_drop]
    have hP : p ++ P.drop p.length = P := by
      unfold cov at hc
      simp only [Bool.or_eq_true, decide_eq_true_eq, Bool.and_eq_true] at hc
      rcases hc with rfl | ⟨_, q⟩
      · simp
      · have e : P.take p.length ++ P.drop p.length = P := List.take_append_drop _ _
        rw [q] at e
        exact e
    refine with_wp hT hi h ho 6 n p (P.drop p.length) d' _ hP hl (by omega) (by omega) ?_
    conv => whnf
    exact hq
/-- may be appended to -/
def wr (k : Str) : Bool := eqF DEEP (.str k) (.str ("write" : Str))
def fileOf (T Cv : Tab) (P p : Path) : Option D := match look Cv p with
  | some (.tup [.str k, _]) => if p = P ∧ wr k = true then some (nodeD T (srt T) 7 p) else none
  | _ => none
/-- the files of the copies -/
theorem files_wp {n F : Nat} {s : Store} {T Cv : Tab} {P : Path} {o : List D} {x4 : Option D} {Q : D → Store → Prop} (hC : COk T Cv) (hq : Q (.lst ((srt Cv).filterMap (fileOf T Cv P))) s) (e : ME) (he : b_own_done = .cons (.asg (.tp [2, 3]) (.tup (.cons (.ix (.slot 1) (.cst (.int 1))) (.cons (.ix (.slot 1) (.cst (.int 2))) .nil)))) (.cons (.asg (.nm 4) e) (match b_own_done with | .cons _ (.cons _ r) => r | _ => .nil))) (y : Option D) :
    Wp (ev (mcall Lk55.T G F n) G F e [some (.tup ((srt Cv).map (copyD T Cv))), y, some (pD P), some (.tup o), x4, none, none, none, none, none, none] s) Q := by
  injection he with _ he
  injection he with he _
  injection he with _ he
  subst he
  refine lcP_wp (fun d => match d with | .tup [pl, _, _, _] => fileOf T Cv P (backP pl) | _ => none) ?_
  conv => whnf
  refine ⟨_, rfl, by rw [List.length_map, srt_len]; have := hC.len; omega, fun d hd => ?_, ?_⟩
  · obtain ⟨p, hp, rfl⟩ := List.mem_map.mp hd
    obtain ⟨e, he⟩ := look_mem (srt_mem.mp hp)
    obtain ⟨k, c, d', rfl, hl, _⟩ := hC.vals p e he
    have ec : copyD T Cv p = .tup [pD p, .str k, .int c, nodeD T (srt T) 7 p] := by
      unfold copyD
      rw [he]
    have ef : fileOf T Cv P p = if p = P ∧ wr k = true then some (nodeD T (srt T) 7 p) else none := by
      unfold fileOf
      rw [he]
    rw [ec]
    have eg : (match D.tup [pD p, .str k, .int c, nodeD T (srt T) 7 p] with | .tup [pl, _, _, _] => fileOf T Cv P (backP pl) | _ => none) = if p = P ∧ wr k = true then some (nodeD T (srt T) 7 p) else none := by
      show fileOf T Cv P (backP (pD p)) = _
      rw [backP_pD, ef]
    rw [eg]
    conv => whnf
    refine eqP_ok (p := p) (q := P) ?_
    conv => whnf
    refine wD_by (fun h1 => ?_) fun h1 => ?_
    · conv => whnf
      refine wB_by (fun h2 => ?_) fun h2 => ?_
      · have h2 : wr k = true := h2
        conv => whnf
        refine ⟨rfl, ?_⟩
        rw [if_pos ⟨h1, h2⟩]
      · have h2 : wr k = false := h2
        conv => whnf
        refine ⟨rfl, ?_⟩
        rw [if_neg fun z => by rw [h2] at z; cases z.2]
    · conv => whnf
      refine wF_of (decide_eq_false h1) ?_
      conv => whnf
      refine ⟨rfl, ?_⟩
      rw [if_neg fun z => h1 z.1]
  · have e : ((srt Cv).map (copyD T Cv)).filterMap (fun d => match d with | .tup [pl, _, _, _] => fileOf T Cv P (backP pl) | _ => none) = (srt Cv).filterMap (fileOf T Cv P) := by
      rw [List.filterMap_map]
      refine fm_congr _ fun p hp => ?_
      obtain ⟨e, he⟩ := look_mem (srt_mem.mp hp)
      obtain ⟨k, c, d', rfl, hl, _⟩ := hC.vals p e he
      have ec : copyD T Cv p = .tup [pD p, .str k, .int c, nodeD T (srt T) 7 p] := by
        unfold copyD
        rw [he]
      show (match copyD T Cv p with | .tup [pl, _, _, _] => fileOf T Cv P (backP pl) | _ => none) = _
      rw [ec]
      show fileOf T Cv P (backP (pD p)) = _
      rw [backP_pD]
    rw [e]
    exact hq
theorem own_some {n F i : Nat} {s : Store} {T T' Cv : Tab} {P : Path} {l o : List D} {k : Str} {c : D} {Q : D → Store → Prop} (hT : Tr i T) (hi : i ≤ 1000) (hC : COk T Cv) (hk : look Cv P = some (.tup [.str k, c])) (hw : wr k = true) (hl : look T P = some (.tup l)) (h : Longer T T' P l o) (ho : l.length + o.length ≤ 1000)
    (h1 : 256 < l.length + o.length → Q (.tup [.tup ((srt Cv).map (copyD T Cv)), .tup [.str ("no" : Str), .str ("full" : Str)]]) s)
    (h2 : l.length + o.length ≤ 256 → Q (.tup [.tup ((srt Cv).map (copyD T' Cv)), .tup [.str ("appended" : Str), .int ((l.length : Int) + o.length)]]) s) :
    Wp (mcall Lk55.T G F (n + 10) ("own_done" : Str) [.tup ((srt Cv).map (copyD T Cv)), .tup [.str ("append" : Str), pD P, .tup o]] s) Q := by
  refine call_wp (n := n + 9) t_own_done rfl rfl ?_
  conv => whnf
  refine files_wp hC ?_ _ rfl _
  have en : nodeD T (srt T) 7 P = .tup [.str ("file" : Str), .tup l] := by
    unfold nodeD
    rw [hl]
  have hall : ∀ x ∈ (srt Cv).filterMap (fileOf T Cv P), x = .tup [.str ("file" : Str), .tup l] := by
    intro x hx
    obtain ⟨p, _, e⟩ := List.mem_filterMap.mp hx
    unfold fileOf at e
    split at e
    · split at e
      · rename_i hh
        cases e
        rw [hh.1, en]
      · cases e
    · cases e
  have hne : .tup [.str ("file" : Str), .tup l] ∈ (srt Cv).filterMap (fileOf T Cv P) := by
    refine List.mem_filterMap.mpr ⟨P, srt_mem.mpr (look_in hk), ?_⟩
    unfold fileOf
    rw [hk]
    show (if P = P ∧ wr k = true then some (nodeD T (srt T) 7 P) else none) = _
    rw [if_pos ⟨rfl, hw⟩, en]
  revert hall hne
  generalize (srt Cv).filterMap (fileOf T Cv P) = L
  intro hall hne
  cases L with
  | nil => simp at hne
  | cons x L =>
    obtain rfl := hall x List.mem_cons_self
    conv => whnf
    refine ixL_ok (atI_nat (i := 0) rfl) ?_
    conv => whnf
    refine wD_by (fun hs => ?_) fun hs => ?_
    · conv => whnf
      exact h1 (by omega)
    · conv => whnf
      refine lcP_wp (fun d => some (copyD T' Cv (backP (match d with | .tup (q :: _) => q | _ => .non)))) ?_
      conv => whnf
      have ec : ∀ p ∈ srt Cv, ∃ (k : Str) (c : Int) (d' : D), copyD T Cv p = .tup [pD p, .str k, .int c, nodeD T (srt T) 7 p] ∧ copyD T' Cv p = .tup [pD p, .str k, .int c, nodeD T' (srt T) 7 p] ∧ look T p = some d' ∧
          (k = ("folder" : Str) ∧ d' = .non ∨ k = ("write" : Str) ∧ d' ≠ .non) := fun p hp => by
        obtain ⟨e, he⟩ := look_mem (srt_mem.mp hp)
        obtain ⟨k, c, d', rfl, hl, hkd⟩ := hC.vals p e he
        refine ⟨k, c, d', ?_, ?_, hl, hkd⟩
        · unfold copyD
          rw [he]
        · unfold copyD
          rw [he, h.srt_]
      refine ⟨_, rfl, by rw [List.length_map, srt_len]; have := hC.len; omega, fun d hd => ?_, ?_⟩
      · obtain ⟨p, hp, rfl⟩ := List.mem_map.mp hd
        obtain ⟨k2, c2, d', e1, e2, hl2, hkd⟩ := ec p hp
        have eg : copyD T' Cv (backP (match copyD T Cv p with | .tup (q :: _) => q | _ => .non)) = .tup [pD p, .str k2, .int c2, nodeD T' (srt T) 7 p] := by
          rw [e1]
          show copyD T' Cv (backP (pD p)) = _
          rw [backP_pD, e2]
        rw [eg, e1]
        conv => whnf
        refine longer_wp hT hi h ho hl2 hkd ?_
        conv => whnf
        exact ⟨rfl, rfl⟩
      · have e : ((srt Cv).map (copyD T Cv)).filterMap (fun d => some (copyD T' Cv (backP (match d with | .tup (q :: _) => q | _ => .non)))) = (srt Cv).map (copyD T' Cv) := by
          rw [List.filterMap_map, ← List.filterMap_eq_map]
          refine fm_congr _ fun p hp => ?_
          obtain ⟨k2, c2, d', e1, e2, _⟩ := ec p hp
          show some (copyD T' Cv (backP (match copyD T Cv p with | .tup (q :: _) => q | _ => .non))) = some (copyD T' Cv p)
          rw [e1]
          show some (copyD T' Cv (backP (pD p))) = _
          rw [backP_pD]
        rw [e]
        conv => whnf
        exact h2 (by omega)
/-! ### readings -/
def isL (k : Str) : Bool := eqF DEEP (.str k) (.str ("list" : Str))
def isZ (k : Str) : Bool := eqF DEEP (.str k) (.str ("size" : Str))
def lenD : D → Int
  | .tup l => l.length
  | _ => 0
def ansT (T : Tab) (k : Str) (P : Path) : D :=
  if (!P.isEmpty && !isDir (look T P.dropLast)) = true then noD ("path" : Str)
  else match look T P with
    | none => noD ("missing" : Str)
    | some .non => if isL k = true then .tup [.str ("names" : Str), .tup ((kids (srt T) P).map .str)] else noD ("kind" : Str)
    | some d => if isL k = true then noD ("kind" : Str) else if isZ k = true then .tup [.str ("size" : Str), .int (lenD d)] else .tup [.str ("octets" : Str), d]
def rdK (k : Str) : Prop := k = ("read" : Str) ∨ k = ("size" : Str) ∨ k = ("list" : Str)
section
variable {n F i : Nat} {s : Store} {T : Tab}
theorem why_ans (hT : Tr i T) {p P : Path} {d0 : D} (hp : look T p = some d0) : whyT T p P = if (!(p ++ P).isEmpty && !isDir (look T (p ++ P).dropLast)) = true then ("path" : Str) else match look T (p ++ P) with | none => ("missing" : Str) | some _ => ("" : Str) := by
  unfold whyT
  cases hP : P.isEmpty with
  | true =>
    rw [List.isEmpty_iff] at hP
    subst hP
    rw [List.append_nil, if_pos rfl, hp, if_neg]
    rw [Bool.and_eq_true, Bool.not_eq_true', Bool.not_eq_true']
    rintro ⟨h1, h2⟩
    have hne : p ≠ [] := fun z => by rw [z] at h1; cases h1
    have hl := List.length_pos_iff.mpr hne
    have := hT.take hp (k := p.length - 1) (by omega)
    rw [← List.dropLast_eq_take] at this
    rw [this] at h2
    cases h2
  | false =>
    have hne : P ≠ [] := fun z => by rw [z] at hP; cases hP
    have e1 : (p ++ P).isEmpty = false := by
      cases p with
      | nil => exact hP
      | cons => rfl
    rw [e1, List.dropLast_append_of_ne_nil hne]
    cases isDir (look T (p ++ P.dropLast)) <;> rfl
theorem reading_wp (hT : Tr i T) (hi : i ≤ 1000) {p P : Path} {d0 : D} {k : Str} {Q : D → Store → Prop} (hk : rdK k) (hp : look T p = some d0) (h : ∀ x ∈ P, x ∈ okNms) (hl : P.length ≤ 6) (hq : Q (.tup [nodeD T (srt T) 7 p, ansT T k (p ++ P)]) s) :
    Wp (mcall Lk55.T G F (n + 8) ("_reading" : Str) [nodeD T (srt T) 7 p, .tup [.str k, pD P]] s) Q := by
  refine call_wp (n := n + 7) t__reading rfl rfl ?_
  conv => whnf
  refine why_wp hT hp h hl ?_
  rw [why_ans hT hp]
  unfold ansT at hq
  cases hd : (!(p ++ P).isEmpty && !isDir (look T (p ++ P).dropLast)) with
  | true =>
    rw [hd, if_pos rfl] at hq
    rw [if_pos rfl]
    conv => whnf
    exact hq
  | false =>
    rw [hd, if_neg Bool.false_ne_true] at hq
    rw [if_neg Bool.false_ne_true]
    cases hlk : look T (p ++ P) with
    | none =>
      rw [hlk] at hq
      conv => whnf
      exact hq
    | some d =>
      rw [hlk] at hq
      conv => whnf
      refine tree_at_wp (n := n + 5) hT hp hl ?_
      unfold chD
      rw [hlk]
      have e7 : 7 - P.length = (6 - P.length) + 1 := by omega
      rcases hT.vals (p ++ P) d hlk with rfl | ⟨l, rfl, hf, hll⟩
      · rw [e7, node_dir hlk]
        rcases hk with rfl | rfl | rfl
        · conv => whnf
          exact hq
        · conv => whnf
          exact hq
        · conv => whnf
          refine lcP_wp (fun d => match d with | .tup [x, _] => some x | _ => none) ?_
          conv => whnf
          refine ⟨_, rfl, by rw [List.length_map]; have := kids_len hT (p ++ P); omega, fun d hd => ?_, ?_⟩
          · obtain ⟨x, _, rfl⟩ := List.mem_map.mp hd
            conv => whnf
            exact ⟨rfl, rfl⟩
          · have e : ((kids (srt T) (p ++ P)).map fun x => D.tup [.str x, nodeD T (srt T) (6 - P.length) (p ++ P ++ [x])]).filterMap (fun d => match d with | .tup [x, _] => some x | _ => none) = (kids (srt T) (p ++ P)).map .str := by
              generalize kids (srt T) (p ++ P) = l
              induction l with
              | nil => rfl
              | cons x l ih =>
                rw [List.map_cons, List.filterMap_cons, List.map_cons]
                simp only
                rw [ih]
            rw [e]
            conv => whnf
            exact hq
      · rw [e7, node_file hlk]
        rcases hk with rfl | rfl | rfl
        · conv => whnf
          exact hq
        · conv => whnf
          exact hq
        · conv => whnf
          exact hq
theorem tree_deed2_wp {P : Path} {k : Str} {Q : D → Store → Prop} (hk : rdK k) (h : ∀ x ∈ P, x ∈ okNms) (hl : P.length ≤ 6) (hq : Q (.bl true) s) : Wp (mcall Lk55.T G F (n + 5) ("is_tree_deed" : Str) [.tup [.str k, pD P]] s) Q := by
  refine call_wp (n := n + 4) t_is_tree_deed rfl rfl ?_
  conv => whnf
  refine is_path_wp h hl ?_
  rcases hk with rfl | rfl | rfl
  · conv => whnf
    exact hq
  · conv => whnf
    exact hq
  · conv => whnf
    exact hq
theorem tree_done2_wp (hT : Tr i T) (hi : i ≤ 1000) {p P : Path} {d0 : D} {k : Str} {Q : D → Store → Prop} (hk : rdK k) (hp : look T p = some d0) (h : ∀ x ∈ P, x ∈ okNms) (hl : P.length ≤ 6) (hq : Q (.tup [nodeD T (srt T) 7 p, ansT T k (p ++ P)]) s) :
    Wp (mcall Lk55.T G F (n + 9) ("tree_done" : Str) [nodeD T (srt T) 7 p, .tup [.str k, pD P]] s) Q := by
  refine call_wp (n := n + 8) t_tree_done rfl rfl ?_
  conv => whnf
  refine tree_deed2_wp (n := n + 3) hk h hl ?_
  have hr := reading_wp (n := n) (F := F) (s := s) (Q := Q) hT hi hk hp h hl hq
  rcases hk with rfl | rfl | rfl
  · conv => whnf
    exact hr
  · conv => whnf
    exact hr
  · conv => whnf
    exact hr
def covT (T : Tab) (p P : Path) : Bool := decide (p = P) || (isDir (look T p) && decide (P.take p.length = p))
theorem cov_covT {k : Str} {p P : Path} {d' : D} (hl : look T p = some d') (hk : k = ("folder" : Str) ∧ d' = .non ∨ k = ("write" : Str) ∧ d' ≠ .non) : cov k p P = covT T p P := by
  unfold cov covT
  rw [hl]
  rcases hk with ⟨rfl, rfl⟩ | ⟨rfl, hd⟩
  · rfl
  · have e1 : isDir (some d') = false := by
      cases e : isDir (some d') with
      | false => rfl
      | true => rw [isDir_eq] at e; cases e; exact absurd rfl hd
    have e2 : eqF DEEP (.str ("write" : Str)) (.str ("folder" : Str)) = false := by kernel_rfl
    rw [e1, e2]
theorem covT_app {p P : Path} (h : covT T p P = true) : p ++ P.drop p.length = P := by
  unfold covT at h
  simp only [Bool.or_eq_true, decide_eq_true_eq, Bool.and_eq_true] at h
  rcases h with rfl | ⟨_, q⟩
  · simp
  · have e : P.take p.length ++ P.drop p.length = P := List.take_append_drop _ _
    rw [q] at e
    exact e
def ansC (T Cv : Tab) (k : Str) (P : Path) : D := if ((Cv.map (·.1)).any fun p => covT T p P) = true then ansT T k P else .non
theorem answered_wp {Cv : Tab} (hT : Tr i T) (hi : i ≤ 1000) (hC : COk T Cv) {P : Path} {k : Str} {Q : D → Store → Prop} (hk : rdK k) (h : ∀ x ∈ P, x ∈ okNms) (hl : P.length ≤ 6) (hq : Q (ansC T Cv k P) s) :
    Wp (mcall Lk55.T G F (n + 10) ("answered_by" : Str) [.tup ((srt Cv).map (copyD T Cv)), .tup [.str k, pD P]] s) Q := by
  refine call_wp (n := n + 9) t_answered_by rfl rfl ?_
  have main : Wp (forSnap (fun ρ s => exs (mcall Lk55.T G F (n + 9)) G F (match b_answered_by with | .cons _ (.cons (.fr _ _ b) _) => b | _ => .nil) ρ s) (.nm 2) ((srt Cv).map (copyD T Cv)) [some (.tup ((srt Cv).map (copyD T Cv))), some (.tup [.str k, pD P]), none] s) fun o s1 => match o with
      | .nx ρ => Q .non s1
      | .rt d => Q d s1
      | _ => False := by
    refine for_inv (fun j ρ s' => s' = s ∧ (∀ q ∈ (srt Cv).take j, covT T q P = false) ∧ ∃ x, ρ = [some (.tup ((srt Cv).map (copyD T Cv))), some (.tup [.str k, pD P]), x]) ⟨rfl, fun q hq => by simp at hq, _, rfl⟩ ?_ ?_
    · rintro j d ρ s' hx ⟨rfl, hj, x, rfl⟩
      rw [List.getElem?_map] at hx
      obtain ⟨p, hp, rfl⟩ := Option.map_eq_some_iff.mp hx
      have hmem := srt_mem.mp (List.mem_of_getElem? hp)
      obtain ⟨e, he⟩ := look_mem hmem
      obtain ⟨kk, c, d', rfl, hlk, hkd⟩ := hC.vals p e he
      have ec : copyD T Cv p = .tup [pD p, .str kk, .int c, nodeD T (srt T) 7 p] := by
        unfold copyD
        rw [he]
      rw [ec]
      conv => whnf
      refine covers_wp (n := n + 7) ?_
      rw [cov_covT hlk hkd]
      conv => whnf
      refine wB_by (fun hc => ?_) fun hc => ?_
      · have hc : covT T p P = true := hc
        conv => whnf
        rw [List.length_map, cutD_from, ← List.map_drop]
        have hP := covT_app hc
        refine tree_done2_wp (n := n) hT hi hk hlk (fun y hy => h y (List.mem_of_mem_drop hy)) (by rw [List.length_drop]; omega) ?_
        rw [hP]
        conv => whnf
        unfold ansC at hq
        rw [if_pos (List.any_eq_true.mpr ⟨p, hmem, hc⟩)] at hq
        exact hq
      · have hc : covT T p P = false := hc
        conv => whnf
        refine ⟨rfl, fun q hq => ?_, _, rfl⟩
        rw [List.take_add_one, hp] at hq
        rcases List.mem_append.mp hq with w | w
        · exact hj q w
        · rw [show q = p by simpa using w]; exact hc
    · rintro ρ s' ⟨rfl, hj, x, rfl⟩
      rw [List.length_map, List.take_length] at hj
      unfold ansC at hq
      rw [if_neg] at hq
      · exact hq
      · intro z
        obtain ⟨p, hp, hc⟩ := List.any_eq_true.mp z
        rw [hj p (srt_mem.mpr hp)] at hc
        cases hc
  rcases hk with rfl | rfl | rfl
  · conv => whnf
    exact main.imp fun o s1 z => by cases o <;> first | exact z | cases z
  · conv => whnf
    exact main.imp fun o s1 z => by cases o <;> first | exact z | cases z
  · conv => whnf
    exact main.imp fun o s1 z => by cases o <;> first | exact z | cases z
end
/-! ### the client's own appends -/
def ownE (e : Int × (Path × List D)) : D := .tup [.int e.1, pD e.2.1, .tup e.2.2]
def ownD (kd : Int) (es : List (Int × (Path × List D))) : D := .tup [.int kd, .tup (es.map ownE)]
section
variable {n F : Nat} {s : Store} {kd : Int} {es : List (Int × (Path × List D))}
theorem with_own_wp {ser : Int} {P : Path} {o : List D} {Q : D → Store → Prop} (hl : es.length ≤ 1000) (hq : Q (ownD kd (es ++ [(ser, (P, o))])) s) : Wp (mcall Lk55.T G F (n + 1) ("with_own" : Str) [ownD kd es, .int ser, pD P, .tup o] s) Q := by
  refine call_wp t_with_own rfl rfl ?_
  conv => whnf
  refine addT_ok (by rw [List.length_map]; show _ + 1 ≤ _; omega) ?_
  conv => whnf
  unfold ownD at hq
  rw [List.map_append] at hq
  exact hq
theorem crowded_wp {Q : D → Store → Prop} (hq : Q (.bl (decide (8 ≤ (es.length : Int)))) s) : Wp (mcall Lk55.T G F (n + 1) ("is_crowded" : Str) [ownD kd es] s) Q := by
  refine call_wp t_is_crowded rfl rfl ?_
  conv => whnf
  rw [List.length_map]
  exact hq
theorem to_hand_wp {Q : D → Store → Prop} (hl : es.length ≤ 1000) (hq : Q (.tup [.int (kd + 1), .tup ((es.map (·.2)).map apD)]) s) : Wp (mcall Lk55.T G F (n + 1) ("to_hand" : Str) [ownD kd es] s) Q := by
  refine call_wp t_to_hand rfl rfl ?_
  conv => whnf
  refine lcP_wp (fun d => match d with | .tup [_, p, o] => some (.tup [p, o]) | _ => none) ?_
  conv => whnf
  refine ⟨_, rfl, by rw [List.length_map]; omega, fun d hd => ?_, ?_⟩
  · obtain ⟨x, _, rfl⟩ := List.mem_map.mp hd
    conv => whnf
    exact ⟨rfl, rfl⟩
  · have e : (es.map ownE).filterMap (fun d => match d with | .tup [_, p, o] => some (D.tup [p, o]) | _ => none) = (es.map (·.2)).map apD := by
      generalize es = l
      induction l with
      | nil => rfl
      | cons x l ih =>
        rw [List.map_cons, List.filterMap_cons, List.map_cons, List.map_cons]
        show D.tup [pD x.2.1, .tup x.2.2] :: _ = _
        rw [ih]
        rfl
    rw [e]
    conv => whnf
    exact hq
theorem handed_up_wp {j : Int} {Q : D → Store → Prop} (h1 : ¬ (kd ≤ j ∧ j ≤ kd + es.length) → Q (ownD kd es) s) (h2 : kd ≤ j → j ≤ kd + es.length → Q (ownD j (es.drop (j - kd).toNat)) s) :
    Wp (mcall Lk55.T G F (n + 1) ("handed_up" : Str) [ownD kd es, .int j] s) Q := by
  refine call_wp t_handed_up rfl rfl ?_
  conv => whnf
  refine wD_by (fun a => ?_) fun a => ?_
  · conv => whnf
    rw [List.length_map]
    refine wN_or (k := decide (j ≤ kd + (es.length : Int))) (fun b => ?_) fun b => ?_
    · conv => whnf
      exact h1 fun z => of_decide_eq_false b z.2
    · have b := of_decide_eq_true b
      conv => whnf
      obtain ⟨m, hm⟩ : ∃ m : Nat, j - kd = (m : Int) := ⟨(j - kd).toNat, by omega⟩
      rw [hm, cutD_from, ← List.map_drop]
      have := h2 a b
      rw [hm] at this
      exact this
  · conv => whnf
    exact h1 fun z => a z.1
theorem beyond_wp {dn k : Nat} {l : List D} {Q : D → Store → Prop} (hk : k ≤ dn) (hq : Q (.tup (l.drop (dn - k))) s) : Wp (mcall Lk55.T G F (n + 1) ("beyond" : Str) [.int (dn : Int), .int ((k : Int) + 1), .tup l] s) Q := by
  refine call_wp t_beyond rfl rfl ?_
  conv => whnf
  refine wD_by (p := (dn : Int) + 1 < (k : Int) + 1) (fun a => absurd a (by omega)) fun a => ?_
  conv => whnf
  rw [show (dn : Int) + 1 - ((k : Int) + 1) = ((dn - k : Nat) : Int) by omega, cutD_from]
  exact hq
end
end Lk55

set_option Elab.async false
set_option linter.all false
set_option maxRecDepth 100000
set_option pp.maxSteps 600
namespace Lk55
open PySem PySem.Spec PyProof.Rows L2 Rf
/-! ### the world -/
def pf : Path := [("f" : Str)]
def pg : Path := [("g" : Str)]
def wL (tree copies own : D) (dn : List D) : List (Key × D) :=
  [(.inr ("table" : Str), .ref 1), (.inr ("tree" : Str), tree), (.inr ("copies" : Str), copies), (.inr ("own" : Str), own), (.inr ("made" : Str), .ref 3), (.inr ("done" : Str), .lst dn), (.inr ("letters" : Str), .ref 4), (.inr ("answers" : Str), .ref 5),
   (.inr ("files" : Str), .lst [pD pf, pD pf, pD pg]), (.inr ("covered" : Str), .ref 2)]
@[irreducible] def wM (tree copies own : D) (dn : List D) : MO := .dk (wL tree copies own dn)
abbrev st (o : MO) (T Cv : Tab) (mk ls an : List D) (tree copies own : D) (dn : List D) : Store := [o, tO T, tO Cv, .lst mk, .lst ls, .lst an, wM tree copies own dn]
section
variable {tree copies own : D} {dn : List D} {s : Store}
theorem vTable : valD (wL tree copies own dn) (.inr ("table" : Str)) = some (.ref 1) := by kernel_rfl
theorem vTree : valD (wL tree copies own dn) (.inr ("tree" : Str)) = some tree := by kernel_rfl
theorem vCopies : valD (wL tree copies own dn) (.inr ("copies" : Str)) = some copies := by kernel_rfl
theorem vOwn : valD (wL tree copies own dn) (.inr ("own" : Str)) = some own := by kernel_rfl
theorem vMade : valD (wL tree copies own dn) (.inr ("made" : Str)) = some (.ref 3) := by kernel_rfl
theorem vDone : valD (wL tree copies own dn) (.inr ("done" : Str)) = some (.lst dn) := by kernel_rfl
theorem vLetters : valD (wL tree copies own dn) (.inr ("letters" : Str)) = some (.ref 4) := by kernel_rfl
theorem vAnswers : valD (wL tree copies own dn) (.inr ("answers" : Str)) = some (.ref 5) := by kernel_rfl
theorem vFiles : valD (wL tree copies own dn) (.inr ("files" : Str)) = some (.lst [pD pf, pD pf, pD pg]) := by kernel_rfl
theorem vCovered : valD (wL tree copies own dn) (.inr ("covered" : Str)) = some (.ref 2) := by kernel_rfl
theorem pTree {x : D} : putD (wL tree copies own dn) (.inr ("tree" : Str)) x = wL x copies own dn := by kernel_rfl
theorem pCopies {x : D} : putD (wL tree copies own dn) (.inr ("copies" : Str)) x = wL tree x own dn := by kernel_rfl
theorem pOwn {x : D} : putD (wL tree copies own dn) (.inr ("own" : Str)) x = wL tree copies x dn := by kernel_rfl
theorem pDone {x : List D} : putD (wL tree copies own dn) (.inr ("done" : Str)) (.lst x) = wL tree copies own x := by kernel_rfl
theorem ixW {d : D} {k : Str} {Q : D → Prop} (hm : s[6]? = some (wM tree copies own dn)) (hk : valD (wL tree copies own dn) (.inr k) = some d) (hq : Q d) : wO (ixV (deref s (.ref 6)) (.str k)) Q := by
  have e : deref s (.ref 6) = .dk (wL tree copies own dn) := by
    show (match s[6]? with | some (.lst l) => D.lst l | some (.dk l) => .dk l | some (.dt l) => .dt l | some .lkd => .ref 6 | none => .ref 6) = _
    rw [hm]
    unfold wM
    rfl
  rw [e]
  show wO (((some (Sum.inr k : Key)).map (valD (wL tree copies own dn))).bind id) Q
  rw [Option.map_some, hk]
  exact hq
theorem putW {v tree' copies' own' : D} {dn' : List D} {k : Str} {Q : MO → Prop} (hm : s[6]? = some (wM tree copies own dn)) (hk : putD (wL tree copies own dn) (.inr k) v = wL tree' copies' own' dn') (hq : Q (wM tree' copies' own' dn')) : wO ((s[6]?).bind fun ob => putO ob (.str k) v) Q := by
  rw [hm]
  show wO (putO (wM tree copies own dn) (.str k) v) Q
  unfold wM at hq ⊢
  show wO (if (wL tree copies own dn).length < LINE then some (MO.dk (putD (wL tree copies own dn) (.inr k) v)) else none) Q
  rw [if_pos (by show 10 < 16777216; decide), hk]
  exact hq
end
/-! ### the law's own answer -/
theorem law_answer_wp {n F i : Nat} {o : MO} {t : Store} {T : Tab} (hT : Tr i T) (hi : i ≤ 1000) {P : Path} {k : Str} {Q : D → Store → Prop} (hk : rdK k) (hl : P.length ≤ 6) (hq : Q (ansT T k P) (o :: tO T :: t)) :
    Wp (mcall Lk55.T G F (n + 2) ("_law_answer" : Str) [.ref 1, .tup [.str k, pD P]] (o :: tO T :: t)) Q := by
  have hm : (o :: tO T :: t)[1]? = some (tO T) := rfl
  refine call_wp (n := n + 1) t__law_answer rfl rfl ?_
  conv => whnf
  refine rng1_ok (by rw [List.length_map]; omega) (by rw [List.length_map]; omega) ?_
  conv => whnf
  refine for_rng (fun k' ρ s' => s' = o :: tO T :: t ∧ (∀ j, j < k' → look T (P.take j) = some .non) ∧ ∃ x, ρ = [some (.ref 1), some (.tup [.str k, pD P]), some (pD P), x]) ⟨rfl, fun j hj => by omega, _, rfl⟩ ?_ ?_
  · rintro k' ρ s' hk' ⟨rfl, hj, x, rfl⟩
    rw [List.length_map] at hk'
    have hk' : k' < P.length := by omega
    conv => whnf
    rw [Int.zero_add, cutD_to, ← List.map_take]
    refine atM_ok (p := P.take k') hm ?_
    have bad : look T (P.take k') ≠ some .non → ansT T k P = noD ("path" : Str) := fun h => by
      unfold ansT
      rw [noDir_of hT hk' h]
      rfl
    cases hlk : look T (P.take k') with
    | none =>
      conv => whnf
      rw [bad (by rw [hlk]; simp)] at hq
      exact hq
    | some d =>
      rcases hT.vals _ d hlk with rfl | ⟨l, rfl, _⟩
      · conv => whnf
        refine ⟨rfl, fun j h => ?_, _, rfl⟩
        by_cases z : j = k'
        · rw [z]; exact hlk
        · exact hj j (by omega)
      · conv => whnf
        rw [bad (by rw [hlk]; simp)] at hq
        exact hq
  · rintro ρ s' ⟨rfl, hj, x, rfl⟩
    rw [List.length_map] at hj
    have hd : (!P.isEmpty && !isDir (look T P.dropLast)) = false := by
      cases P with
      | nil => rfl
      | cons y P =>
        have := hj ((y :: P).length - 1) (by simp)
        rw [← List.dropLast_eq_take] at this
        rw [this]
        rfl
    conv => whnf
    refine hasM_ok (T := T) (p := P) hm ?_
    unfold ansT at hq
    rw [hd, if_neg Bool.false_ne_true] at hq
    cases hlk : look T P with
    | none =>
      rw [hlk] at hq
      conv => whnf
      exact hq
    | some d =>
      rw [hlk] at hq
      conv => whnf
      refine ixM_ok (T := T) (p := P) hm hlk ?_
      rcases hT.vals P d hlk with rfl | ⟨l, rfl, hf, hll⟩
      · rcases hk with rfl | rfl | rfl
        · conv => whnf
          exact hq
        · conv => whnf
          exact hq
        · conv => whnf
          refine names_wp (n := n) hm hT hi ?_
          conv => whnf
          exact hq
      · rcases hk with rfl | rfl | rfl
        · conv => whnf
          refine ixM_ok (T := T) (p := P) hm hlk ?_
          conv => whnf
          exact hq
        · conv => whnf
          refine ixM_ok (T := T) (p := P) hm hlk ?_
          conv => whnf
          exact hq
        · conv => whnf
          exact hq
theorem ansT_shp {i : Nat} {T : Tab} (hT : Tr i T) {k : Str} {P : Path} : shp 5 (ansT T k P) = true := by
  unfold ansT
  split
  · rfl
  · split
    · rfl
    · split
      · show ([D.str ("names" : Str), .tup ((kids (srt T) P).map .str)] : List D).all (shp 4) = true
        simp only [List.all_cons, List.all_nil, Bool.and_true, Bool.and_eq_true]
        refine ⟨rfl, ?_⟩
        show ((kids (srt T) P).map D.str).all (shp 3) = true
        simp [shp]
      · rfl
    · rename_i d hd hlk
      split
      · rfl
      · split
        · rfl
        · rcases hT.vals P d hlk with rfl | ⟨l, rfl, hf, _⟩
          · rfl
          · show ([D.str ("octets" : Str), .tup l] : List D).all (shp 4) = true
            simp only [List.all_cons, List.all_nil, Bool.and_true, Bool.and_eq_true]
            refine ⟨rfl, ?_⟩
            show l.all (shp 3) = true
            exact List.all_eq_true.mpr fun d hd => shp_le (by decide) (hf.fl d hd)
theorem ansT_tup {i : Nat} {T : Tab} (hT : Tr i T) {k : Str} {P : Path} : ∃ l, ansT T k P = .tup l ∧ ShL l := by
  have h : ∃ l, ansT T k P = .tup l := by
    unfold ansT noD
    split
    · exact ⟨_, rfl⟩
    · split
      · exact ⟨_, rfl⟩
      · split <;> exact ⟨_, rfl⟩
      · split
        · exact ⟨_, rfl⟩
        · split <;> exact ⟨_, rfl⟩
  obtain ⟨l, e⟩ := h
  have hs := ansT_shp hT (k := k) (P := P)
  rw [e] at hs
  exact ⟨l, e, fun d hd => shp_le (n := 4) (by decide) (List.all_eq_true.mp hs d hd)⟩
theorem ansC_shp {i : Nat} {T Cv : Tab} (hT : Tr i T) {k : Str} {P : Path} : shp DEEP (ansC T Cv k P) = true := by
  unfold ansC
  split
  · exact shp_le (n := 5) (by decide) (ansT_shp hT)
  · rfl
theorem keysM {s : Store} {m : Nat} {T : Tab} (hm : s[m]? = some (tO T)) (h : NamesOk T) : keysOf s m = some (tO T, (T.map (·.1)).map pD) := by
  have h1 : ((T.map fun e => (kP e.1, e.2)).all fun kv => kv.1.all kOk) = true := by
    simp only [List.all_eq_true, List.mem_map, forall_exists_index, and_imp, forall_apply_eq_imp_iff₂]
    intro e he k hk
    obtain ⟨x, hx, rfl⟩ := List.mem_map.mp hk
    exact h e he x hx
  have h2 : ((T.map fun e => (kP e.1, e.2)).map fun kv => keyDT kv.1) = (T.map (·.1)).map pD := by
    rw [List.map_map, List.map_map]
    congr 1
    funext e
    exact keyDT_kP e.1
  unfold keysOf
  rw [hm]
  show (if _ then _ else _) = _
  rw [if_pos h1, h2]
  rfl
theorem around_any {T Cv : Tab} {P : Path} : eqF DEEP (.lst (((Cv.map (·.1)).map pD).filterMap fun d => if covT T (backP d) P = true then some d else none)) (.lst []) = !((Cv.map (·.1)).any fun p => covT T p P) := by
  generalize Cv.map (·.1) = l
  induction l with
  | nil => rfl
  | cons p l ih =>
    rw [List.map_cons, List.filterMap_cons, List.any_cons, backP_pD]
    cases covT T p P
    · exact ih
    · rfl
theorem around_shp {T Cv : Tab} {P : Path} : shp DEEP (.lst (((Cv.map (·.1)).map pD).filterMap fun d => if covT T (backP d) P = true then some d else none)) = true := by
  show (List.filterMap _ _).all (shp 59) = true
  refine List.all_eq_true.mpr fun d hd => ?_
  obtain ⟨e, he, h⟩ := List.mem_filterMap.mp hd
  obtain ⟨p, _, rfl⟩ := List.mem_map.mp he
  split at h
  · cases h; exact shp_path (n := 57) p
  · cases h
theorem around_ne {T Cv : Tab} {P : Path} {Q : Bool → Prop} (hq : Q ((Cv.map (·.1)).any fun p => covT T p P)) : wO (cmpD .NotEq (.lst (((Cv.map (·.1)).map pD).filterMap fun d => if covT T (backP d) P = true then some d else none)) (.lst [])) Q :=
  neE_ok around_shp rfl (by rw [around_any, Bool.not_not]; exact hq)
theorem law_read_wp {n F i : Nat} {o : MO} {T Cv : Tab} {mk ls an : List D} {tree own : D} {dn : List D} (hc : Cup o) (hT : Tr i T) (hi : i ≤ 1000) (hC : COk T Cv) {Q : D → Store → Prop} (hq : ∀ o', Cup o' → Q (.bl true) (st o' T Cv mk ls an tree (.tup ((srt Cv).map (copyD T Cv))) own dn)) :
    Wp (mcall Lk55.T G F (n + 11) ("_law_read" : Str) [.ref 0, .ref 6] (st o T Cv mk ls an tree (.tup ((srt Cv).map (copyD T Cv))) own dn)) Q := by
  refine call_wp (n := n + 10) t__law_read rfl rfl ?_
  conv => whnf
  refine ixW rfl vTable ?_
  conv => whnf
  refine sortedM_ok (m := 1) (T := T) rfl hT.nok ?_
  conv => whnf
  have hne : [] ∈ srt T := srt_mem.mpr (look_in hT.root)
  refine some_wp hc (by rw [List.length_map]; exact List.length_pos_of_mem hne) (by rw [List.length_map, srt_len]; have := hT.len; omega) fun o2 d hc hd => ?_
  obtain ⟨p, hp, rfl⟩ := List.mem_map.mp hd
  obtain ⟨e, he⟩ := look_mem (srt_mem.mp hp)
  have hn1 := hT.names p e he
  have hd1 := hT.deep p e he
  conv => whnf
  refine roll_wp hc (by decide) (by decide) fun o3 r hc h0 h1 => ?_
  have rest : ∀ (P : Path) (o3 : MO), Cup o3 → (∀ x ∈ P, x ∈ okNms) → P.length ≤ 6 → wSs (mcall Lk55.T G F (n + 10)) G F (match b__law_read with | .cons _ (.cons _ r) => r | _ => .nil) [some (.ref 0), some (.ref 6), some (pD P), none, none, none] (st o3 T Cv mk ls an tree (.tup ((srt Cv).map (copyD T Cv))) own dn) (fun o s1 => match o with
      | .rt d => Q d s1
      | .nx _ => Q .non s1
      | _ => False) := by
    intro P o3 hc hn hl
    conv => whnf
    refine some_wp hc (by decide) (by decide) fun o4 d2 hc hd2 => ?_
    have : ∃ k : Str, d2 = .str k ∧ rdK k := by
      simp only [List.mem_cons, List.not_mem_nil, or_false] at hd2
      rcases hd2 with rfl | rfl | rfl
      · exact ⟨_, rfl, .inl rfl⟩
      · exact ⟨_, rfl, .inr (.inl rfl)⟩
      · exact ⟨_, rfl, .inr (.inr rfl)⟩
    obtain ⟨k, rfl, hk⟩ := this
    conv => whnf
    refine lcdP_wp (fun d => if covT T (backP d) P = true then some d else none) (m := 2) (keysM rfl hC.names) ?_ ?_ ?_ ?_ ?_
    · conv => whnf
      refine ixW rfl vCovered ?_
      rfl
    · conv => whnf
      refine ixW rfl vCovered ?_
      exact ⟨rfl, rfl⟩
    · rw [List.length_map, List.length_map]; have := hC.len; omega
    · intro d hd
      obtain ⟨q, hq', rfl⟩ := List.mem_map.mp hd
      obtain ⟨e, he⟩ := look_mem hq'
      obtain ⟨kk, c, d', rfl, hlk, hkd⟩ := hC.vals q e he
      rw [backP_pD]
      unfold covT
      conv => whnf
      refine eqP_ok (p := q) (q := P) ?_
      conv => whnf
      refine wD_by (fun h => ?_) fun h => ?_
      · conv => whnf
        rw [decide_eq_true h]
        exact ⟨rfl, rfl⟩
      · conv => whnf
        rw [decide_eq_false h]
        refine ixW rfl vTable ?_
        conv => whnf
        refine ixM_ok (m := 1) (T := T) rfl hlk ?_
        rw [hlk]
        rcases hT.vals q d' hlk with rfl | ⟨l, rfl, _⟩
        · conv => whnf
          rw [List.length_map, cutD_to, ← List.map_take]
          refine eqP_ok (p := P.take q.length) (q := q) ?_
          conv => whnf
          refine wD_by (fun h2 => ?_) fun h2 => ?_
          · conv => whnf
            rw [decide_eq_true h2]
            exact ⟨rfl, rfl⟩
          · conv => whnf
            rw [decide_eq_false h2]
            exact ⟨rfl, rfl⟩
        · conv => whnf
          exact ⟨rfl, rfl⟩
    · conv => whnf
      refine ixW rfl vCopies ?_
      conv => whnf
      refine answered_wp (n := n) hT hi hC hk hn hl ?_
      conv => whnf
      refine around_ne ?_
      conv => whnf
      refine wB_by (fun ha => ?_) fun ha => ?_
      · have ha : ((Cv.map (·.1)).any fun p => covT T p P) = true := ha
        conv => whnf
        refine ixW rfl vTable ?_
        conv => whnf
        refine law_answer_wp (n := n + 8) hT hi hk hl ?_
        obtain ⟨l, e3, hs⟩ := ansT_tup hT (k := k) (P := P)
        have e2 : ansC T Cv k P = .tup l := by unfold ansC; rw [if_pos ha, e3]
        rw [e2, e3]
        conv => whnf
        refine eqT_ok hs rfl ?_
        conv => whnf
        exact hq _ hc
      · have ha : ((Cv.map (·.1)).any fun p => covT T p P) = false := ha
        have e2 : ansC T Cv k P = .non := by unfold ansC; rw [if_neg (by rw [ha]; exact Bool.false_ne_true)]
        rw [e2]
        conv => whnf
        exact hq _ hc
  conv => whnf
  refine wQ_by (fun hr => ?_) fun hr => ?_
  · conv => whnf
    refine some_wp hc (by decide) (by decide) fun o4 d2 hc hd2 => ?_
    have : ∃ x : Str, d2 = .str x ∧ x ∈ okNms := by
      simp only [List.mem_cons, List.not_mem_nil, or_false] at hd2
      rcases hd2 with rfl | rfl | rfl <;> exact ⟨_, rfl, by decide +kernel⟩
    obtain ⟨x, rfl, hx⟩ := this
    conv => whnf
    refine addT_ok (by rw [List.length_map]; show p.length + 1 ≤ _; omega) ?_
    rw [show p.map D.str ++ [.str x] = (p ++ [x]).map D.str by rw [List.map_append]; rfl]
    refine rest (p ++ [x]) o4 hc (fun y hy => ?_) (by rw [List.length_append]; show p.length + 1 ≤ 6; omega)
    rcases List.mem_append.mp hy with w | w
    · exact hn1 y w
    · rw [List.mem_singleton.mp w]; exact hx
  · exact rest p o3 hc hn1 (by omega)
theorem copy_shp {i : Nat} {T Cv : Tab} (hT : Tr i T) (hC : COk T Cv) : ∀ d ∈ (srt Cv).map (copyD T Cv), shp 30 d = true := fun d hd => by
  obtain ⟨p, hp, rfl⟩ := List.mem_map.mp hd
  obtain ⟨e, he⟩ := look_mem (srt_mem.mp hp)
  obtain ⟨kk, c, d', rfl, hlk, hkd⟩ := hC.vals p e he
  unfold copyD
  rw [he]
  show ([pD p, .str kk, .int c, nodeD T (srt T) 7 p] : List D).all (shp 29) = true
  simp only [List.all_cons, List.all_nil, Bool.and_true, Bool.and_eq_true]
  exact ⟨shp_path (n := 27) p, rfl, rfl, shp_le (by decide) (shp_node hT _ 7 p)⟩
theorem law_append_wp {n F i : Nat} {o : MO} {T Cv : Tab} {mk ls an : List D} {tree : D} {kd : Int} {es : List (Int × (Path × List D))} {dn : List D} (hc : Cup o) (hT : Tr i T) (hi : i ≤ 1000) (hC : COk T Cv)
    (hf : ∀ P, P = pf ∨ P = pg → (∃ l, look T P = some (.tup l)) ∧ ∃ c, look Cv P = some (.tup [.str ("write" : Str), c])) (hes : es.length ≤ 8) (hmk : mk.length ≤ 1000) {Q : D → Store → Prop}
    (hq1 : ∀ o', Cup o' → Q (.bl true) (st o' T Cv mk ls an tree (.tup ((srt Cv).map (copyD T Cv))) (ownD kd es) dn))
    (hq2 : ∀ o' P l oc ser, Cup o' → (P = pf ∨ P = pg) → look T P = some (.tup l) → Oc oc → oc.length ≤ 64 → l.length + oc.length ≤ 256 → es.length < 8 →
      Q (.bl true) (st o' (Rf.put T P (.tup (l ++ oc))) Cv (mk ++ [apD (P, oc)]) ls an tree (.tup ((srt Cv).map (copyD (Rf.put T P (.tup (l ++ oc))) Cv))) (ownD kd (es ++ [(ser, (P, oc))])) dn)) :
    Wp (mcall Lk55.T G F (n + 11) ("_law_append" : Str) [.ref 0, .ref 6] (st o T Cv mk ls an tree (.tup ((srt Cv).map (copyD T Cv))) (ownD kd es) dn)) Q := by
  refine call_wp (n := n + 10) t__law_append rfl rfl ?_
  conv => whnf
  refine ixW rfl vFiles ?_
  conv => whnf
  refine some_wp hc (by decide) (by decide) fun o2 d hc hd => ?_
  have : ∃ P, d = pD P ∧ (P = pf ∨ P = pg) := by
    simp only [List.mem_cons, List.not_mem_nil, or_false] at hd
    rcases hd with rfl | rfl | rfl
    · exact ⟨_, rfl, .inl rfl⟩
    · exact ⟨_, rfl, .inl rfl⟩
    · exact ⟨_, rfl, .inr rfl⟩
  obtain ⟨P, rfl, hP⟩ := this
  obtain ⟨⟨l, hl⟩, c, hcv⟩ := hf P hP
  have hll : l.length ≤ 256 := by
    rcases hT.vals P _ hl with z | ⟨l', e, _, h⟩
    · cases z
    · cases e; exact h
  conv => whnf
  refine some_wp hc (by decide) (by decide) fun o3 d2 hc hd2 => ?_
  have : ∃ k : Int, d2 = .int k ∧ 0 ≤ k ∧ k ≤ 64 := by
    simp only [List.mem_cons, List.not_mem_nil, or_false] at hd2
    rcases hd2 with rfl | rfl | rfl <;> exact ⟨_, rfl, by decide, by decide⟩
  obtain ⟨kk, rfl, hk0, hk1⟩ := this
  conv => whnf
  refine octets_wp hc hk0 (by omega) fun o4 oc hc ho hol => ?_
  conv => whnf
  refine ixW rfl vOwn ?_
  conv => whnf
  refine to_hand_wp (by omega) ?_
  conv => whnf
  rw [List.length_map, List.length_map]
  refine ixW rfl vOwn ?_
  conv => whnf
  refine crowded_wp ?_
  conv => whnf
  refine wN_or (k := eqF DEEP (.bl (decide (8 ≤ (es.length : Int)))) (.bl (eqF DEEP (.int es.length) (.int 8)))) (fun h => ?_) fun _ => ?_
  · exfalso
    have h : (decide (8 ≤ (es.length : Int)) == ((es.length : Int) == 8)) = false := h
    rw [beq_eq_false_iff_ne] at h
    apply h
    by_cases z : (es.length : Int) = 8
    · rw [z]; rfl
    · rw [beq_eq_false_iff_ne.mpr z]; exact decide_eq_false (by omega)
  conv => whnf
  refine wQ_by (fun h8 => ?_) fun h8 => ?_
  · conv => whnf
    refine ixW rfl vOwn ?_
    conv => whnf
    refine crowded_wp ?_
    rw [h8]
    conv => whnf
    exact hq1 _ hc
  · conv => whnf
    refine ixW rfl vCopies ?_
    conv => whnf
    refine own_some (n := n) hT hi hC hcv (by kernel_rfl) hl (Longer.put hl) (by omega) (fun hs => ?_) fun hs => ?_
    · conv => whnf
      refine ixW rfl vTable ?_
      conv => whnf
      refine ixM_ok (m := 1) (T := T) rfl hl ?_
      conv => whnf
      refine wD_by (fun h1 => ?_) fun h1 => absurd (show (256 : Int) < (l.length : Int) + (oc.length : Int) by omega) h1
      conv => whnf
      refine ixW rfl vCopies ?_
      conv => whnf
      refine eqT_ok (fun d hd => ?_) rfl ?_
      · rcases List.mem_cons.mp hd with z | z
        · rw [z]
          show List.all _ (shp 39) = true
          exact List.all_eq_true.mpr fun d hd => shp_le (by decide) (copy_shp hT hC d hd)
        · rw [List.mem_singleton.mp z]; rfl
      conv => whnf
      exact hq1 _ hc
    · conv => whnf
      refine ixW rfl vTable ?_
      conv => whnf
      refine ixM_ok (m := 1) (T := T) rfl hl ?_
      conv => whnf
      refine wD_by (fun h1 => absurd (show (256 : Int) < (l.length : Int) + (oc.length : Int) from h1) (by omega)) fun h1 => ?_
      conv => whnf
      refine ixW rfl vTable ?_
      conv => whnf
      refine ixM_ok (m := 1) (T := T) rfl hl ?_
      conv => whnf
      refine addT_ok (by omega) ?_
      conv => whnf
      refine ixW rfl vTable ?_
      conv => whnf
      refine putM_ok (T := T) (p := P) (m := 1) rfl (by have := hT.len; omega) ?_
      conv => whnf
      refine ixW rfl vMade ?_
      conv => whnf
      refine ⟨by show mk.length < 16777216; omega, ?_⟩
      conv => whnf
      refine ⟨rfl, ?_⟩
      conv => whnf
      refine putW rfl pCopies ?_
      conv => whnf
      refine ixW rfl vOwn ?_
      conv => whnf
      refine ixW rfl vMade ?_
      conv => whnf
      refine mul_ok (p := 32) (q := 32) (by decide) (bits_lt (by omega) (by rw [List.length_append]; show ((mk.length + 1 : Nat) : Int) < _; omega) (by decide)) (by decide) ?_
      conv => whnf
      refine with_own_wp (by omega) ?_
      conv => whnf
      refine putW rfl pOwn ?_
      conv => whnf
      show Q (.bl (eqF DEEP (.tup [.str ("appended" : Str), .int ((l.length : Int) + oc.length)]) (.tup [.str ("appended" : Str), .int ((l.length : Int) + oc.length)]))) _
      rw [eqF_refl DEEP _ rfl]
      exact hq2 o4 P l oc _ hc hP hl ho (by omega) hs (by omega)
end Lk55

set_option Elab.async false
set_option linter.all false
set_option maxRecDepth 100000
set_option pp.maxSteps 600
namespace Lk55
open PySem PySem.Spec PyProof.Rows L2 Rf
theorem runT_app : ∀ (a b : List (Path × List D)) (T : Tab), runT T (a ++ b) = ((runT (runT T a).1 b).1, (runT T a).2 ++ (runT (runT T a).1 b).2)
  | [], b, T => rfl
  | x :: a, b, T => by
    show ((runT _ (a ++ b)).1, _ :: (runT _ (a ++ b)).2) = _
    rw [runT_app a b]
    rfl
/-- an answer that tells of octets appended -/
def okA (d : D) : Prop := ∃ z : Int, d = .tup [.str ("appended" : Str), .int z]
def letD (As : List (Path × List D)) (k m : Nat) : D := .tup [.int ((k : Int) + 1), .tup (((As.take m).drop k).map apD)]
theorem someL_wp {n F : Nat} {o : MO} {T Cv : Tab} {mk ls an : List D} {tree copies own : D} {dn : List D} {Q : D → Store → Prop} (hc : Cup o) (h0 : 0 < ls.length) (h1 : ls.length < 1000000)
    (hq : ∀ o' d, Cup o' → d ∈ ls → Q d (st o' T Cv mk ls an tree copies own dn)) : Wp (mcall Lk55.T G F (n + 2) ("_law_some" : Str) [.ref 0, .ref 4] (st o T Cv mk ls an tree copies own dn)) Q := by
  refine call_wp t__law_some rfl rfl ?_
  conv => whnf
  refine roll_wp hc (by omega) (by omega) fun o' r hc' h2 h3 => ?_
  obtain ⟨x, e1, _, e3⟩ := atI_ex h2 h3
  conv => whnf
  refine ixL_ok e1 ?_
  exact hq _ _ hc' e3
theorem someA_wp {n F : Nat} {o : MO} {T Cv : Tab} {mk ls an : List D} {tree copies own : D} {dn : List D} {Q : D → Store → Prop} (hc : Cup o) (h0 : 0 < an.length) (h1 : an.length < 1000000)
    (hq : ∀ o' d, Cup o' → d ∈ an → Q d (st o' T Cv mk ls an tree copies own dn)) : Wp (mcall Lk55.T G F (n + 2) ("_law_some" : Str) [.ref 0, .ref 5] (st o T Cv mk ls an tree copies own dn)) Q := by
  refine call_wp t__law_some rfl rfl ?_
  conv => whnf
  refine roll_wp hc (by omega) (by omega) fun o' r hc' h2 h3 => ?_
  obtain ⟨x, e1, _, e3⟩ := atI_ex h2 h3
  conv => whnf
  refine ixL_ok e1 ?_
  exact hq _ _ hc' e3
theorem apD_shp {a : Path × List D} (h : Oc a.2) : shp 30 (apD a) = true := by
  show ([pD a.1, .tup a.2] : List D).all (shp 29) = true
  simp only [List.all_cons, List.all_nil, Bool.and_true, Bool.and_eq_true]
  refine ⟨shp_path (n := 27) _, ?_⟩
  show a.2.all (shp 28) = true
  exact List.all_eq_true.mpr fun d hd => shp_le (by decide) (h.fl d hd)
theorem fresh_eq {As : List (Path × List D)} {dn m : Nat} : As.take dn ++ (As.take m).drop dn = As.take (max dn m) := by
  rcases Nat.le_total m dn with h | h
  · rw [Nat.max_eq_left h, List.drop_eq_nil_of_le (by rw [List.length_take]; omega), List.append_nil]
  · rw [Nat.max_eq_right h]
    have : As.take dn = (As.take m).take dn := by rw [List.take_take, Nat.min_eq_left h]
    rw [this, List.take_append_drop]
theorem law_letter_wp {n F i : Nat} {o : MO} {T0 T Cv : Tab} {As : List (Path × List D)} {ls an : List D} {copies own : D} {dn : Nat} (hc : Cup o) (hT : Tr i T0) (hi : i ≤ 1000) (hA : ∀ a ∈ As, ApOk a) (hl : As.length ≤ 1000) (hok : ∀ d ∈ (runT T0 As).2, okA d) (hdn : dn ≤ As.length)
    (hls : ∀ d ∈ ls, ∃ k m : Nat, k ≤ dn ∧ m ≤ As.length ∧ d = letD As k m) (hll : ls.length ≤ 1000) (han : an.length ≤ 1000) {Q : D → Store → Prop}
    (hq0 : ∀ o', Cup o' → Q (.bl true) (st o' T Cv (As.map apD) ls an (nodeD (runT T0 (As.take dn)).1 (srt T0) 7 []) copies own ((As.take dn).map apD)))
    (hq : ∀ o' (m : Nat), Cup o' → dn ≤ m → m ≤ As.length → Q (.bl true) (st o' T Cv (As.map apD) ls (an ++ [.int (m : Int)]) (nodeD (runT T0 (As.take m)).1 (srt T0) 7 []) copies own ((As.take m).map apD))) :
    Wp (mcall Lk55.T G F (n + 11) ("_law_letter" : Str) [.ref 0, .ref 6] (st o T Cv (As.map apD) ls an (nodeD (runT T0 (As.take dn)).1 (srt T0) 7 []) copies own ((As.take dn).map apD))) Q := by
  refine call_wp (n := n + 10) t__law_letter rfl rfl ?_
  conv => whnf
  refine ixW rfl vLetters ?_
  conv => whnf
  refine wQ_by (fun h0 => ?_) fun h0 => ?_
  · conv => whnf
    exact hq0 _ hc
  · conv => whnf
    refine ixW rfl vLetters ?_
    conv => whnf
    refine someL_wp hc (by omega) (by omega) fun o2 d hc hd => ?_
    obtain ⟨k, m, hk, hm, rfl⟩ := hls d hd
    conv => whnf
    refine ixW rfl vDone ?_
    conv => whnf
    rw [List.length_map, List.length_take, Nat.min_eq_left hdn]
    refine beyond_wp hk ?_
    rw [← List.map_drop, List.drop_drop, show k + (dn - k) = dn by omega]
    conv => whnf
    refine ixW rfl vTree ?_
    conv => whnf
    have hsub : ∀ a ∈ As.take dn, ApOk a := fun a ha => hA a (List.mem_of_mem_take ha)
    obtain ⟨r1, r2, r3⟩ := runT_ok hT hsub
    have hF : ∀ a ∈ (As.take m).drop dn, ApOk a := fun a ha => hA a (List.mem_of_mem_take (List.mem_of_mem_drop ha))
    have hFl : ((As.take m).drop dn).length ≤ As.length := by rw [List.length_drop, List.length_take]; omega
    rw [← r2]
    refine handed_on_wp (n := n) r1 hi hF (by omega) ?_
    rw [r2]
    have e0 := fresh_eq (As := As) (dn := dn) (m := m)
    have eT : (runT (runT T0 (As.take dn)).1 ((As.take m).drop dn)).1 = (runT T0 (As.take (max dn m))).1 := by rw [← e0, runT_app]
    have eA : ∀ d ∈ (runT (runT T0 (As.take dn)).1 ((As.take m).drop dn)).2, okA d := fun d hd => by
      refine hok d ?_
      have e1 : runT T0 (As.take (max dn m)) = ((runT (runT T0 (As.take dn)).1 ((As.take m).drop dn)).1, (runT T0 (As.take dn)).2 ++ (runT (runT T0 (As.take dn)).1 ((As.take m).drop dn)).2) := by rw [← e0]; exact runT_app _ _ _
      have e2 : (runT T0 As).2 = (runT T0 (As.take (max dn m))).2 ++ (runT (runT T0 (As.take (max dn m))).1 (As.drop (max dn m))).2 := by
        conv => lhs; rw [← List.take_append_drop (max dn m) As]
        rw [runT_app]
      rw [e2, e1]
      exact List.mem_append_left _ (List.mem_append_right _ hd)
    rw [eT]
    conv => whnf
    refine ⟨rfl, ?_⟩
    conv => whnf
    refine putW rfl pTree ?_
    conv => whnf
    refine ixW rfl vDone ?_
    conv => whnf
    refine addL_ok (by rw [List.length_map, List.length_map, List.length_take]; omega) ?_
    rw [← List.map_append, e0]
    conv => whnf
    refine putW rfl pDone ?_
    conv => whnf
    refine ixW rfl vAnswers ?_
    conv => whnf
    refine ixW rfl vDone ?_
    conv => whnf
    rw [List.length_map, List.length_take, Nat.min_eq_left (by omega)]
    refine ⟨by show an.length < 16777216; omega, ?_⟩
    conv => whnf
    refine ixW rfl vDone ?_
    conv => whnf
    refine ixW rfl vMade ?_
    conv => whnf
    refine ixW rfl vDone ?_
    conv => whnf
    rw [show Rf.cutD (List.map apD As) none (some ((List.map apD (List.take (max dn m) As)).length : Int)) = List.map apD (List.take (max dn m) As) by rw [cutD_to, ← List.map_take, List.length_map, List.length_take, Nat.min_eq_left (by omega)]]
    refine eqL_ok (fun d hd => ?_) rfl ?_
    · obtain ⟨a, ha, rfl⟩ := List.mem_map.mp hd
      exact shp_le (by decide) (apD_shp (hA a (List.mem_of_mem_take ha)).oc)
    conv => whnf
    refine lcP_wp (fun _ => none) ?_
    conv => whnf
    have hFr := runT_ok r1 hF
    refine ⟨_, rfl, by rw [hFr.2.2]; omega, fun d hd => ?_, ?_⟩
    · obtain ⟨z, rfl⟩ := eA d hd
      conv => whnf
      exact ⟨rfl, rfl⟩
    · rw [show ∀ l : List D, l.filterMap (fun _ => (none : Option D)) = [] from fun l => by induction l with | nil => rfl | cons a l ih => rw [List.filterMap_cons]; exact ih]
      conv => whnf
      exact hq _ _ hc (Nat.le_max_left _ _) (by omega)
end Lk55

set_option Elab.async false
set_option linter.all false
set_option maxRecDepth 100000
set_option pp.maxSteps 600
namespace Lk55
open PySem PySem.Spec PyProof.Rows L2 Rf
def abc : List Str := [("a" : Str), ("b" : Str), ("c" : Str)]
def Ab (T : Tab) : Prop := ∀ p d, look T p = some d → ∀ x ∈ p, x ∈ abc
theorem Ab.new {T : Tab} (h : Ab T) {p : Path} {x : Str} {d v : D} (hp : look T p = some d) (hx : x ∈ abc) : Ab (Rf.put T (p ++ [x]) v) := fun q e hq y hy => by
  rw [look_put] at hq
  split at hq
  · rename_i z
    rw [z] at hy
    rcases List.mem_append.mp hy with w | w
    · exact h p d hp y w
    · rw [List.mem_singleton.mp w]; exact hx
  · exact h q e hq y hy
theorem table2_wp {n F : Nat} {o : MO} {Q : D → Store → Prop} (hc : Cup o) (hq : ∀ o' T, Cup o' → Tr 10 T → Ab T → Q (.ref 1) [o', tO T]) : Wp (mcall Lk55.T G F (n + 4) ("_law_table" : Str) [.ref 0] [o]) Q := by
  refine call_wp (n := n + 3) t__law_table rfl rfl ?_
  conv => whnf
  refine roll_wp hc (by decide) (by decide) fun o2 r hc h2 h3 => ?_
  conv => whnf
  refine rng1_ok (by omega) (by omega) ?_
  conv => whnf
  have lk0 : ∀ p d, look [([], D.non)] p = some d → p = [] ∧ d = .non := fun p d h => by
    unfold look at h
    by_cases hp : ([] : Path) = p
    · subst hp; simp at h; exact ⟨rfl, h.symm⟩
    · simp [hp] at h
  refine for_rng (fun i ρ s => ∃ o T x2 x3 x4, Cup o ∧ Tr (i + 1) T ∧ Ab T ∧ s = [o, tO T] ∧ ρ = [some (.ref 0), some (.ref 1), x2, x3, x4]) ⟨o2, [([], .non)], none, none, none, hc,
    ⟨fun p d h x hx => by rw [(lk0 p d h).1] at hx; simp at hx, by simp, rfl, fun p d h => by rw [(lk0 p d h).1]; simp, fun p d h => .inl (lk0 p d h).2, by simp, fun p x d h => by have := (lk0 _ d h).1; simp at this⟩, fun p d h x hx => by rw [(lk0 p d h).1] at hx; simp at hx, rfl, rfl⟩ ?_ ?_
  · rintro i ρ s hi ⟨o, T, x2, x3, x4, hc, hT, hAb, rfl, rfl⟩
    conv => whnf
    have hm : ([o, tO T] : Store)[1]? = some (tO T) := rfl
    refine lcP_wp (fun d => if dirB T (backP d) then some (pD (backP d)) else none) ?_
    conv => whnf
    refine sortedM_ok hm hT.nok ?_
    conv => whnf
    refine ⟨_, rfl, by rw [List.length_map, srt_len]; have := hT.len; omega, fun d hd => ?_, ?_⟩
    · obtain ⟨p, hp, rfl⟩ := List.mem_map.mp hd
      obtain ⟨e, he⟩ := look_mem (srt_mem.mp hp)
      rw [backP_pD]
      conv => whnf
      refine ixM_ok hm he ?_
      rcases hT.vals p e he with rfl | ⟨l, rfl, _⟩
      · conv => whnf
        refine wD_by (fun h => ?_) fun h => ?_
        · conv => whnf
          refine ⟨rfl, ?_⟩
          unfold dirB
          rw [he]
          show _ = if decide (p.length < 5) = true then some (pD p) else none
          rw [if_pos (decide_eq_true (by rw [List.length_map] at h; omega))]
        · conv => whnf
          refine ⟨rfl, ?_⟩
          unfold dirB
          rw [he]
          show none = if decide (p.length < 5) = true then some (pD p) else none
          rw [if_neg (by rw [decide_eq_true_eq]; rw [List.length_map] at h; omega)]
      · conv => whnf
        refine ⟨rfl, ?_⟩
        unfold dirB
        rw [he]
        rfl
    · have e : ((srt T).map pD).filterMap (fun d => if dirB T (backP d) then some (pD (backP d)) else none) = ((srt T).filter (dirB T)).map pD := by
        rw [List.filterMap_map]
        generalize srt T = S
        induction S with
        | nil => rfl
        | cons p S ih =>
          rw [List.filterMap_cons, List.filter_cons]
          have e0 : ((fun d => if dirB T (backP d) = true then some (pD (backP d)) else none) ∘ pD) p = if dirB T p = true then some (pD p) else none := by
            show (if dirB T (backP (pD p)) = true then some (pD (backP (pD p))) else none) = _
            rw [backP_pD]
          rw [e0]
          cases dirB T p
          · exact ih
          · simp only [if_true, List.map_cons]
            rw [← ih]
      rw [e]
      conv => whnf
      have hne : [] ∈ (srt T).filter (dirB T) := List.mem_filter.mpr ⟨srt_mem.mpr (look_in hT.root), by unfold dirB; rw [hT.root]; rfl⟩
      have hlen : ((srt T).filter (dirB T)).length ≤ T.length := by rw [← srt_len (T := T)]; exact List.length_filter_le _ _
      refine some_wp hc (by rw [List.length_map]; exact List.length_pos_of_mem hne) (by rw [List.length_map]; have := hT.len; omega) fun o2 d hc hd => ?_
      obtain ⟨p, hp, rfl⟩ := List.mem_map.mp hd
      obtain ⟨hp1, hp2⟩ := List.mem_filter.mp hp
      have hpd : look T p = some .non ∧ p.length < 5 := by
        unfold dirB at hp2
        split at hp2
        · rename_i hh; exact ⟨hh, of_decide_eq_true hp2⟩
        · cases hp2
      conv => whnf
      refine some_wp hc (by decide) (by decide) fun o3 d2 hc hd2 => ?_
      have : ∃ x : Str, d2 = .str x ∧ x ∈ okNms ∧ x ∈ abc := by
        simp only [List.mem_cons, List.not_mem_nil, or_false] at hd2
        rcases hd2 with rfl | rfl | rfl <;> exact ⟨_, rfl, by decide +kernel, by decide +kernel⟩
      obtain ⟨x, rfl, hx, hxa⟩ := this
      have hm2 : ([o3, tO T] : Store)[1]? = some (tO T) := rfl
      conv => whnf
      refine addT_ok (by rw [List.length_map]; show p.length + 1 ≤ _; omega) ?_
      rw [show p.map D.str ++ [.str x] = (p ++ [x]).map D.str by rw [List.map_append]; rfl]
      conv => whnf
      refine hasM_ok (p := p ++ [x]) hm2 ?_
      conv => whnf
      refine wN_or (fun hn => ?_) fun hn => ?_
      · have hn2 : look T (p ++ [x]) = none := by simpa using hn
        conv => whnf
        refine roll_wp hc (by decide) (by decide) fun o4 r hc h2 h3 => ?_
        conv => whnf
        refine wD_by (fun hr => ?_) fun hr => ?_
        · conv => whnf
          refine octets_wp hc (by decide) (by decide) fun o5 l hc hl hll => ?_
          conv => whnf
          refine putM_ok (T := T) (p := p ++ [x]) (m := 1) (s := [o5, tO T]) rfl (by have := hT.len; omega) ?_
          conv => whnf
          exact ⟨o5, _, _, _, _, hc, hT.new hpd.1 hn2 hx hpd.2 (.inr ⟨l, rfl, hl, by omega⟩), hAb.new hpd.1 hxa, rfl, rfl⟩
        · conv => whnf
          refine putM_ok (T := T) (p := p ++ [x]) (m := 1) (s := [o4, tO T]) rfl (by have := hT.len; omega) ?_
          conv => whnf
          exact ⟨o4, _, _, _, _, hc, hT.new hpd.1 hn2 hx hpd.2 (.inl rfl), hAb.new hpd.1 hxa, rfl, rfl⟩
      · conv => whnf
        exact ⟨o3, T, _, _, _, hc, hT.le (by omega), hAb, rfl, rfl⟩
  · rintro ρ s ⟨o, T, x2, x3, x4, hc, hT, hAb, rfl, rfl⟩
    conv => whnf
    exact hq _ _ hc (hT.le (by omega)) hAb

theorem COk.put {T Cv : Tab} (h : COk T Cv) {P : Path} {l l' : List D} (hl : look T P = some (.tup l)) : COk (Rf.put T P (.tup l')) Cv := by
  refine ⟨h.names, h.len, fun p d hp => ?_⟩
  obtain ⟨k, c, d', e1, e2, e3⟩ := h.vals p d hp
  by_cases z : p = P
  · subst z
    rw [hl] at e2
    cases e2
    refine ⟨k, c, .tup l', e1, by rw [look_put, if_pos rfl], .inr ?_⟩
    rcases e3 with ⟨_, q⟩ | ⟨q, _⟩
    · cases q
    · exact ⟨q, fun z => nomatch z⟩
  · exact ⟨k, c, d', e1, by rw [look_put, if_neg z]; exact e2, e3⟩
theorem apT_file {i : Nat} {T : Tab} (hT : Tr i T) {P : Path} {l oc : List D} (hP : P = pf ∨ P = pg) (hl : look T P = some (.tup l)) (hs : l.length + oc.length ≤ 256) :
    apT T P oc = (Rf.put T P (.tup (l ++ oc)), .tup [.str ("appended" : Str), .int ((l.length : Int) + oc.length)]) := by
  have hd : (!P.isEmpty && !isDir (look T P.dropLast)) = false := by
    rcases hP with rfl | rfl
    · show (!false && !isDir (look T [])) = false
      rw [hT.root]; rfl
    · show (!false && !isDir (look T [])) = false
      rw [hT.root]; rfl
  unfold apT
  rw [hd, if_neg Bool.false_ne_true, hl]
  show (if 256 < l.length + oc.length then _ else _) = _
  rw [if_neg (by omega)]
structure Wi (T0 Cv : Tab) (As : List (Path × List D)) (kd dn : Nat) (es : List (Int × (Path × List D))) (ls an : List D) (j : Nat) : Prop where
  ap : ∀ a ∈ As, ApOk a
  ok : ∀ d ∈ (runT T0 As).2, okA d
  es_ : es.map (·.2) = As.drop kd
  el : es.length ≤ 8
  kd_ : kd ≤ dn
  dn_ : dn ≤ As.length
  ls_ : ∀ d ∈ ls, ∃ k m : Nat, k ≤ dn ∧ m ≤ As.length ∧ d = letD As k m
  an_ : ∀ d ∈ an, ∃ z : Nat, z ≤ dn ∧ d = .int (z : Int)
  an0 : an ≠ []
  len : As.length ≤ j ∧ ls.length ≤ j ∧ an.length ≤ j + 1
  cv : COk (runT T0 As).1 Cv
  fl : ∀ P, P = pf ∨ P = pg → ∃ l, look (runT T0 As).1 P = some (.tup l)
theorem Wi.le {T0 Cv : Tab} {As : List (Path × List D)} {kd dn : Nat} {es : List (Int × (Path × List D))} {ls an : List D} {j j' : Nat} (h : Wi T0 Cv As kd dn es ls an j) (hj : j ≤ j') : Wi T0 Cv As kd dn es ls an j' :=
  ⟨h.ap, h.ok, h.es_, h.el, h.kd_, h.dn_, h.ls_, h.an_, h.an0, ⟨by have := h.len; omega, by have := h.len; omega, by have := h.len; omega⟩, h.cv, h.fl⟩
theorem Wi.esl {T0 Cv : Tab} {As : List (Path × List D)} {kd dn : Nat} {es : List (Int × (Path × List D))} {ls an : List D} {j : Nat} (h : Wi T0 Cv As kd dn es ls an j) : es.length + kd = As.length := by
  have e := congrArg List.length h.es_
  rw [List.length_map, List.length_drop] at e
  have := h.kd_
  have := h.dn_
  omega
theorem Wi.app {i : Nat} {T0 Cv : Tab} {As : List (Path × List D)} {kd dn : Nat} {es : List (Int × (Path × List D))} {ls an : List D} {j : Nat} (hT : Tr i T0) (h : Wi T0 Cv As kd dn es ls an j) {P : Path} {l oc : List D} {ser : Int} (hP : P = pf ∨ P = pg)
    (hl : look (runT T0 As).1 P = some (.tup l)) (ho : Oc oc) (hol : oc.length ≤ 64) (hs : l.length + oc.length ≤ 256) (he : es.length < 8) :
    (runT T0 (As ++ [(P, oc)])).1 = Rf.put (runT T0 As).1 P (.tup (l ++ oc)) ∧ Wi T0 Cv (As ++ [(P, oc)]) kd dn (es ++ [(ser, (P, oc))]) ls an (j + 1) := by
  obtain ⟨r1, r2, r3⟩ := runT_ok hT h.ap
  have e := apT_file r1 hP hl hs
  have e1 : (runT T0 (As ++ [(P, oc)])).1 = Rf.put (runT T0 As).1 P (.tup (l ++ oc)) := by rw [runT_snoc]; show (apT _ P oc).1 = _; rw [e]
  have hkd : kd ≤ As.length := Nat.le_trans h.kd_ h.dn_
  refine ⟨e1, fun a ha => ?_, fun d hd => ?_, ?_, ?_, h.kd_, by rw [List.length_append]; exact Nat.le_add_right_of_le h.dn_, fun d hd => ?_, h.an_, h.an0, ?_, ?_, fun P' hP' => ?_⟩
  · rcases List.mem_append.mp ha with z | z
    · exact h.ap a z
    · rw [List.mem_singleton.mp z]
      refine ⟨fun x hx => ?_, ?_, ho, hol⟩
      · rcases hP with rfl | rfl
        · rw [List.mem_singleton.mp hx]; decide +kernel
        · rw [List.mem_singleton.mp hx]; decide +kernel
      · rcases hP with rfl | rfl <;> exact (show 1 ≤ 6 by decide)
  · rw [runT_snoc] at hd
    rcases List.mem_append.mp hd with z | z
    · exact h.ok d z
    · rw [List.mem_singleton.mp z]
      show okA (apT _ P oc).2
      rw [e]
      exact ⟨_, rfl⟩
  · rw [List.map_append, h.es_, List.drop_append_of_le_length hkd]
    rfl
  · rw [List.length_append]; show es.length + 1 ≤ 8; omega
  · obtain ⟨k, m, h1, h2, h3⟩ := h.ls_ d hd
    refine ⟨k, m, h1, by rw [List.length_append]; omega, ?_⟩
    rw [h3]
    unfold letD
    rw [List.take_append_of_le_length h2]
  · have := h.len
    refine ⟨by rw [List.length_append]; show As.length + 1 ≤ j + 1; omega, by omega, by omega⟩
  · rw [e1]
    exact h.cv.put hl
  · rw [e1, look_put]
    split
    · exact ⟨_, rfl⟩
    · exact h.fl P' hP'
theorem Wi.letter {T0 Cv : Tab} {As : List (Path × List D)} {kd dn : Nat} {es : List (Int × (Path × List D))} {ls an : List D} {j m : Nat} (h : Wi T0 Cv As kd dn es ls an j) (h1 : dn ≤ m) (h2 : m ≤ As.length) : Wi T0 Cv As kd m es ls (an ++ [.int (m : Int)]) (j + 1) := by
  have := h.len
  refine ⟨h.ap, h.ok, h.es_, h.el, Nat.le_trans h.kd_ h1, h2, fun d hd => ?_, fun d hd => ?_, by simp, ⟨by omega, by omega, by rw [List.length_append]; show an.length + 1 ≤ _; omega⟩, h.cv, h.fl⟩
  · obtain ⟨k, m', q1, q2, q3⟩ := h.ls_ d hd
    exact ⟨k, m', Nat.le_trans q1 h1, q2, q3⟩
  · rcases List.mem_append.mp hd with z | z
    · obtain ⟨z', q1, q2⟩ := h.an_ d z
      exact ⟨z', Nat.le_trans q1 h1, q2⟩
    · exact ⟨m, Nat.le_refl _, List.mem_singleton.mp z⟩
theorem Wi.send {T0 Cv : Tab} {As : List (Path × List D)} {kd dn : Nat} {es : List (Int × (Path × List D))} {ls an : List D} {j : Nat} (h : Wi T0 Cv As kd dn es ls an j) : Wi T0 Cv As kd dn es (ls ++ [.tup [.int ((kd : Int) + 1), .tup ((es.map (·.2)).map apD)]]) an (j + 1) := by
  have := h.len
  refine ⟨h.ap, h.ok, h.es_, h.el, h.kd_, h.dn_, fun d hd => ?_, h.an_, h.an0, ⟨by omega, by rw [List.length_append]; show ls.length + 1 ≤ _; omega, by omega⟩, h.cv, h.fl⟩
  rcases List.mem_append.mp hd with z | z
  · exact h.ls_ d z
  · refine ⟨kd, As.length, h.kd_, Nat.le_refl _, ?_⟩
    rw [List.mem_singleton.mp z, h.es_]
    unfold letD
    rw [List.take_length]
theorem Wi.up {T0 Cv : Tab} {As : List (Path × List D)} {kd dn z : Nat} {es : List (Int × (Path × List D))} {ls an : List D} {j : Nat} (h : Wi T0 Cv As kd dn es ls an j) (h1 : kd ≤ z) (h2 : z ≤ dn) : Wi T0 Cv As z dn (es.drop (z - kd)) ls an j := by
  refine ⟨h.ap, h.ok, ?_, by rw [List.length_drop]; have := h.el; omega, h2, h.dn_, h.ls_, h.an_, h.an0, h.len, h.cv, h.fl⟩
  rw [List.map_drop, h.es_, List.drop_drop]
  congr 1
  omega
end Lk55

set_option Elab.async false
set_option linter.all false
set_option maxRecDepth 100000
set_option pp.maxSteps 600
namespace Lk55
open PySem PySem.Spec PyProof.Rows L2 Rf
def Cv0 : Tab := [(pf, .tup [.str ("write" : Str), .int 1]), (pg, .tup [.str ("write" : Str), .int 2])]
theorem look_cv0 {p : Path} {d : D} (h : look Cv0 p = some d) : (p = pf ∧ d = .tup [.str ("write" : Str), .int 1]) ∨ (p = pg ∧ d = .tup [.str ("write" : Str), .int 2]) := by
  unfold look Cv0 at h
  by_cases h1 : pf = p
  · subst h1; simp at h; exact .inl ⟨rfl, h.symm⟩
  · by_cases h2 : pg = p
    · subst h2; simp [h1] at h; exact .inr ⟨rfl, h.symm⟩
    · simp [h1, h2] at h
theorem COk.dir {i : Nat} {T Cv : Tab} (hT : Tr i T) (h : COk T Cv) {p : Path} {c : Int} (hp : look T p = some .non) (hl : Cv.length < 1000) : COk T (Rf.put Cv p (.tup [.str ("folder" : Str), .int c])) := by
  refine ⟨fun e he x hx => ?_, by have := put_len Cv p (.tup [.str ("folder" : Str), .int c]); omega, fun q d hq => ?_⟩
  · rcases put_mem he with z | z
    · rw [z] at hx; exact okNms_str (hT.names p _ hp x hx)
    · exact h.names e z x hx
  · rw [look_put] at hq
    split at hq
    · rename_i z
      cases hq
      exact ⟨_, _, .non, rfl, by rw [z]; exact hp, .inl ⟨rfl, rfl⟩⟩
    · exact h.vals q d hq
theorem pair_cv : pairO [.tup [.str ("f" : Str)], .tup [.str ("write" : Str), .int 1], .tup [.str ("g" : Str)], .tup [.str ("write" : Str), .int 2]] = some (tO Cv0) := by kernel_rfl
theorem pair_w {tree copies own : D} : pairO [.str ("table" : Str), .ref 1, .str ("tree" : Str), tree, .str ("copies" : Str), copies, .str ("own" : Str), own, .str ("made" : Str), .ref 3, .str ("done" : Str), .lst [], .str ("letters" : Str), .ref 4,
    .str ("answers" : Str), .ref 5, .str ("files" : Str), .lst [.tup [.str ("f" : Str)], .tup [.str ("f" : Str)], .tup [.str ("g" : Str)]], .str ("covered" : Str), .ref 2] = some (wM tree copies own []) := by
  unfold wM
  kernel_rfl
theorem main : ∀ ns : List Int, ns.length ≤ 63 → (∀ z ∈ ns, Builtin.Int.intBits z ≤ 1048576) → Wp (mcall Lk55.T G 1000 40 ("law" : Str) [.scr (ns.map .int)] []) fun d _ => d = .bl true := by
  intro ns hl hb
  refine call_wp t_law rfl rfl ?_
  conv => whnf
  refine cup_wp hl hb fun o hc => ?_
  conv => whnf
  refine Wp.run (d := .bl true) (s := [o]) (by kernel_rfl) ?_
  conv => whnf
  refine table2_wp (n := 35) hc fun o T hc hT hAb => ?_
  conv => whnf
  refine octets_wp hc (by decide) (by decide) fun o1 fo hc hfo hfl => ?_
  conv => whnf
  refine roll_wp hc (by decide) (by decide) fun o2 r hc h0 h1 => ?_
  conv => whnf
  refine mulT_ok rfl (by omega) (by omega) (by decide) ?_
  conv => whnf
  refine ⟨rfl, ?_⟩
  conv => whnf
  have nf : look T pf = none := by
    cases e : look T pf with
    | none => rfl
    | some d => exact absurd (hAb _ _ e ("f" : Str) List.mem_cons_self) (by decide +kernel)
  have ng : look T pg = none := by
    cases e : look T pg with
    | none => rfl
    | some d => exact absurd (hAb _ _ e ("g" : Str) List.mem_cons_self) (by decide +kernel)
  have hrep := Oc.rep (i := 5) (by decide) (256 - r).toNat
  have hT1 := hT.new (p := []) (x := ("f" : Str)) hT.root nf (by decide +kernel) (by decide) (.inr ⟨fo, rfl, hfo, by omega⟩)
  have ng1 : look (Rf.put T pf (.tup fo)) ([] ++ [("g" : Str)]) = none := by
    rw [look_put, if_neg (by decide +kernel)]
    exact ng
  have hT2 := hT1.new (p := []) (x := ("g" : Str)) hT1.root ng1 (by decide +kernel) (by decide) (.inr ⟨(List.replicate (256 - r).toNat [D.int 5]).flatten, rfl, hrep.1, by rw [hrep.2]; omega⟩)
  refine putM_ok (m := 1) (s := [o2, tO T]) (T := T) (p := pf) rfl (by have := hT.len; omega) ?_
  conv => whnf
  refine putM_ok (m := 1) (s := [o2, tO (Rf.put T pf (.tup fo))]) (T := Rf.put T pf (.tup fo)) (p := pg) rfl (by have := hT1.len; show (Rf.put T ([] ++ [("f" : Str)]) (.tup fo)).length < _; omega) ?_
  conv => whnf
  generalize hG : (List.replicate (256 - r).toNat [D.int 5]).flatten = g5 at *
  have hT2 : Tr 12 (Rf.put (Rf.put T pf (.tup fo)) pg (.tup g5)) := hT2
  have kf : look (Rf.put (Rf.put T pf (.tup fo)) pg (.tup g5)) pf = some (.tup fo) := by rw [look_put, if_neg (by decide +kernel), look_put, if_pos rfl]
  have kg : look (Rf.put (Rf.put T pf (.tup fo)) pg (.tup g5)) pg = some (.tup g5) := by rw [look_put, if_pos rfl]
  refine sortedM_ok (m := 1) (T := Rf.put (Rf.put T pf (.tup fo)) pg (.tup g5)) rfl hT2.nok ?_
  conv => whnf
  refine for_inv (fun i ρ s => ∃ o Cv x4, Cup o ∧ COk (Rf.put (Rf.put T pf (.tup fo)) pg (.tup g5)) Cv ∧ Cv.length ≤ 2 + i ∧ (∀ P, P = pf ∨ P = pg → ∃ c, look Cv P = some (.tup [.str ("write" : Str), c])) ∧ s = [o, tO (Rf.put (Rf.put T pf (.tup fo)) pg (.tup g5)), tO Cv] ∧
      ρ = [some (.scr (ns.map .int)), some (.ref 0), some (.ref 1), some (.ref 2), x4, none, none, none, none, none, none, none, none, none]) ⟨o2, Cv0, none, hc, ?_, by decide, ?_, by kernel_rfl, rfl⟩ ?_ ?_
  · refine ⟨fun e he x hx => ?_, by decide, fun p d hp => ?_⟩
    · have : e.1 = pf ∨ e.1 = pg := by
        unfold Cv0 at he
        simp only [List.mem_cons, List.not_mem_nil, or_false] at he
        rcases he with rfl | rfl
        · exact .inl rfl
        · exact .inr rfl
      rcases this with z | z
      · rw [z] at hx; rw [List.mem_singleton.mp hx]; decide +kernel
      · rw [z] at hx; rw [List.mem_singleton.mp hx]; decide +kernel
    · rcases look_cv0 hp with ⟨rfl, rfl⟩ | ⟨rfl, rfl⟩
      · exact ⟨_, _, _, rfl, kf, .inr ⟨rfl, fun z => nomatch z⟩⟩
      · exact ⟨_, _, _, rfl, kg, .inr ⟨rfl, fun z => nomatch z⟩⟩
  · rintro P (rfl | rfl)
    · exact ⟨.int 1, by kernel_rfl⟩
    · exact ⟨.int 2, by kernel_rfl⟩
  · rintro i d ρ s hx ⟨o, Cv, x4, hc, hC, hCl, hcf, rfl, rfl⟩
    obtain ⟨p, hp, rfl⟩ := List.mem_map.mp (List.mem_of_getElem? hx)
    have hi := (List.getElem?_eq_some_iff.mp hx).1
    rw [List.length_map, srt_len] at hi
    have hi2 := hT2.len
    obtain ⟨e, he⟩ := look_mem (srt_mem.mp hp)
    generalize hT2e : Rf.put (Rf.put T pf (.tup fo)) pg (.tup g5) = T2 at *
    conv => whnf
    refine ixM_ok (m := 1) (T := T2) rfl he ?_
    rcases hT2.vals p e he with rfl | ⟨l, rfl, _⟩
    · conv => whnf
      refine roll_wp hc (by decide) (by decide) fun o2 r hc h0 h1 => ?_
      conv => whnf
      refine wQ_by (fun hr => ?_) fun hr => ?_
      · conv => whnf
        refine putM_ok (m := 2) (s := [o2, tO T2, tO Cv]) (T := Cv) (p := p) rfl (by omega) ?_
        conv => whnf
        refine ⟨o2, _, _, hc, hC.dir hT2 he (by omega), ?_, fun P hP => ?_, rfl, rfl⟩
        · have := put_len Cv p (.tup [.str ("folder" : Str), .int (3 + ((Cv.map fun e => (kP e.1, e.2)).length : Int))])
          exact Nat.le_trans this (by omega)
        · obtain ⟨c, hcp⟩ := hcf P hP
          refine ⟨c, ?_⟩
          rw [look_put, if_neg, hcp]
          rintro rfl
          rcases hP with rfl | rfl
          · rw [kf] at he; cases he
          · rw [kg] at he; cases he
      · conv => whnf
        exact ⟨o2, Cv, _, hc, hC, by omega, hcf, rfl, rfl⟩
    · conv => whnf
      exact ⟨o, Cv, _, hc, hC, by omega, hcf, rfl, rfl⟩
  · rintro ρ s ⟨o, Cv, x4, hc, hC, hCl, hcf, rfl, rfl⟩
    have hfg : ∀ P, P = pf ∨ P = pg → ∃ l, look (Rf.put (Rf.put T pf (.tup fo)) pg (.tup g5)) P = some (.tup l) := fun P hP => by
      rcases hP with rfl | rfl
      · exact ⟨_, kf⟩
      · exact ⟨_, kg⟩
    clear kf kg hCl
    generalize Rf.put (Rf.put T pf (.tup fo)) pg (.tup g5) = T2 at *
    conv => whnf
    refine node_wp (m := 1) (T := T2) rfl hT2 (by decide) 6 31 [] .non _ hT2.root (by decide) (by decide) ?_
    conv => whnf
    refine copies_wp (n := 30) (m := 1) (m2 := 2) (T := T2) (Cv := Cv) rfl rfl hT2 (by decide) hC ?_
    conv => whnf
    refine Wp.run (d := ownD 0 []) (s := [o, tO T2, tO Cv]) (by kernel_rfl) ?_
    conv => whnf
    refine roll_wp hc (by decide) (by decide) fun o2 r hc h0 h1 => ?_
    conv => whnf
    refine rng1_ok (by omega) (by omega) ?_
    conv => whnf
    refine for_rng (fun j ρ s => ∃ o As kd dn es ls an x6 x7 x8, Cup o ∧ Wi T2 Cv As kd dn es ls an j ∧
        s = st o (runT T2 As).1 Cv (As.map apD) ls an (nodeD (runT T2 (As.take dn)).1 (srt T2) 7 []) (.tup ((srt Cv).map (copyD (runT T2 As).1 Cv))) (ownD (kd : Int) es) ((As.take dn).map apD) ∧
        ρ = [some (.scr (ns.map .int)), some (.ref 0), some (.ref 1), some (.ref 2), x4, some (.ref 6), x6, x7, x8, none, none, none, none, none]) ⟨o2, [], 0, 0, [], [], [.int 0], none, none, none, hc, ?_, by kernel_rfl, rfl⟩ ?_ ?_
    · exact ⟨fun a ha => by simp at ha, fun d hd => by simp [runT] at hd, rfl, by decide, Nat.le_refl _, Nat.le_refl _, fun d hd => by simp at hd, fun d hd => ⟨0, Nat.le_refl _, by simpa using hd⟩, by simp, ⟨by decide, by decide, by decide⟩, hC, hfg⟩
    · rintro j ρ s hj ⟨o, As, kd, dn, es, ls, an, x6, x7, x8, hc, hW, rfl, rfl⟩
      have hlen := hW.len
      have hel := hW.el
      obtain ⟨r1, r2, r3⟩ := runT_ok hT2 hW.ap
      conv => whnf
      refine roll_wp hc (by decide) (by decide) fun o2 way hc h0 h1 => ?_
      conv => whnf
      refine ⟨rfl, ?_⟩
      conv => whnf
      refine wD_by (fun h => ?_) fun h => ?_
      · conv => whnf
        refine law_append_wp (n := 28) hc r1 (by decide) hW.cv (fun P hP => ⟨hW.fl P hP, hcf P hP⟩) hW.el (by rw [List.length_map]; omega) (fun o3 hc => ?_) (fun o3 P l oc ser hc hP hl ho hol hs he => ?_)
        · conv => whnf
          exact ⟨o3, As, kd, dn, es, ls, an, _, _, _, hc, hW.le (by omega), rfl, rfl⟩
        · obtain ⟨e1, hW'⟩ := hW.app (ser := ser) hT2 hP hl ho hol hs he
          conv => whnf
          refine ⟨o3, As ++ [(P, oc)], kd, dn, _, ls, an, _, _, _, hc, hW', ?_, rfl⟩
          rw [e1, List.map_append, List.take_append_of_le_length hW.dn_]
          rfl
      · conv => whnf
        refine wQ_by (fun h => ?_) fun h => ?_
        · conv => whnf
          refine law_read_wp (n := 28) hc r1 (by decide) hW.cv fun o3 hc => ?_
          conv => whnf
          exact ⟨o3, As, kd, dn, es, ls, an, _, _, _, hc, hW.le (by omega), rfl, rfl⟩
        · conv => whnf
          refine wQ_by (fun h => ?_) fun h => ?_
          · conv => whnf
            refine ixW rfl vLetters ?_
            conv => whnf
            refine ixW rfl vOwn ?_
            conv => whnf
            refine to_hand_wp (by omega) ?_
            conv => whnf
            refine ⟨by show ls.length < 16777216; omega, ?_⟩
            conv => whnf
            exact ⟨o2, As, kd, dn, es, _, an, _, _, _, hc, hW.send, rfl, rfl⟩
          · conv => whnf
            refine wD_by (fun h => ?_) fun h => ?_
            · conv => whnf
              refine law_letter_wp (n := 28) hc hT2 (by decide) hW.ap (by omega) hW.ok hW.dn_ hW.ls_ (by omega) (by omega) (fun o3 hc => ?_) (fun o3 m hc h1 h2 => ?_)
              · conv => whnf
                exact ⟨o3, As, kd, dn, es, ls, an, _, _, _, hc, hW.le (by omega), rfl, rfl⟩
              · conv => whnf
                exact ⟨o3, As, kd, m, es, ls, _, _, _, _, hc, hW.letter h1 h2, rfl, rfl⟩
            · conv => whnf
              refine ixW rfl vOwn ?_
              conv => whnf
              refine ixW rfl vAnswers ?_
              conv => whnf
              refine someA_wp hc (List.length_pos_iff.mpr hW.an0) (by omega) fun o3 d hc hd => ?_
              obtain ⟨z, hz, rfl⟩ := hW.an_ d hd
              conv => whnf
              refine handed_up_wp (fun _ => ?_) (fun a b => ?_)
              · conv => whnf
                refine putW rfl pOwn ?_
                conv => whnf
                exact ⟨o3, As, kd, dn, es, ls, an, _, _, _, hc, hW.le (by omega), rfl, rfl⟩
              · conv => whnf
                refine putW rfl pOwn ?_
                conv => whnf
                refine ⟨o3, As, z, dn, es.drop (z - kd), ls, an, _, _, _, hc, (hW.up (by omega) hz).le (by omega), ?_, rfl⟩
                rw [show ((z : Int) - (kd : Int)).toNat = z - kd by omega]
                rfl
    · rintro ρ s ⟨o, As, kd, dn, es, ls, an, x6, x7, x8, hc, hW, rfl, rfl⟩
      have hlen := hW.len
      have hel := hW.el
      have hkd := hW.kd_
      have hdn := hW.dn_
      obtain ⟨r1, r2, r3⟩ := runT_ok hT2 hW.ap
      obtain ⟨q1, q2, q3⟩ := runT_ok hT2 (as := As.take dn) fun a ha => hW.ap a (List.mem_of_mem_take ha)
      conv => whnf
      refine ixW rfl vOwn ?_
      conv => whnf
      refine to_hand_wp (by omega) ?_
      rw [hW.es_]
      conv => whnf
      refine ixW rfl vDone ?_
      conv => whnf
      rw [List.length_map, List.length_take, Nat.min_eq_left hdn]
      refine beyond_wp hkd ?_
      rw [← List.map_drop, List.drop_drop, show kd + (dn - kd) = dn by omega]
      conv => whnf
      refine ixW rfl vTree ?_
      conv => whnf
      rw [← q2]
      refine handed_on_wp (n := 29) q1 (by decide) (fun a ha => hW.ap a (List.mem_of_mem_drop ha)) (by rw [List.length_drop]; omega) ?_
      have eT : (runT (runT T2 (As.take dn)).1 (As.drop dn)).1 = (runT T2 As).1 := by
        conv => rhs; rw [← List.take_append_drop dn As, runT_app]
      rw [q2, eT]
      obtain ⟨nl, hnl⟩ := node_tup r1 (S := srt T2) (j := 6) r1.root
      have hsn := shp_node r1 (srt T2) 7 []
      rw [hnl] at hsn ⊢
      conv => whnf
      refine ixW rfl vDone ?_
      conv => whnf
      refine addL_ok (by rw [List.length_map, List.length_map, List.length_take, List.length_drop]; omega) ?_
      rw [← List.map_append, List.take_append_drop]
      conv => whnf
      refine ixW rfl vMade ?_
      conv => whnf
      refine eqL_ok (fun d hd => ?_) rfl ?_
      · obtain ⟨a, ha, rfl⟩ := List.mem_map.mp hd
        exact shp_le (by decide) (apD_shp (hW.ap a ha).oc)
      conv => whnf
      refine ixW rfl vTable ?_
      conv => whnf
      refine node_wp (m := 1) (T := (runT T2 As).1) rfl r1 (by decide) 6 31 [] .non _ r1.root (by decide) (by decide) ?_
      rw [r2, hnl]
      conv => whnf
      refine eqT_ok (fun d hd => ?_) rfl ?_
      · exact shp_le (n := 23) (by decide) (List.all_eq_true.mp hsn d hd)
      conv => whnf
theorem holds : ∀ ns : List Int, ns.length ≤ 63 → (∀ z ∈ ns, Builtin.Int.intBits z ≤ 1048576) → ∃ s, mcall (tabT tab) (glG gl) 1000 40 ("law" : Str) [.scr (ns.map .int)] [] = .ok (.bl true) s := fun ns hl hb => by
  obtain ⟨d, s, e, rfl⟩ := main ns hl hb
  exact ⟨s, e⟩
end Lk55

set_option Elab.async false
set_option linter.all false
set_option maxRecDepth 100000
set_option maxHeartbeats 0
namespace Lk55
open PySem PySem.Spec PyProof.Rows L2 Rf
abbrev Rw : PySem.W.OpenRow := PySem.W.OpenLaw.row rw'
theorem keyF (w : World) : HandSHeadRun.RunEq Rw (PySem.W.view Rw.prog [lawIx]) (hookR 4 tab fr gl ts) (obR 4 tab fr gl ts) 8000 loose (w.withFollow "special-get-raises" false) := fun os => by kernel_rfl
theorem keyT (w : World) : HandSHeadRun.RunEq Rw (PySem.W.view Rw.prog [lawIx]) (hookR 4 tab fr gl ts) (obR 4 tab fr gl ts) 8000 loose (w.withFollow "special-get-raises" true) := fun os => by kernel_rfl
theorem run (w : World) : HandSHeadRun.RunEq Rw (PySem.W.view Rw.prog [lawIx]) (hookR 4 tab fr gl ts) (obR 4 tab fr gl ts) 8000 loose w := by
  have key : ∀ (b : Bool) (w : World), HandSHeadRun.RunEq Rw (PySem.W.view Rw.prog [lawIx]) (hookR 4 tab fr gl ts) (obR 4 tab fr gl ts) 8000 loose (w.withFollow "special-get-raises" b) := fun b w => by cases b; exact keyF w; exact keyT w
  have h := key (w.params.followText "special-get-raises") w
  rwa [World.withFollow_self] at h
end Lk55
open PySem PySem.W PySem.Calls PyProof.Rows Rf
theorem PySem.Challenge.cw_farleases_k55_whole_copies_are_what_the_holds : PySem.Challenge.rw_farleases_k55_whole_copies_are_what_the.Holds := by
  w_on; o_law
  refine HandSHeadRun.head_any (r := OpenLaw.row PySem.Challenge.rw_farleases_k55_whole_copies_are_what_the) (q := view (OpenLaw.row PySem.Challenge.rw_farleases_k55_whole_copies_are_what_the).prog [Lk55.lawIx]) (H := hookR 4 Lk55.tab Lk55.fr Lk55.gl Lk55.ts) (ob := obR 4 Lk55.tab Lk55.fr Lk55.gl Lk55.ts) (M := 8000) (loose := Lk55.loose) (d := HandSHeadRun.topDef (OpenLaw.row PySem.Challenge.rw_farleases_k55_whole_copies_are_what_the).prog Lk55.lawIx) (kwd := []) (obR_eq _ _ _ _ _)
    (by kernel_rfl) (fun s => by kernel_rfl) Lk55.run (by kernel_rfl) (by kernel_rfl) (by kernel_rfl) (by rfl) (by first | assumption | decide +kernel) (by decide +kernel) ⟨rfl, rfl, rfl, rfl, rfl, by decide +kernel⟩ ?hw ?hc
  case hw => w_witness2
  case hc =>
    exact walk_law (l := PySem.Challenge.rw_farleases_k55_whole_copies_are_what_the) (m := 63) (lv := 40) (F := 1000) (x := "script") rfl (by decide) (by kernel_rfl) ⟨rfl, by decide, by decide⟩ (by kernel_rfl) (by decide +kernel) (by decide +kernel) Lk55.chk Lk55.holds

