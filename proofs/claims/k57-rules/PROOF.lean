import PyProof.Rows.All
import Wide.All
import OpenK.AllK
import Wide.FinOn
import HandS.List
import KE.SortData
import PyProof.Claim2Refuses
import PyProof.P3Eq
import HandS.ForExc
import HandS.Comp
import HandS.Walk
import HandS.TupAny
import HandS.Deep
import HandS.Defaults
import HandS.IsInst
import HandS.Text
import HandS.Dict
import PyProof.Rows.IntBool
import HandS.TupMul
import HandS.Style
import HandS.WordsDict
import HandS.SortInts
import HandS.Conv
import HandS.Zip
import KE.KUnpackStar
import KE.GoesZip
import KE.GoesMore
import KE.GoesEnumKw
import HandS.SortKw
import KE.KDictDisplayH
import HandS.TryOnly
import HandS.Ends
import HandS.HeadEnd
import HandS.Head0
import HandS.Head1
import HandS.Head2
import HandS.HeadHook1
import HandS.HeadHook2
import PyProof.StrLawsRepr
import PyProof.Rows.ReprOcc
import PyProof.Ascii
import PySem.Challenge.RW_nextgivers_k57_rules_of_machines
set_option Elab.async false
set_option linter.all false
set_option maxRecDepth 100000
set_option maxHeartbeats 1000000
namespace Ev
open PySem PySem.Spec PyProof.Rows L2 PySem.W PySem.SeqAt

def rowOk : List PyData → List PyData → Bool
  | x :: xs, y :: ys => alike x y && (!PyData.eqv x y || rowOk xs ys)
  | _, _ => true
theorem rowOk_cons {x y : PyData} {xs ys : List PyData} (h : rowOk (x :: xs) (y :: ys) = true) : alike x y = true ∧ (PyData.eqv x y = true → rowOk xs ys = true) := by
  simp only [rowOk, Bool.and_eq_true, Bool.or_eq_true, Bool.not_eq_true'] at h
  refine ⟨h.1, fun e => ?_⟩
  rcases h.2 with h | h
  · rw [e] at h; cases h
  · exact h
structure RowsOk (ds : List PyData) : Prop where
  row : ∀ d ∈ ds, ∃ x r, d = .tuple (x :: r)
  cmp : ∀ xs ys, PyData.tuple xs ∈ ds → PyData.tuple ys ∈ ds → rowOk xs ys = true
section
variable {prog : Program} {w : World} {A : Around} {E : Value → Shared → Prop} {s : Shared}
theorem katLex_row {b fin : Bool} {Q : Bool → Shared → Prop} : ∀ (xs ys : List PyData) (i : Nat) (vs ws : List Value) (as bs : List Addr), ReadsAll s.heap vs xs as → ReadsAll s.heap ws ys bs → rowOk xs ys = true →
    A.units + min (PyData.depthAll xs) (PyData.depthAll ys) < cLine → (b = true → i = 0 → ∀ x r t, xs = x :: r → x ≠ .tuple t) → fin = decide (xs.length < ys.length) → Q (PyProof.Rows.lexLt itemOrd (keyToksAll xs) (keyToksAll ys)) s → KatLex prog w A b fin Q (vs.zip ws) i s
  | [], [], i, _, _, _, _, ra, rb, _, _, _, hf, hq => by
    cases ra
    cases rb
    have e : fin = false := by rw [hf]; rfl
    subst e
    rw [lex_irrefl] at hq
    exact kat_nil hq
  | [], y :: ys, i, _, _, _, _, ra, rb, _, _, _, hf, hq => by
    cases ra
    have e : fin = true := by rw [hf]; exact decide_eq_true (Nat.succ_pos _)
    subst e
    rw [toks_all_cons] at hq
    simp only [keyToksAll] at hq
    rw [lex_diff (O := itemOrd) (by simp)] at hq
    rw [List.zip_nil_left]
    exact kat_nil (by simpa [itemLt] using hq)
  | x :: xs, [], i, _, _, _, _, ra, rb, _, _, _, hf, hq => by
    cases rb
    have e : fin = false := by rw [hf]; exact decide_eq_false (Nat.not_lt_zero _)
    subst e
    rw [toks_all_cons] at hq
    simp only [keyToksAll] at hq
    rw [lex_diff (O := itemOrd) (by simp)] at hq
    rw [List.zip_nil_right]
    exact kat_nil (by simpa [itemLt] using hq)
  | x :: xs, y :: ys, i, _, _, _, _, ra, rb, h, hu, hb, hf, hq => by
    obtain ⟨h1, h2⟩ := rowOk_cons h
    have hf2 : fin = decide (xs.length < ys.length) := by
      rw [hf]
      simp only [List.length_cons, Nat.add_lt_add_iff_right]
    cases ra with
    | cons r rs =>
      cases rb with
      | cons r2 rs2 =>
        rw [List.zip_cons_cons]
        refine kat_cons (eqAt_alike x y A s _ _ _ _ r r2 h1 (room_head hu) prog w _ _ ?_)
        cases hx : PyData.eqv x y with
        | true =>
          rw [dataLt_all_yes h1 hx] at hq
          exact kat_yes (katLex_row xs ys (i + 1) _ _ _ _ rs rs2 (h2 hx) (room_tail hu) (fun _ hi => absurd hi (Nat.succ_ne_zero i)) hf2 hq)
        | false =>
          rw [dataLt_all_no h1 hx] at hq
          refine kat_no (oneLt_alike (fun hbi t => ?_) r r2 h1 (ne_none_of h1 hx) (room_head hu) hq)
          rw [Bool.and_eq_true] at hbi
          exact hb hbi.1 (by simpa using hbi.2) x xs t rfl
theorem dk_some {h : Heap} {ds : List PyData} {v : Value} {d : PyData} {as : List Addr} (hd : d ∈ ds) (r : Reads h v d as) : (dataKind h ds).keyOf v = some (keyToks d) := by
  have q : ∃ d, d ∈ ds ∧ ∃ as, Reads h v d as := ⟨d, hd, as, r⟩
  have e : (dataKind h ds).keyOf v = some (keyToks q.choose) := by
    show (open Classical in if q : ∃ d, d ∈ ds ∧ ∃ as, Reads h v d as then some (keyToks q.choose) else none) = _
    rw [dif_pos q]
  obtain ⟨h1, as2, h2⟩ := q.choose_spec
  rw [e, (PySem.Reads.unique h2 _ _ r).1]
theorem sortsAt_rows {vs : List Value} {ds : List PyData} (e : EachIs (fun v d => ∃ as, Reads s.heap v d as) vs ds) (hk : RowsOk ds) (hu : ∀ d, d ∈ ds → A.units + d.depth < cLine) : SortsAt prog w A s (dataKind s.heap ds) vs := by
  have room : ∀ {d d2 : PyData}, d ∈ ds → A.units + min d.depth d2.depth < cLine := fun {d d2} hd => Nat.lt_of_le_of_lt (Nat.add_le_add_left (Nat.min_le_left _ _) _) (hu d hd)
  refine ⟨fun v hv => ?_, ?_⟩
  · obtain ⟨d, hd, as, r⟩ := e.left v hv
    exact ⟨_, dk_some hd r⟩
  · cases ds with
    | nil =>
      cases e
      exact ⟨general', fun E x y a b Q ha _ _ => (by
        obtain ⟨d, _, hd, _⟩ := dataKind_inv ha
        exact absurd hd (by simp)), fun h2 => absurd h2 (by simp)⟩
    | cons d0 ds0 =>
      obtain ⟨x0, r0, e0⟩ := hk.row d0 (List.mem_cons_self ..)
      have hfirst : ∀ x r, PyData.tuple (x :: r) ∈ d0 :: ds0 → alike x x0 = true := fun x r hm =>
        (rowOk_cons (hk.cmp _ (x0 :: r0) hm (by rw [← e0]; exact List.mem_cons_self ..))).1
      refine ⟨tuples' (dataType x0 != Value.type "tuple"), ?_, fun h2 E Q hq => ?_⟩
      · intro E x y a b Q ha hb hq
        obtain ⟨d, as, hd, ra, rfl⟩ := dataKind_inv ha
        obtain ⟨d2, as2, hd2, rb, rfl⟩ := dataKind_inv hb
        have hroom := room (d2 := d2) hd
        obtain ⟨x1, r1, rfl⟩ := hk.row d hd
        obtain ⟨x2, r2, rfl⟩ := hk.row d2 hd2
        have hdd := hk.cmp _ _ hd hd2
        have hq2 : Q (dataLt (.tuple (x1 :: r1)) (.tuple (x2 :: r2))) s := hq
        rw [dataLt_tuple] at hq2
        cases ra with
        | @tuple l o xs n _ _ h1 h2 h3 h4 =>
          cases rb with
          | @tuple l2 o2 xs2 n2 _ _ k1 k2 k3 k4 =>
            have n1 : xs.size = (x1 :: r1).length := by simpa using SeqAt.ReadsAll.length _ _ _ h4
            have n2 : xs2.size = (x2 :: r2).length := by simpa using SeqAt.ReadsAll.length _ _ _ k4
            refine kat_lt h1 h3 k1 k3 (katLex_row (x1 :: r1) (x2 :: r2) 0 _ _ _ _ h4 k4 hdd (by have q := SeqAt.room_in hroom; omega) (fun hb _ x r t ex => ?_) (by rw [n1, n2]) hq2)
            obtain ⟨rfl, rfl⟩ := List.cons.inj ex
            have q := dataType_alike (hfirst _ _ hd)
            rw [← q] at hb
            exact dataType_tuple hb t
      · obtain ⟨fs, t1, t2, t3⟩ := each_katTups e hk.row
        refine kat_kind (T := dataType x0) t1 (by omega) (fun f hf => ?_) (beq_self_eq_true _) hq
        obtain ⟨x, r, as, m1, m2⟩ := t3 f hf
        rw [← dataType_alike (hfirst x r m1)]
        exact looks_reads m2
theorem sorted_rows {l : Addr} {R : Value → PyData → Prop} {vs : List Value} {bs : List PyData} {Q : Value → Shared → Prop} (hl : s.heap.IsList l vs.toArray) (e : EachIs R vs bs) (er : EachIs (fun v b => ∃ as, Reads s.heap v b as) vs bs) (hk : RowsOk bs) (hL : bs.length ≤ sizeLine)
    (hu : ∀ b, b ∈ bs → A.units + 2 + b.depth < cLine) (h : ∀ out, EachIs R out (bs.mergeSort (dataLe false fun d => d)) → Q (.ref (s.heap.objs.size + 1)) { s with heap := sortedAll s.heap vs (List.toArray out) }) :
    wpAny (model prog w) A (call (.builtin "sorted") [.ref l]) Q E s := by
  have er2 : EachIs (fun v b => ∃ as, Reads (sortingHeap (copyHeap s.heap vs) (s.heap.objs.size + 1) vs) v b as) vs bs := er.mono fun _ _ ⟨as, r⟩ => ⟨as, PyProof.Rows.Reads.keeps (fun _ _ => sorting_copy_old) r⟩
  refine sorted_vals hl (sortsAt_rows (s := { s with heap := sortingHeap (copyHeap s.heap vs) (s.heap.objs.size + 1) vs }) er2 hk hu) (by rw [e.length]; exact hL) (h _ ?_)
  exact sortVals_each (κ := dataKind (sortingHeap (copyHeap s.heap vs) (s.heap.objs.size + 1) vs) bs) (fun b => keyToks b) e ((each_mem er2).mono fun _ _ ⟨⟨_, r⟩, hd⟩ => dk_some hd r)
end
theorem each_vals {K : PySem.W.Frag} {H : Hp} {R : V → PyData → Prop} : ∀ {out : List Value} {ds : List PyData}, EachIs (fun u d => ∃ v, RelV v u ∧ R v d) out ds → ∃ vs, Vals vs out ∧ EachIs R vs ds
  | _, _, .nil => ⟨[], .nil, .nil⟩
  | _, _, .cons ⟨v, h1, h2⟩ t => by
    obtain ⟨vs, q1, q2⟩ := each_vals (K := K) (H := H) t
    exact ⟨v :: vs, .cons h1 q1, .cons h2 q2⟩
theorem eachV_of {K : PySem.W.Frag} {H : Hp} {R : V → PyData → Prop} : ∀ {xs : List V} {us : List Value} {ds : List PyData}, EachIs R xs ds → Vals xs us → EachIs (fun u d => ∃ v, RelV v u ∧ R v d) us ds
  | _, _, _, .nil, .nil => .nil
  | _, _, _, .cons h t, .cons r rr => .cons ⟨_, r, h⟩ (eachV_of (K := K) (H := H) t rr)
def rSortedR (K : PySem.W.Frag) : List V → Hp → VK → Prop := fun vs H Q => ∃ (a : Addr) (xs : List V) (ds : List PyData) (R : V → PyData → Prop), vs = [V.ref a] ∧ SqL K H a xs ∧ DpAll K H xs ds ∧ EachIs R xs ds ∧ RowsOk ds ∧ (∀ d ∈ ds, d.depth ≤ 62) ∧
  ∀ (ys : List V) (p : Addr), EachIs R ys (ds.mergeSort (dataLe false fun d => d)) → H p = none → Q (.ref p) (upd H p (.lst ys))
section
variable {X : Cx}
theorem cr_sortedR (hu : X.A.units + 65 < cLine) : CallR X (.builtin "sorted") (rSortedR X.K) := by
  intro pins s σ H vs us Q I r h
  obtain ⟨a, xs, ds, R, rfl, hs, hd, he, hk, hdep, q⟩ := h
  obtain ⟨its, rv, hl, hz⟩ := I.list hs
  rw [Vals.ref1 r]
  obtain ⟨as, hr⟩ := Dp.readsAll I ds xs its hd rv
  have er : EachIs (fun v b => ∃ as, Reads s.heap v b as) its ds := by
    have := readsAll_each (h := s.heap) (fun d : PyData => d) (vs := its) (bs := ds) (as := as) (by simpa using hr)
    exact this
  have ln : ds.length = xs.length := by rw [← he.length]
  refine sorted_rows hl.isList (eachV_of (K := X.K) (H := H) he rv) er hk (by rw [ln]; exact hz) (fun b hb => ?_) fun out ho => ?_
  · have := hdep b hb
    omega
  · obtain ⟨ys, y1, y2⟩ := each_vals (K := X.K) (H := H) ho
    obtain ⟨ep, he2⟩ := PyProof.Rows.sortedAll_at s.heap its out.toArray
    have hlen : ys.length ≤ sizeLine := by rw [y2.length, (List.mergeSort_perm ds _).length_eq, ln]; exact hz
    exact ⟨.ref _, upd H (s.heap.objs.size + 1) (.lst ys), I.laid (t' := s.toks) (fun _ _ => PyProof.Rows.sortedAll_old) (Nat.le_succ _) ⟨hlen, out, ep, y1, by simpa using he2⟩, rfl, q ys _ y2 (I.hok.fresh (Nat.le_succ _))⟩
end
end Ev
set_option Elab.async false
set_option linter.all false
namespace Ev
open PySem

abbrev D := PyData

inductive Val where
  | d (x : D)
  | loc (n : Nat)
  | script (ns : List Int)
  | kt (xs : List D)

inductive Tmp where
  | v (x : Val)
  | new (x : D)
  | bor (x : D)

inductive Slot where
  | no
  | val (x : Val)
  | own (x : D)

inductive Box where
  | lst (xs : List Val)
  | dct (kvs : List (L2.Key × Val))
  | dcT (kvs : List (List L2.Key × Val))

abbrev Store := List Box
abbrev Env := List Slot

inductive Out (α : Type) where
  | ok (a : α) (m : Store)
  | exc (c : Str) (fs : List (Str × D)) (m : Store)
  | bad

def Out.bind {α β : Type} (o : Out α) (k : α → Store → Out β) : Out β := match o with
  | .ok a m => k a m
  | .exc c fs m => .exc c fs m
  | .bad => .bad
def give {α : Type} (o : Option α) (m : Store) : Out α := match o with
  | some a => .ok a m
  | none => .bad

abbrev Calls := Str → List Val → Store → Out Tmp

inductive BOp where
  | add | sub | mul | fdiv | mod | pow
inductive COp where
  | lt | le | gt | ge | eq | ne | isN | notN | inn | notin
inductive BFn where
  | len | tupleOf | listOf | repr | sum | all | any | min2 | max2
  | isinst (ts : List String)
  | intOf | strOf
  | min1 | max1 | sorted | listD
inductive MFn where
  | upper
inductive XFn where
  | pop | popAt | append | extend
inductive PFn where
  | index

inductive Tg where
  | name (i : Nat)
  | tup (is : List Tg)

mutual
inductive Ex where
  | var (i : Nat)
  | const (x : D)
  | glob (x : Str) (d : D)
  | tup (es : List Ex)
  | lst (es : List Ex)
  | box (e : Ex)
  | dbox (ks : List Str) (es : List Ex)
  | dnew (t : Bool)
  | din (n : Bool) (k d : Ex)
  | get1 (d k : Ex)
  | get2 (d k f : Ex)
  | bin (o : BOp) (a b : Ex)
  | neg (a : Ex)
  | cmp (o : COp) (a b : Ex)
  | chain (o o' : COp) (a b c : Ex)
  | and (a b : Ex)
  | or (a b : Ex)
  | not (a : Ex)
  | ife (c : Te) (a b : Ex)
  | idx (a i : Ex)
  | slice (a : Ex) (lo hi : Option Ex)
  | rev (a : Ex)
  | call (f : Str) (es : List Ex) (ks : List Str) (ws : List Ex) (arr : List (Nat ⊕ D))
  | bfn (f : BFn) (e : Ex) (es : List Ex)
  | isi (ts : List String) (e : Ex)
  | m0 (f : MFn) (e : Ex)
  | comp (elt : Ex) (tg : Tg) (it : It) (cond : Option Te) (own : List (Str × Nat))
  | comp2 (elt : Ex) (tg : Tg) (it : It) (cond : Option Te) (tg1 : Tg) (it1 : It) (cond1 : Option Te) (own : List (Str × Nat))
  | bad
  | lrng1 (t : Bool) (a : Ex)
  | lrng2 (t : Bool) (a b : Ex)
  | lzip (t s : Bool) (a b : Ex)
  | xm (f : XFn) (o : Ex) (es : List Ex)
  | pm (f : PFn) (o a : Ex)
  | ddis (t : Bool) (es : List Ex)
inductive Te where
  | bad
  | val (e : Ex)
  | din (n : Bool) (k d : Ex)
  | cmp (o : COp) (a b : Ex)
  | chain (o o' : COp) (a b c : Ex)
  | and (a b : Te)
  | or (a b : Te)
  | not (a : Te)
inductive It where
  | rng1 (a : Ex)
  | rng2 (a b : Ex)
  | seq (e : Ex)
  | enum (e : Ex)
  | zip (s : Bool) (a b : Ex)
end

inductive Sm where
  | asg (tg : Tg) (e : Ex)
  | asgS (ts : List Tg) (i : Nat) (e : Ex)
  | par (i j : Nat) (a b : Ex)
  | seti (o i e : Ex)
  | setOwn (x : Nat) (i e : Ex)
  | aug (i : Nat) (o : BOp) (e : Ex)
  | append (x : Nat) (e : Ex)
  | popA (tg : Tg) (x : Nat)
  | expr (e : Ex)
  | ret (e : Ex)
  | retN
  | retOwn (i : Nat)
  | ife (c : Te) (a b : List Sm)
  | forr (tg : Tg) (it : It) (body : List Sm)
  | whil (c : Te) (body : List Sm)
  | brk | cont | pass
  | freeze (i : Nat)
  | bad
  | extend (x : Nat) (e : Ex)
  | asgL (is : List Nat) (e : Ex)
  | forS (ts : List Tg) (i : Nat) (it : It) (body : List Sm)

def Tmp.val? : Tmp → Option Val
  | .v x => some x
  | .new x => some (.d x)
  | .bor _ => none
def Tmp.data? : Tmp → Option D
  | .v (.d x) => some x
  | .v (.kt xs) => some (.tuple xs)
  | .new x => some x
  | .bor x => some x
  | _ => none
def kval : D → Val
  | .tuple xs => .kt xs
  | x => .d x
def Tmp.dataX? : Tmp → Option D
  | .v (.kt _) => none
  | t => t.data?
def Tmp.items? (t : Tmp) : Option (List D) := match t.data? with
  | some (.list xs) => some xs
  | some (.tuple xs) => some xs
  | _ => none

def signs (s : Str) : List D := s.cps.toList.map fun c => .str ⟨#[c]⟩
def Tmp.dataS? (st : Bool) (t : Tmp) : Option D := match t, st with
  | .bor _, true => none
  | t, _ => t.data?
def Tmp.dataZ? (st : Bool) (t : Tmp) : Option D := match t, st with
  | .v x, true => (Tmp.v x).data?
  | _, true => none
  | t, false => t.data?
def Tmp.itemsS? (st : Bool) (t : Tmp) : Option (List D) := match t.dataS? st with
  | some (.list xs) => some xs
  | some (.tuple xs) => some xs
  | some (.str s) => some (signs s)
  | _ => none

def truth (t : Tmp) (m : Store) : Option Bool := match t with
  | .v (.loc n) => match m[n]? with
    | some (.lst xs) => some (!xs.isEmpty)
    | some (.dct kvs) => some (!kvs.isEmpty)
    | _ => none
  | .v (.script ns) => some (!ns.isEmpty)
  | t => match t.data? with
    | some .none => some false
    | some (.bool b) => some b
    | some (.int i) => some (i != 0)
    | some (.str s) => if s.length ≤ sizeLine then some ((s.length : Int) != 0) else none
    | some (.list xs) => some (!xs.isEmpty)
    | some (.tuple xs) => some (!xs.isEmpty)
    | _ => none

def lookKV {κ α : Type} [DecidableEq κ] (kvs : List (κ × α)) (k : κ) : Option α := (kvs.find? fun p => decide (p.1 = k)).map (·.2)
def putKV {κ α : Type} [DecidableEq κ] (kvs : List (κ × α)) (k : κ) (x : α) : List (κ × α) :=
  if (kvs.any fun p => decide (p.1 = k)) = true then kvs.map (fun p => if p.1 = k then (p.1, x) else p) else kvs ++ [(k, x)]
def keysD : List D → Option (List L2.Key)
  | [] => some []
  | .int i :: r => (keysD r).map (Sum.inl i :: ·)
  | .str s :: r => (keysD r).map (Sum.inr s :: ·)
  | _ :: _ => none
def seqAt {α : Type} (xs : List α) (i : Int) : Option α := L2.atI xs i

def idxV (a i : Tmp) (m : Store) : Option Val := match i.data? with
  | some (.int k) => match a with
    | .v (.loc n) => match m[n]? with
      | some (.lst xs) => L2.atI xs k
      | some (.dct kvs) => lookKV kvs (Sum.inl k)
      | _ => none
    | .v (.script ns) => (L2.atI ns k).map fun j => .d (.int j)
    | _ => match a.data? with
      | some (.list xs) => (L2.atI xs k).map .d
      | some (.tuple xs) => (L2.atI xs k).map .d
      | some (.str s) => if s.length ≤ sizeLine then (L2.atI s.cps.toList k).map fun c => .d (.str ⟨#[c]⟩) else none
      | _ => none
  | some (.str s) => match a with
    | .v (.loc n) => match m[n]? with
      | some (.dct kvs) => lookKV kvs (Sum.inr s)
      | _ => none
    | _ => none
  | some (.tuple xs) => match i, a with
    | .v (.d _), .v (.loc n) => match m[n]? with
      | some (.dcT kvs) => (keysD xs).bind fun ks => lookKV kvs ks
      | _ => none
    | _, _ => none
  | _ => none

def dinV (i a : Tmp) (m : Store) : Option Bool := match a with
  | .v (.loc n) => match m[n]? with
    | some (.dct kvs) => match i.data? with
      | some (.int k) => some (lookKV kvs (Sum.inl k)).isSome
      | some (.str s) => some (lookKV kvs (Sum.inr s)).isSome
      | _ => none
    | some (.dcT kvs) => match i with
      | .v (.d (.tuple xs)) => (keysD xs).map fun ks => (lookKV kvs ks).isSome
      | _ => none
    | _ => none
  | _ => none
def isDct (a : Tmp) (m : Store) : Option Unit := match a with
  | .v (.loc n) => match m[n]? with
    | some (.dct _) => some ()
    | some (.dcT _) => some ()
    | _ => none
  | _ => none
def dlook (i a : Tmp) (m : Store) : Option (Option Val) := match a with
  | .v (.loc n) => match m[n]? with
    | some (.dct kvs) => match i.data? with
      | some (.int k) => some (lookKV kvs (Sum.inl k))
      | some (.str s) => some (lookKV kvs (Sum.inr s))
      | _ => none
    | some (.dcT kvs) => match i with
      | .v (.d (.tuple xs)) => (keysD xs).map fun ks => lookKV kvs ks
      | _ => none
    | _ => none
  | _ => none
def cut {α : Type} (xs : List α) (lo hi : Option Int) : List α :=
  (xs.drop (HT.sIx xs.length 0 lo)).take (HT.sIx xs.length xs.length hi - HT.sIx xs.length 0 lo)

def sliceV (a : Tmp) (lo hi : Option Int) : Option Tmp := match a with
  | .v (.script ns) => some (.new (.list ((cut ns lo hi).map .int)))
  | _ => match a.dataX? with
    | some (.list xs) => some (.new (.list (cut xs lo hi)))
    | some (.tuple xs) => some (.v (.d (.tuple (cut xs lo hi))))
    | some (.str z) => if z.length ≤ sizeLine then some (.v (.d (.str (L2.cutS z lo hi)))) else none
    | _ => none

def revV (a : Tmp) : Option Tmp := match a with
  | .v (.script ns) => some (.new (.list (ns.reverse.map .int)))
  | _ => match a.data? with
    | some (.list xs) => some (.new (.list xs.reverse))
    | some (.tuple xs) => some (.v (.d (.tuple xs.reverse)))
    | _ => none

def okMul (i j : Int) : Bool := (decide (-(2 ^ 64) < i) && decide (i < 2 ^ 64)) || (decide (-(2 ^ 64) < j) && decide (j < 2 ^ 64))
def binI : BOp → Int → Int → Option Int
  | .add, i, j => some (i + j)
  | .sub, i, j => some (i - j)
  | .mul, i, j => if okMul i j then some (i * j) else none
  | .fdiv, i, j => if decide (j ≠ 0) && decide (j.natAbs < 1073741824) then some (i.fdiv j) else none
  | .mod, i, j => if j ≠ 0 then some (i.fmod j) else none
  | .pow, i, j => if decide (0 ≤ j) && decide (j ≤ 1000000) && decide (i.natAbs < 2 ^ 64) then some (i ^ j.toNat) else none
def binV (o : BOp) (a b : Tmp) : Option Tmp := match a.dataX?, b.dataX? with
  | some (.int i), some (.int j) => (binI o i j).map fun k => .v (.d (.int k))
  | some (.list xs), some (.list ys) => match o with
    | .add => if xs.length + ys.length ≤ sizeLine then some (.new (.list (xs ++ ys))) else none
    | _ => none
  | some (.tuple xs), some (.tuple ys) => match o with
    | .add => if xs.length + ys.length ≤ sizeLine then some (.v (.d (.tuple (xs ++ ys)))) else none
    | _ => none
  | some (.str x), some (.str y) => match o with
    | .add => if x.length + y.length ≤ sizeLine then some (.v (.d (.str (x ++ y)))) else none
    | _ => none
  | some (.bool k), some (.int j) => match o with
    | .add => some (.v (.d (.int ((if k then 1 else 0) + j))))
    | _ => none
  | some (.tuple xs), some (.int k) => match o with
    | .mul => if !xs.isEmpty && decide (1 ≤ k) && decide (k ≤ 1000) && decide (xs.length ≤ 1000) then some (.v (.d (.tuple (List.replicate k.toNat xs).flatten))) else none
    | _ => none
  | some (.list xs), some (.int k) => match o with
    | .mul => if decide (0 ≤ k) && decide (k ≤ 1000) && decide (xs.length ≤ 1000) then some (.new (.list (List.replicate k.toNat xs).flatten)) else none
    | _ => none
  | _, _ => none

def eqD (x y : D) : Option Bool := match x, y with
  | .str a, .str b => some (decide (a = b))
  | x, y => if SeqAt.shaped x && SeqAt.shaped y then some (PyData.eqv x y) else none
def inD (x : D) (xs : List D) : Option Bool :=
  if SeqAt.shaped x && xs.all SeqAt.shaped then some (xs.any fun y => PyData.eqv y x) else none
def inS (x z : Str) : Option Bool := match x.cps.toList with
  | [c] => some (decide (c ∈ z.cps.toList))
  | _ => none
def cmpV (o : COp) (a b : Tmp) : Option Bool := match o with
  | .isN => match a with
    | .v (.d .none) => some true
    | _ => some false
  | .notN => match a with
    | .v (.d .none) => some false
    | _ => some true
  | .eq => match a.data?, b.data? with
    | some x, some y => eqD x y
    | _, _ => none
  | .ne => match a.data?, b.data? with
    | some x, some y => (eqD x y).map (!·)
    | _, _ => none
  | .inn => match b.data? with
    | some (.str z) => match a.data? with
      | some (.str x) => inS x z
      | _ => none
    | _ => match a.data?, b.items? with
      | some x, some ys => inD x ys
      | _, _ => none
  | .notin => match b.data? with
    | some (.str z) => match a.data? with
      | some (.str x) => (inS x z).map (!·)
      | _ => none
    | _ => match a.data?, b.items? with
      | some x, some ys => (inD x ys).map (!·)
      | _, _ => none
  | .lt => match a.data?, b.data? with
    | some (.int i), some (.int j) => some (decide (i < j))
    | _, _ => none
  | .le => match a.data?, b.data? with
    | some (.int i), some (.int j) => some (decide (i ≤ j))
    | _, _ => none
  | .gt => match a.data?, b.data? with
    | some (.int i), some (.int j) => some (decide (j < i))
    | _, _ => none
  | .ge => match a.data?, b.data? with
    | some (.int i), some (.int j) => some (decide (j ≤ i))
    | _, _ => none

def vB (b : Bool) : Tmp := .v (.d (.bool b))
def vI (i : Int) : Tmp := .v (.d (.int i))

def tyOf : D → String
  | .none => "NoneType"
  | .bool _ => "bool"
  | .int _ => "int"
  | .str _ => "str"
  | .list _ => "list"
  | .tuple _ => "tuple"
  | .dict _ => "dict"
def isTy (d : D) (t : String) : Bool := tyOf d == t || (tyOf d == "bool" && t == "int")

def bools : List D → Option (List Bool)
  | [] => some []
  | .bool b :: r => (bools r).map (b :: ·)
  | _ :: _ => none
def intsD : List D → Option (List Int)
  | [] => some []
  | .int b :: r => (intsD r).map (b :: ·)
  | _ :: _ => none

def strsD : List D → Option (List Str)
  | [] => some []
  | .str b :: r => (strsD r).map (b :: ·)
  | _ :: _ => none
def leS (a b : Str) : Bool := !PySem.Spec.ltCps b.cps.toList a.cps.toList
def rowB : D → D → Bool
  | .tuple (x :: xs), .tuple (y :: ys) => rowOk (x :: xs) (y :: ys)
  | _, _ => false
def rowsB (ds : List D) : Bool := ds.all fun d => decide (d.depth ≤ 62) && ds.all fun e => rowB d e
def sortRows (ds : List D) : List D := ds.mergeSort (PySem.W.dataLe false fun d => d)
def sortD (xs : List D) : Option (List D) := match intsD xs with
  | some ns => some ((ns.mergeSort fun a b => decide (a ≤ b)).map .int)
  | none => match strsD xs with
    | some ss => if ss.length < 64 then some ((ss.mergeSort leS).map .str) else none
    | none => if rowsB xs then some (sortRows xs) else none
def keyD : L2.Key → D
  | .inl i => .int i
  | .inr s => .str s
def bfnV : BFn → List Tmp → Store → Option Tmp
  | .len, [t], m => match t with
    | .v (.loc n) => match m[n]? with
      | some (.lst xs) => some (vI xs.length)
      | _ => none
    | .v (.script ns) => some (vI ns.length)
    | t => match t.data? with
      | some (.str s) => if s.length ≤ sizeLine then some (vI s.length) else none
      | some (.list xs) => some (vI xs.length)
      | some (.tuple xs) => some (vI xs.length)
      | _ => none
  | .tupleOf, [t], _ => match t.dataX? with
    | some (.list xs) => some (.v (.d (.tuple xs)))
    | some (.tuple xs) => some (.v (.d (.tuple xs)))
    | _ => none
  | .listOf, [t], _ => match t with
    | .v (.script ns) => some (.new (.list (ns.map .int)))
    | t => t.items?.map fun xs => .new (.list xs)
  | .repr, [t], _ => match t.data? with
    | some d => if PyData.showable d && SeqAt.shaped d && decide ((PyData.shown d).length ≤ sizeLine) then some (.v (.d (.str (PyData.shown d)))) else none
    | none => none
  | .sum, [t], _ => match t.data? with
    | some (.list xs) => (intsD xs).map fun ns => vI ns.sum
    | _ => none
  | .all, [t], _ => match t.data? with
    | some (.list xs) => (bools xs).map fun bs => vB (bs.all id)
    | _ => none
  | .any, [t], _ => match t.data? with
    | some (.list xs) => (bools xs).map fun bs => vB (bs.any id)
    | _ => none
  | .min2, [a, b], _ => match a.data?, b.data? with
    | some (.int i), some (.int j) => some (vI (if j < i then j else i))
    | _, _ => none
  | .max2, [a, b], _ => match a.data?, b.data? with
    | some (.int i), some (.int j) => some (vI (if j > i then j else i))
    | _, _ => none
  | .isinst ts, [t], _ => match t.data? with
    | some d => some (vB (ts.any (isTy d)))
    | none => none
  | .intOf, [t], _ => match t.data? with
    | some (.int i) => some (vI i)
    | some (.bool k) => some (vI (if k then 1 else 0))
    | _ => none
  | .strOf, [t], _ => match t.data? with
    | some (.int i) => if i.natAbs.log2 < 1920 then some (.v (.d (.str (PyData.shown (.int i))))) else none
    | some (.bool k) => some (.v (.d (.str (PyData.shown (.bool k)))))
    | some (.str x) => some (.v (.d (.str x)))
    | _ => none
  | .min1, [t], _ => match t.data? with
    | some (.list xs) => (intsD xs).bind fun ns => ns.min?.map vI
    | _ => none
  | .max1, [t], _ => match t.data? with
    | some (.list xs) => (intsD xs).bind fun ns => ns.max?.map vI
    | _ => none
  | .sorted, [t], _ => match t.data? with
    | some (.list xs) => (sortD xs).map fun ys => .new (.list ys)
    | _ => none
  | .listD, [t], m => match t with
    | .v (.loc n) => match m[n]? with
      | some (.dct kvs) => some (.new (.list (kvs.map fun p => keyD p.1)))
      | some (.dcT kvs) => some (.new (.list (kvs.map fun p => .tuple (p.1.map keyD))))
      | _ => none
    | _ => none
  | _, _, _ => none

def mfnV : MFn → Tmp → Option Tmp
  | .upper, t => match t.data? with
    | some (.str x) => if x.length ≤ 5592405 then some (.v (.d (.str (Txt.upper x)))) else none
    | _ => none

def idxD (y : D) : List D → Option Nat
  | [] => none
  | x :: r => if PyData.eqv x y then some 0 else (idxD y r).map (· + 1)
def pfnV : PFn → Tmp → Tmp → Option Tmp
  | .index, t, u => match t.data?, u.data? with
    | some (.list xs), some y => if SeqAt.shaped y && SeqAt.shaped (.list xs) then (idxD y xs).map fun (i : Nat) => vI i else none
    | _, _ => none
def valsT (t : Val) (m : Store) : Option (List Val) := match t with
  | .loc n => match m[n]? with
    | some (.lst xs) => some xs
    | _ => none
  | .d (.list xs) => some (xs.map .d)
  | _ => none
def isLst (a : Tmp) (m : Store) : Option Unit := match a with
  | .v (.loc n) => match m[n]? with
    | some (.lst _) => some ()
    | _ => none
  | _ => none
def isSeq (a : Tmp) : Option Unit := match a.data? with
  | some (.list _) => some ()
  | _ => none
def xfnV : XFn → Tmp → List Val → Store → Option (Val × Store)
  | .pop, .v (.loc n), [], m => match m[n]? with
    | some (.lst xs) => xs.getLast?.map fun x => (x, m.set n (.lst xs.dropLast))
    | _ => none
  | .popAt, .v (.loc n), [.d (.int i)], m => match m[n]? with
    | some (.lst xs) => if decide (-(2 ^ 63) ≤ i) && decide (i < 2 ^ 63) then (L2.ixN xs.length i).bind fun k => xs[k]?.map fun x => (x, m.set n (.lst (xs.eraseIdx k))) else none
    | _ => none
  | .append, .v (.loc n), [v], m => match m[n]? with
    | some (.lst xs) => if xs.length < sizeLine then some (.d .none, m.set n (.lst (xs ++ [v]))) else none
    | _ => none
  | .extend, .v (.loc n), [v], m => match m[n]?, valsT v m with
    | some (.lst xs), some ys => if xs.length + ys.length ≤ sizeLine then some (.d .none, m.set n (.lst (xs ++ ys))) else none
    | _, _ => none
  | _, _, _, _ => none
def augI : BOp → Int → Int → Option Int
  | .add, p, q => some (p + q)
  | .sub, p, q => some (p - q)
  | .mul, p, q => if okMul p q then some (p * q) else none
  | _, _, _ => none

mutual
def asg : Tg → Val → Env → Option Env
  | .name i, x, r => if i < r.length then some (r.set i (.val x)) else none
  | .tup ts, .d (.tuple xs), r => asgs ts xs r
  | .tup _, _, _ => none
def asgs : List Tg → List D → Env → Option Env
  | [], [], r => some r
  | t :: ts, x :: xs, r => (asg t (.d x) r).bind fun r' => asgs ts xs r'
  | _, _, _ => none
end
def asgT (tg : Tg) (t : Tmp) (r : Env) : Option Env := match t with
  | .v x => asg tg x r
  | .new x => match tg with
    | .name i => if i < r.length then some (r.set i (.own x)) else none
    | _ => none
  | .bor _ => none

mutual
def slots : Tg → List Nat
  | .name i => [i]
  | .tup ts => slotss ts
def slotss : List Tg → List Nat
  | [] => []
  | t :: ts => slots t ++ slotss ts
end
def compL (f : Val → Store → Out (Option D)) : List Val → Store → List D → Out (List D)
  | [], m, acc => .ok acc m
  | x :: xs, m, acc => match f x m with
    | .ok (some d) m' => if acc.length < sizeLine then compL f xs m' (acc ++ [d]) else .bad
    | .ok none m' => compL f xs m' acc
    | _ => .bad

def compL2 (f : Val → Store → Out (Option (List Val × Env))) (g : Env → Val → Store → Out (Option D)) : List Val → Store → List D → Out (List D)
  | [], m, acc => .ok acc m
  | x :: xs, m, acc => match f x m with
    | .ok (some (ys, r)) m1 => match compL (g r) ys m1 acc with
      | .ok acc' m2 => compL2 f g xs m2 acc'
      | _ => .bad
    | .ok none m1 => compL2 f g xs m1 acc
    | _ => .bad
def rngL (lo hi : Int) : List Val := (List.range (hi - lo).toNat).map fun i => .d (.int (lo + (i : Nat)))
def small62 (i : Int) : Bool := decide (-(2 ^ 62) ≤ i) && decide (i < 2 ^ 62)

def fill : List (Nat ⊕ D) → List Val → Option (List Val)
  | [], _ => some []
  | .inl i :: r, xs => match xs[i]?, fill r xs with
    | some x, some zs => some (x :: zs)
    | _, _ => none
  | .inr d :: r, xs => (fill r xs).map (kval d :: ·)
def toD (t : Tmp) : Option D := match t.val? with
  | some (.d x) => some x
  | _ => none
def compF (tgt : Tg) (r0 : Env) (ft : Env → Store → Out Bool) (fe : Env → Store → Out Tmp) (x : Val) (m : Store) : Out (Option D) := match asg tgt x r0 with
  | some r1 => (ft r1 m).bind fun k m => if k then (fe r1 m).bind fun y m => give ((toD y).map some) m else .ok none m
  | none => .bad
def wipeE (r : Env) : List Nat → Env
  | [] => r
  | v :: vs => (wipeE r vs).set v .no

def getInt (t : Tmp) : Option Int := match t.data? with
  | some (.int i) => some i
  | _ => none
def enumL : Nat → List D → List Val
  | _, [] => []
  | i, x :: xs => .d (.tuple [.int i, x]) :: enumL (i + 1) xs
def zipL : List D → List D → List Val
  | x :: xs, y :: ys => .d (.tuple [x, y]) :: zipL xs ys
  | _, _ => []

def rngT (t : Bool) (i j : Int) : Option Tmp :=
  if small62 i && small62 j && decide ((j - i).toNat ≤ 16777216) then (if t then some (.v (.d (.tuple ((List.range (j - i).toNat).map fun k => .int (i + (k : Nat)))))) else some (.new (.list ((List.range (j - i).toNat).map fun k => .int (i + (k : Nat)))))) else none
def itemsZ (st : Bool) (t : Tmp) : Option (List D) := match t.dataZ? st with
  | some (.list xs) => some xs
  | some (.tuple xs) => some xs
  | _ => none
def seqD : D → Option (List D)
  | .list xs => some xs
  | .tuple xs => some xs
  | _ => none
def zipT (a b : Option (List D)) : Option (List Val) := match a, b with
  | some xs, some ys => if xs.length = ys.length then some (zipL xs ys) else none
  | _, _ => none
def zipS (st s : Bool) (t u : Tmp) : Option (List Val) := if s then zipT ((t.dataZ? st).bind seqD) ((u.dataZ? st).bind seqD) else match t.dataZ? st, u.dataZ? st with
  | some (.list xs), some (.list ys) => some (zipL xs ys)
  | some (.tuple xs), some (.tuple ys) => some (zipL xs ys)
  | _, _ => none
def zipD : List D → List D → List D
  | x :: xs, y :: ys => .tuple [x, y] :: zipD xs ys
  | _, _ => []
def zipV (_ : Bool) (_ _ : Tmp) : Option (List D) := none
def compG (tgt : Tg) (r0 : Env) (ft : Env → Store → Out Bool) (fi : Env → Store → Out (List Val)) (x : Val) (m : Store) : Out (Option (List Val × Env)) := match asg tgt x r0 with
  | some r1 => (ft r1 m).bind fun k m => if k then (fi r1 m).bind fun ys m => .ok (some (ys, r1)) m else .ok none m
  | none => .bad
def keyOf : Val → Option L2.Key
  | .d (.int i) => some (.inl i)
  | .d (.str s) => some (.inr s)
  | _ => none
def keysOf : Val → Option (List L2.Key)
  | .d (.tuple xs) => keysD xs
  | _ => none
def pairUp : List Val → Option (List (Val × Val))
  | [] => some []
  | k :: v :: r => (pairUp r).map ((k, v) :: ·)
  | _ => none
def dispK (ps : List (Val × Val)) : Option Box := if ps.length ≤ 15 then (ps.mapM fun p => (keyOf p.1).map fun k => (k, p.2)).map fun kvs => .dct (kvs.foldl (fun acc p => putKV acc p.1 p.2) []) else none
def dispT (ps : List (Val × Val)) : Option Box := if ps.length ≤ 15 then (ps.mapM fun p => (keysOf p.1).map fun k => (k, p.2)).map fun kvs => .dcT (kvs.foldl (fun acc p => putKV acc p.1 p.2) []) else none

mutual
def evE (c : Calls) : Ex → Env → Store → Out Tmp
  | .var i, r, m => match r[i]? with
    | some (.val x) => .ok (.v x) m
    | some (.own x) => .ok (.bor x) m
    | _ => .bad
  | .const x, _, m => .ok (.v (.d x)) m
  | .glob _ x, _, m => .ok (.v (kval x)) m
  | .tup es, r, m => (evDs c es r m).bind fun xs m => if xs.length ≤ sizeLine then .ok (.v (.d (.tuple xs))) m else .bad
  | .lst es, r, m => (evDs c es r m).bind fun xs m => if xs.length ≤ sizeLine then .ok (.new (.list xs)) m else .bad
  | .box e, r, m => (evE c e r m).bind fun t m => match t with
    | .new (.list xs) => .ok (.v (.loc m.length)) (m ++ [.lst (xs.map .d)])
    | _ => .bad
  | .dbox ks es, r, m => (evVs c es r m).bind fun xs m => if xs.length = ks.length ∧ ks.Nodup then .ok (.v (.loc m.length)) (m ++ [.dct ((ks.map Sum.inr).zip xs)]) else .bad
  | .dnew t, _, m => .ok (.v (.loc m.length)) (m ++ [if t then .dcT [] else .dct []])
  | .din n k d, r, m => (evE c k r m).bind fun x m => (evE c d r m).bind fun y m => give ((dinV x y m).map fun b => vB (if n then !b else b)) m
  | .get1 d k, r, m => (evE c d r m).bind fun y m => (give (isDct y m) m).bind fun _ m => (evE c k r m).bind fun x m => give ((dlook x y m).map fun o => .v (o.getD (.d .none))) m
  | .get2 d k f, r, m => (evE c d r m).bind fun y m => (give (isDct y m) m).bind fun _ m => (evE c k r m).bind fun x m => (evE c f r m).bind fun t m => (give t.val? m).bind fun z m => give ((dlook x y m).map fun o => .v (o.getD z)) m
  | .bin o a b, r, m => (evE c a r m).bind fun x m => (evE c b r m).bind fun y m => give (binV o x y) m
  | .neg a, r, m => (evE c a r m).bind fun x m => give ((getInt x).map fun i => vI (-i)) m
  | .cmp o a b, r, m => (evE c a r m).bind fun x m => (evE c b r m).bind fun y m => give ((cmpV o x y).map vB) m
  | .chain o o' a b z, r, m => (evE c a r m).bind fun x m => (evE c b r m).bind fun y m => (give (cmpV o x y) m).bind fun k m =>
      if k then (evE c z r m).bind fun u m => give ((cmpV o' y u).map vB) m else .ok (vB false) m
  | .and a b, r, m => (evE c a r m).bind fun x m => match x with
    | .v (.d (.bool k)) => if k then evE c b r m else .ok (vB false) m
    | _ => .bad
  | .or a b, r, m => (evE c a r m).bind fun x m => match x with
    | .v (.d (.bool k)) => if k then .ok (vB true) m else evE c b r m
    | _ => .bad
  | .not a, r, m => (evE c a r m).bind fun x m => match x with
    | .v (.d (.bool k)) => .ok (vB (!k)) m
    | _ => .bad
  | .ife t a b, r, m => (evT c t r m).bind fun k m => if k then evE c a r m else evE c b r m
  | .idx a i, r, m => (evE c a r m).bind fun x m => (evE c i r m).bind fun y m => give ((idxV x y m).map .v) m
  | .slice a lo hi, r, m => (evE c a r m).bind fun x m => (evO c lo r m).bind fun l m => (evO c hi r m).bind fun h m => give (sliceV x l h) m
  | .rev a, r, m => (evE c a r m).bind fun x m => give (revV x) m
  | .call f es ks ws arr, r, m => (evVs c es r m).bind fun xs m => (evVs c ws r m).bind fun ys m => (give (fill arr (xs ++ ys)) m).bind fun zs m => c f zs m
  | .bfn f e es, r, m => ((evE c e r m).bind fun x m => (evTs c es r m).bind fun xs m => .ok (x :: xs) m).bind fun xs m => give (bfnV f xs m) m
  | .isi ts e, r, m => ((evE c e r m).bind fun x m => .ok [x] m).bind fun xs m => give (bfnV (.isinst ts) xs m) m
  | .m0 f e, r, m => (evE c e r m).bind fun x m => give (mfnV f x) m
  | .comp elt tg it cond own, r, m => (evI c false it r m).bind fun xs m => (compL (compF tg (wipeE r (own.map (·.2))) (evC c cond) (evE c elt)) xs m []).bind fun ys m => .ok (.new (.list ys)) m
  | .comp2 elt tg it cond tg1 it1 cond1 own, r, m => (evI c false it r m).bind fun xs m => (compL2 (compG tg (wipeE r (own.map (·.2))) (evC c cond) (evI c true it1)) (fun r1 => compF tg1 (wipeE r1 (slots tg1)) (evC c cond1) (evE c elt)) xs m []).bind fun ys m => .ok (.new (.list ys)) m
  | .bad, _, _ => .bad
  | .lrng1 t a, r, m => (evE c a r m).bind fun x m => give ((getInt x).bind fun j => rngT t 0 j) m
  | .lrng2 t a b, r, m => (evE c a r m).bind fun x m => (evE c b r m).bind fun y m => give ((getInt x).bind fun i => (getInt y).bind fun j => rngT t i j) m
  | .lzip t s a b, r, m => (evE c a r m).bind fun x m => (evE c b r m).bind fun y m => give ((zipV s x y).bind fun xs => if t then some (.v (.d (.tuple xs))) else some (.new (.list xs))) m
  | .xm f o es, r, m => (evE c o r m).bind fun x m => (give (isLst x m) m).bind fun _ m => (evVs c es r m).bind fun ys m => (give (xfnV f x ys m) m).bind fun p _ => .ok (.v p.1) p.2
  | .pm f o a, r, m => (evE c o r m).bind fun x m => (give (isSeq x) m).bind fun _ m => (evE c a r m).bind fun y m => give (pfnV f x y) m
  | .ddis t es, r, m => (evVs c es r m).bind fun xs m => (give ((pairUp xs).bind fun kvs => if t then dispT kvs else dispK kvs) m).bind fun b m => .ok (.v (.loc m.length)) (m ++ [b])
termination_by structural x => x
def evT (c : Calls) : Te → Env → Store → Out Bool
  | .bad, _, _ => .bad
  | .and a b, r, m => (evT c a r m).bind fun k m => if k then evT c b r m else .ok false m
  | .or a b, r, m => (evT c a r m).bind fun k m => if k then .ok true m else evT c b r m
  | .not a, r, m => (evT c a r m).bind fun k m => .ok (!k) m
  | .val e, r, m => (evE c e r m).bind fun t m => give (truth t m) m
  | .din n k d, r, m => (evE c k r m).bind fun x m => (evE c d r m).bind fun y m => give ((dinV x y m).map fun b => if n then !b else b) m
  | .cmp o a b, r, m => (evE c a r m).bind fun x m => (evE c b r m).bind fun y m => give (cmpV o x y) m
  | .chain o o' a b z, r, m => (evE c a r m).bind fun x m => (evE c b r m).bind fun y m => (give (cmpV o x y) m).bind fun k m =>
      if k then (evE c z r m).bind fun u m => give (cmpV o' y u) m else .ok false m
termination_by structural x => x
def evTs (c : Calls) : List Ex → Env → Store → Out (List Tmp)
  | [], _, m => .ok [] m
  | e :: es, r, m => (evE c e r m).bind fun x m => (evTs c es r m).bind fun xs m => .ok (x :: xs) m
termination_by structural x => x
def evVs (c : Calls) : List Ex → Env → Store → Out (List Val)
  | [], _, m => .ok [] m
  | e :: es, r, m => (evE c e r m).bind fun t m => (give t.val? m).bind fun x m => (evVs c es r m).bind fun xs m => .ok (x :: xs) m
termination_by structural x => x
def evDs (c : Calls) : List Ex → Env → Store → Out (List D)
  | [], _, m => .ok [] m
  | e :: es, r, m => (evE c e r m).bind fun t m => (give (toD t) m).bind fun x m => (evDs c es r m).bind fun xs m => .ok (x :: xs) m
termination_by structural x => x
def evC (c : Calls) : Option Te → Env → Store → Out Bool
  | none => fun _ m => .ok true m
  | some t => evT c t
termination_by structural x => x
def evO (c : Calls) : Option Ex → Env → Store → Out (Option Int)
  | none, _, m => .ok none m
  | some e, r, m => (evE c e r m).bind fun t m => give ((getInt t).map some) m
termination_by structural x => x
def evI (c : Calls) (st : Bool) : It → Env → Store → Out (List Val)
  | .rng1 a, r, m => (evE c a r m).bind fun t m => (give (getInt t) m).bind fun i m => if small62 i then .ok (rngL 0 i) m else .bad
  | .rng2 a b, r, m => (evE c a r m).bind fun t m => (evE c b r m).bind fun u m => (give (getInt t) m).bind fun i m => (give (getInt u) m).bind fun j m =>
      if small62 i && small62 j then .ok (rngL i j) m else .bad
  | .seq e, r, m => (evE c e r m).bind fun t m => (give (t.itemsS? st) m).bind fun xs m => .ok (xs.map .d) m
  | .enum e, r, m => (evE c e r m).bind fun t m => match t.dataS? st with
    | some (.list xs) => .ok (enumL 0 xs) m
    | some (.tuple xs) => .ok (enumL 0 xs) m
    | _ => .bad
  | .zip s a b, r, m => (evE c a r m).bind fun t m => (evE c b r m).bind fun u m => (give (zipS st s t u) m).bind fun xs m => .ok xs m
termination_by structural x => x
end

inductive Fl where
  | nx (r : Env)
  | rt (t : Tmp)
  | bk (r : Env)
  | ct (r : Env)

def forL (f : Val → Env → Store → Out Fl) : List Val → Env → Store → Out Fl
  | [], r, m => .ok (.nx r) m
  | x :: xs, r, m => (f x r m).bind fun o m => match o with
    | .nx r => forL f xs r m
    | .ct r => forL f xs r m
    | .bk r => .ok (.nx r) m
    | .rt t => .ok (.rt t) m

def forF (tg : Tg) (f : Env → Store → Out Fl) (x : Val) (r : Env) (m : Store) : Out Fl := match asg tg x r with
  | some r => f r m
  | none => .bad
def forFS (ts : List Tg) (i : Nat) (f : Env → Store → Out Fl) (x : Val) (r : Env) (m : Store) : Out Fl := match (Tmp.v x).items? with
  | some xs => if ts.length ≤ xs.length ∧ xs.length ≤ 16384 then match asgs ts (xs.take ts.length) r with
    | some r' => if i < r'.length then f (r'.set i (.own (.list (xs.drop ts.length)))) m else .bad
    | none => .bad
    else .bad
  | none => .bad
def asgLs : List Nat → List Val → Env → Option Env
  | [], [], r => some r
  | i :: is, x :: xs, r => if i < r.length then asgLs is xs (r.set i (.val x)) else none
  | _, _, _ => none
def whilN (t : Env → Store → Out Bool) (f : Env → Store → Out Fl) : Nat → Env → Store → Option (Out Fl)
  | 0, _, _ => none
  | n + 1, r, m => match t r m with
    | .ok k m1 => if k then (match f r m1 with
        | .ok (.nx r2) m2 => whilN t f n r2 m2
        | .ok (.ct r2) m2 => whilN t f n r2 m2
        | .ok (.bk r2) m2 => some (.ok (.nx r2) m2)
        | .ok (.rt x) m2 => some (.ok (.rt x) m2)
        | .exc c fs m2 => some (.exc c fs m2)
        | .bad => some .bad) else some (.ok (.nx r) m1)
    | .exc c fs m1 => some (.exc c fs m1)
    | .bad => some .bad
open Classical in
noncomputable def whilL (t : Env → Store → Out Bool) (f : Env → Store → Out Fl) (r : Env) (m : Store) : Out Fl :=
  if h : ∃ n, (whilN t f n r m).isSome then (whilN t f (choose h) r m).getD .bad else .bad

def ownList (r : Env) (x : Nat) : Option (List D) := match r[x]? with
  | some (.own (.list xs)) => some xs
  | _ => none
def setBox (m : Store) (a i : Tmp) (v : Val) : Option Store := match a with
  | .v (.loc n) => match m[n]? with
    | some (.lst xs) => match getInt i with
      | some k => (L2.ixN xs.length k).map fun j => m.set n (.lst (xs.set j v))
      | none => none
    | some (.dct kvs) => match i.data? with
      | some (.str s) => if kvs.length < sizeLine then some (m.set n (.dct (putKV kvs (Sum.inr s) v))) else none
      | some (.int k) => if kvs.length < sizeLine then some (m.set n (.dct (putKV kvs (Sum.inl k) v))) else none
      | _ => none
    | some (.dcT kvs) => match i with
      | .v (.d (.tuple xs)) => match keysD xs with
        | some ks => if kvs.length < sizeLine then some (m.set n (.dcT (putKV kvs ks v))) else none
        | none => none
      | _ => none
    | none => none
  | _ => none

mutual
noncomputable def evS (c : Calls) : Sm → Env → Store → Out Fl
  | .asg tg e, r, m => (evE c e r m).bind fun t m => (give (asgT tg t r) m).bind fun r m => .ok (.nx r) m
  | .asgS ts i e, r, m => (evE c e r m).bind fun t m => (give t.items? m).bind fun xs m => if ts.length ≤ xs.length ∧ xs.length ≤ 16384 then (give (asgs ts (xs.take ts.length) r) m).bind fun r' m =>
      if i < r'.length then .ok (.nx (r'.set i (.own (.list (xs.drop ts.length))))) m else .bad else .bad
  | .par i j a b, r, m => (evE c a r m).bind fun t m => (evE c b r m).bind fun u m => (give (asgT (.name i) t r) m).bind fun r m =>
      (give (asgT (.name j) u r) m).bind fun r m => .ok (.nx r) m
  | .seti o i e, r, m => (evE c e r m).bind fun t m => (give t.val? m).bind fun x m => (evE c o r m).bind fun a m => (evE c i r m).bind fun k m =>
      (give (setBox m a k x) m).bind fun m' _ => .ok (.nx r) m'
  | .setOwn x i e, r, m => (give (ownList r x) m).bind fun xs m => (evE c e r m).bind fun t m => (give (toD t) m).bind fun y m => (evE c i r m).bind fun k m => (give (getInt k) m).bind fun k m =>
      (give (L2.ixN xs.length k) m).bind fun j m => .ok (.nx (r.set x (.own (.list (xs.set j y))))) m
  | .aug i o e, r, m => (evE c (.var i) r m).bind fun x m => (evE c e r m).bind fun y m => match (getInt x).bind fun p => (getInt y).bind fun q => augI o p q with
    | some k => if i < r.length then .ok (.nx (r.set i (.val (.d (.int k))))) m else .bad
    | none => .bad
  | .append x e, r, m => (give (ownList r x) m).bind fun xs m => (evE c e r m).bind fun t m => (give (toD t) m).bind fun y m =>
      if xs.length < sizeLine then .ok (.nx (r.set x (.own (.list (xs ++ [y]))))) m else .bad
  | .popA tg x, r, m => (give (ownList r x) m).bind fun xs m => (give xs.getLast? m).bind fun y m =>
      (give (asg tg (.d y) (r.set x (.own (.list xs.dropLast)))) m).bind fun r m => .ok (.nx r) m
  | .expr e, r, m => (evE c e r m).bind fun _ m => .ok (.nx r) m
  | .ret e, r, m => (evE c e r m).bind fun t m => match t with
    | .bor _ => .bad
    | t => .ok (.rt t) m
  | .retN, _, m => .ok (.rt (.v (.d .none))) m
  | .retOwn i, r, m => match r[i]? with
    | some (.own x) => .ok (.rt (.new x)) m
    | _ => .bad
  | .ife t a b, r, m => (evT c t r m).bind fun k m => if k then evSs c a r m else evSs c b r m
  | .forr tg it body, r, m => (evI c true it r m).bind fun xs m => forL (forF tg (evSs c body)) xs r m
  | .forS ts i it body, r, m => (evI c true it r m).bind fun xs m => forL (forFS ts i (evSs c body)) xs r m
  | .bad, _, _ => .bad
  | .extend x e, r, m => (give (ownList r x) m).bind fun xs m => (evE c e r m).bind fun t m => match t.data? with
    | some (.list ys) => if xs.length + ys.length ≤ sizeLine then .ok (.nx (r.set x (.own (.list (xs ++ ys))))) m else .bad
    | _ => .bad
  | .asgL is e, r, m => (evE c e r m).bind fun t m => match t with
    | .v (.loc n) => match m[n]? with
      | some (.lst xs) => (give (asgLs is xs r) m).bind fun r' m => .ok (.nx r') m
      | _ => .bad
    | _ => .bad
  | .whil t body, r, m => whilL (evT c t) (evSs c body) r m
  | .brk, r, m => .ok (.bk r) m
  | .cont, r, m => .ok (.ct r) m
  | .pass, r, m => .ok (.nx r) m
  | .freeze i, r, m => match r[i]? with
    | some (.own x) => .ok (.nx (r.set i (.val (.d x)))) m
    | _ => .ok (.nx r) m
termination_by structural x => x
noncomputable def evSs (c : Calls) : List Sm → Env → Store → Out Fl
  | [], r, m => .ok (.nx r) m
  | s :: ss, r, m => (evS c s r m).bind fun o m => match o with
    | .nx r => evSs c ss r m
    | o => .ok o m
termination_by structural x => x
end

structure Fn where
  ps : List Str
  ns : List Str
  body : List Sm
def startE (f : Fn) (xs : List Val) : Env := xs.map .val ++ List.replicate (f.ns.length - xs.length) .no
noncomputable def run (c : Calls) (f : Fn) (xs : List Val) (m : Store) : Out Tmp :=
  if xs.length = f.ps.length then (evSs c f.body (startE f xs) m).bind fun o m => match o with
    | .rt t => .ok t m
    | .nx _ => .ok (.v (.d .none)) m
    | _ => .bad
  else .bad
abbrev Defs := Str → Option Fn
noncomputable def evF0 (G : Defs) : Nat → Calls
  | 0 => fun _ _ _ => .bad
  | n + 1 => fun x vs m => match G x with
    | some f => run (evF0 G n) f vs m
    | none => .bad
@[irreducible] noncomputable def evF (G : Defs) (n : Nat) : Calls := evF0 G n
theorem evF_is (G : Defs) (n : Nat) : evF G n = evF0 G n := by delta evF; rfl
theorem evF_succ {G : Defs} {n : Nat} {x : Str} {vs : List Val} {m : Store} : evF G (n + 1) x vs m = match G x with
    | some f => run (evF G n) f vs m
    | none => .bad := by rw [evF_is, evF_is]; rfl
theorem evF_zero {G : Defs} {x : Str} {vs : List Val} {m : Store} : evF G 0 x vs m = .bad := by rw [evF_is]; rfl
end Ev
set_option Elab.async false
set_option linter.all false
namespace Ev
open PySem PySem.Spec L2

structure Wd where
  F : Addr → Prop
  io : List Addr

mutual
inductive Den (K : PySem.W.Frag) (w : Wd) (H : Hp) : V → D → Prop
  | non : Den K w H .non .none
  | bl (b : Bool) : Den K w H (.bl b) (.bool b)
  | int (i : Int) : Den K w H (.int i) (.int i)
  | str (x : Str) : Den K w H (.str x) (.str x)
  | lst {a : Addr} {xs : List V} {ds : List D} : w.F a → H a = some (.lst xs) → Dens K w H xs ds → Den K w H (.ref a) (.list ds)
  | tup {a : Addr} {xs : List V} {ds : List D} : H a = some (.tup xs) → Dens K w H xs ds → Den K w H (.ref a) (.tuple ds)
inductive Dens (K : PySem.W.Frag) (w : Wd) (H : Hp) : List V → List D → Prop
  | nil : Dens K w H [] []
  | cons {v : V} {vs : List V} {d : D} {ds : List D} : Den K w H v d → Dens K w H vs ds → Dens K w H (v :: vs) (d :: ds)
end

section
variable {K : PySem.W.Frag} {w w' w2 : Wd} {H H' H2 : Hp}

mutual
theorem Den.dp : ∀ {v : V} {d : D}, Den K w H v d → Dp K H v d
  | _, .none, .non => .non
  | _, .bool _, .bl b => .bl b
  | _, .int _, .int i => .int i
  | _, .str _, .str x => .str x
  | _, .list _, .lst _ h r => .lst (SqL.of h) (Dens.dps r)
  | _, .tuple _, .tup h r => .tup (SqT.of h) (Dens.dps r)
theorem Dens.dps : ∀ {vs : List V} {ds : List D}, Dens K w H vs ds → DpAll K H vs ds
  | _, [], .nil => .nil
  | _, _ :: _, .cons h r => .cons (Den.dp h) (Dens.dps r)
end
theorem Dens.length : ∀ {vs : List V} {ds : List D}, Dens K w H vs ds → vs.length = ds.length
  | _, [], .nil => rfl
  | _, _ :: _, .cons _ r => congrArg (· + 1) (Dens.length r)
theorem Dens.at : ∀ {vs : List V} {ds : List D} {i : Nat} {d : D}, Dens K w H vs ds → ds[i]? = some d → ∃ v, vs[i]? = some v ∧ Den K w H v d
  | _, [], _, _, .nil, e => by simp at e
  | _, _ :: _, 0, _, .cons h _, e => by simp at e; subst e; exact ⟨_, rfl, h⟩
  | _, _ :: _, i + 1, _, .cons _ r, e => by simpa using Dens.at (i := i) r (by simpa using e)
theorem Dens.atV : ∀ {vs : List V} {ds : List D} {i : Nat} {v : V}, Dens K w H vs ds → vs[i]? = some v → ∃ d, ds[i]? = some d ∧ Den K w H v d
  | _, [], _, _, .nil, e => by simp at e
  | _, _ :: _, 0, _, .cons h _, e => by simp at e; subst e; exact ⟨_, rfl, h⟩
  | _, _ :: _, i + 1, _, .cons _ r, e => by simpa using Dens.atV (i := i) r (by simpa using e)
theorem Dens.append : ∀ {vs us : List V} {ds es : List D}, Dens K w H vs ds → Dens K w H us es → Dens K w H (vs ++ us) (ds ++ es)
  | _, _, [], _, .nil, s => s
  | _, _, _ :: _, _, .cons h r, s => .cons h (Dens.append r s)
theorem Dens.take : ∀ {vs : List V} {ds : List D} (n : Nat), Dens K w H vs ds → Dens K w H (vs.take n) (ds.take n)
  | _, _, 0, _ => .nil
  | _, [], _ + 1, .nil => .nil
  | _, _ :: _, n + 1, .cons h r => .cons h (Dens.take n r)
theorem Dens.drop : ∀ {vs : List V} {ds : List D} (n : Nat), Dens K w H vs ds → Dens K w H (vs.drop n) (ds.drop n)
  | _, _, 0, r => r
  | _, [], _ + 1, .nil => .nil
  | _, _ :: _, n + 1, .cons _ r => Dens.drop n r
theorem Dens.set : ∀ {vs : List V} {ds : List D} {v : V} {d : D} (n : Nat), Den K w H v d → Dens K w H vs ds → Dens K w H (vs.set n v) (ds.set n d)
  | _, [], _, _, _, _, .nil => .nil
  | _, _ :: _, _, _, 0, q, .cons _ r => .cons q r
  | _, _ :: _, _, _, n + 1, q, .cons h r => .cons h (Dens.set n q r)
theorem Dens.ints : ∀ (ns : List Int), Dens K w H (ns.map V.int) (ns.map PyData.int)
  | [] => .nil
  | n :: ns => .cons (.int n) (Dens.ints ns)

structure WOk (w : Wd) (H : Hp) : Prop where
  ff : ∀ a, w.F a → a ∉ w.io
  fl : ∀ a, w.F a → H a ≠ none
  im : ∀ a, a ∈ w.io → Mut (H a)
  nd : w.io.Nodup
structure Step (w : Wd) (H : Hp) (w' : Wd) (H' : Hp) : Prop where
  fm : ∀ a, w.F a → w'.F a
  io : ∃ l, w'.io = w.io ++ l ∧ ∀ a ∈ l, H a = none
  fn : ∀ a, w'.F a → w.F a ∨ H a = none
  ext : ∀ a o, H a = some o → (a ∈ w.io → ¬ Mut (some o)) → H' a = some o
  dom : ∀ a, H' a = none → H a = none
theorem Step.refl (w : Wd) (H : Hp) : Step w H w H :=
  ⟨fun _ h => h, ⟨[], by simp, by simp⟩, fun _ h => .inl h, fun _ _ h _ => h, fun _ h => h⟩
theorem Step.trans (ok : WOk w H) (a : Step w H w' H') (b : Step w' H' w2 H2) : Step w H w2 H2 where
  fm := fun x h => b.fm x (a.fm x h)
  io := by
    obtain ⟨l, e, f⟩ := a.io
    obtain ⟨l2, e2, f2⟩ := b.io
    refine ⟨l ++ l2, by rw [e2, e, List.append_assoc], fun x hx => ?_⟩
    rcases List.mem_append.mp hx with h | h
    · exact f x h
    · exact a.dom x (f2 x h)
  fn := fun x h => by
    rcases b.fn x h with h | h
    · exact a.fn x h
    · exact .inr (a.dom x h)
  ext := fun x o h hm => by
    have h1 := a.ext x o h hm
    refine b.ext x o h1 fun hx => ?_
    obtain ⟨l, e, f⟩ := a.io
    rw [e] at hx
    rcases List.mem_append.mp hx with q | q
    · exact hm q
    · rw [f x q] at h
      cases h
  dom := fun x h => a.dom x (b.dom x h)

theorem Step.seqT (s : Step w H w' H') {a : Addr} {xs : List V} (h : SqT K H a xs) : SqT K H' a xs := by
  rcases h with (h | ⟨o, h⟩) | h
  · exact .inl (.inl (s.ext _ _ h fun _ z => z))
  · exact .inl (.inr ⟨o, s.ext _ _ h fun _ z => z⟩)
  · exact .inr h
mutual
theorem Den.step (ok : WOk w H) (s : Step w H w' H') : ∀ {v : V} {d : D}, Den K w H v d → Den K w' H' v d
  | _, .none, .non => .non
  | _, .bool _, .bl b => .bl b
  | _, .int _, .int i => .int i
  | _, .str _, .str x => .str x
  | _, .list _, .lst f h r => .lst (s.fm _ f) (s.ext _ _ h fun z => absurd z (ok.ff _ f)) (Dens.step ok s r)
  | _, .tuple _, .tup h r => .tup (s.ext _ _ h fun _ z => z) (Dens.step ok s r)
theorem Dens.step (ok : WOk w H) (s : Step w H w' H') : ∀ {vs : List V} {ds : List D}, Dens K w H vs ds → Dens K w' H' vs ds
  | _, [], .nil => .nil
  | _, _ :: _, .cons h r => .cons (Den.step ok s h) (Dens.step ok s r)
end

def ScR (K : PySem.W.Frag) (H : Hp) (a : Addr) (ns : List Int) : Prop :=
  (∃ o, H a = some (.frz o (.lst (ns.map .int)))) ∨
    ∃ (o : Obj) (its : Array Value) (n : Nat), K.lookup a = some o ∧ o.cls = .type "list" ∧ o.dict = none ∧ o.data = .seq its n ∧ its.size ≤ sizeLine ∧ Vals (ns.map V.int) its.toList
theorem ScR.seq {a : Addr} {ns : List Int} (h : ScR K H a ns) : SqL K H a (ns.map .int) := by
  rcases h with ⟨o, h⟩ | h
  · exact .inl (.inr ⟨o, h⟩)
  · exact .inr h
theorem ScR.step (s : Step w H w' H') {a : Addr} {ns : List Int} (h : ScR K H a ns) : ScR K H' a ns := by
  rcases h with ⟨o, h⟩ | h
  · exact .inl ⟨o, s.ext _ _ h fun _ z => z⟩
  · exact .inr h

def ValR (K : PySem.W.Frag) (w : Wd) (H : Hp) (v : V) : Val → Prop
  | .d x => Den K w H v x
  | .loc n => ∃ a, v = .ref a ∧ w.io[n]? = some a
  | .script ns => ∃ a, v = .ref a ∧ ScR K H a ns
  | .kt ds => ∃ a xs, v = .ref a ∧ SqT K H a xs ∧ Dens K w H xs ds
def ConR (K : PySem.W.Frag) (w : Wd) (H : Hp) (a : Addr) : D → Prop
  | .list ds => ∃ xs, H a = some (.lst xs) ∧ Dens K w H xs ds
  | _ => False
def TmpR (K : PySem.W.Frag) (w : Wd) (H : Hp) (v : V) : Tmp → Prop
  | .v x => ValR K w H v x
  | .new d => ∃ a, v = .ref a ∧ ConR K w H a d ∧ ¬ w.F a ∧ a ∉ w.io
  | .bor d => ∃ a, v = .ref a ∧ ConR K w H a d ∧ a ∉ w.io
def BoxR (K : PySem.W.Frag) (w : Wd) (H : Hp) (a : Addr) : Box → Prop
  | .lst xs => ∃ vs, H a = some (.lst vs) ∧ Paired (ValR K w H) vs xs
  | .dct kvs => ∃ vs, H a = some (.dK vs) ∧ Paired (fun (p : Key × V) (q : Key × Val) => p.1 = q.1 ∧ ValR K w H p.2 q.2) vs kvs
  | .dcT kvs => ∃ vs, H a = some (.dT vs) ∧ Paired (fun (p : List Key × V) (q : List Key × Val) => p.1 = q.1 ∧ ValR K w H p.2 q.2) vs kvs
structure StR (K : PySem.W.Frag) (w : Wd) (H : Hp) (m : Store) : Prop where
  len : w.io.length = m.length
  at_ : ∀ (n : Nat) (a : Addr) (b : Box), w.io[n]? = some a → m[n]? = some b → BoxR K w H a b
structure EnvR (K : PySem.W.Frag) (w : Wd) (H : Hp) (σ : L2.St) (r : Env) : Prop where
  len : σ.length = r.length
  val : ∀ (i : Nat) (x : Val), r[i]? = some (.val x) → ∃ v, σ[i]? = some (some v) ∧ ValR K w H v x
  own : ∀ (i : Nat) (x : D), r[i]? = some (.own x) → ∃ v, σ[i]? = some (some v) ∧ TmpR K w H v (.new x)
  inj : ∀ (i j : Nat) (x y : D) (v : V), r[i]? = some (.own x) → r[j]? = some (.own y) → σ[i]? = some (some v) → σ[j]? = some (some v) → i = j

theorem ValR.step (ok : WOk w H) (s : Step w H w' H') {v : V} : ∀ {x : Val}, ValR K w H v x → ValR K w' H' v x
  | .d _, h => Den.step ok s h
  | .loc n, ⟨a, e, h⟩ => by
    obtain ⟨l, e2, _⟩ := s.io
    refine ⟨a, e, ?_⟩
    rw [e2]
    have hn : n < w.io.length := (List.getElem?_eq_some_iff.mp h).1
    rw [List.getElem?_append_left hn]
    exact h
  | .script _, ⟨a, e, h⟩ => ⟨a, e, h.step s⟩
  | .kt _, ⟨a, xs, e, h, q⟩ => ⟨a, xs, e, s.seqT h, q.step ok s⟩
theorem ConR.step (ok : WOk w H) (s : Step w H w' H') {a : Addr} (hn : a ∉ w.io) : ∀ {d : D}, ConR K w H a d → ConR K w' H' a d := fun {d} h => by
  cases d with
  | list ds =>
    obtain ⟨xs, h, r⟩ := h
    exact ⟨xs, s.ext _ _ h fun z => absurd z hn, r.step ok s⟩
  | _ => exact h.elim
theorem ConR.some {a : Addr} {d : D} (h : ConR K w H a d) : H a ≠ none := by
  cases d with
  | list ds =>
    obtain ⟨xs, h, r⟩ := h
    rw [h]
    simp
  | _ => exact h.elim
theorem Step.notF (s : Step w H w' H') {a : Addr} (h : H a ≠ none) (n : ¬ w.F a) : ¬ w'.F a := fun z => by
  rcases s.fn a z with q | q
  · exact n q
  · exact h q
theorem Step.notIo (s : Step w H w' H') {a : Addr} (h : H a ≠ none) (n : a ∉ w.io) : a ∉ w'.io := fun z => by
  obtain ⟨l, e, f⟩ := s.io
  rw [e] at z
  rcases List.mem_append.mp z with q | q
  · exact n q
  · exact h (f a q)
theorem newStep (ok : WOk w H) (s : Step w H w' H') {v : V} {d : D} (h : TmpR K w H v (.new d)) : TmpR K w' H' v (.new d) := by
  obtain ⟨a, e, c, n1, n2⟩ := h
  exact ⟨a, e, c.step ok s n2, s.notF c.some n1, s.notIo c.some n2⟩
theorem EnvR.step {σ : L2.St} {r : Env} (ok : WOk w H) (s : Step w H w' H') (h : EnvR K w H σ r) : EnvR K w' H' σ r where
  len := h.len
  val := fun i x e => let ⟨v, e1, q⟩ := h.val i x e; ⟨v, e1, q.step ok s⟩
  own := fun i x e => let ⟨v, e1, q⟩ := h.own i x e; ⟨v, e1, newStep ok s q⟩
  inj := h.inj
end
end Ev
set_option Elab.async false
set_option linter.all false
namespace Ev
open PySem PySem.Spec L2

def XcR (K : PySem.W.Frag) (mg : Str → Option Value) (w : Wd) (H : Hp) (cls : Value) (d : Option Addr) (c : Str) (fs : List (Str × D)) : Prop :=
  ∃ (C dx : Addr) (vs : List (Str × V)), mg c = some (.ref C) ∧ cls = .ref C ∧ d = some dx ∧ H dx = some (.xd vs) ∧ Paired (fun (p : Str × V) (q : Str × D) => p.1 = q.1 ∧ Den K w H p.2 q.2) vs fs

abbrev Rel (β α : Type) := Hp → Wd → Hp → β → α → Prop
def RMono {β α : Type} (R : Rel β α) : Prop := ∀ (H H1 : Hp) (w' : Wd) (H' : Hp) (y : β) (x : α), (∀ a, H1 a = none → H a = none) → R H1 w' H' y x → R H w' H' y x

section
variable {K : PySem.W.Frag} {mg : Str → Option Value} {E : XK} {w w' w1 w2 : Wd} {H H' H1 H2 : Hp} {m m' m1 : Store} {σ : L2.St} {r : Env}

def Post (K : PySem.W.Frag) (mg : Str → Option Value) (E : XK) {β α : Type} (R : Rel β α) (w : Wd) (H : Hp) (o : Out α) (Q : β → Hp → Prop) : Prop := match o with
  | .ok x m => ∀ y w' H', Step w H w' H' → WOk w' H' → StR K w' H' m → R H w' H' y x → Q y H'
  | .exc c fs m => ∀ cls d w' H', Step w H w' H' → WOk w' H' → StR K w' H' m → XcR K mg w' H' cls d c fs → E cls d H'
  | .bad => False

def FrT (H : Hp) (v : V) : Tmp → Prop
  | .new _ => ∀ a, v = .ref a → H a = none
  | _ => True
def RT (K : PySem.W.Frag) : Rel V Tmp := fun H w' H' v t => TmpR K w' H' v t ∧ FrT H v t
def RV (K : PySem.W.Frag) : Rel V Val := fun _ w' H' v x => ValR K w' H' v x
def RD (K : PySem.W.Frag) : Rel V D := fun _ w' H' v x => Den K w' H' v x
def RTs (K : PySem.W.Frag) : Rel (List V) (List Tmp) := fun _ w' H' vs ts => Paired (TmpR K w' H') vs ts
def RVs (K : PySem.W.Frag) : Rel (List V) (List Val) := fun _ w' H' vs xs => Paired (ValR K w' H') vs xs
def RDs (K : PySem.W.Frag) : Rel (List V) (List D) := fun _ w' H' vs xs => Dens K w' H' vs xs
def REq {α : Type} : Rel α α := fun _ _ _ x y => x = y

theorem FrT.mono {v : V} {t : Tmp} (h : ∀ a, H1 a = none → H a = none) (f : FrT H1 v t) : FrT H v t := by
  cases t with
  | new x => exact fun a e => h a (f a e)
  | _ => trivial
theorem mRT : RMono (RT K) := fun _ _ _ _ _ _ h q => ⟨q.1, q.2.mono h⟩
theorem mRVs : RMono (RVs K) := fun _ _ _ _ _ _ _ q => q
theorem mRDs : RMono (RDs K) := fun _ _ _ _ _ _ _ q => q
theorem mREq {α : Type} : RMono (REq (α := α)) := fun _ _ _ _ _ _ _ q => q
theorem mRTs : RMono (RTs K) := fun _ _ _ _ _ _ _ q => q

theorem Post.step {β α : Type} {R : Rel β α} {o : Out α} {Q : β → Hp → Prop} (hm : RMono R) (ok : WOk w H) (s : Step w H w1 H1) (p : Post K mg E R w H o Q) : Post K mg E R w1 H1 o Q := by
  cases o with
  | ok x m => exact fun y w' H' s' o' t' q => p y w' H' (s.trans ok s') o' t' (hm _ _ _ _ _ _ s.dom q)
  | exc c fs m => exact fun cls d w' H' s' o' t' q => p cls d w' H' (s.trans ok s') o' t' q
  | bad => exact p
theorem Post.imp {β α : Type} {R : Rel β α} {o : Out α} {Q Q' : β → Hp → Prop} (p : Post K mg E R w H o Q) (h : ∀ y H', Q y H' → Q' y H') : Post K mg E R w H o Q' := by
  cases o with
  | ok x m => exact fun y w' H' s' o' t' q => h _ _ (p y w' H' s' o' t' q)
  | exc c fs m => exact p
  | bad => exact p
theorem Post.bind {β α β' α' : Type} {R : Rel β α} {R' : Rel β' α'} {o : Out α'} {k : α' → Store → Out α} {Q : β → Hp → Prop} {Q' : β' → Hp → Prop} (hm : RMono R) (ok : WOk w H) (p : Post K mg E R w H (o.bind k) Q)
    (h : ∀ x m1 y w1 H1, Step w H w1 H1 → WOk w1 H1 → StR K w1 H1 m1 → R' H w1 H1 y x → Post K mg E R w1 H1 (k x m1) Q → Q' y H1) : Post K mg E R' w H o Q' := by
  cases o with
  | ok x m => exact fun y w1 H1 s1 o1 t1 q => h x m y w1 H1 s1 o1 t1 q (Post.step hm ok s1 p)
  | exc c fs m => exact p
  | bad => exact p
theorem Post.here {β α : Type} {R : Rel β α} {x : α} {m : Store} {Q : β → Hp → Prop} (ok : WOk w H) (st : StR K w H m) (p : Post K mg E R w H (.ok x m) Q) {y : β} (q : R H w H y x) : Q y H :=
  p y w H (Step.refl w H) ok st q
theorem Post.given {β α : Type} {R : Rel β α} {o : Option α} {m : Store} {Q : β → Hp → Prop} (p : Post K mg E R w H (give o m) Q) : ∃ x, o = some x ∧ Post K mg E R w H (.ok x m) Q := by
  cases o with
  | some x => exact ⟨x, rfl, p⟩
  | none => exact p.elim

def TR (K : PySem.W.Frag) (mg : Str → Option Value) (E : XK) {β α : Type} (R : Rel β α) (f : Env → Store → Out α) : L2.St → Hp → (β → Hp → Prop) → Prop := fun σ H Q =>
  ∃ w r m, WOk w H ∧ StR K w H m ∧ EnvR K w H σ r ∧ Post K mg E R w H (f r m) Q

theorem grow_step (h : ∀ a o, H a = some o → H' a = some o) : Step w H w H' :=
  ⟨fun _ q => q, ⟨[], by simp, by simp⟩, fun _ q => .inl q, fun a o q _ => h a o q, fun a q => by
    cases e : H a with
    | none => rfl
    | some o =>
      rw [h a o e] at q
      cases q⟩
theorem grow_ok (h : ∀ a o, H a = some o → H' a = some o) (ok : WOk w H) : WOk w H' where
  ff := ok.ff
  fl := fun a q z => ok.fl a q ((grow_step (w := w) h).dom a z)
  im := fun a q => by
    have z := ok.im a q
    cases e : H a with
    | none => rw [e] at z; exact z.elim
    | some o => rw [h a o e, ← e]; exact z
  nd := ok.nd
theorem ValR.grow (ok : WOk w H) (h : ∀ a o, H a = some o → H' a = some o) {v : V} {x : Val} (q : ValR K w H v x) : ValR K w H' v x := q.step ok (grow_step h)
theorem BoxR.grow (ok : WOk w H) (h : ∀ a o, H a = some o → H' a = some o) {a : Addr} {b : Box} (q : BoxR K w H a b) : BoxR K w H' a b := by
  cases b with
  | lst xs =>
    obtain ⟨vs, e, p⟩ := q
    exact ⟨vs, h _ _ e, Paired.mapP p fun _ _ z => z.grow ok h⟩
  | dct kvs =>
    obtain ⟨vs, e, p⟩ := q
    exact ⟨vs, h _ _ e, Paired.mapP p fun _ _ z => ⟨z.1, z.2.grow ok h⟩⟩
  | dcT kvs =>
    obtain ⟨vs, e, p⟩ := q
    exact ⟨vs, h _ _ e, Paired.mapP p fun _ _ z => ⟨z.1, z.2.grow ok h⟩⟩
theorem StR.grow (ok : WOk w H) (h : ∀ a o, H a = some o → H' a = some o) (st : StR K w H m) : StR K w H' m :=
  ⟨st.len, fun n a b e1 e2 => (st.at_ n a b e1 e2).grow ok h⟩
theorem grow_upd {p : Addr} {o : HO} (hp : H p = none) : ∀ a u, H a = some u → upd H p o a = some u := fun a u e => by
  rw [upd_ne (ne_of_none e hp)]
  exact e
end

def Wd.add (w : Wd) (a : Addr) : Wd := ⟨fun b => w.F b ∨ b = a, w.io⟩
section
variable {K : PySem.W.Frag} {mg : Str → Option Value} {E : XK} {w w' w1 w2 : Wd} {H H' H1 H2 : Hp} {m m' m1 : Store} {σ : L2.St} {r : Env} {a : Addr} {d : D}
theorem add_ok (ok : WOk w H) (c : ConR K w H a d) (n : a ∉ w.io) : WOk (w.add a) H where
  ff := fun b h => by
    rcases h with h | rfl
    · exact ok.ff b h
    · exact n
  fl := fun b h => by
    rcases h with h | rfl
    · exact ok.fl b h
    · exact c.some
  im := ok.im
  nd := ok.nd
mutual
theorem Den.add : ∀ {v : V} {x : D}, Den K w H v x → Den K (w.add a) H v x
  | _, .none, .non => .non
  | _, .bool _, .bl b => .bl b
  | _, .int _, .int i => .int i
  | _, .str _, .str x => .str x
  | _, .list _, .lst f h q => .lst (.inl f) h (Dens.add q)
  | _, .tuple _, .tup h q => .tup h (Dens.add q)
theorem Dens.add : ∀ {vs : List V} {xs : List D}, Dens K w H vs xs → Dens K (w.add a) H vs xs
  | _, [], .nil => .nil
  | _, _ :: _, .cons h q => .cons (Den.add h) (Dens.add q)
end
theorem ValR.add {v : V} : ∀ {x : Val}, ValR K w H v x → ValR K (w.add a) H v x
  | .d _, h => Den.add h
  | .loc _, h => h
  | .script _, h => h
  | .kt _, ⟨b, xs, e, h, q⟩ => ⟨b, xs, e, h, q.add⟩
theorem StR.add (st : StR K w H m) : StR K (w.add a) H m := ⟨st.len, fun n b x e1 e2 => by
  have q := st.at_ n b x e1 e2
  cases x with
  | lst xs =>
    obtain ⟨vs, e, p⟩ := q
    exact ⟨vs, e, Paired.mapP p fun _ _ z => z.add⟩
  | dct kvs =>
    obtain ⟨vs, e, p⟩ := q
    exact ⟨vs, e, Paired.mapP p fun _ _ z => ⟨z.1, z.2.add⟩⟩
  | dcT kvs =>
    obtain ⟨vs, e, p⟩ := q
    exact ⟨vs, e, Paired.mapP p fun _ _ z => ⟨z.1, z.2.add⟩⟩⟩
theorem ConR.den (c : ConR K w H a d) : Den K (w.add a) H (.ref a) d := by
  cases d with
  | list ds =>
    obtain ⟨xs, e, q⟩ := c
    exact .lst (.inr rfl) e q.add
  | _ => exact c.elim
theorem Step.add (s : Step w H w1 H1) (h : H a = none) : Step w H (w1.add a) H1 where
  fm := fun b q => .inl (s.fm b q)
  io := s.io
  fn := fun b q => by
    rcases q with q | rfl
    · exact s.fn b q
    · exact .inr h
  ext := s.ext
  dom := s.dom
theorem Post.toVal {f : Out Tmp} {Q : V → Hp → Prop} (p : Post K mg E (RV K) w H (f.bind fun t m => give t.val? m) Q) : Post K mg E (RT K) w H f Q := by
  cases f with
  | ok t m =>
    intro y w1 H1 s1 ok1 st1 q
    cases t with
    | v x => exact p y w1 H1 s1 ok1 st1 q.1
    | new d =>
      obtain ⟨⟨a, rfl, c, n1, n2⟩, fr⟩ := q
      exact p _ (w1.add a) H1 (s1.add (fr a rfl)) (add_ok ok1 c n2) st1.add c.den
    | bor d => exact p.elim
  | exc c fs m => exact p
  | bad => exact p
theorem Post.toD {f : Out Tmp} {Q : V → Hp → Prop} (p : Post K mg E (RD K) w H (f.bind fun t m => give (toD t) m) Q) : Post K mg E (RT K) w H f Q := by
  cases f with
  | ok t m =>
    intro y w1 H1 s1 ok1 st1 q
    cases t with
    | v x =>
      cases x with
      | d x => exact p y w1 H1 s1 ok1 st1 q.1
      | loc n => exact p.elim
      | script ns => exact p.elim
      | kt ns => exact p.elim
    | new d =>
      obtain ⟨⟨a, rfl, c, n1, n2⟩, fr⟩ := q
      exact p _ (w1.add a) H1 (s1.add (fr a rfl)) (add_ok ok1 c n2) st1.add c.den
    | bor d => exact p.elim
  | exc c fs m => exact p
  | bad => exact p
end

section
variable {K : PySem.W.Frag} {w w' : Wd} {H H' : Hp} {v : V} {t : Tmp} {d : D}
theorem TmpR.dp (h : TmpR K w H v t) (e : t.data? = some d) : Dp K H v d := by
  cases t with
  | v x =>
    cases x with
    | d x =>
      cases e
      exact h.dp
    | loc n => cases e
    | script ns => cases e
    | kt ns =>
      cases e
      obtain ⟨a, xs, rfl, h1, q⟩ := h
      exact .tup h1 q.dps
  | new x =>
    cases e
    obtain ⟨a, rfl, c, _⟩ := h
    cases d with
    | list ds =>
      obtain ⟨xs, e1, q⟩ := c
      exact .lst (SqL.of e1) q.dps
    | _ => exact c.elim
  | bor x =>
    cases e
    obtain ⟨a, rfl, c, _⟩ := h
    cases d with
    | list ds =>
      obtain ⟨xs, e1, q⟩ := c
      exact .lst (SqL.of e1) q.dps
    | _ => exact c.elim
theorem TmpR.int {i : Int} (h : TmpR K w H v t) (e : t.data? = some (.int i)) : v = .int i := by
  cases h.dp e
  rfl
theorem TmpR.str {x : Str} (h : TmpR K w H v t) (e : t.data? = some (.str x)) : v = .str x := by
  cases h.dp e
  rfl
theorem TmpR.bl {b : Bool} (h : TmpR K w H v t) (e : t.data? = some (.bool b)) : v = .bl b := by
  cases h.dp e
  rfl
theorem TmpR.list {ds : List D} (h : TmpR K w H v t) (e : t.data? = some (.list ds)) : ∃ a xs, v = .ref a ∧ H a = some (.lst xs) ∧ Dens K w H xs ds := by
  cases t with
  | v x =>
    cases x with
    | d x =>
      cases e
      cases h with
      | lst _ h q => exact ⟨_, _, rfl, h, q⟩
    | loc n => cases e
    | script ns => cases e
    | kt ns => cases e
  | new x =>
    cases e
    obtain ⟨a, rfl, ⟨xs, e1, q⟩, _⟩ := h
    exact ⟨a, xs, rfl, e1, q⟩
  | bor x =>
    cases e
    obtain ⟨a, rfl, ⟨xs, e1, q⟩, _⟩ := h
    exact ⟨a, xs, rfl, e1, q⟩
theorem TmpR.tup {ds : List D} (h : TmpR K w H v t) (e : t.data? = some (.tuple ds)) : ∃ a xs, v = .ref a ∧ SqT K H a xs ∧ Dens K w H xs ds := by
  cases t with
  | v x =>
    cases x with
    | d x =>
      cases e
      cases h with
      | tup h q => exact ⟨_, _, rfl, .of h, q⟩
    | loc n => cases e
    | script ns => cases e
    | kt ns =>
      cases e
      obtain ⟨a, xs, rfl, h1, q⟩ := h
      exact ⟨a, xs, rfl, h1, q⟩
  | new x =>
    cases e
    obtain ⟨a, rfl, c, _⟩ := h
    exact c.elim
  | bor x =>
    cases e
    obtain ⟨a, rfl, c, _⟩ := h
    exact c.elim
theorem Tmp.dataX_data {t : Tmp} {d : D} (e : t.dataX? = some d) : t.data? = some d := by
  unfold Tmp.dataX? at e
  split at e
  · cases e
  · exact e
theorem TmpR.tupX {ds : List D} (h : TmpR K w H v t) (e : t.dataX? = some (.tuple ds)) : ∃ a xs, v = .ref a ∧ H a = some (.tup xs) ∧ Dens K w H xs ds := by
  cases t with
  | v x =>
    cases x with
    | d x =>
      cases e
      cases h with
      | tup h q => exact ⟨_, _, rfl, h, q⟩
    | loc n => cases e
    | script ns => cases e
    | kt ns => cases e
  | new x =>
    cases e
    obtain ⟨a, rfl, c, _⟩ := h
    exact c.elim
  | bor x =>
    cases e
    obtain ⟨a, rfl, c, _⟩ := h
    exact c.elim
theorem TmpR.items {ds : List D} (h : TmpR K w H v t) (e : t.items? = some ds) : ∃ a xs, v = .ref a ∧ (SqL K H a xs ∨ SqT K H a xs) ∧ Dens K w H xs ds := by
  unfold Tmp.items? at e
  split at e
  · rename_i xs e1
    cases e
    obtain ⟨a, ys, rfl, q, z⟩ := h.list e1
    exact ⟨a, ys, rfl, .inl (.of q), z⟩
  · rename_i xs e1
    cases e
    obtain ⟨a, ys, rfl, q, z⟩ := h.tup e1
    exact ⟨a, ys, rfl, .inr q, z⟩
  · cases e
theorem TmpR.step (ok : WOk w H) (s : Step w H w' H') (h : TmpR K w H v t) : TmpR K w' H' v t := by
  cases t with
  | v x => exact ValR.step ok s h
  | new x => exact newStep ok s h
  | bor x =>
    obtain ⟨a, rfl, c, n⟩ := h
    exact ⟨a, rfl, c.step ok s n, s.notIo c.some n⟩
end
end Ev
set_option Elab.async false
set_option linter.all false
namespace Ev
open PySem PySem.Spec L2

section
variable {K : PySem.W.Frag} {mg : Str → Option Value} {E : XK} {w w' w1 w2 : Wd} {H H' H1 H2 : Hp} {m m' m1 : Store} {x y v : V} {t u : Tmp} {Q : V → Hp → Prop}

theorem notF_new (ok : WOk w H) {p : Addr} (hp : H p = none) : ¬ w.F p := fun z => ok.fl p z hp
theorem notIo_new (ok : WOk w H) {p : Addr} (hp : H p = none) : p ∉ w.io := fun z => by
  have q := ok.im p z
  rw [hp] at q
  exact q
theorem Post.newList (ok : WOk w H) (st : StR K w H m) {ds : List D} {xs : List V} (p : Post K mg E (RT K) w H (.ok (.new (.list ds)) m) Q) (r : Dens K w H xs ds) (a : Addr) (ha : H a = none) : Q (.ref a) (upd H a (.lst xs)) :=
  p _ w _ (grow_step (grow_upd ha)) (grow_ok (grow_upd ha) ok) (st.grow ok (grow_upd ha))
    ⟨⟨a, rfl, ⟨xs, upd_same, r.step ok (grow_step (grow_upd ha))⟩, notF_new ok ha, notIo_new ok ha⟩, fun b e => by cases e; exact ha⟩
theorem Post.newTup (ok : WOk w H) (st : StR K w H m) {ds : List D} {xs : List V} (p : Post K mg E (RT K) w H (.ok (.v (.d (.tuple ds))) m) Q) (r : Dens K w H xs ds) (a : Addr) (ha : H a = none) : Q (.ref a) (upd H a (.tup xs)) :=
  p _ w _ (grow_step (grow_upd ha)) (grow_ok (grow_upd ha) ok) (st.grow ok (grow_upd ha))
    ⟨(show ValR K w _ _ (.d (.tuple _)) from Den.tup upd_same (r.step ok (grow_step (grow_upd ha)))), trivial⟩
theorem Post.int (ok : WOk w H) (st : StR K w H m) {i : Int} (p : Post K mg E (RT K) w H (.ok (vI i) m) Q) : Q (.int i) H := p.here ok st ⟨(show ValR K w H _ (.d (.int i)) from Den.int i), trivial⟩
theorem Post.bl (ok : WOk w H) (st : StR K w H m) {b : Bool} (p : Post K mg E (RT K) w H (.ok (vB b) m) Q) : Q (.bl b) H := p.here ok st ⟨(show ValR K w H _ (.d (.bool b)) from Den.bl b), trivial⟩
theorem Post.str (ok : WOk w H) (st : StR K w H m) {z : Str} (p : Post K mg E (RT K) w H (.ok (.v (.d (.str z))) m) Q) : Q (.str z) H := p.here ok st ⟨(show ValR K w H _ (.d (.str z)) from Den.str z), trivial⟩

def astB : BOp → Operator
  | .add => .Add
  | .sub => .Sub
  | .mul => .Mult
  | .fdiv => .FloorDiv
  | .mod => .Mod
  | .pow => .Pow
def rStrAdd : R2 := fun x y H Q => ∃ i j, x = .str i ∧ y = .str j ∧ i.length + j.length ≤ sizeLine ∧ Q (.str (i ++ j)) H
def rBlAdd : R2 := fun x y H Q => ∃ (k : Bool) (j : Int), x = .bl k ∧ y = .int j ∧ Q (.int ((if k then 1 else 0) + j)) H
theorem op_add_bl {X : Cx} : OpR X (binaryOp .Add) rBlAdd := by
  intro pins s σ H x y v u Q I rx ry h
  obtain ⟨k, j, rfl, rfl, q⟩ := h
  cases rx
  obtain ⟨t, rfl⟩ := ry
  exact PySem.IntBool.add_bool_int ⟨.int _, H, I.tok _, ⟨_, rfl⟩, q⟩
section
open PyProof.Rows
set_option maxRecDepth 100000
set_option maxHeartbeats 4000000
theorem tuple_mul1 (l : Addr) (items : Array Value) (n : Nat) (dd : Option Addr) (sl : Array (Option Value)) (u : Tok) :
    Meets (Builtin.«tuple.__mul__» ⟨[.ref l, .int 1 u], []⟩) (fun _ R s => s.heap.get? l = some { cls := .type "tuple", dict := dd, data := .seq items n, slots := sl } ∧
      R (.ok (.ret (Value.ref l))) s) :=
  .of_wp fun prog w A R s h => by
    obtain ⟨hp, g, d, tk, os⟩ := s
    obtain ⟨hl, h⟩ := h
    have f1 := AutoSeq1.idx_int
    have c0 : (decide ((1 : Int) < -(2 ^ 63)) || decide ((1 : Int) ≥ 2 ^ 63)) = false := by decide
    have c1 : (items.isEmpty || (1 : Int) == 1) = true := by simp
    wp_walk using wpAny_loadPart' hl
    repeat (first
      | (refine wpAny_ite_false (decide_eq_false (by rw [c0]; exact Bool.false_ne_true)) ?_; wp_walk using wpAny_loadPart' hl)
      | (refine wpAny_ite_true (decide_eq_true (by rw [c1])) ?_; wp_walk using wpAny_loadPart' hl))
    exact ⟨_, rfl, h⟩
def rRepT1 (K : PySem.W.Frag) : R2 := fun x y H Q => ∃ l xs, x = .ref l ∧ y = .int 1 ∧ SqT K H l xs ∧ Q (.ref l) H
theorem op_repT1 {X : Cx} : OpR X (binaryOp .Mult) (rRepT1 X.K) := by
  intro pins s σ H x y v u Q I rx ry h
  obtain ⟨l, xs, rfl, rfl, hT, q⟩ := h
  cases rx
  obtain ⟨t, rfl⟩ := ry
  obtain ⟨its, r, ⟨⟨cls, dd, data, sl⟩, ho, hc, n, hd⟩, hs⟩ := I.tuple hT
  simp only at hc hd
  subst hc hd
  refine wpAny_binaryOp_repeat_ref (T := "tuple") (U := "int") (by decide) ⟨_, ho, rfl⟩ (fun s' => typeIs_int s' 1 t) noFill_tuple_mul F.fills_int_mul F.slot_int_rmul repeat_tuple F.slot_int_index.lookup
    (call_meets F.slot_int_rmul (typeIs_int s 1 t) F.entry_int_rmul (F.args_int_rmul_2 _ _) (int_rmul_tuple 1 t l its.toArray n dd sl)
      ⟨ho, rfl, ⟨_, ho, rfl⟩, call_meets F.slot_tuple_mul ⟨_, ho, rfl⟩ F.entry_tuple_mul (F.args_tuple_mul_2 _ _) (tuple_mul1 l its.toArray n dd sl t) ⟨ho, ?_⟩⟩)
  exact ⟨.ref l, H, I, rfl, q⟩
end
theorem Dens.rep {K : PySem.W.Frag} {w : Wd} {H : Hp} {vs : List V} {ds : List D} (h : Dens K w H vs ds) : ∀ n : Nat, Dens K w H (List.replicate n vs).flatten (List.replicate n ds).flatten
  | 0 => .nil
  | n + 1 => by
    rw [List.replicate_succ, List.replicate_succ, List.flatten_cons, List.flatten_cons]
    exact h.append (h.rep n)
def rBin (K : PySem.W.Frag) : BOp → R2
  | .add => fun x y H Q => ((rI0 (fun i j => .int (i + j)) x y H Q ∨ rCat x y H Q) ∨ (rCatA K x y H Q ∨ rStrAdd x y H Q)) ∨ rBlAdd x y H Q
  | .sub => rI0 fun i j => .int (i - j)
  | .mul => fun x y H Q => (rI CMul (fun i j => .int (i * j)) x y H Q ∨ rRep x y H Q) ∨ (rRepT K x y H Q ∨ rRepT1 K x y H Q)
  | .fdiv => rI CDivN fun i j => .int (i.fdiv j)
  | .mod => rI (fun _ j => j ≠ 0) fun i j => .int (i.fmod j)
  | .pow => rI CPow fun i j => .int (i ^ j.toNat)
theorem op_bin {X : Cx} : ∀ o : BOp, OpR X (binaryOp (astB o)) (rBin X.K o)
  | .add => OpR.or (OpR.or (OpR.or op_add op_cat) (OpR.or op_catA op_add_str)) op_add_bl
  | .sub => op_sub
  | .mul => OpR.or (OpR.or op_mul op_rep) (OpR.or op_repT op_repT1)
  | .fdiv => op_fdivN
  | .mod => op_modN
  | .pow => op_pow
theorem bin_ok (ok : WOk w H) (st : StR K w H m) (hx : TmpR K w H x t) (hy : TmpR K w H y u) (o : BOp) (p : Post K mg E (RT K) w H (give (binV o t u) m) Q) : rBin K o x y H Q := by
  obtain ⟨z, e, p⟩ := p.given
  unfold binV at e
  split at e
  · rename_i i j e1 e2
    cases hx.int (Tmp.dataX_data e1)
    cases hy.int (Tmp.dataX_data e2)
    obtain ⟨k, e3, rfl⟩ := Option.map_eq_some_iff.mp e
    have q : Q (.int k) H := Post.int ok st p
    cases o with
    | add => cases e3; exact .inl (.inl (.inl ⟨i, j, rfl, rfl, q⟩))
    | sub => cases e3; exact ⟨i, j, rfl, rfl, q⟩
    | mul =>
      have e4 : (if okMul i j = true then some (i * j) else none) = some k := e3
      by_cases h : okMul i j = true
      · rw [if_pos h] at e4
        cases e4
        simp only [okMul, Bool.or_eq_true, Bool.and_eq_true, decide_eq_true_eq] at h
        exact .inl (.inl ⟨i, j, rfl, rfl, h, q⟩)
      · rw [if_neg h] at e4
        cases e4
    | fdiv =>
      simp only [binI] at e3
      split at e3
      · rename_i h
        cases e3
        simp only [Bool.and_eq_true, decide_eq_true_eq] at h
        exact ⟨i, j, rfl, rfl, h, q⟩
      · cases e3
    | mod =>
      simp only [binI] at e3
      split at e3
      · rename_i h
        cases e3
        exact ⟨i, j, rfl, rfl, h, q⟩
      · cases e3
    | pow =>
      simp only [binI] at e3
      split at e3
      · rename_i h
        cases e3
        simp only [Bool.and_eq_true, decide_eq_true_eq] at h
        exact ⟨i, j, rfl, rfl, ⟨h.1.1, h.1.2, h.2⟩, q⟩
      · cases e3
  · rename_i ds es e1 e2
    obtain ⟨a, xs, rfl, h1, r1⟩ := hx.list (Tmp.dataX_data e1)
    obtain ⟨b, ys, rfl, h2, r2⟩ := hy.list (Tmp.dataX_data e2)
    cases o with
    | add =>
      simp only at e
      split at e
      · rename_i hz
        cases e
        refine .inl (.inl (.inr ⟨a, b, xs, ys, rfl, rfl, h1, h2, by rw [r1.length, r2.length]; exact hz, fun c hc => ?_⟩))
        exact Post.newList ok st p (r1.append r2) c hc
      · cases e
    | _ => cases e
  · rename_i ds es e1 e2
    obtain ⟨a, xs, rfl, h1, r1⟩ := hx.tupX e1
    obtain ⟨b, ys, rfl, h2, r2⟩ := hy.tupX e2
    cases o with
    | add =>
      simp only at e
      split at e
      · rename_i hz
        cases e
        refine .inl (.inr (.inl ⟨a, b, xs, ys, rfl, rfl, .of h1, .of h2, by rw [r1.length, r2.length]; exact hz, fun e1 => ?_, fun _ e2 => ?_, fun _ _ c hc => ?_⟩))
        · subst e1
          cases r1
          exact p.here ok st ⟨(show ValR K w H _ (.d (.tuple _)) from Den.tup h2 r2), trivial⟩
        · subst e2
          cases r2
          rw [List.append_nil] at p
          exact p.here ok st ⟨(show ValR K w H _ (.d (.tuple _)) from Den.tup h1 r1), trivial⟩
        · exact Post.newTup ok st p (r1.append r2) c hc
      · cases e
    | _ => cases e
  · rename_i i j e1 e2
    cases hx.str (Tmp.dataX_data e1)
    cases hy.str (Tmp.dataX_data e2)
    cases o with
    | add =>
      simp only at e
      split at e
      · rename_i hz
        cases e
        exact .inl (.inr (.inr ⟨i, j, rfl, rfl, hz, Post.str ok st p⟩))
      · cases e
    | _ => cases e
  · rename_i k j e1 e2
    cases hx.bl (Tmp.dataX_data e1)
    cases hy.int (Tmp.dataX_data e2)
    cases o with
    | add =>
      cases e
      exact .inr ⟨k, j, rfl, rfl, Post.int ok st p⟩
    | _ => cases e
  · rename_i ds k e1 e2
    obtain ⟨a, xs, rfl, h1, r1⟩ := hx.tupX e1
    cases hy.int (Tmp.dataX_data e2)
    cases o with
    | mul =>
      simp only at e
      split at e
      · rename_i hz
        cases e
        simp only [Bool.and_eq_true, Bool.not_eq_true', decide_eq_true_eq] at hz
        obtain ⟨⟨⟨z1, z2⟩, z3⟩, z4⟩ := hz
        by_cases hk : k = 1
        · subst hk
          have e3 : (List.replicate (Int.toNat 1) ds).flatten = ds := by simp
          rw [e3] at p
          exact .inr (.inr ⟨a, xs, rfl, rfl, .of h1, p.here ok st ⟨(show ValR K w H _ (.d (.tuple _)) from Den.tup h1 r1), trivial⟩⟩)
        · refine .inr (.inl ⟨a, k, xs, rfl, rfl, .of h1, fun e3 => ?_, by omega, z3, by rw [r1.length]; exact z4, fun c hc => Post.newTup ok st p (r1.rep k.toNat) c hc⟩)
          subst e3
          cases r1
          cases z1
      · cases e
    | _ => cases e
  · rename_i ds k e1 e2
    obtain ⟨a, xs, rfl, h1, r1⟩ := hx.list (Tmp.dataX_data e1)
    cases hy.int (Tmp.dataX_data e2)
    cases o with
    | mul =>
      simp only at e
      split at e
      · rename_i hz
        cases e
        simp only [Bool.and_eq_true, decide_eq_true_eq] at hz
        obtain ⟨⟨z1, z2⟩, z3⟩ := hz
        refine .inl (.inr ⟨a, k, xs, rfl, rfl, h1, by omega, by omega, ?_, fun c hc => Post.newList ok st p (r1.rep k.toNat) c hc⟩)
        rw [r1.length]
        have := Nat.mul_le_mul z3 (show k.toNat ≤ 1000 by omega)
        exact Nat.le_trans this (by decide)
      · cases e
    | _ => cases e
  · cases e

def astC : COp → CmpOp
  | .lt => .Lt
  | .le => .LtE
  | .gt => .Gt
  | .ge => .GtE
  | .eq => .Eq
  | .ne => .NotEq
  | .isN => .Is
  | .notN => .IsNot
  | .inn => .In
  | .notin => .NotIn
def rInT (K : PySem.W.Frag) : R2 := fun x y H Q => ∃ d ds, Dp K H x d ∧ Dp K H y (.tuple ds) ∧ SeqAt.shaped d = true ∧ ds.all SeqAt.shaped = true ∧ Q (.bl (ds.any fun z => PyData.eqv z d)) H
def rNotInT (K : PySem.W.Frag) : R2 := fun x y H Q => ∃ d ds, Dp K H x d ∧ Dp K H y (.tuple ds) ∧ SeqAt.shaped d = true ∧ ds.all SeqAt.shaped = true ∧ Q (.bl (!ds.any fun z => PyData.eqv z d)) H
def rInL (K : PySem.W.Frag) : R2 := fun x y H Q => ∃ d ds, Dp K H x d ∧ Dp K H y (.list ds) ∧ SeqAt.shaped d = true ∧ ds.all SeqAt.shaped = true ∧ Q (.bl (ds.any fun z => PyData.eqv z d)) H
def rNotInL (K : PySem.W.Frag) : R2 := fun x y H Q => ∃ d ds, Dp K H x d ∧ Dp K H y (.list ds) ∧ SeqAt.shaped d = true ∧ ds.all SeqAt.shaped = true ∧ Q (.bl (!ds.any fun z => PyData.eqv z d)) H
theorem layAll : ∀ {ds : List PyData}, ds.all SeqAt.shaped = true → PyData.canLayAll0 ds = true
  | [], _ => by simp [PyData.canLayAll0]
  | d :: ds, h => by
    rw [List.all_cons, Bool.and_eq_true] at h
    simp [PyData.canLayAll0, SeqAt.canLay_of_shaped h.1, layAll h.2]
section
variable {X : Cx}
theorem op_inT (hu : X.A.units + 65 < cLine) : OpR X (compareOp .In) (rInT X.K) := by
  intro pins s σ H x y v u Q I rx ry h
  obtain ⟨d, ds, hd, he, sd, se, q⟩ := h
  obtain ⟨as, r1⟩ := Dp.reads I d x v hd rx
  obtain ⟨bs, r2⟩ := Dp.reads I (.tuple ds) y u he ry
  exact SeqAt.in_tuple_reads r2 r1 (by simp [PyData.canLay0, layAll se]) (SeqAt.canLay_of_shaped sd) (PyProof.Rows.room_in_shaped sd hu) ⟨.bl _, H, I, rfl, q⟩
theorem op_notInT (hu : X.A.units + 65 < cLine) : OpR X (compareOp .NotIn) (rNotInT X.K) := by
  intro pins s σ H x y v u Q I rx ry h
  obtain ⟨d, ds, hd, he, sd, se, q⟩ := h
  obtain ⟨as, r1⟩ := Dp.reads I d x v hd rx
  obtain ⟨bs, r2⟩ := Dp.reads I (.tuple ds) y u he ry
  exact SeqAt.notIn_tuple_reads r2 r1 (by simp [PyData.canLay0, layAll se]) (SeqAt.canLay_of_shaped sd) (PyProof.Rows.room_in_shaped sd hu) ⟨.bl _, H, I, rfl, q⟩
theorem op_inL (hu : X.A.units + 65 < cLine) : OpR X (compareOp .In) (rInL X.K) := by
  intro pins s σ H x y v u Q I rx ry h
  obtain ⟨d, ds, hd, he, sd, se, q⟩ := h
  obtain ⟨as, r1⟩ := Dp.reads I d x v hd rx
  obtain ⟨bs, r2⟩ := Dp.reads I (.list ds) y u he ry
  exact SeqAt.in_list_reads r2 r1 (by simp [PyData.canLay0, layAll se]) (SeqAt.canLay_of_shaped sd) (PyProof.Rows.room_in_shaped sd hu) ⟨.bl _, H, I, rfl, q⟩
theorem op_notInL (hu : X.A.units + 65 < cLine) : OpR X (compareOp .NotIn) (rNotInL X.K) := by
  intro pins s σ H x y v u Q I rx ry h
  obtain ⟨d, ds, hd, he, sd, se, q⟩ := h
  obtain ⟨as, r1⟩ := Dp.reads I d x v hd rx
  obtain ⟨bs, r2⟩ := Dp.reads I (.list ds) y u he ry
  exact SeqAt.notIn_list_reads r2 r1 (by simp [PyData.canLay0, layAll se]) (SeqAt.canLay_of_shaped sd) (PyProof.Rows.room_in_shaped sd hu) ⟨.bl _, H, I, rfl, q⟩
end
def rInSg : R2 := fun x y H Q => ∃ (c : Nat) (z : Str), x = .str ⟨#[c]⟩ ∧ y = .str z ∧ Q (.bl (decide (c ∈ z.cps.toList))) H
def rNotInSg : R2 := fun x y H Q => ∃ (c : Nat) (z : Str), x = .str ⟨#[c]⟩ ∧ y = .str z ∧ Q (.bl (!decide (c ∈ z.cps.toList))) H
theorem inS_of {x z : Str} {k : Bool} (h : inS x z = some k) : ∃ c, x = ⟨#[c]⟩ ∧ k = decide (c ∈ z.cps.toList) := by
  unfold inS at h
  split at h
  · rename_i c e
    cases h
    refine ⟨c, ?_, rfl⟩
    cases x with
    | mk a =>
      congr
      apply Array.ext'
      simpa using e
  · cases h
def rIsN : R2 := fun x y H Q => y = .non ∧ Q (.bl (decide (x = .non))) H
def rNotN : R2 := fun x y H Q => y = .non ∧ Q (.bl (!decide (x = .non))) H
def rCmp (K : PySem.W.Frag) : COp → R2
  | .lt => rI0 fun i j => .bl (decide (i < j))
  | .le => rI0 fun i j => .bl (decide (i ≤ j))
  | .gt => rI0 fun i j => .bl (decide (j < i))
  | .ge => rI0 fun i j => .bl (decide (j ≤ i))
  | .eq => fun x y H Q => rEq x y H Q ∨ rEqD K x y H Q
  | .ne => fun x y H Q => rNe x y H Q ∨ rNeD K x y H Q
  | .isN => rIsN
  | .notN => rNotN
  | .inn => fun x y H Q => (rInL K x y H Q ∨ rInT K x y H Q) ∨ rInSg x y H Q
  | .notin => fun x y H Q => (rNotInL K x y H Q ∨ rNotInT K x y H Q) ∨ rNotInSg x y H Q
theorem op_cmp {X : Cx} (hu : X.A.units + 65 < cLine) : ∀ o : COp, OpR X (compareOp (astC o)) (rCmp X.K o)
  | .lt => op_lt
  | .le => op_le
  | .gt => op_gt
  | .ge => op_ge
  | .eq => OpR.or op_eq (op_eqD (by omega))
  | .ne => OpR.or op_ne (op_neD (by omega))
  | .isN => op_isN
  | .notN => op_notN
  | .inn => OpR.or (OpR.or (op_inL hu) (op_inT hu)) op_in_sign
  | .notin => OpR.or (OpR.or (op_notInL hu) (op_notInT hu)) op_notIn_sign

theorem isNon_of (h : TmpR K w H x t) : (x = .non) ↔ t = .v (.d .none) := by
  constructor
  · rintro rfl
    cases t with
    | v z =>
      cases z with
      | d z => cases h; rfl
      | loc i => obtain ⟨a, e, _⟩ := h; cases e
      | script ns => obtain ⟨a, e, _⟩ := h; cases e
      | kt ns => obtain ⟨a, xs, e, _⟩ := h; cases e
    | new d => obtain ⟨a, e, _⟩ := h; cases e
    | bor d => obtain ⟨a, e, _⟩ := h; cases e
  · rintro rfl
    cases h
    rfl
theorem dec_str2 {a b : Str} : decide (V.str a = V.str b) = decide (a = b) := by simp
def cmpSide (o : COp) (u : Tmp) : Prop := match o with
  | .isN => u = .v (.d .none)
  | .notN => u = .v (.d .none)
  | _ => True
theorem cmp_ok {β : Type} (hx : TmpR K w H x t) (hy : TmpR K w H y u) (o : COp) (hs : cmpSide o u) {k : Bool} (e : cmpV o t u = some k) {Q : V → Hp → Prop} (q : Q (.bl k) H) : rCmp K o x y H Q := by
  cases o with
  | lt =>
    simp only [cmpV] at e
    split at e
    · rename_i i j e1 e2
      cases hx.int e1; cases hy.int e2; cases e
      exact ⟨i, j, rfl, rfl, q⟩
    · cases e
  | le =>
    simp only [cmpV] at e
    split at e
    · rename_i i j e1 e2
      cases hx.int e1; cases hy.int e2; cases e
      exact ⟨i, j, rfl, rfl, q⟩
    · cases e
  | gt =>
    simp only [cmpV] at e
    split at e
    · rename_i i j e1 e2
      cases hx.int e1; cases hy.int e2; cases e
      exact ⟨i, j, rfl, rfl, q⟩
    · cases e
  | ge =>
    simp only [cmpV] at e
    split at e
    · rename_i i j e1 e2
      cases hx.int e1; cases hy.int e2; cases e
      exact ⟨i, j, rfl, rfl, q⟩
    · cases e
  | eq =>
    simp only [cmpV] at e
    split at e
    · rename_i d1 d2 e1 e2
      unfold eqD at e
      split at e
      · cases hx.str e1; cases hy.str e2; cases e
        exact .inl ⟨rfl, by rw [dec_str2]; exact q⟩
      split at e
      · rename_i hs
        rw [Bool.and_eq_true] at hs
        cases e
        exact .inr ⟨_, _, hx.dp e1, hy.dp e2, hs.1, hs.2, q⟩
      · cases e
    · cases e
  | ne =>
    simp only [cmpV] at e
    split at e
    · rename_i d1 d2 e1 e2
      obtain ⟨k2, e3, rfl⟩ := Option.map_eq_some_iff.mp e
      unfold eqD at e3
      split at e3
      · cases hx.str e1; cases hy.str e2; cases e3
        exact .inl ⟨rfl, by rw [dec_str2]; exact q⟩
      split at e3
      · rename_i hs
        rw [Bool.and_eq_true] at hs
        cases e3
        exact .inr ⟨_, _, hx.dp e1, hy.dp e2, hs.1, hs.2, q⟩
      · cases e3
    · cases e
  | isN =>
    cases (isNon_of hy).mpr hs
    refine ⟨rfl, ?_⟩
    simp only [cmpV] at e
    split at e
    · cases e
      rw [decide_eq_true ((isNon_of hx).mpr rfl)]
      exact q
    · rename_i h
      cases e
      rw [decide_eq_false fun z => h ((isNon_of hx).mp z)]
      exact q
  | notN =>
    cases (isNon_of hy).mpr hs
    refine ⟨rfl, ?_⟩
    simp only [cmpV] at e
    split at e
    · cases e
      rw [decide_eq_true ((isNon_of hx).mpr rfl)]
      exact q
    · rename_i h
      cases e
      rw [decide_eq_false fun z => h ((isNon_of hx).mp z)]
      exact q
  | inn =>
    simp only [cmpV] at e
    split at e
    · rename_i z ez
      split at e
      · rename_i x' ex
        obtain ⟨c, rfl, rfl⟩ := inS_of e
        cases hx.str ex
        cases hy.str ez
        exact .inr ⟨c, z, rfl, rfl, q⟩
      · cases e
    split at e
    · rename_i d ds e1 e2
      unfold inD at e
      split at e
      · rename_i hs
        rw [Bool.and_eq_true] at hs
        cases e
        unfold Tmp.items? at e2
        split at e2
        · rename_i xs e3
          cases e2
          exact .inl (.inl ⟨d, ds, hx.dp e1, hy.dp e3, hs.1, hs.2, q⟩)
        · rename_i xs e3
          cases e2
          exact .inl (.inr ⟨d, ds, hx.dp e1, hy.dp e3, hs.1, hs.2, q⟩)
        · cases e2
      · cases e
    · cases e
  | notin =>
    simp only [cmpV] at e
    split at e
    · rename_i z ez
      split at e
      · rename_i x' ex
        obtain ⟨k2, e4, rfl⟩ := Option.map_eq_some_iff.mp e
        obtain ⟨c, rfl, rfl⟩ := inS_of e4
        cases hx.str ex
        cases hy.str ez
        exact .inr ⟨c, z, rfl, rfl, q⟩
      · cases e
    split at e
    · rename_i d ds e1 e2
      obtain ⟨k2, e4, rfl⟩ := Option.map_eq_some_iff.mp e
      unfold inD at e4
      split at e4
      · rename_i hs
        rw [Bool.and_eq_true] at hs
        cases e4
        unfold Tmp.items? at e2
        split at e2
        · rename_i xs e3
          cases e2
          exact .inl (.inl ⟨d, ds, hx.dp e1, hy.dp e3, hs.1, hs.2, q⟩)
        · rename_i xs e3
          cases e2
          exact .inl (.inr ⟨d, ds, hx.dp e1, hy.dp e3, hs.1, hs.2, q⟩)
        · cases e2
      · cases e4
    · cases e
end
end Ev
set_option Elab.async false
set_option linter.all false
namespace Ev
open PySem PySem.Spec L2

section
variable {X : Cx}
def rIxD : R2 := fun x y H Q => ∃ a v, x = .ref a ∧ DGet H a y (some v) ∧ Q v H
theorem ix_dict (hu : X.A.units + 1 < cLine) : IxR X rIxD := by
  intro value slice pins s σ H x y v u Q I rx ry h hs
  obtain ⟨a, z, rfl, g, q⟩ := h
  cases rx
  have hT := dict_typeIs I g
  unfold PyProof.Rows.subscriptTail
  refine wpAny_bind ?_
  rw [getitemInPython_of_ne hT.not_modules]
  refine wpAny_bind (wpAny_specialOf hT PySem.F.slot_dict_getitem.lookup ?_)
  have go : wpAny (model X.prog X.w) X.A (subscripted slice false (.ref a) u) (fun r s3 => wpAny (model X.prog X.w) X.A (letTemporaryGo value (.ref a) r >>= fun _ => pure r) (EP X pins σ Q) X.xe s3) X.xe s := by
    rw [hs]
    refine wpAny_operating (wpAny_mono (d_getItem (Q := EP X pins σ Q) hu I g ry fun w' s' I' r' => ⟨z, H, I', r', q⟩) (fun r s3 h3 => wpAny_bind (wpAny_letTemporaryGo (wpAny_pure h3))) fun _ _ k => k)
  first
    | exact wpAny_pure (wpAny_bind go)
    | exact wpAny_bind (wpAny_pure (wpAny_bind go))
    | exact wpAny_bind go
def rIxA (K : PySem.W.Frag) : R2 := fun x y H Q => rIx K x y H Q ∨ rIxD x y H Q
theorem ix_all (hu : X.A.units + 1 < cLine) : IxR X (rIxA X.K) := ix_seq.or (ix_dict hu)
def rSetD : V → V → V → Hp → (Hp → Prop) → Prop := fun o i v H Q => ∃ a H', o = .ref a ∧ DPut H a i v H' ∧ Q H'
def rSetA : V → V → V → Hp → (Hp → Prop) → Prop := fun o i v H Q => rSetL o i v H Q ∨ rSetD o i v H Q
theorem set_all (hu : X.A.units + 1 < cLine) : PSet X rSetA := by
  intro pins s σ H o i v ov iv u Q I ro ri rv h
  rcases h with h | ⟨a, H', rfl, g, q⟩
  · exact set_list pins s σ H o i v ov iv u Q I ro ri rv h
  · cases ro
    exact d_setItem hu I g ri rv fun s' I' => ⟨H', I', q⟩
def rSlice (K : PySem.W.Frag) : V → Option Int → Option Int → Hp → VK → Prop := fun x lo hi H Q => (rSlL K x lo hi H Q ∨ rSlA K x lo hi H Q) ∨ rSlS x lo hi H Q
theorem sl_all : SlR X (rSlice X.K) := (sl_list.or sl_tupA).or sl_str
end

theorem cut_map {α β : Type} (f : α → β) (xs : List α) (lo hi : Option Int) : (cut xs lo hi).map f = cut (xs.map f) lo hi := by
  unfold cut
  rw [List.length_map, List.map_take, List.map_drop]
theorem cutV_cut (xs : List V) (lo hi : Option Int) : cutV xs lo hi = cut xs lo hi := rfl
theorem atI_map {α β : Type} (f : α → β) (xs : List α) (i : Int) : atI (xs.map f) i = (atI xs i).map f := by
  unfold atI
  rw [List.length_map]
  cases ixN xs.length i with
  | none => rfl
  | some j => simp

section
variable {K : PySem.W.Frag} {mg : Str → Option Value} {E : XK} {w w' w1 w2 : Wd} {H H' H1 H2 : Hp} {m m' m1 : Store} {x y v : V} {t u : Tmp} {Q : V → Hp → Prop}
theorem Dens.cut {vs : List V} {ds : List D} (h : Dens K w H vs ds) (lo hi : Option Int) : Dens K w H (Ev.cut vs lo hi) (Ev.cut ds lo hi) := by
  unfold Ev.cut
  rw [h.length]
  exact (h.drop _).take _
theorem Dens.atI {vs : List V} {ds : List D} {i : Int} {d : D} (h : Dens K w H vs ds) (e : L2.atI ds i = some d) : ∃ v, L2.atI vs i = some v ∧ Den K w H v d := by
  unfold L2.atI at e ⊢
  rw [h.length]
  cases q : ixN ds.length i with
  | none => rw [q] at e; cases e
  | some j =>
    rw [q] at e
    exact h.at e
theorem Paired.atI {α β : Type} {F : α → β → Prop} {vs : List α} {ds : List β} {i : Int} {d : β} (h : Paired F vs ds) (e : L2.atI ds i = some d) : ∃ v, L2.atI vs i = some v ∧ F v d := by
  unfold L2.atI at e ⊢
  rw [h.length]
  cases q : ixN ds.length i with
  | none => rw [q] at e; cases e
  | some j =>
    rw [q] at e
    have e' : ds[j]? = some d := e
    clear q e
    show ∃ v, vs[j]? = some v ∧ F v d
    induction h generalizing j with
    | nil => simp at e'
    | cons r _ ih =>
      cases j with
      | zero =>
        simp at e'
        subst e'
        exact ⟨_, rfl, r⟩
      | succ j => exact ih j (by simpa using e')
theorem find_pair {κ : Type} [DecidableEq κ] {F : V → Val → Prop} {vs : List (κ × V)} {kvs : List (κ × Val)} {k : κ} {z : Val} (h : Paired (fun (p : κ × V) (q : κ × Val) => p.1 = q.1 ∧ F p.2 q.2) vs kvs)
    (e : lookKV kvs k = some z) : ∃ v, valV vs k = some v ∧ F v z := by
  induction h with
  | nil => cases e
  | @cons p q ps qs r _ ih =>
    unfold lookKV at e
    rw [List.find?_cons] at e
    by_cases hk : q.1 = k
    · rw [decide_eq_true hk] at e
      simp only [Option.map_some, Option.some.injEq] at e
      subst e
      exact ⟨p.2, valV_pos (r.1.trans hk), r.2⟩
    · rw [decide_eq_false hk] at e
      obtain ⟨v, e1, e2⟩ := ih e
      exact ⟨v, by rw [valV_neg (fun z => hk (r.1.symm.trans z))]; exact e1, e2⟩
theorem put_map {κ : Type} [DecidableEq κ] {F : V → Val → Prop} {vs : List (κ × V)} {kvs : List (κ × Val)} {k : κ} {v : V} {z : Val} (h : Paired (fun (p : κ × V) (q : κ × Val) => p.1 = q.1 ∧ F p.2 q.2) vs kvs) (f : F v z) :
    Paired (fun (p : κ × V) (q : κ × Val) => p.1 = q.1 ∧ F p.2 q.2) (vs.map fun kv => if kv.1 = k then (kv.1, v) else kv) (kvs.map fun p => if p.1 = k then (p.1, z) else p) := by
  induction h with
  | nil => exact .nil
  | @cons p q ps qs r _ ih =>
    rw [List.map_cons, List.map_cons]
    refine .cons ?_ ih
    by_cases hk : q.1 = k
    · rw [if_pos hk, if_pos (r.1.trans hk)]
      exact ⟨r.1, f⟩
    · rw [if_neg hk, if_neg fun z => hk (r.1.symm.trans z)]
      exact r
theorem put_end {α β : Type} {F : α → β → Prop} {vs : List α} {us : List β} {a : α} {b : β} (h : Paired F vs us) (f : F a b) : Paired F (vs ++ [a]) (us ++ [b]) := by
  induction h with
  | nil => exact .cons f .nil
  | cons r _ ih => exact .cons r ih
theorem put_pair {κ : Type} [DecidableEq κ] {F : V → Val → Prop} {vs : List (κ × V)} {kvs : List (κ × Val)} {k : κ} {v : V} {z : Val} (h : Paired (fun (p : κ × V) (q : κ × Val) => p.1 = q.1 ∧ F p.2 q.2) vs kvs) (f : F v z) :
    Paired (fun (p : κ × V) (q : κ × Val) => p.1 = q.1 ∧ F p.2 q.2) (putK vs k v) (putKV kvs k z) := by
  have ha : (vs.any fun kv => decide (kv.1 = k)) = (kvs.any fun kv => decide (kv.1 = k)) := by
    induction h with
    | nil => rfl
    | cons r _ ih => rw [List.any_cons, List.any_cons, ih, r.1]
  unfold putK putKV
  rw [ha]
  split
  · exact put_map h f
  · exact put_end h ⟨rfl, f⟩

theorem getInt_data {i : Int} (e : getInt t = some i) : t.data? = some (.int i) := by
  unfold getInt at e
  split at e
  · cases e
    assumption
  · cases e
theorem keysD_of : ∀ {vs : List V} {ds : List D} {ks : List Key}, Dens K w H vs ds → keysD ds = some ks → vs = ks.map kV
  | _, [], _, .nil, e => by cases e; rfl
  | _, .int i :: ds, ks, .cons h r, e => by
    cases h
    simp only [keysD] at e
    obtain ⟨l, e1, rfl⟩ := Option.map_eq_some_iff.mp e
    rw [keysD_of r e1]; rfl
  | _, .str s :: ds, ks, .cons h r, e => by
    cases h
    simp only [keysD] at e
    obtain ⟨l, e1, rfl⟩ := Option.map_eq_some_iff.mp e
    rw [keysD_of r e1]; rfl
  | _, .none :: _, _, _, e => by simp [keysD] at e
  | _, .bool _ :: _, _, _, e => by simp [keysD] at e
  | _, .list _ :: _, _, _, e => by simp [keysD] at e
  | _, .tuple _ :: _, _, _, e => by simp [keysD] at e
  | _, .dict _ :: _, _, _, e => by simp [keysD] at e
theorem idx_ok (st : StR K w H m) (hx : TmpR K w H x t) (hy : TmpR K w H y u) {z : Val} (e : idxV t u m = some z) (q : ∀ v, ValR K w H v z → Q v H) : rIxA K x y H Q := by
  unfold idxV at e
  split at e
  · rename_i k ek
    cases hy.int ek
    split at e
    · rename_i n
      obtain ⟨a, rfl, ea⟩ : ∃ a, x = .ref a ∧ w.io[n]? = some a := hx
      split at e
      · rename_i xs em
        obtain ⟨vs, h1, h2⟩ := st.at_ n a _ ea em
        obtain ⟨v, e1, e2⟩ := Paired.atI h2 e
        exact .inl (.inl ⟨a, vs, k, v, rfl, rfl, SqL.of h1, e1, q v e2⟩)
      · rename_i kvs em
        obtain ⟨vs, h1, h2⟩ := st.at_ n a _ ea em
        obtain ⟨v, e1, e2⟩ := find_pair (F := ValR K w H) h2 e
        exact .inr ⟨a, v, rfl, .inl ⟨vs, .inl k, .inl h1, rfl, e1.symm⟩, q v e2⟩
      · cases e
    · rename_i ns
      obtain ⟨a, rfl, h1⟩ : ∃ a, x = .ref a ∧ ScR K H a ns := hx
      obtain ⟨j, e1, rfl⟩ := Option.map_eq_some_iff.mp e
      exact .inl (.inl ⟨a, ns.map .int, k, .int j, rfl, rfl, h1.seq, by rw [atI_map, e1]; rfl, q _ (show Den K w H _ (.int j) from Den.int j)⟩)
    · split at e
      · rename_i xs ed
        obtain ⟨a, vs, rfl, h1, h2⟩ := hx.list ed
        obtain ⟨d, e1, rfl⟩ := Option.map_eq_some_iff.mp e
        obtain ⟨v, e2, e3⟩ := h2.atI e1
        exact .inl (.inl ⟨a, vs, k, v, rfl, rfl, SqL.of h1, e2, q v e3⟩)
      · rename_i xs ed
        obtain ⟨a, vs, rfl, h1, h2⟩ := hx.tup ed
        obtain ⟨d, e1, rfl⟩ := Option.map_eq_some_iff.mp e
        obtain ⟨v, e2, e3⟩ := h2.atI e1
        exact .inl (.inr (.inl ⟨a, vs, k, v, rfl, rfl, h1, e2, q v e3⟩))
      · rename_i s ed
        cases hx.str ed
        split at e
        · rename_i hz
          obtain ⟨c, e1, rfl⟩ := Option.map_eq_some_iff.mp e
          exact .inl (.inr (.inr ⟨s, k, c, rfl, rfl, hz, e1, q _ (show Den K w H _ (.str _) from Den.str _)⟩))
        · cases e
      · cases e
  · rename_i s ek
    cases hy.str ek
    split at e
    · rename_i n
      obtain ⟨a, rfl, ea⟩ : ∃ a, x = .ref a ∧ w.io[n]? = some a := hx
      split at e
      · rename_i kvs em
        obtain ⟨vs, h1, h2⟩ := st.at_ n a _ ea em
        obtain ⟨v, e1, e2⟩ := find_pair (F := ValR K w H) h2 e
        exact .inr ⟨a, v, rfl, .inl ⟨vs, .inr s, .inl h1, rfl, e1.symm⟩, q v e2⟩
      · cases e
    · cases e
  · rename_i ds ek
    split at e
    · rename_i n
      obtain ⟨a, rfl, ea⟩ : ∃ a, x = .ref a ∧ w.io[n]? = some a := hx
      split at e
      · rename_i kvs em
        obtain ⟨vs, h1, h2⟩ := st.at_ n a _ ea em
        obtain ⟨ks, e0, e⟩ := Option.bind_eq_some_iff.mp e
        obtain ⟨v, e1, e2⟩ := find_pair (F := ValR K w H) h2 e
        obtain ⟨b, us, rfl, h3, h4⟩ := hy.tupX (show Tmp.dataX? (.v (.d _)) = _ from ek)
        exact .inr ⟨a, v, rfl, .inr ⟨vs, ks, b, .inl h1, rfl, by rw [h3, keysD_of h4 e0], e1.symm⟩, q v e2⟩
      · cases e
    · cases e
  · cases e

theorem slice_ok (ok : WOk w H) (st : StR K w H m) (hx : TmpR K w H x t) (lo hi : Option Int) (p : Post K mg E (RT K) w H (give (sliceV t lo hi) m) Q) : rSlice K x lo hi H Q := by
  obtain ⟨z, e, p⟩ := p.given
  unfold sliceV at e
  split at e
  · rename_i ns
    obtain ⟨a, rfl, h1⟩ : ∃ a, x = .ref a ∧ ScR K H a ns := hx
    cases e
    refine .inl (.inl ⟨a, ns.map .int, rfl, h1.seq, fun c hc => ?_⟩)
    rw [cutV_cut, ← cut_map]
    exact Post.newList ok st p (Dens.ints _) c hc
  · split at e
    · rename_i ds ed
      obtain ⟨a, vs, rfl, h1, h2⟩ := hx.list (Tmp.dataX_data ed)
      cases e
      exact .inl (.inl ⟨a, vs, rfl, SqL.of h1, fun c hc => Post.newList ok st p (h2.cut lo hi) c hc⟩)
    · rename_i ds ed
      obtain ⟨a, vs, rfl, h1, h2⟩ := hx.tupX ed
      cases e
      refine .inl (.inr ⟨a, vs, rfl, .of h1, fun hw => ?_, fun _ c hc => Post.newTup ok st p (h2.cut lo hi) c hc⟩)
      have e1 : Ev.cut ds lo hi = ds := by
        unfold Ev.cut
        rw [← h2.length, hw.1, hw.2, List.drop_zero, Nat.sub_zero, h2.length, List.take_length]
      rw [e1] at p
      exact p.here ok st ⟨(show ValR K w H _ (.d (.tuple _)) from Den.tup h1 h2), trivial⟩
    · rename_i z' ed
      cases hx.str (Tmp.dataX_data ed)
      split at e
      · rename_i hz
        cases e
        exact .inr ⟨z', rfl, hz, Post.str ok st p⟩
      · cases e
    · cases e

theorem truth_ok (st : StR K w H m) (hx : TmpR K w H x t) {k : Bool} (e : truth t m = some k) : TruV K x H k := by
  have plain : ∀ d, t.data? = some d → (match d with
    | .none => some false
    | .bool b => some b
    | .int i => some (i != 0)
    | .str s => if s.length ≤ sizeLine then some ((s.length : Int) != 0) else none
    | .list xs => some (!xs.isEmpty)
    | .tuple xs => some (!xs.isEmpty)
    | _ => none) = some k → TruV K x H k := fun d ed e => by
    cases d with
    | none => cases hx.dp ed; cases e; rfl
    | bool b => cases hx.bl ed; cases e; rfl
    | int i => cases hx.int ed; cases e; rfl
    | str s =>
      cases hx.str ed
      simp only at e
      split at e
      · cases e
        exact ⟨by assumption, rfl⟩
      · cases e
    | list ds =>
      obtain ⟨a, vs, rfl, h1, h2⟩ := hx.list ed
      cases e
      refine .inl ⟨vs, SqL.of h1, ?_⟩
      cases h2 <;> rfl
    | tuple ds =>
      obtain ⟨a, vs, rfl, h1, h2⟩ := hx.tup ed
      cases e
      refine .inr (.inl ⟨vs, h1, ?_⟩)
      cases h2 <;> rfl
    | dict kvs => cases e
  unfold truth at e
  split at e
  · rename_i n
    obtain ⟨a, rfl, ea⟩ : ∃ a, x = .ref a ∧ w.io[n]? = some a := hx
    split at e
    · rename_i xs em
      obtain ⟨vs, h1, h2⟩ := st.at_ n a _ ea em
      cases e
      refine .inl ⟨vs, SqL.of h1, ?_⟩
      cases h2 <;> rfl
    · rename_i kvs em
      obtain ⟨vs, h1, h2⟩ := st.at_ n a _ ea em
      cases e
      refine .inr (.inr ⟨vs, h1, ?_⟩)
      cases h2 <;> rfl
    · cases e
  · rename_i ns
    obtain ⟨a, rfl, h1⟩ : ∃ a, x = .ref a ∧ ScR K H a ns := hx
    cases e
    refine .inl ⟨ns.map .int, h1.seq, ?_⟩
    cases ns <;> rfl
  · cases ed : t.data? with
    | none =>
      rw [ed] at e
      cases e
    | some d =>
      rw [ed] at e
      refine plain d ed ?_
      cases d <;> exact e
end
end Ev
namespace Ev
open PySem PySem.Spec PyProof.Rows L2 HT PySem.W
section
variable {prog : Program} {w : World} {A : Around} {E : Value → Shared → Prop} {s : Shared}
theorem rev_places (n : Nat) : Builtin.Slice.sliceAdjust none none (-1) (n : Int) = ((n : Int) - 1, -1) ∧ Builtin.Slice.slicePlaces ((n : Int) - 1) (-1) (-1) = n := by
  constructor
  · simp [Builtin.Slice.sliceAdjust]
  · simp [Builtin.Slice.slicePlaces]
    split <;> omega
theorem fm_congr {α β : Type} {f g : α → Option β} : ∀ {l : List α}, (∀ m ∈ l, f m = g m) → l.filterMap f = l.filterMap g
  | [], _ => rfl
  | x :: l, h => by
    rw [List.filterMap_cons, List.filterMap_cons, h x (List.mem_cons_self ..), fm_congr fun m hm => h m (List.mem_cons_of_mem _ hm)]
theorem rev_pick (xs : Array Value) : ((List.range xs.size).filterMap fun (m : Nat) => xs[(((xs.size : Int) - 1) + (m : Int) * (-1)).toNat]?).toArray = xs.toList.reverse.toArray := by
  rw [← krv_all xs, ← List.filterMap_reverse, ← krv_range, List.filterMap_map]
  congr 1
  refine fm_congr fun m hm => ?_
  have := List.mem_range.mp hm
  show xs[_]? = xs[xs.size - 1 - m]?
  congr 1
  omega
theorem getItem_tuple_rev {tp sl : Addr} {its : Array Value} {vs : Value} {Q : Value → Shared → Prop} (tt : IsTup s.heap tp its) (ss : s.heap.IsSliceOf sl .none .none vs) (pp : IsPart vs (some (-1)))
    (q : Q (.ref s.heap.objs.size) { s with heap := s.heap.push { cls := .type "tuple", data := .seq its.toList.reverse.toArray } }) (hz : its.size ≤ sizeLine) : wpAny (model prog w) A (getItem (.ref tp) (.ref sl)) Q E s := by
  have ok : sizeOk (.seq its.toList.reverse.toArray) := by
    show its.toList.reverse.toArray.size ≤ sizeLine
    rw [List.size_toArray, List.length_reverse, Array.length_toList]
    exact hz
  obtain ⟨so, so1, so2, so3⟩ := id ss
  have isS : s.TypeIs (.ref sl) "slice" := ⟨so, so1, so2⟩
  unfold getItem
  refine wpAny_holding (wpAny_bind (wpAny_sequenceKey tt.typeIs (by decide) ?_))
  refine wpAny_bind (wpAny_callSpecial?_slot (name := Str.ofString "__getitem__") tt.typeIs PyProof.Rows.slot_tuple_getitem
    (wpAny_call_entry PyProof.Rows.slot_tuple_getitem tt.typeIs entry_tuple_getitem ?_ (args_tuple_getitem _ _)))
  show wpAny _ _ (Builtin.Tuple.tupleItemsOf (.ref tp) >>= _) _ _ s
  refine wpAny_bind (tupleItemsOf_ tt (wpAny_bind (wpAny_typeOf isS ?_)))
  rw [if_pos (by decide)]
  refine wpAny_bind ?_
  unfold Builtin.Slice.sliceApplied Builtin.Slice.sliceFields
  refine wpAny_bind (wpAny_bind (wpAny_field so1 so3 (x := .none) rfl (wpAny_bind (wpAny_field so1 so3 (x := .none) rfl (wpAny_bind (wpAny_field so1 so3 (x := vs) rfl (wpAny_pure ?_)))))))
  refine wpAny_bind (slicePart_ pp ?_)
  show wpAny _ _ (if ((-1 : Int) == 0) = true then _ else _) _ _ s
  rw [if_neg (by decide)]
  refine wpAny_bind (slicePart_none (wpAny_bind (slicePart_none (wpAny_bind (wpAny_pure ?_)))))
  show wpAny _ _ (match Builtin.Slice.sliceAdjust none none (-1) (its.size : Int) with | (lo, hi) => pure (lo, (-1 : Int), Builtin.Slice.slicePlaces lo hi (-1))) _ _ s
  rw [(rev_places its.size).1]
  show wpAny _ _ (pure ((its.size : Int) - 1, (-1 : Int), Builtin.Slice.slicePlaces ((its.size : Int) - 1) (-1) (-1))) _ _ s
  rw [(rev_places its.size).2]
  refine wpAny_pure ?_
  have hno : ¬ ((((its.size : Int) - 1) == 0 && (-1 : Int) == 1 && its.size == its.size) = true) := by
    intro z
    rw [Bool.and_eq_true, Bool.and_eq_true] at z
    exact absurd z.1.2 (by decide)
  show wpAny _ _ (if (((its.size : Int) - 1) == 0 && (-1 : Int) == 1 && its.size == its.size) = true then _ else _) _ _ s
  rw [if_neg hno, rev_pick]
  first
    | exact wpAny_bind (m := Builtin.Tuple.tupleExact _) (wpAny_newObj_type (wpAny_pure ⟨_, rfl, wpAny_pure q⟩) ok)
    | exact wpAny_bind (m := Builtin.Tuple.tupleExact _) (wpAny_newObj_type (wpAny_bind (wpAny_pure (wpAny_pure ⟨_, rfl, wpAny_pure q⟩))) ok)
    | exact wpAny_bind (wpAny_bind (m := Builtin.Tuple.tupleExact _) (wpAny_newObj_type (wpAny_pure (wpAny_pure ⟨_, rfl, wpAny_pure q⟩)) ok))
    | exact wpAny_bind (wpAny_bind (m := Builtin.Tuple.tupleExact _) (wpAny_newObj_type (wpAny_pure ⟨_, rfl, wpAny_pure q⟩) ok))
end
section
variable {X : Cx}
def tRev (K : PySem.W.Frag) (te : TE) : TE := fun σ H Q => te σ H fun x H1 => (∃ a xs, x = .ref a ∧ SqL K H1 a xs ∧ ∀ p, H1 p = none → Q (.ref p) (upd H1 p (.lst xs.reverse))) ∨
  ∃ a xs, x = .ref a ∧ SqT K H1 a xs ∧ ∀ p, H1 p = none → Q (.ref p) (upd H1 p (.tup xs.reverse))
theorem pe_rev {e : Expr} {te : TE} {k : Nat} {p1 p2 p3 pos : Pos} (he : PE X e te) : PE X (.Subscript e (.Slice none none (some (.UnaryOp .USub (.Constant (.int 1) k p1) p2)) p3) pos) (tRev X.K te) := by
  refine ⟨fun pins s σ H Q I h => ?_⟩
  refine Subscript_ (thn (he.run pins s σ H _ I h) fun v s1 ⟨x, H1, I1, r1, q1⟩ => ?_)
  have hstep : PO X (some (.UnaryOp .USub (.Constant (.int 1) k p1) p2)) (tPart (tUn (rU fun i => .int (-i)) (tC (.int 1)))) := po_some (pe_un un_neg pe_int)
  refine wpAny_Slice (thn (po_none.run pins s1 σ H1 (fun o G => o = none ∧ G = H1) I1 ⟨rfl, rfl⟩) fun vl s2 ⟨l, H2, I2, pl, el, e2⟩ => ?_)
  subst el e2
  refine thn (po_none.run pins s2 σ H2 (fun o G => o = none ∧ G = H2) I2 ⟨rfl, rfl⟩) fun vu s3 ⟨u, H3, I3, pu, eu, e3⟩ => ?_
  subst eu e3
  refine thn (hstep.run pins s3 σ H3 (fun o G => o = some (-1) ∧ G = H3) I3 ⟨1, rfl, -1, rfl, rfl, rfl⟩) fun vs s4 ⟨o, H4, I4, ps, eo, e4⟩ => ?_
  subst eo e4
  have I5 : Inv X pins σ H4 { s4 with heap := s4.heap.push { cls := .type "slice", data := .fields #[vl, vu, vs] } } := I4.kept (t' := s4.toks) fun b ob q => Heap.get?_push_of_some _ q
  rcases q1 with ⟨a, xs, ex, hx, q⟩ | ⟨a, xs, ex, hx, q⟩
  · subst ex
    cases r1
    obtain ⟨its, r, ht, hz⟩ := I5.list hx
    have hlen := r.length
    show wpAny _ _ (subscriptTail e (.Slice none none (some (.UnaryOp .USub (.Constant (.int 1) k p1) p2)) p3) (.ref a) (.ref s4.heap.objs.size)) _ _ { s4 with heap := s4.heap.push { cls := .type "slice", data := .fields #[vl, vu, vs] } }
    refine tail_any (ops := [.ref a, .ref s4.heap.objs.size]) ht.isList.typeIs (PySem.slot_list_getitem.lookup) ?_ (by with_unfolding_all rfl)
    refine wpAny_getItem_list_slice ht.isList (Heap.IsSliceOf.new _ vl vu vs) pl pu ps (by decide) ?_ (by rw [List.size_toArray]; omega)
    rw [PySem.W.krv_pick]
    exact ⟨.ref _, _, I5.laid (t' := s4.toks) (o := .lst xs.reverse) (fun b ob q => Heap.get?_push_of_some _ q) (Nat.le_refl _) ⟨by rw [List.length_reverse]; exact hz, _, 0, r.reverse, Heap.get?_push_size _ rfl⟩, rfl, q _ (I5.hok.fresh (Nat.le_refl _))⟩
  · subst ex
    cases r1
    obtain ⟨its, r, ht, hz⟩ := I5.tuple hx
    have hlen := r.length
    cases pl
    cases pu
    show wpAny _ _ (subscriptTail e (.Slice none none (some (.UnaryOp .USub (.Constant (.int 1) k p1) p2)) p3) (.ref a) (.ref s4.heap.objs.size)) _ _ { s4 with heap := s4.heap.push { cls := .type "slice", data := .fields #[.none, .none, vs] } }
    refine tail_any (ops := [.ref a, .ref s4.heap.objs.size]) ht.typeIs (PyProof.Rows.slot_tuple_getitem.lookup) ?_ (by with_unfolding_all rfl)
    refine getItem_tuple_rev ht (Heap.IsSliceOf.new _ .none .none vs) ps ?_ (by rw [List.size_toArray]; omega)
    exact ⟨.ref _, _, I5.laid (t' := s4.toks) (o := .tup xs.reverse) (fun b ob q => Heap.get?_push_of_some _ q) (Nat.le_refl _) ⟨by rw [List.length_reverse]; exact hz, _, r.reverse, IsTup.new _ _⟩, rfl, q _ (I5.hok.fresh (Nat.le_refl _))⟩
end
end Ev
namespace Ev
open PySem PySem.Spec L2
section
variable {K : PySem.W.Frag} {mg : Str → Option Value} {E : XK} {w : Wd} {H : Hp} {m : Store} {x : V} {t : Tmp} {Q : V → Hp → Prop}
theorem Dens.rev : ∀ {vs : List V} {ds : List D}, Dens K w H vs ds → Dens K w H vs.reverse ds.reverse
  | _, [], .nil => .nil
  | v :: vs, d :: ds, .cons h r => by
    rw [List.reverse_cons, List.reverse_cons]
    exact (Dens.rev r).append (.cons h .nil)
theorem rev_ok (ok : WOk w H) (st : StR K w H m) (hx : TmpR K w H x t) (p : Post K mg E (RT K) w H (give (revV t) m) Q) :
    (∃ a xs, x = .ref a ∧ SqL K H a xs ∧ ∀ p, H p = none → Q (.ref p) (upd H p (.lst xs.reverse))) ∨ ∃ a xs, x = .ref a ∧ SqT K H a xs ∧ ∀ p, H p = none → Q (.ref p) (upd H p (.tup xs.reverse)) := by
  obtain ⟨z, e, p⟩ := p.given
  unfold revV at e
  split at e
  · rename_i ns
    obtain ⟨a, rfl, h1⟩ : ∃ a, x = .ref a ∧ ScR K H a ns := hx
    cases e
    refine .inl ⟨a, ns.map .int, rfl, h1.seq, fun c hc => ?_⟩
    rw [← List.map_reverse]
    exact Post.newList ok st p (Dens.ints _) c hc
  · split at e
    · rename_i ds ed
      obtain ⟨a, vs, rfl, h1, h2⟩ := hx.list ed
      cases e
      exact .inl ⟨a, vs, rfl, SqL.of h1, fun c hc => Post.newList ok st p h2.rev c hc⟩
    · rename_i ds ed
      obtain ⟨a, vs, rfl, h1, h2⟩ := hx.tup ed
      cases e
      exact .inr ⟨a, vs, rfl, h1, fun c hc => Post.newTup ok st p h2.rev c hc⟩
    · cases e
end
end Ev
set_option Elab.async false
set_option linter.all false
namespace Ev
open PySem PySem.Spec L2

def rRepr (K : PySem.W.Frag) : List V → Hp → VK → Prop := fun xs H Q => ∃ x d, xs = [x] ∧ Dp K H x d ∧ PyData.showable d = true ∧ SeqAt.shaped d = true ∧ (PyData.shown d).length ≤ sizeLine ∧ Q (.str (PyData.shown d)) H
theorem call_reprD {X : Cx} (hg : X.A.guards = some []) (hu : X.A.units + 65 < cLine) : CallR X (.builtin "repr") (rRepr X.K) := by
  intro pins s σ H xs us Q I r h
  obtain ⟨x, d, rfl, hd, hs, sd, hz, q⟩ := h
  obtain ⟨u, rfl, ru⟩ := vals1 r
  have hdep := SeqAt.depth_of_shaped sd
  obtain ⟨as, rd⟩ := Dp.reads I d x u hd ru
  have fin : ∀ h' tk tk', (∀ b o, s.heap.get? b = some o → h'.get? b = some o) → EP X pins σ Q (.str (PyData.shown d) tk) { s with heap := h', toks := tk' } := fun h' tk tk' k =>
    ⟨.str _, H, I.kept (t' := tk') k, ⟨tk, rfl⟩, q⟩
  cases hd with
  | non =>
    cases ru
    exact PySem.P.repr_of_none (by simpa only [PyData.shown] using fin s.heap _ _ fun _ _ z => z)
  | bl b =>
    cases ru
    exact PySem.P.repr_of_bool (by simpa only [PyData.shown] using fin s.heap _ _ fun _ _ z => z)
  | int i =>
    obtain ⟨t, rfl⟩ := ru
    exact PySem.P.repr_of_int (by simpa [PyData.showable] using hs) (by simpa only [PyData.shown] using fin s.heap _ _ fun _ _ z => z)
  | str z =>
    obtain ⟨t, rfl⟩ := ru
    exact PySem.P.repr_of_str (by simpa only [PyData.shown] using fin s.heap _ _ fun _ _ z => z) (by simpa only [PyData.shown] using hz)
  | lst a b =>
    cases ru
    exact repr_of_reads' rd hs (PyData.noDict_hsm (PyData.hasDict_of_canLay _ (SeqAt.canLay_of_shaped sd))) hg (by omega) (fun _ _ z => z) (fun h' u tk k => fin h' u tk k) hz
  | tup a b =>
    cases ru
    exact repr_of_reads' rd hs (PyData.noDict_hsm (PyData.hasDict_of_canLay _ (SeqAt.canLay_of_shaped sd))) hg (by omega) (fun _ _ z => z) (fun h' u tk k => fin h' u tk k) hz

def rLen (K : PySem.W.Frag) : List V → Hp → VK → Prop := fun xs H Q => ∃ x n, xs = [x] ∧ LenV K x H n ∧ Q (.int n) H
def rTupleOf (K : PySem.W.Frag) : List V → Hp → VK → Prop := fun xs H Q => ∃ p ys, xs = [.ref p] ∧ ((SqL K H p ys ∧ ∀ l, H l = none → Q (.ref l) (upd H l (.tup ys))) ∨ (SqT K H p ys ∧ Q (.ref p) H))
def rListOf (K : PySem.W.Frag) : List V → Hp → VK → Prop := fun xs H Q => ∃ p ys, xs = [.ref p] ∧ (SqL K H p ys ∨ SqT K H p ys) ∧ ∀ l, H l = none → Q (.ref l) (upd H l (.lst ys))
def rMin2 : List V → Hp → VK → Prop := fun xs H Q => ∃ i j, xs = [.int i, .int j] ∧ Q (.int (if j < i then j else i)) H
def rMax2 : List V → Hp → VK → Prop := fun xs H Q => ∃ i j, xs = [.int i, .int j] ∧ Q (.int (if j > i then j else i)) H

def rIntOf : List V → Hp → VK → Prop := fun xs H Q => (∃ i, xs = [.int i] ∧ Q (.int i) H) ∨ ∃ k, xs = [.bl k] ∧ Q (.int (if k then 1 else 0)) H
def rStrOf : List V → Hp → VK → Prop := fun xs H Q => (∃ i, xs = [.int i] ∧ i.natAbs.log2 < 1920 ∧ Q (.str (PyData.shown (.int i))) H) ∨ (∃ k, xs = [.bl k] ∧ Q (.str (PyData.shown (.bool k))) H) ∨ ∃ a, xs = [.str a] ∧ Q (.str a) H
section
open PySem.P
theorem str_of_bool {prog : Program} {w : World} {A : Around} {E : Value → Shared → Prop} {s : Shared} {b : Bool} {Q : Value → Shared → Prop} (h : Q (.str (if b then "True" else "False") s.toks) { s with toks := s.toks + 1 }) : wpAny (model prog w) A (call (.type "str") [.bool b]) Q E s :=
  callType_new F.called_str (by decide) (F.typeCall_str_1 _) (F.newCall_str_1 _) (fun obj => F.args_object_init_2 obj _) F.entry_str_new
    (meets_str_new (S := fun _ R s => R (.ok (.ret (.str (if b then "True" else "False") s.toks))) { s with toks := s.toks + 1 }) fun _ _ _ _ s hq =>
      wpAny_strOf_gives rfl (typeIs_bool s b) F.slot_bool_str F.slot_bool_repr F.entry_bool_repr (F.args_bool_repr_1 _) (gives_bool_repr b) hq (hsz := by cases b <;> decide)) ⟨typeIs_str _ _ _, h⟩
end
theorem call_strOf {X : Cx} : CallR X (.type "str") rStrOf := by
  intro pins s σ H xs us Q I r h
  rcases h with ⟨i, rfl, hz, q⟩ | ⟨k, rfl, q⟩ | ⟨a, rfl, q⟩
  · obtain ⟨u, rfl, t, rfl⟩ := vals1 r
    exact PySem.P.str_of_int hz ⟨.str _, H, I.tok _, ⟨_, rfl⟩, by simpa only [PyData.shown] using q⟩
  · obtain ⟨u, rfl, r1⟩ := vals1 r
    cases r1
    exact str_of_bool ⟨.str _, H, I.tok _, ⟨_, rfl⟩, by simpa only [PyData.shown] using q⟩
  · obtain ⟨u, rfl, t, rfl⟩ := vals1 r
    exact PySem.P.str_of_str ⟨.str _, H, I, ⟨_, rfl⟩, q⟩
def bfnName : BFn → Str
  | .len => "len"
  | .tupleOf => "tuple"
  | .listOf => "list"
  | .repr => "repr"
  | .sum => "sum"
  | .all => "all"
  | .any => "any"
  | .min2 => "min"
  | .max2 => "max"
  | .isinst _ => "isinstance"
  | .intOf => "int"
  | .strOf => "str"
  | .min1 => "min"
  | .max1 => "max"
  | .sorted => "sorted"
  | .listD => "list"
def bfnVal : BFn → Value
  | .len => .builtin "len"
  | .tupleOf => .type "tuple"
  | .listOf => .type "list"
  | .repr => .builtin "repr"
  | .sum => .builtin "sum"
  | .all => .builtin "all"
  | .any => .builtin "any"
  | .min2 => .builtin "min"
  | .max2 => .builtin "max"
  | .isinst _ => .builtin "isinstance"
  | .intOf => .type "int"
  | .strOf => .type "str"
  | .min1 => .builtin "min"
  | .max1 => .builtin "max"
  | .sorted => .builtin "sorted"
  | .listD => .type "list"
def rSort (K : PySem.W.Frag) : List V → Hp → VK → Prop := fun xs H Q => (rSortedI K xs H Q ∨ rSortedS K xs H Q) ∨ rSortedR K xs H Q
theorem rowB_of {d e : D} (h : rowB d e = true) : ∃ x xs y ys, d = .tuple (x :: xs) ∧ e = .tuple (y :: ys) ∧ rowOk (x :: xs) (y :: ys) = true := by
  unfold rowB at h
  split at h
  · exact ⟨_, _, _, _, rfl, rfl, h⟩
  · cases h
theorem rowsB_ok {ds : List D} (h : rowsB ds = true) : RowsOk ds ∧ ∀ d ∈ ds, d.depth ≤ 62 := by
  have h1 : ∀ d ∈ ds, d.depth ≤ 62 ∧ ∀ e ∈ ds, rowB d e = true := fun d hd => by
    have := List.all_eq_true.mp h d hd
    rw [Bool.and_eq_true, decide_eq_true_eq] at this
    exact ⟨this.1, fun e he => List.all_eq_true.mp this.2 e he⟩
  refine ⟨⟨fun d hd => ?_, fun xs ys hx hy => ?_⟩, fun d hd => (h1 d hd).1⟩
  · obtain ⟨x, xs, _, _, e, _⟩ := rowB_of ((h1 d hd).2 d hd)
    exact ⟨x, xs, e⟩
  · obtain ⟨x, xs2, y, ys2, e1, e2, r⟩ := rowB_of ((h1 _ hx).2 _ hy)
    cases e1
    cases e2
    exact r
def rListDT : List V → Hp → VK → Prop := fun xs H Q => ∃ d kvs, xs = [V.ref d] ∧ Rd H d (.dT kvs) ∧ ∀ p bs, H p = none → IsKeys H kvs bs → Q (.ref p) (upd H p (.lst (bs.map V.ref)))
def rListDs : List V → Hp → VK → Prop := fun xs H Q => rListD xs H Q ∨ rListDT xs H Q
theorem CallR.or {X : Cx} {f : Value} {r r' : List V → Hp → VK → Prop} (a : CallR X f r) (b : CallR X f r') : CallR X f (fun xs H Q => r xs H Q ∨ r' xs H Q) := by
  intro pins s σ H xs us Q I q h
  rcases h with h | h
  · exact a pins s σ H xs us Q I q h
  · exact b pins s σ H xs us Q I q h
def rBfn (K : PySem.W.Frag) : BFn → List V → Hp → VK → Prop
  | .len => rLen K
  | .tupleOf => rTupleOf K
  | .listOf => rListOf K
  | .repr => rRepr K
  | .sum => rSum K
  | .all => rAll K
  | .any => rAny K
  | .min2 => rMin2
  | .max2 => rMax2
  | .isinst _ => fun _ _ _ => False
  | .intOf => rIntOf
  | .strOf => rStrOf
  | .min1 => rMin K
  | .max1 => rMax K
  | .sorted => rSort K
  | .listD => rListDs
theorem call_bfn {X : Cx} (hc : X.calm = true) (hg : X.A.guards = some []) (hu : X.A.units + 65 < cLine) : ∀ f : BFn, CallR X (bfnVal f) (rBfn X.K f)
  | .len => call_len
  | .tupleOf => call_tuple_of
  | .listOf => call_list_of
  | .repr => call_reprD hg hu
  | .sum => cr_sum hc
  | .all => cr_all hc
  | .any => cr_any hc
  | .min2 => call_min2 hc
  | .max2 => call_max2 hc
  | .isinst _ => fun _ _ _ _ _ _ _ _ _ h => h.elim
  | .intOf => call_int1
  | .strOf => call_strOf
  | .min1 => cr_min hc
  | .max1 => cr_max hc
  | .sorted => CallR.or (CallR.or cr_sortedI cr_sortedS) (cr_sortedR hu)
  | .listD => CallR.or (call_list_dK hc) (call_list_dT hc)
theorem boot_bfn : ∀ f : BFn, bootBuiltins (bfnName f) = some (bfnVal f)
  | .len => by decide +kernel
  | .tupleOf => by decide +kernel
  | .listOf => by decide +kernel
  | .repr => by decide +kernel
  | .sum => by decide +kernel
  | .all => by decide +kernel
  | .any => by decide +kernel
  | .min2 => by decide +kernel
  | .max2 => by decide +kernel
  | .intOf => by decide +kernel
  | .strOf => by decide +kernel
  | .min1 => by decide +kernel
  | .max1 => by decide +kernel
  | .sorted => by decide +kernel
  | .listD => by decide +kernel
  | .isinst _ => show bootBuiltins "isinstance" = some (.builtin "isinstance") by decide +kernel

section
variable {K : PySem.W.Frag} {mg : Str → Option Value} {E : XK} {w w' w1 w2 : Wd} {H H' H1 H2 : Hp} {m m' m1 : Store} {x y v : V} {t u : Tmp} {Q : V → Hp → Prop}
theorem intsD_eq : ∀ {xs : List D} {ns : List Int}, intsD xs = some ns → xs = ns.map .int
  | [], _, e => by cases e; rfl
  | .int b :: r, ns, e => by
    obtain ⟨ms, e1, rfl⟩ := Option.map_eq_some_iff.mp (show (intsD r).map (b :: ·) = some ns from e)
    rw [intsD_eq e1]
    rfl
  | .none :: _, _, e => by cases e
  | .bool _ :: _, _, e => by cases e
  | .str _ :: _, _, e => by cases e
  | .list _ :: _, _, e => by cases e
  | .tuple _ :: _, _, e => by cases e
  | .dict _ :: _, _, e => by cases e
theorem bools_eq : ∀ {xs : List D} {ns : List Bool}, bools xs = some ns → xs = ns.map .bool
  | [], _, e => by cases e; rfl
  | .bool b :: r, ns, e => by
    obtain ⟨ms, e1, rfl⟩ := Option.map_eq_some_iff.mp (show (bools r).map (b :: ·) = some ns from e)
    rw [bools_eq e1]
    rfl
  | .none :: _, _, e => by cases e
  | .int _ :: _, _, e => by cases e
  | .str _ :: _, _, e => by cases e
  | .list _ :: _, _, e => by cases e
  | .tuple _ :: _, _, e => by cases e
  | .dict _ :: _, _, e => by cases e
theorem dens_ints : ∀ {ns : List Int} {vs : List V}, Dens K w H vs (ns.map .int) → vs = ns.map .int
  | [], _, h => by cases h; rfl
  | n :: ns, _, h => by
    cases h with
    | cons h r => cases h; rw [dens_ints r]; rfl
theorem dens_bools : ∀ {ns : List Bool} {vs : List V}, Dens K w H vs (ns.map .bool) → vs = ns.map .bl
  | [], _, h => by cases h; rfl
  | n :: ns, _, h => by
    cases h with
    | cons h r => cases h; rw [dens_bools r]; rfl
theorem pair1 {α β : Type} {F : α → β → Prop} {as : List α} {b : β} (h : Paired F as [b]) : ∃ a, as = [a] ∧ F a b := by
  cases h with
  | cons r s =>
    cases s
    exact ⟨_, rfl, r⟩
theorem pair2 {α β : Type} {F : α → β → Prop} {as : List α} {b c : β} (h : Paired F as [b, c]) : ∃ a d, as = [a, d] ∧ F a b ∧ F d c := by
  cases h with
  | cons r s =>
    cases s with
    | cons r2 s2 =>
      cases s2
      exact ⟨_, _, rfl, r, r2⟩
theorem strsD_eq : ∀ {xs : List D} {ns : List Str}, strsD xs = some ns → xs = ns.map .str
  | [], _, e => by cases e; rfl
  | x :: xs, ns, e => by
    cases x with
    | str i =>
      simp only [strsD] at e
      obtain ⟨r, e1, rfl⟩ := Option.map_eq_some_iff.mp e
      rw [strsD_eq e1]
      rfl
    | _ => simp [strsD] at e
theorem dens_strs : ∀ {ns : List Str} {vs : List V}, Dens K w H vs (ns.map .str) → vs = ns.map .str
  | [], _, h => by cases h; rfl
  | n :: ns, _, .cons h r => by
    cases h
    rw [dens_strs r]
    rfl
theorem strsDens : ∀ ns : List Str, Dens K w H (ns.map V.str) (ns.map PyData.str)
  | [] => .nil
  | n :: ns => .cons (.str n) (strsDens ns)
theorem leS_iff {a b : Str} : leS a b = true ↔ ¬ (b.cps.toList < a.cps.toList) := by
  unfold leS
  rw [PyProof.Rows.ltCps_eq]
  simp
theorem leS_total (a b : Str) : (leS a b || leS b a) = true := by
  rw [Bool.or_eq_true, leS_iff, leS_iff]
  by_cases h : b.cps.toList < a.cps.toList
  · exact .inr fun z => List.lt_irrefl _ (List.lt_trans h z)
  · exact .inl h
theorem leS_trans (a b c : Str) (h : leS a b = true) (h2 : leS b c = true) : leS a c = true := by
  rw [leS_iff] at h h2 ⊢
  exact List.not_lt.mpr (List.le_trans (List.not_lt.mp h) (List.not_lt.mp h2))
theorem leS_anti {a b : Str} (h : leS a b = true) (h2 : leS b a = true) : a = b := by
  rw [leS_iff] at h h2
  have := List.le_antisymm (List.not_lt.mp h) (List.not_lt.mp h2)
  rcases a with ⟨a⟩
  rcases b with ⟨b⟩
  simpa using this
theorem rising_all : ∀ {p : Str} {l : List Str}, PyProof.Rows.risingS p l = true → (p :: l).Pairwise fun a b => leS a b = true
  | p, [], _ => List.pairwise_singleton _ _
  | p, x :: r, h => by
    simp only [PyProof.Rows.risingS, Bool.and_eq_true] at h
    have hr := rising_all h.2
    have hpx : leS p x = true := h.1
    refine List.pairwise_cons.mpr ⟨fun y hy => ?_, hr⟩
    rcases List.mem_cons.mp hy with rfl | hy
    · exact hpx
    · exact leS_trans _ _ _ hpx ((List.pairwise_cons.mp hr).1 y hy)
theorem dens_each : ∀ {vs : List V} {ds : List D}, Dens K w H vs ds → PySem.W.EachIs (fun v d => Den K w H v d) vs ds
  | _, [], .nil => .nil
  | _, _ :: _, .cons h r => .cons h (dens_each r)
theorem each_dens : ∀ {vs : List V} {ds : List D}, PySem.W.EachIs (fun v d => Den K w H v d) vs ds → Dens K w H vs ds
  | _, _, .nil => .nil
  | _, _, .cons h r => .cons h (each_dens r)
theorem sortedS_all : ∀ {l : List Str}, PyProof.Rows.sortedS l = true → l.Pairwise fun a b => leS a b = true
  | [], _ => .nil
  | _ :: _, h => rising_all h
theorem sortS_uniq {xs ys : List Str} (h : ys.Perm xs) (s : PyProof.Rows.sortedS ys = true) : ys = xs.mergeSort leS := by
  refine List.Perm.eq_of_pairwise (le := fun a b => leS a b = true) (fun a b _ _ h1 h2 => leS_anti h1 h2) (sortedS_all s) (List.pairwise_mergeSort leS_trans leS_total xs) (h.trans (List.mergeSort_perm xs leS).symm)
theorem sortI_uniq {xs ys : List Int} (h : ys.Perm xs) (s : ys.Pairwise (· ≤ ·)) : ys = xs.mergeSort fun a b => decide (a ≤ b) := by
  refine List.Perm.eq_of_pairwise (le := fun a b => decide (a ≤ b) = true) (fun a b _ _ h1 h2 => Int.le_antisymm (of_decide_eq_true h1) (of_decide_eq_true h2)) (s.imp fun h => decide_eq_true h)
    (List.pairwise_mergeSort (le := fun a b : Int => decide (a ≤ b)) (fun a b c h1 h2 => decide_eq_true (Int.le_trans (of_decide_eq_true h1) (of_decide_eq_true h2))) (fun a b => by simpa using Int.le_total a b) xs) (h.trans (List.mergeSort_perm xs _).symm)
theorem min_of {ns : List Int} {m k : Int} (e : ns.min? = some m) (h : k ∈ ns) (l : ∀ y, y ∈ ns → k ≤ y) : k = m := by
  have := List.min?_eq_some_iff.mp e
  exact Int.le_antisymm (l _ this.1) (this.2 _ h)
theorem max_of {ns : List Int} {m k : Int} (e : ns.max? = some m) (h : k ∈ ns) (l : ∀ y, y ∈ ns → y ≤ k) : k = m := by
  have := List.max?_eq_some_iff.mp e
  exact Int.le_antisymm (this.2 _ h) (l _ this.1)
theorem pos_of_mem {α : Type} {ns : List α} {m : α} (h : m ∈ ns) : 0 < ns.length := List.length_pos_of_mem h
theorem key_den {k : Key} : Den K w H (kV k) (keyD k) := by
  cases k
  · exact .int _
  · exact .str _
theorem keys_den : ∀ ks : List Key, Dens K w H (ks.map kV) (ks.map keyD)
  | [] => .nil
  | _ :: r => .cons key_den (keys_den r)
theorem keysK {F : V → Val → Prop} {vs : List (Key × V)} {kvs : List (Key × Val)} (h : Paired (fun (p : Key × V) (q : Key × Val) => p.1 = q.1 ∧ F p.2 q.2) vs kvs) : Dens K w H (vs.map fun p => kV p.1) (kvs.map fun p => keyD p.1) := by
  induction h with
  | nil => exact .nil
  | @cons p q _ _ r _ ih =>
    refine .cons ?_ ih
    show Den K w H (kV p.1) (keyD q.1)
    rw [r.1]
    exact key_den
theorem keysT {F : V → Val → Prop} {vs : List (List Key × V)} {kvs : List (List Key × Val)} (h : Paired (fun (p : List Key × V) (q : List Key × Val) => p.1 = q.1 ∧ F p.2 q.2) vs kvs) :
    ∀ {bs : List Addr}, IsKeys H vs bs → Dens K w H (bs.map V.ref) (kvs.map fun p => PyData.tuple (p.1.map keyD)) := by
  induction h with
  | nil =>
    intro bs hb
    cases hb
    exact .nil
  | @cons p q _ _ r _ ih =>
    intro bs hb
    cases hb with
    | cons h1 h2 =>
      refine .cons (.tup h1 ?_) (ih h2)
      rw [r.1]
      exact keys_den _
theorem bfn_ok (ok : WOk w H) (st : StR K w H m) {xs : List V} {ts : List Tmp} (hx : Paired (TmpR K w H) xs ts) (f : BFn) (hf : ∀ l, f ≠ .isinst l) (p : Post K mg E (RT K) w H (give (bfnV f ts m) m) Q) : rBfn K f xs H Q := by
  obtain ⟨z, e, p⟩ := p.given
  unfold bfnV at e
  split at e
  · -- len
    replace hx := pair1 hx
    obtain ⟨x, rfl, hx⟩ := hx
    split at e
    · rename_i n
      obtain ⟨a, rfl, ea⟩ : ∃ a, x = .ref a ∧ w.io[n]? = some a := hx
      split at e
      · rename_i ys em
        obtain ⟨vs, h1, h2⟩ := st.at_ n a _ ea em
        cases e
        exact ⟨_, ys.length, rfl, .inl ⟨vs, SqL.of h1, h2.length.symm⟩, Post.int ok st p⟩
      · cases e
    · rename_i ns
      obtain ⟨a, rfl, h1⟩ : ∃ a, x = .ref a ∧ ScR K H a ns := hx
      cases e
      exact ⟨_, ns.length, rfl, .inl ⟨_, h1.seq, by rw [List.length_map]⟩, Post.int ok st p⟩
    · split at e
      · rename_i s ed
        cases hx.str ed
        split at e
        · cases e
          exact ⟨_, s.length, rfl, ⟨by assumption, rfl⟩, Post.int ok st p⟩
        · cases e
      · rename_i ds ed
        obtain ⟨a, vs, rfl, h1, h2⟩ := hx.list ed
        cases e
        exact ⟨_, ds.length, rfl, .inl ⟨vs, SqL.of h1, h2.length.symm⟩, Post.int ok st p⟩
      · rename_i ds ed
        obtain ⟨a, vs, rfl, h1, h2⟩ := hx.tup ed
        cases e
        exact ⟨_, ds.length, rfl, .inr ⟨vs, h1, h2.length.symm⟩, Post.int ok st p⟩
      · cases e
  · -- tuple
    replace hx := pair1 hx
    obtain ⟨x, rfl, hx⟩ := hx
    split at e
    · rename_i ds e1
      cases e
      obtain ⟨a, vs, rfl, h1, h2⟩ := hx.list (Tmp.dataX_data e1)
      exact ⟨a, vs, rfl, .inl ⟨.of h1, fun l hl => Post.newTup ok st p h2 l hl⟩⟩
    · rename_i ds e1
      cases e
      obtain ⟨a, vs, rfl, h1, h2⟩ := hx.tupX e1
      exact ⟨a, vs, rfl, .inr ⟨.of h1, p.here ok st ⟨(show ValR K w H _ (.d (.tuple _)) from Den.tup h1 h2), trivial⟩⟩⟩
    · cases e
  · -- list
    replace hx := pair1 hx
    obtain ⟨x, rfl, hx⟩ := hx
    split at e
    · rename_i ns
      obtain ⟨a, rfl, h1⟩ : ∃ a, x = .ref a ∧ ScR K H a ns := hx
      cases e
      exact ⟨a, _, rfl, .inl h1.seq, fun l hl => Post.newList ok st p (Dens.ints ns) l hl⟩
    · obtain ⟨ds, e1, rfl⟩ := Option.map_eq_some_iff.mp e
      obtain ⟨a, vs, rfl, h1, h2⟩ := hx.items e1
      exact ⟨a, vs, rfl, h1, fun l hl => Post.newList ok st p h2 l hl⟩
  · -- repr
    replace hx := pair1 hx
    obtain ⟨x, rfl, hx⟩ := hx
    split at e
    · rename_i d ed
      split at e
      · rename_i hh
        simp only [Bool.and_eq_true, decide_eq_true_eq] at hh
        cases e
        exact ⟨x, d, rfl, hx.dp ed, hh.1.1, hh.1.2, hh.2, Post.str ok st p⟩
      · cases e
    · cases e
  · -- sum
    replace hx := pair1 hx
    obtain ⟨x, rfl, hx⟩ := hx
    split at e
    · rename_i ds ed
      obtain ⟨ns, e1, rfl⟩ := Option.map_eq_some_iff.mp e
      cases intsD_eq e1
      obtain ⟨a, vs, rfl, h1, h2⟩ := hx.list ed
      cases dens_ints h2
      exact ⟨a, ns, rfl, SqL.of h1, Post.int ok st p⟩
    · cases e
  · -- all
    replace hx := pair1 hx
    obtain ⟨x, rfl, hx⟩ := hx
    split at e
    · rename_i ds ed
      obtain ⟨ns, e1, rfl⟩ := Option.map_eq_some_iff.mp e
      cases bools_eq e1
      obtain ⟨a, vs, rfl, h1, h2⟩ := hx.list ed
      cases dens_bools h2
      exact ⟨a, ns, rfl, SqL.of h1, Post.bl ok st p⟩
    · cases e
  · -- any
    replace hx := pair1 hx
    obtain ⟨x, rfl, hx⟩ := hx
    split at e
    · rename_i ds ed
      obtain ⟨ns, e1, rfl⟩ := Option.map_eq_some_iff.mp e
      cases bools_eq e1
      obtain ⟨a, vs, rfl, h1, h2⟩ := hx.list ed
      cases dens_bools h2
      exact ⟨a, ns, rfl, SqL.of h1, Post.bl ok st p⟩
    · cases e
  · -- min
    replace hx := pair2 hx
    obtain ⟨x, y, rfl, hx, hy⟩ := hx
    split at e
    · rename_i i j e1 e2
      cases hx.int e1
      cases hy.int e2
      cases e
      exact ⟨i, j, rfl, Post.int ok st p⟩
    · cases e
  · -- max
    replace hx := pair2 hx
    obtain ⟨x, y, rfl, hx, hy⟩ := hx
    split at e
    · rename_i i j e1 e2
      cases hx.int e1
      cases hy.int e2
      cases e
      exact ⟨i, j, rfl, Post.int ok st p⟩
    · cases e
  · exact absurd rfl (hf _)
  · -- int
    replace hx := pair1 hx
    obtain ⟨x, rfl, hx⟩ := hx
    split at e
    · rename_i i e1
      cases hx.int e1
      cases e
      exact .inl ⟨i, rfl, Post.int ok st p⟩
    · rename_i k e1
      cases hx.bl e1
      cases e
      exact .inr ⟨k, rfl, Post.int ok st p⟩
    · cases e
  · -- str
    replace hx := pair1 hx
    obtain ⟨x, rfl, hx⟩ := hx
    split at e
    · rename_i i e1
      cases hx.int e1
      split at e
      · rename_i hz
        cases e
        exact .inl ⟨i, rfl, hz, Post.str ok st p⟩
      · cases e
    · rename_i k e1
      cases hx.bl e1
      cases e
      exact .inr (.inl ⟨k, rfl, Post.str ok st p⟩)
    · rename_i z e1
      cases hx.str e1
      cases e
      exact .inr (.inr ⟨z, rfl, Post.str ok st p⟩)
    · cases e
  · -- min of a list
    replace hx := pair1 hx
    obtain ⟨x, rfl, hx⟩ := hx
    split at e
    · rename_i ds ed
      obtain ⟨ns, e1, e2⟩ := Option.bind_eq_some_iff.mp e
      obtain ⟨k, e3, rfl⟩ := Option.map_eq_some_iff.mp e2
      cases intsD_eq e1
      obtain ⟨a, vs, rfl, h1, h2⟩ := hx.list ed
      cases dens_ints h2
      exact ⟨a, ns, rfl, SqL.of h1, pos_of_mem (List.min?_eq_some_iff.mp e3).1, fun m hm hle => by rw [min_of e3 hm hle]; exact Post.int ok st p⟩
    · cases e
  · -- max of a list
    replace hx := pair1 hx
    obtain ⟨x, rfl, hx⟩ := hx
    split at e
    · rename_i ds ed
      obtain ⟨ns, e1, e2⟩ := Option.bind_eq_some_iff.mp e
      obtain ⟨k, e3, rfl⟩ := Option.map_eq_some_iff.mp e2
      cases intsD_eq e1
      obtain ⟨a, vs, rfl, h1, h2⟩ := hx.list ed
      cases dens_ints h2
      exact ⟨a, ns, rfl, SqL.of h1, pos_of_mem (List.max?_eq_some_iff.mp e3).1, fun m hm hle => by rw [max_of e3 hm hle]; exact Post.int ok st p⟩
    · cases e
  · -- sorted
    replace hx := pair1 hx
    obtain ⟨x, rfl, hx⟩ := hx
    split at e
    · rename_i ds ed
      obtain ⟨ys, e1, rfl⟩ := Option.map_eq_some_iff.mp e
      obtain ⟨a, vs, rfl, h1, h2⟩ := hx.list ed
      unfold sortD at e1
      split at e1
      · rename_i ns e2
        cases e1
        cases intsD_eq e2
        cases dens_ints h2
        exact .inl (.inl ⟨a, ns, rfl, SqL.of h1, fun ns' q hp hs hq => by rw [← sortI_uniq hp hs] at p; exact Post.newList ok st p (Dens.ints ns') q hq⟩)
      · split at e1
        · rename_i ss e3
          split at e1
          · rename_i hz
            cases e1
            cases strsD_eq e3
            cases dens_strs h2
            exact .inl (.inr ⟨a, ss, rfl, SqL.of h1, hz, fun ys q hp hs hq => by rw [← sortS_uniq hp hs] at p; exact Post.newList ok st p (strsDens ys) q hq⟩)
          · cases e1
        · split at e1
          · rename_i hb
            cases e1
            obtain ⟨hk, hdp⟩ := rowsB_ok hb
            exact .inr ⟨a, vs, ds, _, rfl, SqL.of h1, h2.dps, dens_each h2, hk, hdp, fun ys q hp hq => Post.newList ok st p (each_dens hp) q hq⟩
          · cases e1
    · cases e
  · -- the list of a dict
    replace hx := pair1 hx
    obtain ⟨x, rfl, hx⟩ := hx
    split at e
    · rename_i n
      obtain ⟨a, rfl, ea⟩ : ∃ a, x = .ref a ∧ w.io[n]? = some a := hx
      split at e
      · rename_i kvs em
        obtain ⟨vs, h1, h2⟩ := st.at_ n a _ ea em
        cases e
        exact .inl ⟨a, vs, rfl, h1, fun q hq => Post.newList ok st p (keysK h2) q hq⟩
      · rename_i kvs em
        obtain ⟨vs, h1, h2⟩ := st.at_ n a _ ea em
        cases e
        refine .inr ⟨a, vs, rfl, .of h1, fun q bs hq hb => Post.newList ok st p ?_ q hq⟩
        exact keysT h2 hb
      · cases e
    · cases e
  · cases e
def rMfn : MFn → V → List V → Hp → VK → Prop
  | .upper => fun x xs H Q => ∃ a, x = .str a ∧ xs = [] ∧ a.length ≤ 5592405 ∧ Q (.str (Txt.upper a)) H
def mfnName : MFn → Str
  | .upper => "upper"
theorem pe_mfn {X : Cx} {o : Expr} {to : TE} {apos pos : Pos} (ho : PE X o to) (hbase : ∀ f : MFn, attributeBase o (mfnName f) X.env (eval o X.env) = eval o X.env) (hline : (apos.endLine == pos.line) = true) : ∀ f : MFn, PE X (.Call (.Attribute o (mfnName f) apos) [] [] pos) (tM0 (rMfn f) to)
  | .upper => pe_upper ho (hbase .upper) hline
theorem mfn_ok (ok : WOk w H) (st : StR K w H m) {x : V} {t : Tmp} (hx : TmpR K w H x t) (f : MFn) (p : Post K mg E (RT K) w H (give (mfnV f t) m) Q) : (∃ a, x = .str a) ∧ rMfn f x [] H Q := by
  obtain ⟨z, e, p⟩ := p.given
  cases f with
  | upper =>
    simp only [mfnV] at e
    split at e
    · rename_i a e1
      cases hx.str e1
      split at e
      · rename_i hz
        cases e
        exact ⟨⟨a, rfl⟩, a, rfl, rfl, hz, Post.str ok st p⟩
      · cases e
    · cases e

def kitAllB (t : String) : List String → Option Bool
  | [] => some false
  | c :: cs => match kitB t c with
    | some true => some true
    | some false => kitAllB t cs
    | none => none
theorem kitAll_ok {t : String} : ∀ {cs : List String} {r : Bool}, kitAllB t cs = some r → PySem.W.kitAny K (.type t) (cs.map .type) = some r
  | [], r, e => by cases e; rfl
  | c :: cs, r, e => by
    unfold kitAllB at e
    split at e
    · rename_i e1
      cases e
      exact kitAny_cons (kit_ty e1) (fun z => by cases z) fun _ => rfl
    · rename_i e1
      exact kitAny_cons (kit_ty e1) (fun _ => kitAll_ok e) fun z => by cases z
    · cases e
end
end Ev
set_option Elab.async false
set_option linter.all false
namespace Ev
open PySem PySem.Spec L2

abbrev CXn (P : Program) (w : World) : CXT := L2.CX P w
structure FnG (P : Program) (w : World) (K : PySem.W.Frag) (mg : Str → Option Value) (base : Heap) (k : Nat) (f : Addr) (fd : FuncData) (ps : List Str) (sp : Sp) : Prop where
  len : ∀ vs H Q E, sp vs H Q E → vs.length = ps.length
  go : ∀ (A : Around) (outer : List PySem.Env) (s : Shared) (H : Hp) (args : Args) (us : List Value) (vs : List V) (Q : VK) (E : XK),
    A.guards = some [] → Room k A → L2.Env0 P w K mg base A outer s H → BindsTo s fd args (ps.zip us) → Vals vs us → sp vs H Q E →
    codeAny (model P w) A (.call (.ref f) args) (CR (CXn P w) outer P w H s Q E) s

section
variable {X : Cx} {k : Nat} {f : Addr} {fd : FuncData} {ps : List Str} {sp : Sp} {E : XK}
theorem go_fn {pins : List (Addr × Obj)} {σ : L2.St} {H : Hp} {s : Shared} {Q : VK} {us zs : List Value} {kw : List (Str × Value)} {vs : List V} (F : FnG X.prog X.w X.K X.mg X.base k f fd ps sp) (hg : X.A.guards = some [])
    (hr : Room k X.A) (hx : Passes (CXn X.prog X.w) X E) (I : Inv X pins σ H s) (hb : BindsTo s fd ⟨us, kw⟩ (ps.zip zs)) (r : Vals vs zs) (h : sp vs H Q E) :
    wpAny (model X.prog X.w) X.A (call (.ref f) us kw) (EP X pins σ Q) X.xe s := by
  refine wpAny_call (codeAny_mono (F.go X.A X.stack s H ⟨us, kw⟩ zs vs Q E hg hr I.env0 hb r h) fun res s' hq => ?_)
  match res, hq with
  | .error e, hq => exact hx pins σ H s e s' I hq
  | .ok (.ret u), hq => exact I.after hq
  | .ok .next, hq => exact False.elim hq
  | .ok .brk, hq => exact False.elim hq
  | .ok .cont, hq => exact False.elim hq
end

def BindOk (K : PySem.W.Frag) (fd : FuncData) (ps : List Str) (n : Nat) (ks : List Str) (arr : List (Nat ⊕ D)) : Prop :=
  ∀ (s : Shared) (us ws : List Value), K.In s.heap → us.length = n → ws.length = ks.length →
    ∃ zs, BindsTo s fd ⟨us, ks.zip ws⟩ (ps.zip zs) ∧ Paired (fun (z : Value) (a : Nat ⊕ D) => match a with
      | .inl i => (us ++ ws)[i]? = some z
      | .inr d => ∃ v, RelV v z ∧ ∀ (w : Wd) (H : Hp), ValR K w H v (kval d)) zs arr

theorem fill_ok {K : PySem.W.Frag} {w : Wd} {H : Hp} {vs : List V} {us : List Value} {xs : List Val} (r : Vals vs us) (h : Paired (ValR K w H) vs xs) :
    ∀ {arr : List (Nat ⊕ D)} {zs : List Value} {ys : List Val}, Paired (fun (z : Value) (a : Nat ⊕ D) => match a with
      | .inl i => us[i]? = some z
      | .inr d => ∃ v, RelV v z ∧ ∀ (w : Wd) (H : Hp), ValR K w H v (kval d)) zs arr → fill arr xs = some ys → ∃ ts, Vals ts zs ∧ Paired (ValR K w H) ts ys
  | [], _, ys, .nil, e => by
    cases e
    exact ⟨[], .nil, .nil⟩
  | .inl i :: arr, _, ys, .cons a b, e => by
    unfold fill at e
    split at e
    · rename_i x zs e1 e2
      cases e
      obtain ⟨ts, t1, t2⟩ := fill_ok r h b e2
      have a' : us[i]? = some _ := a
      obtain ⟨v, v1, v2⟩ : ∃ v, vs[i]? = some v ∧ ValR K w H v x := by
        clear a a' t1 t2 b e2 r
        induction h generalizing i with
        | nil => simp at e1
        | cons q _ ih =>
          cases i with
          | zero => simp at e1; subst e1; exact ⟨_, rfl, q⟩
          | succ i => simpa using ih i (by simpa using e1)
      obtain ⟨u, u1, u2⟩ := r.get v1
      rw [a'] at u1
      cases u1
      exact ⟨v :: ts, .cons u2 t1, .cons v2 t2⟩
    · cases e
  | .inr d :: arr, _, ys, .cons a b, e => by
    obtain ⟨zs, e2, rfl⟩ := Option.map_eq_some_iff.mp (show (fill arr xs).map (kval d :: ·) = some ys from e)
    obtain ⟨ts, t1, t2⟩ := fill_ok r h b e2
    obtain ⟨v, v1, v2⟩ := a
    exact ⟨v :: ts, .cons v1 t1, .cons (v2 w H) t2⟩

def spF (K : PySem.W.Frag) (mg : Str → Option Value) (c : Calls) (f : Str) : Sp := fun vs H Q E =>
  ∃ w xs m, WOk w H ∧ StR K w H m ∧ Paired (ValR K w H) vs xs ∧ Post K mg E (RT K) w H (c f xs m) Q

structure CallOk (X : Cx) (c : Calls) (f : Str) (n : Nat) (ks : List Str) (arr : List (Nat ⊕ D)) : Prop where
  ex : ∃ (a : Addr) (fd : FuncData) (ps : List Str) (k : Nat), X.mg f = some (.ref a) ∧ PySem.W.keepIn X.K (.ref a) = true ∧ Room k X.A ∧ FnG X.prog X.w X.K X.mg X.base k a fd ps (spF X.K X.mg c f) ∧ BindOk X.K fd ps n ks arr

def noStar : Expr → Bool
  | .Starred _ _ => false
  | _ => true
theorem star_of {e : Expr} {es : List Expr} {env : PySem.Env} (h : noStar e = true) : starEach (e :: es) env = (false, eval e env) :: starEach es env := by
  cases e <;> first | rfl | cases h
theorem stars_of {env : PySem.Env} {pos : Pos} : ∀ {es : List Expr}, es.all noStar = true → (backTo pos (starEach es env)).any (·.1) = false
  | [], _ => rfl
  | e :: es, h => by
    rw [List.all_cons, Bool.and_eq_true] at h
    rw [star_of h.1]
    show (false || (backTo pos (starEach es env)).any (·.1)) = false
    rw [stars_of h.2]
    rfl
def kwNames : List Keyword → Option (List Str)
  | [] => some []
  | ⟨some k, _, _⟩ :: r => (kwNames r).map (k :: ·)
  | _ :: _ => none
theorem kw_names {env : PySem.Env} {pos : Pos} : ∀ {kws : List Keyword} {ks : List Str}, kwNames kws = some ks →
    (backToKw pos (keywordEach kws env)).all (·.1.isSome) = true ∧ (backToKw pos (keywordEach kws env)).filterMap (·.1) = ks ∧ (backToKw pos (keywordEach kws env)).any (·.1.isNone) = false
  | [], ks, e => by cases e; exact ⟨rfl, rfl, rfl⟩
  | ⟨some k, v, p⟩ :: r, ks, e => by
    obtain ⟨ks', e1, rfl⟩ := Option.map_eq_some_iff.mp (show (kwNames r).map (k :: ·) = some ks from e)
    obtain ⟨h1, h2, h3⟩ := kw_names (env := env) (pos := pos) e1
    refine ⟨?_, ?_, ?_⟩
    · show (true && (backToKw pos (keywordEach r env)).all (·.1.isSome)) = true
      rw [h1]
      rfl
    · show k :: (backToKw pos (keywordEach r env)).filterMap (·.1) = k :: ks'
      rw [h2]
    · show (false || (backToKw pos (keywordEach r env)).any (·.1.isNone)) = false
      rw [h3]
      rfl
  | ⟨none, _, _⟩ :: _, _, e => by cases e

section
variable {X : Cx} {E : XK} {c : Calls}
def ArgsOk (X : Cx) (E : XK) (c : Calls) (x : Str) (n nk : Nat) (arr : List (Nat ⊕ D)) (Q : VK) (vs zs : List V) (H : Hp) : Prop :=
  vs.length = n ∧ zs.length = nk ∧ ∃ w xs zz m, WOk w H ∧ StR X.K w H m ∧ Paired (ValR X.K w H) (vs ++ zs) xs ∧ fill arr xs = some zz ∧ Post X.K X.mg E (RT X.K) w H (c x zz m) Q
theorem args_fin {x : Str} {ks : List Str} {n : Nat} {arr : List (Nat ⊕ D)} {a : Addr} {fd : FuncData} {ps : List Str} {k : Nat} (hg : X.A.guards = some []) (hr : Room k X.A)
    (F : FnG X.prog X.w X.K X.mg X.base k a fd ps (spF X.K X.mg c x)) (hb : BindOk X.K fd ps n ks arr) (hx : Passes (CXn X.prog X.w) X E)
    {pins : List (Addr × Obj)} {σ : L2.St} {s : Shared} {H : Hp} {Q : VK} {us ws : List Value} {vs zs : List V} (I : Inv X pins σ H s) (r1 : Vals vs us) (r2 : Vals zs ws) (h : ArgsOk X E c x n ks.length arr Q vs zs H) :
    wpAny (model X.prog X.w) X.A (call (.ref a) us (ks.zip ws)) (EP X pins σ Q) X.xe s := by
  obtain ⟨l1, l2, w, xs, zz, m, ok, st, q, fl, po⟩ := h
  obtain ⟨z2, b1, b2⟩ := hb s us ws I.kIn (r1.length.symm.trans l1) (r2.length.symm.trans l2)
  obtain ⟨ts, t1, t2⟩ := fill_ok (r1.append r2) q b2 fl
  exact go_fn F hg hr hx I b1 t1 ⟨w, zz, m, ok, st, t2, po⟩
theorem pe_callG {x : Str} {p pos : Pos} {e : Expr} {es : List Expr} {kws : List Keyword} {ks : List Str} {n : Nat} {arr : List (Nat ⊕ D)} {ta tk : TA} {T : TE}
    (C : CallOk X c x n ks arr) (hg : X.A.guards = some []) (hx : Passes (CXn X.prog X.w) X E) (hgl : Gl X x) (hdb : (x == ("__debug__" : Str)) = false) (hst : (e :: es).all noStar = true) (hks : kwNames kws = some ks)
    (ha : PA X (e :: es) ta) (hk : PK X kws tk)
    (hT : ∀ σ H Q, T σ H Q → ta σ H fun vs H1 => tk σ H1 fun zs H2 => ArgsOk X E c x n ks.length arr Q vs zs H2) :
    PE X (.Call (.Name x p) (e :: es) kws pos) T := by
  obtain ⟨a, fd, ps, k, hm, hkp, hr, F, hb⟩ := C.ex
  obtain ⟨k1, k2, k3⟩ := kw_names (env := X.env) (pos := pos) hks
  have hst2 := hst
  rw [List.all_cons, Bool.and_eq_true] at hst2
  refine ⟨fun pins s σ H Q I h => ?_⟩
  have h := hT σ H Q h
  refine wpAny_Call_Name_kw (ld_glob I hgl hm ?_ hdb)
  refine PySem.W.callWith_KW (h₀ := X.base) I.ok.mod.kin hkp k1 (thn (ha.run pos pins s σ H _ I h) fun us s1 ⟨vs, H1, I1, r1, q1⟩ => ?_) (by rw [stars_of hst, k3]; rfl) (star_of hst2.1)
  refine thn (hk.run pos pins s1 σ H1 _ I1 q1) fun ws s2 ⟨zs, H2, I2, r2, q2⟩ => ⟨I2.kIn, ?_⟩
  rw [k2]
  exact args_fin hg hr F hb hx I2 r1 r2 q2
theorem pe_callG0 {x : Str} {p pos : Pos} {kws : List Keyword} {ks : List Str} {n : Nat} {arr : List (Nat ⊕ D)} {tk : TA} {T : TE}
    (C : CallOk X c x n ks arr) (hg : X.A.guards = some []) (hx : Passes (CXn X.prog X.w) X E) (hgl : Gl X x) (hdb : (x == ("__debug__" : Str)) = false) (hks : kwNames kws = some ks)
    (hk : PK X kws tk) (hT : ∀ σ H Q, T σ H Q → tk σ H fun zs H2 => ArgsOk X E c x n ks.length arr Q [] zs H2) :
    PE X (.Call (.Name x p) [] kws pos) T := by
  obtain ⟨a, fd, ps, k, hm, hkp, hr, F, hb⟩ := C.ex
  obtain ⟨k1, k2, k3⟩ := kw_names (env := X.env) (pos := pos) hks
  refine ⟨fun pins s σ H Q I h => ?_⟩
  have h := hT σ H Q h
  refine wpAny_Call_Name_kw (ld_glob I hgl hm ?_ hdb)
  refine PySem.W.callWith_KW0 (h₀ := X.base) I.ok.mod.kin hkp k1 (thn (hk.run pos pins s σ H _ I h) fun ws s2 ⟨zs, H2, I2, r2, q2⟩ => ⟨I2.kIn, ?_⟩) (by rw [k3]; rfl)
  rw [k2]
  exact args_fin hg hr F hb hx I2 .nil r2 q2
end

def cxG (P : Program) (w : World) (K : PySem.W.Frag) (mg : Str → Option Value) (base : Heap) (N : List Str) (qual : Str) (scope : Scope) (f : Addr) (cd : Value) (A : Around) (outer : List PySem.Env) (s : Shared) (H : Hp) (E : XK) : Cx :=
  cxOf (CXn P w) P w K mg base N qual scope f cd A outer s H E
theorem fnG_of {P : Program} {w : World} {K : PySem.W.Frag} {mg : Str → Option Value} {base : Heap} {x qual : Str} {params : Arguments} {body : List Stmt} {scope : Scope} {dvs : List V} {kws : List (Str × V)} {f : Addr} {fd : FuncData}
    {N ps : List Str} {k : Nat} {sp : Sp} (F : FunD K x qual params body scope dvs kws f fd) (S : FnScope N ps scope) (len : ∀ vs H Q E, sp vs H Q E → vs.length = ps.length)
    (hb : ∀ (cdv : Value) (A : Around) (outer : List PySem.Env) (s : Shared) (H : Hp) (vs : List V) (Q : VK) (E : XK), A.guards = some [] → Room k (A.deeper (PyProof.Rows.envOfC qual scope s.heap.objs.size f cdv)) → sp vs H Q E →
      ∃ t, PSs (cxG P w K mg base N qual scope f cdv A outer s H E) body t ∧ t { nx := fun _ H' => Q .non H', rt := Q } (start N vs) H) : FnG P w K mg base (k + 1) f fd ps sp := by
  obtain ⟨oc, od, dV, kV, doc, pm, an, cdv, ct, osl, rfl, lk, hcd, _, _⟩ := F.ex
  refine ⟨len, fun A outer s H args us vs Q E hg hr e0 hbd r hsp => ?_⟩
  have vl := len _ _ _ _ hsp
  have kin : K.In s.heap := e0.mod.kin.keeps fun b o q => (e0.bs b o q).1
  have nol : s.heap.NoLimit := e0.mod.nolimit.keeps fun b o q => (e0.bs b o q).1
  have kinds : ∀ y ∈ ps.zip us, scope.names.lookup y.1 = some .local ∨ (scope.names.lookup y.1 = some .cell ∧ ((cellsFrom (s.heap.objs.size + 1) scope.names []).lookup y.1).isSome = true) := by
    rintro ⟨n, v⟩ hy
    cases S.par n (List.of_mem_zip hy).1 with
    | inl q => exact .inl q
    | inr q => exact .inr ⟨q, PySem.W.cellsFrom_some _ _ _ (.inl q)⟩
  refine codeAny_call_function hr.depth (kin _ _ lk) rfl S.co S.gen rfl (PySem.W.codeRec_of kin hcd) (hbd _ _ _ _ ?_)
  refine wpAny_newFunctionEnv_cells S.kind kinds fun env he s1 x => ?_
  cases he
  refine ⟨nol.keeps x.toInCall.keep, codeAny_func ?_⟩
  obtain ⟨t, ht, hq⟩ := hb cdv A outer s H vs Q E hg (hr.deeper _) hsp
  have I : Inv (cxG P w K mg base N qual scope f cdv A outer s H E) [] (start N vs) H s1 := inv_start S hr.hd e0 vl r x
  refine wpAny_mono (ht.run [] s1 (start N vs) H _ I hq) (fun fl s' hs => ?_) fun e s' hs => hs
  match fl, hs with
  | .ret u, ⟨v, σ', H', J, rv, q⟩ => exact ⟨v, H', J.os, J.bare, J.base, J.hok, rv, q⟩
  | .next, ⟨σ', H', J, q⟩ => exact ⟨.non, H', J.os, J.bare, J.base, J.hok, rfl, q⟩
  | .brk, ⟨_, _, _, q⟩ => exact False.elim q
  | .cont, ⟨_, _, _, q⟩ => exact False.elim q
end Ev
set_option Elab.async false
set_option linter.all false
namespace Ev
open PySem PySem.Spec L2

structure Keep (w : Wd) (H : Hp) (w' : Wd) (H' : Hp) : Prop where
  fm : ∀ a, w.F a → w'.F a
  fx : ∀ a o, w.F a → H a = some o → H' a = some o
  im : ∀ a o, H a = some o → ¬ Mut (some o) → H' a = some o
  io : ∃ l, w'.io = w.io ++ l
theorem Keep.refl (w : Wd) (H : Hp) : Keep w H w H := ⟨fun _ h => h, fun _ _ _ h => h, fun _ _ h _ => h, ⟨[], by simp⟩⟩
section
variable {K : PySem.W.Frag} {mg : Str → Option Value} {E : XK} {w w' w1 w2 : Wd} {H H' H1 H2 : Hp} {m m' m1 : Store} {σ : L2.St} {r : Env}
theorem Keep.trans (a : Keep w H w' H') (b : Keep w' H' w2 H2) : Keep w H w2 H2 where
  fm := fun x h => b.fm x (a.fm x h)
  fx := fun x o f h => b.fx x o (a.fm x f) (a.fx x o f h)
  im := fun x o h n => b.im x o (a.im x o h n) n
  io := by
    obtain ⟨l, e⟩ := a.io
    obtain ⟨l2, e2⟩ := b.io
    exact ⟨l ++ l2, by rw [e2, e, List.append_assoc]⟩
theorem Step.keep (ok : WOk w H) (s : Step w H w' H') : Keep w H w' H' :=
  ⟨s.fm, fun a o f h => s.ext a o h fun z => absurd z (ok.ff a f), fun a o h n => s.ext a o h fun _ => n, let ⟨l, e, _⟩ := s.io; ⟨l, e⟩⟩
theorem Keep.seqT (s : Keep w H w' H') {a : Addr} {xs : List V} (h : SqT K H a xs) : SqT K H' a xs := by
  rcases h with (h | ⟨o, h⟩) | h
  · exact .inl (.inl (s.im _ _ h fun z => z))
  · exact .inl (.inr ⟨o, s.im _ _ h fun z => z⟩)
  · exact .inr h
mutual
theorem Den.keep (s : Keep w H w' H') : ∀ {v : V} {d : D}, Den K w H v d → Den K w' H' v d
  | _, .none, .non => .non
  | _, .bool _, .bl b => .bl b
  | _, .int _, .int i => .int i
  | _, .str _, .str x => .str x
  | _, .list _, .lst f h r => .lst (s.fm _ f) (s.fx _ _ f h) (Dens.keep s r)
  | _, .tuple _, .tup h r => .tup (s.im _ _ h fun z => z) (Dens.keep s r)
theorem Dens.keep (s : Keep w H w' H') : ∀ {vs : List V} {ds : List D}, Dens K w H vs ds → Dens K w' H' vs ds
  | _, [], .nil => .nil
  | _, _ :: _, .cons h r => .cons (Den.keep s h) (Dens.keep s r)
end
theorem ValR.keep (s : Keep w H w' H') {v : V} : ∀ {x : Val}, ValR K w H v x → ValR K w' H' v x
  | .d _, h => Den.keep s h
  | .loc n, ⟨a, e, h⟩ => by
    obtain ⟨l, e2⟩ := s.io
    refine ⟨a, e, ?_⟩
    rw [e2, List.getElem?_append_left (List.getElem?_eq_some_iff.mp h).1]
    exact h
  | .script ns, ⟨a, e, h⟩ => by
    refine ⟨a, e, ?_⟩
    rcases h with ⟨o, h⟩ | h
    · exact .inl ⟨o, s.im _ _ h fun z => z⟩
    · exact .inr h
  | .kt ns, ⟨a, xs, e, h, q⟩ => ⟨a, xs, e, s.seqT h, q.keep s⟩

mutual
def gT (K : PySem.W.Frag) : Tg → TG
  | .name i => gName i
  | .tup ts => gTup K ts.length (gTs K ts)
def gTs (K : PySem.W.Frag) : List Tg → TGs
  | [] => gNil
  | t :: ts => gCons (gT K t) (gTs K ts)
end
mutual
def ckTg (N : List Str) (may : Str → Bool) : Tg → Expr → Bool
  | .name i, .Name x _ => decide (N[i]? = some x) && may x
  | .tup ts, .Tuple es _ _ => ckTgs N may ts es
  | _, _ => false
def ckTgs (N : List Str) (may : Str → Bool) : List Tg → List Expr → Bool
  | [], [] => true
  | t :: ts, e :: es => ckTg N may t e && ckTgs N may ts es
  | _, _ => false
end
def MayOk (X : Cx) (may : Str → Bool) : Prop := ∀ x, may x = true → Loc X.env.scope x ∧ (X.fn x = true ∨ X.env.scope.names.lookup x = some .local)
theorem each_of {N : List Str} {may : Str → Bool} {env : PySem.Env} {t : Tg} {e : Expr} {es : List Expr} (h : ckTg N may t e = true) : assignEach (e :: es) env = (false, assign e env) :: assignEach es env := by
  cases e <;> first | rfl | (cases t <;> cases h)
theorem eachs_of {N : List Str} {may : Str → Bool} {env : PySem.Env} : ∀ {ts : List Tg} {es : List Expr}, ckTgs N may ts es = true → (assignEach es env).length = ts.length ∧ (assignEach es env).findIdx? (·.1) = none
  | [], [], _ => ⟨rfl, rfl⟩
  | t :: ts, e :: es, h => by
    simp only [ckTgs, Bool.and_eq_true] at h
    obtain ⟨h1, h2⟩ := eachs_of (env := env) h.2
    rw [each_of h.1]
    refine ⟨congrArg (· + 1) h1, ?_⟩
    rw [List.findIdx?_cons, h2]
    rfl
section
variable {X : Cx} {may : Str → Bool}
mutual
theorem tg_ok (hc : X.calm = true) (hN : X.N.Nodup) (hm : MayOk X may) : ∀ {t : Tg} {e : Expr}, ckTg X.N may t e = true → PG X e (gT X.K t)
  | .name i, .Name x _, h => by
    simp only [ckTg, Bool.and_eq_true, decide_eq_true_eq] at h
    exact pg_name hN h.1 (hm x h.2).1 (hm x h.2).2
  | .tup ts, .Tuple es _ _, h => by
    simp only [ckTg] at h
    exact pg_tup hc (tgs_ok hc hN hm h) (eachs_of h).1 (eachs_of h).2
theorem tgs_ok (hc : X.calm = true) (hN : X.N.Nodup) (hm : MayOk X may) : ∀ {ts : List Tg} {es : List Expr}, ckTgs X.N may ts es = true → PGs X es (gTs X.K ts)
  | [], [], _ => pgs_nil
  | t :: ts, e :: es, h => by
    simp only [ckTgs, Bool.and_eq_true] at h
    exact pgs_cons (tg_ok hc hN hm h.1) (tgs_ok hc hN hm h.2) (by rw [each_of h.1]; rfl)
end
end
theorem EnvR.set (h : EnvR K w H σ r) {i : Nat} (hi : i < r.length) {v : V} {x : Val} (q : ValR K w H v x) : EnvR K w H (σ.set i (some v)) (r.set i (.val x)) where
  len := by rw [List.length_set, List.length_set, h.len]
  val := fun j y e => by
    by_cases hj : i = j
    · subst hj
      rw [List.getElem?_set_self hi] at e
      cases e
      exact ⟨v, by rw [List.getElem?_set_self (by rw [h.len]; exact hi)], q⟩
    · rw [List.getElem?_set_ne hj] at e ⊢
      exact h.val j y e
  own := fun j y e => by
    by_cases hj : i = j
    · subst hj
      rw [List.getElem?_set_self hi] at e
      cases e
    · rw [List.getElem?_set_ne hj] at e ⊢
      exact h.own j y e
  inj := fun j k y z u e1 e2 e3 e4 => by
    by_cases hj : i = j
    · subst hj
      rw [List.getElem?_set_self hi] at e1
      cases e1
    · by_cases hk : i = k
      · subst hk
        rw [List.getElem?_set_self hi] at e2
        cases e2
      · rw [List.getElem?_set_ne hj] at e1 e3
        rw [List.getElem?_set_ne hk] at e2 e4
        exact h.inj j k y z u e1 e2 e3 e4
mutual
theorem asg_ok {Q : L2.St → Hp → Prop} : ∀ {t : Tg} {x : Val} {v : V} {r r' : Env} {σ : L2.St}, asg t x r = some r' → ValR K w H v x → EnvR K w H σ r →
    (∀ σ', EnvR K w H σ' r' → σ'.length = σ.length → (∀ i, i ∉ slots t → σ'[i]? = σ[i]? ∧ r'[i]? = r[i]?) → (∀ (i : Nat) (y : D), r'[i]? = some (.own y) → r[i]? = some (.own y) ∧ σ'[i]? = σ[i]?) → Q σ' H) → gT K t v σ H Q
  | .name i, x, v, r, r', σ, e, q, en, h => by
    simp only [asg] at e
    split at e
    · rename_i hi
      cases e
      refine h _ (en.set hi q) (List.length_set ..) (fun j hj => ?_) fun j y ej => ?_
      · have hj' : i ≠ j := fun z => hj (by simp [slots, z])
        exact ⟨List.getElem?_set_ne hj', List.getElem?_set_ne hj'⟩
      · by_cases hj : i = j
        · subst hj
          rw [List.getElem?_set_self hi] at ej
          cases ej
        · rw [List.getElem?_set_ne hj] at ej ⊢
          exact ⟨ej, rfl⟩
    · cases e
  | .tup ts, .d (.tuple xs), v, r, r', σ, e, q, en, h => by
    simp only [asg] at e
    cases (show Den K w H v (.tuple xs) from q) with
    | @tup a vs _ hs r2 =>
      have hl : vs.length = ts.length := by rw [r2.length, asgs_len e]
      exact ⟨a, vs, rfl, .of hs, hl, asgs_ok e r2 en fun σ' e1 el e2 e3 => h σ' e1 el (fun i hi => e2 i (by simpa [slots] using hi)) e3⟩
  | .tup ts, .d .none, _, _, _, _, e, _, _, _ => by simp [asg] at e
  | .tup ts, .d (.bool _), _, _, _, _, e, _, _, _ => by simp [asg] at e
  | .tup ts, .d (.int _), _, _, _, _, e, _, _, _ => by simp [asg] at e
  | .tup ts, .d (.str _), _, _, _, _, e, _, _, _ => by simp [asg] at e
  | .tup ts, .d (.list _), _, _, _, _, e, _, _, _ => by simp [asg] at e
  | .tup ts, .d (.dict _), _, _, _, _, e, _, _, _ => by simp [asg] at e
  | .tup ts, .loc _, _, _, _, _, e, _, _, _ => by simp [asg] at e
  | .tup ts, .script _, _, _, _, _, e, _, _, _ => by simp [asg] at e
  | .tup ts, .kt _, _, _, _, _, e, _, _, _ => by simp [asg] at e
theorem asgs_ok {Q : L2.St → Hp → Prop} : ∀ {ts : List Tg} {xs : List D} {vs : List V} {r r' : Env} {σ : L2.St}, asgs ts xs r = some r' → Dens K w H vs xs → EnvR K w H σ r →
    (∀ σ', EnvR K w H σ' r' → σ'.length = σ.length → (∀ i, i ∉ slotss ts → σ'[i]? = σ[i]? ∧ r'[i]? = r[i]?) → (∀ (i : Nat) (y : D), r'[i]? = some (.own y) → r[i]? = some (.own y) ∧ σ'[i]? = σ[i]?) → Q σ' H) → gTs K ts vs σ H Q
  | [], [], _, r, r', σ, e, .nil, en, h => by
    simp only [asgs, Option.some.injEq] at e
    subst e
    exact ⟨rfl, h σ en rfl (fun _ _ => ⟨rfl, rfl⟩) fun _ _ z => ⟨z, rfl⟩⟩
  | t :: ts, x :: xs, _, r, r', σ, e, .cons q r2, en, h => by
    simp only [asgs] at e
    obtain ⟨r1, e1, e2⟩ := Option.bind_eq_some_iff.mp e
    refine ⟨_, _, rfl, asg_ok (Q := fun σ' H' => gTs K ts _ σ' H' Q) e1 (show ValR K w H _ (.d x) from q) en fun σ' n1 nl n2 n5 => ?_⟩
    refine asgs_ok e2 r2 n1 fun σ2 n3 nl2 n4 n6 => h σ2 n3 (nl2.trans nl) (fun i hi => ?_) fun i y e => ?_
    · simp only [slotss, List.mem_append, not_or] at hi
      exact ⟨(n4 i hi.2).1.trans (n2 i hi.1).1, (n4 i hi.2).2.trans (n2 i hi.1).2⟩
    · obtain ⟨a1, a2⟩ := n6 i y e
      obtain ⟨b1, b2⟩ := n5 i y a1
      exact ⟨b1, a2.trans b2⟩
  | [], _ :: _, _, _, _, _, e, _, _, _ => by simp [asgs] at e
  | _ :: _, [], _, _, _, _, e, _, _, _ => by simp [asgs] at e
theorem asgs_len : ∀ {ts : List Tg} {xs : List D} {r r' : Env}, asgs ts xs r = some r' → xs.length = ts.length
  | [], [], _, _, _ => rfl
  | t :: ts, x :: xs, r, r', e => by
    simp only [asgs] at e
    obtain ⟨r1, e1, e2⟩ := Option.bind_eq_some_iff.mp e
    rw [List.length_cons, List.length_cons, asgs_len e2]
  | [], _ :: _, _, _, e => by simp [asgs] at e
  | _ :: _, [], _, _, e => by simp [asgs] at e
end

def WalkV (K : PySem.W.Frag) (Sr : Wd → Hp → Wd → Hp → Prop) (w : Wd) (H : Hp) (J : L2.It) (xs : List Val) : Prop :=
  ∃ (G : Hp → Prop) (Y : Nat → Hp → V → Hp → Prop), Walk J xs.length G Y ∧ (∀ w2 H2, Sr w H w2 H2 → G H2) ∧
    ∀ i H2 v H3, i < xs.length → Y i H2 v H3 → (∀ a o, H2 a = some o → H3 a = some o) ∧ ∀ w2, Sr w H w2 H2 → WOk w2 H2 → ∃ x, xs[i]? = some x ∧ ValR K w2 H3 v x
def Srel (st : Bool) : Wd → Hp → Wd → Hp → Prop := fun w H w2 H2 => if st then Keep w H w2 H2 else Step w H w2 H2
def RI (K : PySem.W.Frag) (st : Bool) : Rel L2.It (List Val) := fun _ w' H' J xs => WalkV K (Srel st) w' H' J xs ∧ WOk w' H'
theorem mRI {st : Bool} : RMono (RI K st) := fun _ _ _ _ _ _ _ q => q
theorem Srel.keep {st : Bool} (ok : WOk w H) (s : Srel st w H w2 H2) : Keep w H w2 H2 := by
  cases st with
  | true => exact s
  | false => exact Step.keep ok s
theorem rng_walk {Sr : Wd → Hp → Wd → Hp → Prop} (lo hi : Int) : WalkV K Sr w H (Itr lo (hi - lo).toNat) (rngL lo hi) := by
  have hl : (rngL lo hi).length = (hi - lo).toNat := by simp [rngL]
  refine ⟨fun _ => True, _, by rw [hl]; exact walk_range, fun _ _ _ => trivial, fun i H2 v H3 hi' y => ?_⟩
  obtain ⟨rfl, rfl⟩ := y
  refine ⟨fun _ _ h => h, fun w2 _ _ => ⟨.d (.int (lo + (i : Nat))), ?_, (show Den K w2 H3 _ (.int _) from Den.int _)⟩⟩
  rw [hl] at hi'
  simp [rngL, hi']
theorem list_walk {st : Bool} (ok : WOk w H) {a : Addr} {vs : List V} {ds : List D} (h : ∀ w2 H2, Srel st w H w2 H2 → H2 a = some (.lst vs)) (q : Dens K w H vs ds) : WalkV K (Srel st) w H (Itl K a) (ds.map .d) := by
  refine ⟨_, _, by rw [List.length_map, ← q.length]; exact walk_list, fun w2 H2 s => SqL.of (h w2 H2 s), fun i H2 v H3 hi y => ?_⟩
  obtain ⟨rfl, y⟩ := y
  obtain ⟨d, e1, e2⟩ := q.atV y
  exact ⟨fun _ _ z => z, fun w2 s ok2 => ⟨.d d, by simp [e1], (show Den K w2 H3 v d from e2.keep (Srel.keep ok s))⟩⟩
theorem tup_walk {st : Bool} (ok : WOk w H) {a : Addr} {vs : List V} {ds : List D} (h : SqT K H a vs) (q : Dens K w H vs ds) : WalkV K (Srel st) w H (Itt K a) (ds.map .d) := by
  refine ⟨_, _, by rw [List.length_map, ← q.length]; exact walk_tup, fun w2 H2 s => (Srel.keep ok s).seqT h, fun i H2 v H3 hi y => ?_⟩
  obtain ⟨rfl, y⟩ := y
  obtain ⟨d, e1, e2⟩ := q.atV y
  exact ⟨fun _ _ z => z, fun w2 s ok2 => ⟨.d d, by simp [e1], (show Den K w2 H3 v d from e2.keep (Srel.keep ok s))⟩⟩
theorem enumL_at : ∀ (ds : List D) (k i : Nat), (enumL k ds)[i]? = ds[i]?.map fun d => .d (.tuple [.int ((k + i : Nat) : Int), d])
  | [], _, _ => by simp [enumL]
  | d :: ds, k, 0 => by simp [enumL]
  | d :: ds, k, i + 1 => by
    have := enumL_at ds (k + 1) i
    rw [show k + (i + 1) = k + 1 + i by omega]
    simpa [enumL] using this
theorem enumL_len : ∀ (ds : List D) (k : Nat), (enumL k ds).length = ds.length
  | [], _ => rfl
  | _ :: ds, k => congrArg (· + 1) (enumL_len ds (k + 1))
theorem zipL_at : ∀ (ds es : List D) (i : Nat), (zipL ds es)[i]? = match ds[i]?, es[i]? with
    | some d, some e => some (.d (.tuple [d, e]))
    | _, _ => none
  | [], _, _ => by simp [zipL]
  | d :: ds, [], i => by
    cases h : (d :: ds)[i]? <;> simp [zipL, h]
  | d :: ds, e :: es, 0 => by simp [zipL]
  | d :: ds, e :: es, i + 1 => by simpa [zipL] using zipL_at ds es i
theorem zipL_len : ∀ (ds es : List D), (zipL ds es).length = min ds.length es.length
  | [], _ => by simp [zipL]
  | _ :: _, [] => by simp [zipL]
  | _ :: ds, _ :: es => by simp [zipL, zipL_len ds es]
theorem pair_val {w2 : Wd} {H2 : Hp} {T : Addr} {x y : V} {d e : D} (ok : WOk w2 H2) (hT : H2 T = none) (q1 : Den K w2 H2 x d) (q2 : Den K w2 H2 y e) :
    ValR K w2 (upd H2 T (.tup [x, y])) (.ref T) (.d (.tuple [d, e])) :=
  show Den K w2 _ _ _ from Den.tup upd_same ((Dens.cons q1 (.cons q2 .nil)).step ok (grow_step (grow_upd hT)))
theorem enum_walk {st : Bool} (ok : WOk w H) {a : Addr} {vs : List V} {ds : List D} (h : ∀ w2 H2, Srel st w H w2 H2 → H2 a = some (.lst vs)) (q : Dens K w H vs ds) : WalkV K (Srel st) w H (Ite K a) (enumL 0 ds) := by
  refine ⟨_, _, by rw [enumL_len, ← q.length]; exact walk_enum, fun w2 H2 s => SqL.of (h w2 H2 s), fun i H2 v H3 hi y => ?_⟩
  obtain ⟨T, x, y, rfl, hT, rfl, e1, e2⟩ := y
  obtain ⟨d, d1, d2⟩ := q.atV e2
  cases e1
  refine ⟨grow_upd hT, fun w2 s ok2 => ⟨.d (.tuple [.int (i : Nat), d]), by rw [enumL_at, d1]; simp, ?_⟩⟩
  exact pair_val ok2 hT (.int _) (d2.keep (Srel.keep ok s))
theorem zip_walkL {st : Bool} (ok : WOk w H) {a b : Addr} {vs us : List V} {ds es : List D} (h : ∀ w2 H2, Srel st w H w2 H2 → H2 a = some (.lst vs) ∧ H2 b = some (.lst us)) (q : Dens K w H vs ds) (q' : Dens K w H us es) :
    WalkV K (Srel st) w H (Itz K a b) (zipL ds es) := by
  refine ⟨fun H => SqL K H a vs ∧ SqL K H b us, _, by rw [zipL_len, ← q.length, ← q'.length]; exact walk_zip rfl, fun w2 H2 s => ⟨SqL.of (h w2 H2 s).1, SqL.of (h w2 H2 s).2⟩, fun i H2 v H3 hi y => ?_⟩
  obtain ⟨T, x, y, rfl, hT, rfl, e1, e2⟩ := y
  obtain ⟨d, d1, d2⟩ := q.atV e1
  obtain ⟨e, d3, d4⟩ := q'.atV e2
  refine ⟨grow_upd hT, fun w2 s ok2 => ⟨.d (.tuple [d, e]), by rw [zipL_at, d1, d3], ?_⟩⟩
  exact pair_val ok2 hT (d2.keep (Srel.keep ok s)) (d4.keep (Srel.keep ok s))
end
end Ev
set_option maxRecDepth 100000
set_option maxHeartbeats 4000000
namespace Ev
open PySem PySem.W PySem.Spec PySem.Calls PyProof.Rows L2
section
variable {prog : Program} {w : World} {A : Around} {E : Value → Shared → Prop} {s : Shared}
theorem unp_starL {l : Addr} {items : Array Value} {i : Nat} {Q : List Value → Shared → Prop} (hl : s.heap.IsList l items) (hh : A.handled = none) (hi : i ≤ items.size) (hz : items.size ≤ 16384)
    (h : ∀ h' tk, Heap.ExtBut s.heap.objs.size s.heap h' → Q (items.toList.take i ++ [.ref h'.objs.size]) { s with heap := h'.push { cls := .type "list", data := .seq (items.toList.drop i).toArray }, toks := tk }) : wpAny (model prog w) A (unpackItems (.ref l) (i + 1) (some i)) Q E s := by
  have hlt : l ≠ s.heap.objs.size := by obtain ⟨o, ho, _⟩ := hl; exact Nat.ne_of_lt (Heap.lt_size ho)
  have hll : l < s.heap.objs.size := by obtain ⟨o, ho, _⟩ := hl; exact Heap.lt_size ho
  unfold unpackItems
  refine wpAny_bind ?_
  unfold notIterableAtAll
  refine wpAny_bind (wpAny_specialOf hl.typeIs slot_list_iter.lookup ?_)
  refine wpAny_pure ?_
  simp only [Bool.false_eq_true, if_false]
  refine wpAny_bind (wpAny_holding (wpAny_pyIter_list hl ?_))
  refine wpAny_bind (wpAny_holding (kun_draw hlt i 0 _ _ ⟨_, Heap.get?_push_size _ rfl, rfl, rfl⟩ (hl.push _) (by omega) fun h₁ hit₁ hs₁ => ?_))
  have hl₁ : h₁.IsList l items := (hl.push _).extBut hs₁.extBut hlt
  rw [Nat.zero_add] at hit₁
  have hit₁' := hit₁
  obtain ⟨oi, hoi, _⟩ := hit₁'
  have hl₁' := hl₁
  obtain ⟨ol, hol, _⟩ := hl₁'
  rw [List.drop_zero]
  have hfl : (items.toList.take i).length = i := by rw [List.length_take, Array.length_toList]; omega
  rw [if_neg (show ¬ ((items.toList.take i).length < i) by rw [hfl]; omega)]
  refine wpAny_bind (wpAny_holding (kun_collect (s := { s with heap := h₁ }) (T := "list_iterator") (.inr (.inr (.inl rfl))) (Walks.list (A := A.in1) hh s.heap.objs.size l hlt items) (fun j u st => st.1.typeIs) (k := i) (by omega) ⟨hit₁, hl₁⟩ (Heap.lt_size hoi) (Heap.lt_size hol) (fun h₂ tk hk => ?_) (by rw [sizeLine_eq]; omega)))
  have hrl : (items.toList.drop i).length = items.size - i := by rw [List.length_drop, Array.length_toList]
  show wpAny _ _ (if (items.toList.drop i).length < i + 1 - 1 - i then _ else _) _ _ _
  rw [if_neg (by rw [hrl]; omega)]
  show wpAny _ _ (newList ((items.toList.drop i).take ((items.toList.drop i).length - (i + 1 - 1 - i))) >>= fun d => pure (items.toList.take i ++ [d] ++ (items.toList.drop i).drop ((items.toList.drop i).length - (i + 1 - 1 - i)))) _ _ _
  rw [show (items.toList.drop i).length - (i + 1 - 1 - i) = (items.toList.drop i).length by omega, List.take_length, List.drop_length]
  have he : Heap.ExtBut s.heap.objs.size s.heap h₂ := fun b o hb e => hk b o hb (hs₁.extBut b o hb (Heap.get?_push_of_some _ e))
  refine wpAny_bind (wpAny_newList (wpAny_pure ?_) (by rw [hrl, sizeLine_eq]; omega))
  rw [List.append_nil]
  exact h h₂ tk he
theorem unp_starT {l : Addr} {items : Array Value} {i : Nat} {Q : List Value → Shared → Prop} (hl : IsTup s.heap l items) (hh : A.handled = none) (hi : i ≤ items.size) (hz : items.size ≤ 16384)
    (h : ∀ h' tk, Heap.ExtBut s.heap.objs.size s.heap h' → Q (items.toList.take i ++ [.ref h'.objs.size]) { s with heap := h'.push { cls := .type "list", data := .seq (items.toList.drop i).toArray }, toks := tk }) : wpAny (model prog w) A (unpackItems (.ref l) (i + 1) (some i)) Q E s := by
  have hlt : l ≠ s.heap.objs.size := by obtain ⟨o, ho, _⟩ := hl; exact Nat.ne_of_lt (Heap.lt_size ho)
  have hll : l < s.heap.objs.size := by obtain ⟨o, ho, _⟩ := hl; exact Heap.lt_size ho
  unfold unpackItems
  refine wpAny_bind ?_
  unfold notIterableAtAll
  refine wpAny_bind (wpAny_specialOf hl.typeIs slot_tuple_iter.lookup ?_)
  refine wpAny_pure ?_
  simp only [Bool.false_eq_true, if_false]
  refine wpAny_bind (wpAny_holding (iter_tuple hl ?_))
  refine wpAny_bind (wpAny_holding (draw_tuple hlt i 0 _ _ ⟨_, Heap.get?_push_size _ rfl, rfl, rfl⟩ (hl.push _) (by omega) fun h₁ hit₁ hs₁ => ?_))
  have hl₁ : IsTup h₁ l items := (hl.push _).extBut hs₁.extBut hlt
  rw [Nat.zero_add] at hit₁
  have hit₁' := hit₁
  obtain ⟨oi, hoi, _⟩ := hit₁'
  have hl₁' := hl₁
  obtain ⟨ol, hol, _⟩ := hl₁'
  rw [List.drop_zero]
  have hfl : (items.toList.take i).length = i := by rw [List.length_take, Array.length_toList]; omega
  rw [if_neg (show ¬ ((items.toList.take i).length < i) by rw [hfl]; omega)]
  refine wpAny_bind (wpAny_holding (kun_collect (s := { s with heap := h₁ }) (T := "tuple_iterator") (.inr (.inr (.inr rfl))) (Walks.tuple (A := A.in1) hh s.heap.objs.size l hlt items) (fun j u st => st.1.typeIs) (k := i) (by omega) ⟨hit₁, hl₁⟩ (Heap.lt_size hoi) (Heap.lt_size hol) (fun h₂ tk hk => ?_) (by rw [sizeLine_eq]; omega)))
  have hrl : (items.toList.drop i).length = items.size - i := by rw [List.length_drop, Array.length_toList]
  show wpAny _ _ (if (items.toList.drop i).length < i + 1 - 1 - i then _ else _) _ _ _
  rw [if_neg (by rw [hrl]; omega)]
  show wpAny _ _ (newList ((items.toList.drop i).take ((items.toList.drop i).length - (i + 1 - 1 - i))) >>= fun d => pure (items.toList.take i ++ [d] ++ (items.toList.drop i).drop ((items.toList.drop i).length - (i + 1 - 1 - i)))) _ _ _
  rw [show (items.toList.drop i).length - (i + 1 - 1 - i) = (items.toList.drop i).length by omega, List.take_length, List.drop_length]
  have he : Heap.ExtBut s.heap.objs.size s.heap h₂ := fun b o hb e => hk b o hb (hs₁.extBut b o hb (Heap.get?_push_of_some _ e))
  refine wpAny_bind (wpAny_newList (wpAny_pure ?_) (by rw [hrl, sizeLine_eq]; omega))
  rw [List.append_nil]
  exact h h₂ tk he
end
def gStar (K : PySem.W.Frag) (n : Nat) (t : TGs) : TG := fun v σ H Q => ∃ a xs, v = .ref a ∧ (SqL K H a xs ∨ SqT K H a xs) ∧ n ≤ xs.length ∧ xs.length ≤ 16384 ∧ ∀ p, H p = none → t (xs.take n ++ [.ref p]) σ (upd H p (.lst (xs.drop n))) Q
theorem pg_star {X : Cx} {es : List Expr} {k : Nat} {t : TGs} {n : Nat} {pos : Pos} (hc : X.calm = true) (h : PGs X es t) (hn : (assignEach es X.env).length = n + 1) (hst : (assignEach es X.env).findIdx? (·.1) = some n) : PG X (.Tuple es k pos) (gStar X.K n t) := by
  refine ⟨fun pins s σ H v u Q I r hw => ?_⟩
  obtain ⟨a, xs, rfl, hq, h1, h2, hw⟩ := hw
  cases r
  rw [assign_Tuple]
  refine wpAny_bind (wpAny_standAt ?_)
  unfold unpack
  rw [hn, hst]
  have fin : ∀ (its : List Value), Vals xs its → ∀ (h' : Heap) (tk : Nat), Heap.ExtBut s.heap.objs.size s.heap h' → wpAny (model X.prog X.w) X.A (assignInOrder ((assignEach es X.env).map (·.2)) (its.take n ++ [.ref h'.objs.size])) (fun _ s' => ∃ σ' H', Inv X pins σ' H' s' ∧ Q σ' H') X.xe
      { s with heap := h'.push { cls := .type "list", data := .seq (its.drop n).toArray }, toks := tk } := fun its rv h' tk hx => by
    have I1 : Inv X pins σ H { s with heap := h', toks := tk } := I.kept fun b o e => hx b o (Nat.ne_of_lt (Heap.lt_size e)) e
    have I2 := I1.laid (t' := tk) (a := h'.objs.size) (o := .lst (xs.drop n)) (h' := h'.push { cls := .type "list", data := .seq (its.drop n).toArray }) (fun b ob q => Heap.get?_push_of_some _ q) (Nat.le_refl _) ⟨by rw [List.length_drop, sizeLine_eq]; omega, _, 0, rv.drop n, Heap.get?_push_size _ rfl⟩
    exact h.run pins _ σ _ _ _ Q I2 ((rv.take n).append (.cons (show RelV (.ref h'.objs.size) (.ref h'.objs.size) from rfl) .nil)) (hw h'.objs.size (I1.hok.fresh (Nat.le_refl _)))
  rcases hq with hq | hq
  · obtain ⟨its, rv, p, hz⟩ := I.list hq
    have hl := rv.length
    refine wpAny_bind (wpAny_holding (unp_starL p.isList (I.ok.hd hc) (by rw [List.size_toArray]; omega) (by rw [List.size_toArray]; omega) fun h' tk hx => ?_))
    exact fin its rv h' tk hx
  · obtain ⟨its, rv, p, hz⟩ := I.tuple hq
    have hl := rv.length
    refine wpAny_bind (wpAny_holding (unp_starT (show IsTup s.heap a its.toArray from p) (I.ok.hd hc) (by rw [List.size_toArray]; omega) (by rw [List.size_toArray]; omega) fun h' tk hx => ?_))
    exact fin its rv h' tk hx
def gTsS (K : PySem.W.Frag) : List Tg → Nat → TGs
  | [], i => gCons (gName i) gNil
  | t :: ts, i => gCons (gT K t) (gTsS K ts i)
section
variable {X : Cx} {may : Str → Bool}
theorem pgs_star (hc : X.calm = true) (hN : X.N.Nodup) (hm : MayOk X may) {i : Nat} {x : Str} {px sp : Pos} (hi : X.N[i]? = some x) (hx : may x = true) : ∀ {ts : List Tg} {es : List Expr}, ckTgs X.N may ts es = true →
    PGs X (es ++ [.Starred (.Name x px) sp]) (gTsS X.K ts i) ∧ (assignEach (es ++ [.Starred (.Name x px) sp]) X.env).length = ts.length + 1 ∧ (assignEach (es ++ [.Starred (.Name x px) sp]) X.env).findIdx? (·.1) = some ts.length
  | [], [], _ => ⟨⟨(pgs_cons (e := .Name x px) (pg_name hN hi (hm x hx).1 (hm x hx).2) pgs_nil).run⟩, rfl, rfl⟩
  | t :: ts, e :: es, h => by
    simp only [ckTgs, Bool.and_eq_true] at h
    obtain ⟨h1, h2, h3⟩ := pgs_star hc hN hm hi hx h.2 (px := px) (sp := sp)
    refine ⟨pgs_cons (tg_ok hc hN hm h.1) h1 (by rw [each_of h.1]; rfl), ?_, ?_⟩
    · rw [List.cons_append, each_of h.1]
      exact congrArg (· + 1) h2
    · rw [List.cons_append, each_of h.1, List.findIdx?_cons, h3]
      rfl
end
section
variable {K : PySem.W.Frag} {w : Wd} {H : Hp}
theorem asgsS_ok {Q : L2.St → Hp → Prop} {i : Nat} {p : V} : ∀ {ts : List Tg} {xs : List D} {vs : List V} {r r' : Env} {σ : L2.St}, asgs ts xs r = some r' → Dens K w H vs xs → EnvR K w H σ r →
    (∀ σ', EnvR K w H σ' r' → σ'.length = σ.length → (∀ (i : Nat) (y : D), r'[i]? = some (.own y) → r[i]? = some (.own y) ∧ σ'[i]? = σ[i]?) → Q (σ'.set i (some p)) H) → gTsS K ts i (vs ++ [p]) σ H Q
  | [], [], _, r, r', σ, e, .nil, en, h => by
    simp only [asgs, Option.some.injEq] at e
    subst e
    exact ⟨p, [], rfl, rfl, h σ en rfl fun _ _ z => ⟨z, rfl⟩⟩
  | t :: ts, x :: xs, _, r, r', σ, e, .cons q r2, en, h => by
    simp only [asgs] at e
    obtain ⟨r1, e1, e2⟩ := Option.bind_eq_some_iff.mp e
    refine ⟨_, _, rfl, asg_ok (Q := fun σ' H' => gTsS K ts i _ σ' H' Q) e1 (show ValR K w H _ (.d x) from q) en fun σ' n1 nl n2 n5 => ?_⟩
    refine asgsS_ok e2 r2 n1 fun σ2 n3 nl2 n6 => h σ2 n3 (nl2.trans nl) fun i y e => ?_
    obtain ⟨a1, a2⟩ := n6 i y e
    obtain ⟨b1, b2⟩ := n5 i y a1
    exact ⟨b1, a2.trans b2⟩
  | [], _ :: _, _, _, _, _, e, _, _, _ => by simp [asgs] at e
  | _ :: _, [], _, _, _, _, e, _, _, _ => by simp [asgs] at e
end
end Ev
set_option Elab.async false
set_option linter.all false
namespace Ev
open PySem PySem.Spec L2

theorem _root_.L2.PE.imp {X : Cx} {e : Expr} {t t' : TE} (h : PE X e t) (f : ∀ σ H Q, t' σ H Q → t σ H Q) : PE X e t' := ⟨fun pins s σ H Q I q => h.run pins s σ H Q I (f σ H Q q)⟩
theorem _root_.L2.PT.imp {X : Cx} {e : Expr} {t t' : TT} (h : PT X e t) (f : ∀ σ H Q, t' σ H Q → t σ H Q) : PT X e t' := ⟨fun pins s σ H Q I q => h.run pins s σ H Q I (f σ H Q q)⟩
theorem _root_.L2.PW.imp {X : Cx} {e : Expr} {t t' : TT} (h : PW X e t) (f : ∀ σ H Q, t' σ H Q → t σ H Q) : PW X e t' := ⟨fun wh pins s σ H Q I q => h.run wh pins s σ H Q I (f σ H Q q)⟩
theorem _root_.L2.PA.imp {X : Cx} {e : List Expr} {t t' : TA} (h : PA X e t) (f : ∀ σ H Q, t' σ H Q → t σ H Q) : PA X e t' := ⟨fun p pins s σ H Q I q => h.run p pins s σ H Q I (f σ H Q q)⟩
theorem _root_.L2.PK.imp {X : Cx} {e : List Keyword} {t t' : TA} (h : PK X e t) (f : ∀ σ H Q, t' σ H Q → t σ H Q) : PK X e t' := ⟨fun p pins s σ H Q I q => h.run p pins s σ H Q I (f σ H Q q)⟩
theorem _root_.L2.PO.imp {X : Cx} {e : Option Expr} {t t' : TO} (h : PO X e t) (f : ∀ σ H Q, t' σ H Q → t σ H Q) : PO X e t' := ⟨fun pins s σ H Q I q => h.run pins s σ H Q I (f σ H Q q)⟩
theorem _root_.L2.PI.imp {X : Cx} {tg e : Expr} {t t' : TI} (h : PI X tg e t) (f : ∀ σ H Q, t' σ H Q → t σ H Q) : PI X tg e t' := ⟨fun pins s σ H Q I q => h.run pins s σ H Q I (f σ H Q q)⟩

abbrev FE (α : Type) := Env → Store → Out α
abbrev TX (X : Cx) (E : XK) (f : FE Tmp) : TE := TR X.K X.mg E (RT X.K) f
abbrev TXb (X : Cx) (E : XK) (f : FE Bool) : TT := TR X.K X.mg E REq f
abbrev TXv (X : Cx) (E : XK) (f : FE (List Val)) : TA := TR X.K X.mg E (RVs X.K) f
abbrev TXd (X : Cx) (E : XK) (f : FE (List D)) : TA := TR X.K X.mg E (RDs X.K) f
abbrev TXt (X : Cx) (E : XK) (f : FE (List Tmp)) : TA := TR X.K X.mg E (RTs X.K) f
abbrev TXo (X : Cx) (E : XK) (f : FE (Option Int)) : TO := TR X.K X.mg E REq f

section
variable {X : Cx} {E : XK} {a b z e : Expr} {pos : Pos} {fa fb fz : FE Tmp}

theorem s_var {i : Nat} {x : Str} (hN : X.N[i]? = some x) (hv : Vis X.env.scope x) (hd : (x == ("__debug__" : Str)) = false) (hcd : (x == ("__classdict__" : Str)) = false) :
    PE X (.Name x pos) (TX X E fun r m => match r[i]? with
      | some (.val x) => .ok (.v x) m
      | some (.own x) => .ok (.bor x) m
      | _ => .bad) :=
  (pe_var hN hv hd hcd).imp fun σ H Q h => by
    obtain ⟨w, r, m, ok, st, en, p⟩ := h
    dsimp only at p
    split at p
    · rename_i x e1
      obtain ⟨v, e2, q⟩ := en.val i x e1
      exact ⟨v, e2, p.here ok st ⟨q, trivial⟩⟩
    · rename_i x e1
      obtain ⟨v, e2, a, rfl, c, n1, n2⟩ := en.own i x e1
      exact ⟨_, e2, p.here ok st ⟨⟨a, rfl, c, n2⟩, trivial⟩⟩
    · exact p.elim
theorem s_const {v : V} {d : Val} (h : PE X e (tC v)) (q : ∀ w H, ValR X.K w H v d) : PE X e (TX X E fun _ m => .ok (.v d) m) :=
  h.imp fun σ H Q h => by
    obtain ⟨w, r, m, ok, st, en, p⟩ := h
    exact p.here ok st ⟨q w H, trivial⟩
theorem s_bin {o : BOp} (ha : PE X a (TX X E fa)) (hb : PE X b (TX X E fb)) : PE X (.BinOp a (astB o) b pos) (TX X E fun r m => (fa r m).bind fun x m => (fb r m).bind fun y m => give (binV o x y) m) :=
  (pe_op (op_bin o) ha hb).imp fun σ H Q h => by
    obtain ⟨w, r, m, ok, st, en, p⟩ := h
    refine ⟨w, r, m, ok, st, en, Post.bind mRT ok p fun x m1 v w1 H1 s1 ok1 st1 q1 p1 => ?_⟩
    refine ⟨w1, r, m1, ok1, st1, en.step ok s1, Post.bind mRT ok1 p1 fun y m2 u w2 H2 s2 ok2 st2 q2 p2 => ?_⟩
    exact bin_ok ok2 st2 (q1.1.step ok1 s2) q2.1 o p2
theorem s_neg (ha : PE X a (TX X E fa)) : PE X (.UnaryOp .USub a pos) (TX X E fun r m => (fa r m).bind fun x m => give ((getInt x).map fun i => vI (-i)) m) :=
  (pe_un un_neg ha).imp fun σ H Q h => by
    obtain ⟨w, r, m, ok, st, en, p⟩ := h
    refine ⟨w, r, m, ok, st, en, Post.bind mRT ok p fun x m1 v w1 H1 s1 ok1 st1 q1 p1 => ?_⟩
    obtain ⟨t, e1, p1⟩ := p1.given
    obtain ⟨i, e2, rfl⟩ := Option.map_eq_some_iff.mp e1
    cases q1.1.int (getInt_data e2)
    exact ⟨i, rfl, Post.int ok1 st1 p1⟩
def sideOk (o : COp) (fb : FE Tmp) : Prop := match o with
  | .isN => ∀ r m, fb r m = .ok (.v (.d .none)) m
  | .notN => ∀ r m, fb r m = .ok (.v (.d .none)) m
  | _ => True
theorem side_of {o : COp} {r : Env} {m m2 : Store} {y : Tmp} (h : sideOk o fb) (e : fb r m = .ok y m2) : cmpSide o y := by
  cases o with
  | isN =>
    have q : fb r m = .ok (.v (.d .none)) m := h r m
    rw [e] at q
    cases q
    rfl
  | notN =>
    have q : fb r m = .ok (.v (.d .none)) m := h r m
    rw [e] at q
    cases q
    rfl
  | _ => trivial
theorem bind_ok {α β : Type} {o : Out α} {k : α → Store → Out β} {b : β} {m2 : Store} (h : o.bind k = .ok b m2) : ∃ a m1, o = .ok a m1 ∧ k a m1 = .ok b m2 := by
  cases o with
  | ok a m1 => exact ⟨a, m1, rfl, h⟩
  | exc c fs m1 => cases h
  | bad => cases h
theorem Post.bindE {K : PySem.W.Frag} {mg : Str → Option Value} {w : Wd} {H : Hp} {β α β' α' : Type} {R : Rel β α} {R' : Rel β' α'} {o : Out α'} {k : α' → Store → Out α} {Q : β → Hp → Prop} {Q' : β' → Hp → Prop} (hm : RMono R) (ok : WOk w H) (p : Post K mg E R w H (o.bind k) Q)
    (h : ∀ x m1 y w1 H1, o = .ok x m1 → Step w H w1 H1 → WOk w1 H1 → StR K w1 H1 m1 → R' H w1 H1 y x → Post K mg E R w1 H1 (k x m1) Q → Q' y H1) : Post K mg E R' w H o Q' := by
  cases o with
  | ok x m => exact fun y w1 H1 s1 o1 t1 q => h x m y w1 H1 rfl s1 o1 t1 q (Post.step hm ok s1 p)
  | exc c fs m => exact p
  | bad => exact p
theorem s_cmp0 {o : COp} (hu : X.A.units + 65 < cLine) (hs : sideOk o fb) {σ : L2.St} {H : Hp} {Q : Bool → Hp → Prop} {Q' : V → Hp → Prop} {w : Wd} {r : Env} {m : Store} (ok : WOk w H) (st : StR X.K w H m) (en : EnvR X.K w H σ r) (hq : ∀ k H', Q k H' → Q' (.bl k) H')
    (p : Post X.K X.mg E REq w H ((fa r m).bind fun x m => (fb r m).bind fun y m => give (cmpV o x y) m) Q) :
    tOp (rCmp X.K o) (TX X E fa) (TX X E fb) σ H Q' := by
  refine ⟨w, r, m, ok, st, en, Post.bind mREq ok p fun x m1 v w1 H1 s1 ok1 st1 q1 p1 => ?_⟩
  refine ⟨w1, r, m1, ok1, st1, en.step ok s1, Post.bindE mREq ok1 p1 fun y m2 u w2 H2 e2 s2 ok2 st2 q2 p2 => ?_⟩
  obtain ⟨k, e3, p3⟩ := p2.given
  exact cmp_ok (β := Bool) (q1.1.step ok1 s2) q2.1 o (side_of hs e2) e3 (hq _ _ (p3.here ok2 st2 rfl))
theorem cmp_assoc {α β : Type} (fa fb : FE Tmp) (g : Tmp → Tmp → Option α) (h : α → β) (r : Env) (m : Store) :
    ((fa r m).bind fun x m => (fb r m).bind fun y m => give ((g x y).map h) m) = ((fa r m).bind fun x m => (fb r m).bind fun y m => give (g x y) m).bind fun k m => .ok (h k) m := by
  cases fa r m with
  | ok x m1 =>
    show (fb r m1).bind _ = ((fb r m1).bind _).bind _
    cases fb r m1 with
    | ok y m2 =>
      show give _ m2 = (give _ m2).bind _
      cases g x y <;> rfl
    | _ => rfl
  | _ => rfl
theorem Post.ofB {K : PySem.W.Frag} {mg : Str → Option Value} {w : Wd} {H : Hp} {o : Out Bool} {Q : V → Hp → Prop} (p : Post K mg E (RT K) w H (o.bind fun k m => .ok (vB k) m) Q) : Post K mg E REq w H o fun k H' => Q (.bl k) H' := by
  cases o with
  | ok k m =>
    intro y w1 H1 s1 ok1 st1 q
    cases q
    exact p _ w1 H1 s1 ok1 st1 ⟨(show ValR K w1 H1 _ (.d (.bool _)) from Den.bl _), trivial⟩
  | exc c fs m => exact p
  | bad => exact p
theorem s_cmp {o : COp} (hu : X.A.units + 65 < cLine) (hs : sideOk o fb) (hm : behindInMarks (astC o) b = false) (ha : PE X a (TX X E fa)) (hb : PE X b (TX X E fb)) :
    PE X (.Compare a [astC o] [b] pos) (TX X E fun r m => (fa r m).bind fun x m => (fb r m).bind fun y m => give ((cmpV o x y).map vB) m) :=
  (pe_cmpR (op_cmp hu o) ha hb hm).imp fun σ H Q h => by
    obtain ⟨w, r, m, ok, st, en, p⟩ := h
    dsimp only at p
    rw [cmp_assoc] at p
    exact s_cmp0 hu hs ok st en (fun _ _ q => q) p.ofB
end
end Ev
set_option Elab.async false
set_option linter.all false
namespace Ev
open PySem PySem.Spec L2
section
variable {X : Cx} {E : XK} {a b z e : Expr} {pos : Pos} {fa fb fz : FE Tmp} {ga gb : FE Bool}

theorem bl_of {K : PySem.W.Frag} {w : Wd} {H : Hp} {v : V} {k : Bool} (h : TmpR K w H v (.v (.d (.bool k)))) : v = .bl k := h.bl rfl
theorem s_and {rest : List Expr} (ha : PE X a (TX X E fa)) (hb : PE X (.BoolOp .And (b :: rest) pos) (TX X E fb)) :
    PE X (.BoolOp .And (a :: b :: rest) pos) (TX X E fun r m => (fa r m).bind fun x m => match x with
      | .v (.d (.bool k)) => if k then fb r m else .ok (vB false) m
      | _ => .bad) :=
  (pe_and ha hb).imp fun σ H Q h => by
    obtain ⟨w, r, m, ok, st, en, p⟩ := h
    refine ⟨w, r, m, ok, st, en, Post.bind mRT ok p fun x m1 v w1 H1 s1 ok1 st1 q1 p1 => ?_⟩
    split at p1
    · rename_i k
      cases bl_of q1.1
      refine ⟨k, rfl, ?_⟩
      cases k with
      | true => exact ⟨w1, r, m1, ok1, st1, en.step ok s1, p1⟩
      | false => exact Post.bl ok1 st1 p1
    · exact p1.elim
theorem s_or {rest : List Expr} (ha : PE X a (TX X E fa)) (hb : PE X (.BoolOp .Or (b :: rest) pos) (TX X E fb)) :
    PE X (.BoolOp .Or (a :: b :: rest) pos) (TX X E fun r m => (fa r m).bind fun x m => match x with
      | .v (.d (.bool k)) => if k then .ok (vB true) m else fb r m
      | _ => .bad) :=
  (pe_or ha hb).imp fun σ H Q h => by
    obtain ⟨w, r, m, ok, st, en, p⟩ := h
    refine ⟨w, r, m, ok, st, en, Post.bind mRT ok p fun x m1 v w1 H1 s1 ok1 st1 q1 p1 => ?_⟩
    split at p1
    · rename_i k
      cases bl_of q1.1
      refine ⟨k, rfl, ?_⟩
      cases k with
      | false => exact ⟨w1, r, m1, ok1, st1, en.step ok s1, p1⟩
      | true => exact Post.bl ok1 st1 p1
    · exact p1.elim
theorem s_not (ha : PE X a (TX X E fa)) : PE X (.UnaryOp .Not a pos) (TX X E fun r m => (fa r m).bind fun x m => match x with
      | .v (.d (.bool k)) => .ok (vB (!k)) m
      | _ => .bad) :=
  (pe_not ha).imp fun σ H Q h => by
    obtain ⟨w, r, m, ok, st, en, p⟩ := h
    refine ⟨w, r, m, ok, st, en, Post.bind mRT ok p fun x m1 v w1 H1 s1 ok1 st1 q1 p1 => ?_⟩
    split at p1
    · rename_i k
      cases bl_of q1.1
      exact ⟨k, rfl, Post.bl ok1 st1 p1⟩
    · exact p1.elim
theorem s_ife {c : Expr} (hc : PT X c (TXb X E ga)) (ha : PE X a (TX X E fa)) (hb : PE X b (TX X E fb)) :
    PE X (.IfExp c a b pos) (TX X E fun r m => (ga r m).bind fun k m => if k then fa r m else fb r m) :=
  (pe_ifExp hc ha hb).imp fun σ H Q h => by
    obtain ⟨w, r, m, ok, st, en, p⟩ := h
    refine ⟨w, r, m, ok, st, en, Post.bind mRT ok p fun x m1 v w1 H1 s1 ok1 st1 q1 p1 => ?_⟩
    cases q1
    cases x with
    | true => exact ⟨w1, r, m1, ok1, st1, en.step ok s1, p1⟩
    | false => exact ⟨w1, r, m1, ok1, st1, en.step ok s1, p1⟩

theorem t_val (ha : PE X a (TX X E fa)) (he : ∀ whole, isTrue a X.env whole = (do let v ← whole; standAt a.pos; holding [v] (truthy v))) : PT X a (TXb X E fun r m => (fa r m).bind fun t m => give (truth t m) m) :=
  (pt_truth ha he).imp fun σ H Q h => by
    obtain ⟨w, r, m, ok, st, en, p⟩ := h
    refine ⟨w, r, m, ok, st, en, Post.bind mREq ok p fun x m1 v w1 H1 s1 ok1 st1 q1 p1 => ?_⟩
    obtain ⟨k, e1, p1⟩ := p1.given
    exact ⟨k, truth_ok st1 q1.1 e1, p1.here ok1 st1 rfl⟩
theorem bind_bind {α β γ : Type} (o : Out α) (f : α → Store → Out β) (g : β → Store → Out γ) : (o.bind f).bind g = o.bind fun x m => (f x m).bind g := by
  cases o <;> rfl
theorem t_cmp {o : COp} (hu : X.A.units + 65 < cLine) (hs : sideOk o fb) (hm : behindInMarks (astC o) b = false) (ha : PE X a (TX X E fa)) (hb : PE X b (TX X E fb)) :
    PT X (.Compare a [astC o] [b] pos) (TXb X E fun r m => (fa r m).bind fun x m => (fb r m).bind fun y m => give (cmpV o x y) m) :=
  (pt_cmpR (op_cmp hu o) ha hb hm).imp fun σ H Q h => by
    obtain ⟨w, r, m, ok, st, en, p⟩ := h
    exact s_cmp0 (Q := Q) hu hs ok st en (fun k _ q => ⟨k, rfl, q⟩) p
theorem t_not (ha : PT X a (TXb X E ga)) : PT X (.UnaryOp .Not a pos) (TXb X E fun r m => (ga r m).bind fun k m => .ok (!k) m) :=
  (pt_not ha).imp fun σ H Q h => by
    obtain ⟨w, r, m, ok, st, en, p⟩ := h
    refine ⟨w, r, m, ok, st, en, Post.bind mREq ok p fun x m1 v w1 H1 s1 ok1 st1 q1 p1 => ?_⟩
    cases q1
    exact p1.here ok1 st1 rfl
theorem t_and {rest : List Expr} (ha : PT X a (TXb X E ga)) (hb : PW X (.BoolOp .And (b :: rest) pos) (TXb X E gb)) :
    PW X (.BoolOp .And (a :: b :: rest) pos) (TXb X E fun r m => (ga r m).bind fun k m => if k then gb r m else .ok false m) :=
  (pw_and ha hb).imp fun σ H Q h => by
    obtain ⟨w, r, m, ok, st, en, p⟩ := h
    refine ⟨w, r, m, ok, st, en, Post.bind mREq ok p fun x m1 v w1 H1 s1 ok1 st1 q1 p1 => ?_⟩
    cases q1
    cases x with
    | true => exact ⟨w1, r, m1, ok1, st1, en.step ok s1, p1⟩
    | false => exact p1.here ok1 st1 rfl
theorem t_or {rest : List Expr} (ha : PT X a (TXb X E ga)) (hb : PW X (.BoolOp .Or (b :: rest) pos) (TXb X E gb)) :
    PW X (.BoolOp .Or (a :: b :: rest) pos) (TXb X E fun r m => (ga r m).bind fun k m => if k then .ok true m else gb r m) :=
  (pw_or ha hb).imp fun σ H Q h => by
    obtain ⟨w, r, m, ok, st, en, p⟩ := h
    refine ⟨w, r, m, ok, st, en, Post.bind mREq ok p fun x m1 v w1 H1 s1 ok1 st1 q1 p1 => ?_⟩
    cases q1
    cases x with
    | false => exact ⟨w1, r, m1, ok1, st1, en.step ok s1, p1⟩
    | true => exact p1.here ok1 st1 rfl

theorem chain0 {o o' : COp} (hu : X.A.units + 65 < cLine) (hs : sideOk o fb) (hs' : sideOk o' fz) {σ : L2.St} {H : Hp} {Q : Bool → Hp → Prop} {Q' : V → Hp → Prop} {w : Wd} {r : Env} {m : Store} (ok : WOk w H) (st : StR X.K w H m) (en : EnvR X.K w H σ r)
    (hq : ∀ k H', Q k H' → Q' (.bl k) H')
    (p : Post X.K X.mg E REq w H ((fa r m).bind fun x m => (fb r m).bind fun y m => (give (cmpV o x y) m).bind fun k m => if k then (fz r m).bind fun u m => give (cmpV o' y u) m else .ok false m) Q) :
    tChain (rCmp X.K o) (rCmp X.K o') (TX X E fa) (TX X E fb) (TX X E fz) σ H Q' := by
  refine ⟨w, r, m, ok, st, en, Post.bind mREq ok p fun x m1 v w1 H1 s1 ok1 st1 q1 p1 => ?_⟩
  refine ⟨w1, r, m1, ok1, st1, en.step ok s1, Post.bindE mREq ok1 p1 fun y m2 u w2 H2 e2 s2 ok2 st2 q2 p2 => ?_⟩
  cases e3 : cmpV o x y with
  | none =>
    rw [e3] at p2
    exact p2.elim
  | some k =>
    rw [e3] at p2
    refine cmp_ok (β := Bool) (q1.1.step ok1 s2) q2.1 o (side_of hs e2) e3 ⟨k, rfl, ?_⟩
    cases k with
    | false => exact hq _ _ (Post.here (y := false) ok2 st2 p2 rfl)
    | true =>
      refine ⟨w2, r, m2, ok2, st2, (en.step ok s1).step ok1 s2, Post.bindE mREq ok2 p2 fun t m3 v3 w3 H3 e4 s3 ok3 st3 q3 p3 => ?_⟩
      obtain ⟨k2, e5, p4⟩ := p3.given
      exact cmp_ok (β := Bool) (q2.1.step ok2 s3) q3.1 o' (side_of hs' e4) e5 (hq _ _ (p4.here ok3 st3 rfl))
theorem chain_assoc (fa fb fz : FE Tmp) (o o' : COp) (r : Env) (m : Store) :
    ((fa r m).bind fun x m => (fb r m).bind fun y m => (give (cmpV o x y) m).bind fun k m => if k then (fz r m).bind fun u m => give ((cmpV o' y u).map vB) m else .ok (vB false) m) =
    ((fa r m).bind fun x m => (fb r m).bind fun y m => (give (cmpV o x y) m).bind fun k m => if k then (fz r m).bind fun u m => give (cmpV o' y u) m else .ok false m).bind fun k m => .ok (vB k) m := by
  cases fa r m with
  | ok x m1 =>
    show (fb r m1).bind _ = ((fb r m1).bind _).bind _
    cases fb r m1 with
    | ok y m2 =>
      show (give _ m2).bind _ = ((give _ m2).bind _).bind _
      cases cmpV o x y with
      | none => rfl
      | some k =>
        cases k with
        | false => rfl
        | true =>
          show (fz r m2).bind _ = ((fz r m2).bind _).bind _
          cases fz r m2 with
          | ok u m3 =>
            show give _ m3 = (give _ m3).bind _
            cases cmpV o' y u <;> rfl
          | _ => rfl
    | _ => rfl
  | _ => rfl
theorem s_chain {o o' : COp} (hu : X.A.units + 65 < cLine) (hs : sideOk o fb) (hs' : sideOk o' fz) (hm : lastMarks [astC o, astC o'] [b, z] = false) (ha : PE X a (TX X E fa)) (hb : PE X b (TX X E fb)) (hz : PE X z (TX X E fz)) :
    PE X (.Compare a [astC o, astC o'] [b, z] pos) (TX X E fun r m => (fa r m).bind fun x m => (fb r m).bind fun y m => (give (cmpV o x y) m).bind fun k m =>
      if k then (fz r m).bind fun u m => give ((cmpV o' y u).map vB) m else .ok (vB false) m) :=
  (pe_chain (op_cmp hu o) (op_cmp hu o') ha hb hz hm).imp fun σ H Q h => by
    obtain ⟨w, r, m, ok, st, en, p⟩ := h
    dsimp only at p
    rw [chain_assoc] at p
    exact chain0 hu hs hs' ok st en (fun _ _ q => q) p.ofB
theorem t_chain {o o' : COp} (hu : X.A.units + 65 < cLine) (hs : sideOk o fb) (hs' : sideOk o' fz) (hm : lastMarks [astC o, astC o'] [b, z] = false) (ha : PE X a (TX X E fa)) (hb : PE X b (TX X E fb)) (hz : PE X z (TX X E fz)) :
    PT X (.Compare a [astC o, astC o'] [b, z] pos) (TXb X E fun r m => (fa r m).bind fun x m => (fb r m).bind fun y m => (give (cmpV o x y) m).bind fun k m =>
      if k then (fz r m).bind fun u m => give (cmpV o' y u) m else .ok false m) :=
  (pt_chain (op_cmp hu o) (op_cmp hu o') ha hb hz hm).imp fun σ H Q h => by
    obtain ⟨w, r, m, ok, st, en, p⟩ := h
    exact chain0 (Q := Q) hu hs hs' ok st en (fun k _ q => ⟨k, rfl, q⟩) p

theorem s_idx (hu : X.A.units + 1 < cLine) (hp : PlainIx b) (ha : PE X a (TX X E fa)) (hb : PE X b (TX X E fb)) :
    PE X (.Subscript a b pos) (TX X E fun r m => (fa r m).bind fun x m => (fb r m).bind fun y m => give ((idxV x y m).map .v) m) :=
  (pe_ix (ix_all hu) ha hb hp).imp fun σ H Q h => by
    obtain ⟨w, r, m, ok, st, en, p⟩ := h
    refine ⟨w, r, m, ok, st, en, Post.bind mRT ok p fun x m1 v w1 H1 s1 ok1 st1 q1 p1 => ?_⟩
    refine ⟨w1, r, m1, ok1, st1, en.step ok s1, Post.bind mRT ok1 p1 fun y m2 u w2 H2 s2 ok2 st2 q2 p2 => ?_⟩
    obtain ⟨t, e1, p3⟩ := p2.given
    obtain ⟨x2, e2, rfl⟩ := Option.map_eq_some_iff.mp e1
    exact idx_ok st2 (q1.1.step ok1 s2) q2.1 e2 fun v' q => p3.here ok2 st2 ⟨q, trivial⟩
theorem o_none : PO X none (TXo X E fun _ m => .ok none m) :=
  po_none.imp fun σ H Q h => by
    obtain ⟨w, r, m, ok, st, en, p⟩ := h
    exact p.here ok st rfl
theorem o_some (ha : PE X a (TX X E fa)) : PO X (some a) (TXo X E fun r m => (fa r m).bind fun t m => give ((getInt t).map some) m) :=
  (po_some ha).imp fun σ H Q h => by
    obtain ⟨w, r, m, ok, st, en, p⟩ := h
    refine ⟨w, r, m, ok, st, en, Post.bind mREq ok p fun x m1 v w1 H1 s1 ok1 st1 q1 p1 => ?_⟩
    obtain ⟨t, e1, p3⟩ := p1.given
    obtain ⟨i, e2, rfl⟩ := Option.map_eq_some_iff.mp e1
    cases q1.1.int (getInt_data e2)
    exact ⟨i, rfl, p3.here ok1 st1 rfl⟩
theorem s_slice {lo hi : Option Expr} {p2 : Pos} {fl fh : FE (Option Int)} (ha : PE X a (TX X E fa)) (hl : PO X lo (TXo X E fl)) (hh : PO X hi (TXo X E fh)) :
    PE X (.Subscript a (.Slice lo hi none p2) pos) (TX X E fun r m => (fa r m).bind fun x m => (fl r m).bind fun l m => (fh r m).bind fun h m => give (sliceV x l h) m) :=
  (pe_slice sl_all ha hl hh).imp fun σ H Q h => by
    obtain ⟨w, r, m, ok, st, en, p⟩ := h
    refine ⟨w, r, m, ok, st, en, Post.bind mRT ok p fun x m1 v w1 H1 s1 ok1 st1 q1 p1 => ?_⟩
    refine ⟨w1, r, m1, ok1, st1, en.step ok s1, Post.bind mRT ok1 p1 fun l m2 l' w2 H2 s2 ok2 st2 q2 p2 => ?_⟩
    cases q2
    refine ⟨w2, r, m2, ok2, st2, (en.step ok s1).step ok1 s2, Post.bind mRT ok2 p2 fun h m3 h' w3 H3 s3 ok3 st3 q3 p3 => ?_⟩
    cases q3
    exact slice_ok ok3 st3 ((q1.1.step ok1 s2).step ok2 s3) l h p3

theorem s_m0 {f : MFn} {apos : Pos} (ha : PE X a (TX X E fa)) (hbase : ∀ f : MFn, attributeBase a (mfnName f) X.env (eval a X.env) = eval a X.env) (hline : (apos.endLine == pos.line) = true) :
    PE X (.Call (.Attribute a (mfnName f) apos) [] [] pos) (TX X E fun r m => (fa r m).bind fun x m => give (mfnV f x) m) :=
  (pe_mfn ha hbase hline f).imp fun σ H Q h => by
    obtain ⟨w, r, m, ok, st, en, p⟩ := h
    exact ⟨w, r, m, ok, st, en, Post.bind mRT ok p fun x m1 v w1 H1 s1 ok1 st1 q1 p1 => mfn_ok ok1 st1 q1.1 f p1⟩
theorem s_rev {k : Nat} {p1 p2 p3 : Pos} (ha : PE X a (TX X E fa)) : PE X (.Subscript a (.Slice none none (some (.UnaryOp .USub (.Constant (.int 1) k p1) p2)) p3) pos) (TX X E fun r m => (fa r m).bind fun x m => give (revV x) m) :=
  (pe_rev ha).imp fun σ H Q h => by
    obtain ⟨w, r, m, ok, st, en, p⟩ := h
    exact ⟨w, r, m, ok, st, en, Post.bind mRT ok p fun x m1 v w1 H1 s1 ok1 st1 q1 p1 => rev_ok ok1 st1 q1.1 p1⟩

variable {es : List Expr} {fs : FE (List Tmp)} {fv : FE (List Val)} {fd : FE (List D)}
theorem nil_v : PA X [] (TXv X E fun _ m => .ok [] m) := pa_nil.imp fun σ H Q h => by
  obtain ⟨w, r, m, ok, st, en, p⟩ := h
  exact p.here ok st .nil
theorem nil_t : PA X [] (TXt X E fun _ m => .ok [] m) := pa_nil.imp fun σ H Q h => by
  obtain ⟨w, r, m, ok, st, en, p⟩ := h
  exact p.here ok st .nil
theorem nil_d : PA X [] (TXd X E fun _ m => .ok [] m) := pa_nil.imp fun σ H Q h => by
  obtain ⟨w, r, m, ok, st, en, p⟩ := h
  exact p.here ok st .nil
theorem cons_v (h : noStar a = true) (ha : PE X a (TX X E fa)) (hr : PA X es (TXv X E fv)) :
    PA X (a :: es) (TXv X E fun r m => (fa r m).bind fun t m => (give t.val? m).bind fun x m => (fv r m).bind fun xs m => .ok (x :: xs) m) :=
  (pa_cons ha hr (star_of h)).imp fun σ H Q h => by
    obtain ⟨w, r, m, ok, st, en, p⟩ := h
    dsimp only at p
    rw [← bind_bind] at p
    refine ⟨w, r, m, ok, st, en, Post.toVal (Post.bind mRVs ok p fun x m1 v w1 H1 s1 ok1 st1 (q1 : RV X.K H w1 H1 v x) p1 => ?_)⟩
    refine ⟨w1, r, m1, ok1, st1, en.step ok s1, Post.bind mRVs ok1 p1 fun xs m2 vs w2 H2 s2 ok2 st2 q2 p2 => ?_⟩
    exact p2.here ok2 st2 (.cons (ValR.step ok1 s2 q1) q2)
theorem cons_d (h : noStar a = true) (ha : PE X a (TX X E fa)) (hr : PA X es (TXd X E fd)) :
    PA X (a :: es) (TXd X E fun r m => (fa r m).bind fun t m => (give (toD t) m).bind fun x m => (fd r m).bind fun xs m => .ok (x :: xs) m) :=
  (pa_cons ha hr (star_of h)).imp fun σ H Q h => by
    obtain ⟨w, r, m, ok, st, en, p⟩ := h
    dsimp only at p
    rw [← bind_bind] at p
    refine ⟨w, r, m, ok, st, en, Post.toD (Post.bind mRDs ok p fun x m1 v w1 H1 s1 ok1 st1 (q1 : RD X.K H w1 H1 v x) p1 => ?_)⟩
    refine ⟨w1, r, m1, ok1, st1, en.step ok s1, Post.bind mRDs ok1 p1 fun xs m2 vs w2 H2 s2 ok2 st2 q2 p2 => ?_⟩
    exact p2.here ok2 st2 (.cons (Den.step ok1 s2 q1) q2)
theorem cons_t (h : noStar a = true) (ha : PE X a (TX X E fa)) (hr : PA X es (TXt X E fs)) :
    PA X (a :: es) (TXt X E fun r m => (fa r m).bind fun x m => (fs r m).bind fun xs m => .ok (x :: xs) m) :=
  (pa_cons ha hr (star_of h)).imp fun σ H Q h => by
    obtain ⟨w, r, m, ok, st, en, p⟩ := h
    refine ⟨w, r, m, ok, st, en, Post.bind mRTs ok p fun x m1 v w1 H1 s1 ok1 st1 (q1 : RT X.K H w1 H1 v x) p1 => ?_⟩
    refine ⟨w1, r, m1, ok1, st1, en.step ok s1, Post.bind mRTs ok1 p1 fun xs m2 vs w2 H2 s2 ok2 st2 (q2 : RTs X.K H1 w2 H2 vs xs) p2 => ?_⟩
    exact p2.here ok2 st2 (.cons (q1.1.step ok1 s2) q2)
end
end Ev
set_option Elab.async false
set_option linter.all false
namespace Ev
open PySem PySem.Spec L2
section
variable {X : Cx} {E : XK} {c : Calls} {a b z e : Expr} {pos : Pos} {fa fb fz : FE Tmp} {es : List Expr} {fs : FE (List Tmp)} {fv fw : FE (List Val)} {fd : FE (List D)}

theorem s_tup {k : Nat} (h : PA X es (TXd X E fd)) : PE X (.Tuple es k pos) (TX X E fun r m => (fd r m).bind fun xs m => if xs.length ≤ sizeLine then .ok (.v (.d (.tuple xs))) m else .bad) :=
  (pe_tup h).imp fun σ H Q h => by
    obtain ⟨w, r, m, ok, st, en, p⟩ := h
    refine ⟨w, r, m, ok, st, en, Post.bind mRT ok p fun xs m1 vs w1 H1 s1 ok1 st1 (q1 : RDs X.K H w1 H1 vs xs) p1 => ?_⟩
    split at p1
    · rename_i hz
      exact ⟨by rw [Dens.length q1]; exact hz, fun l hl => Post.newTup ok1 st1 p1 q1 l hl⟩
    · exact p1.elim
theorem s_lst (h : PA X es (TXd X E fd)) : PE X (.List es pos) (TX X E fun r m => (fd r m).bind fun xs m => if xs.length ≤ sizeLine then .ok (.new (.list xs)) m else .bad) :=
  (pe_lst h).imp fun σ H Q h => by
    obtain ⟨w, r, m, ok, st, en, p⟩ := h
    refine ⟨w, r, m, ok, st, en, Post.bind mRT ok p fun xs m1 vs w1 H1 s1 ok1 st1 (q1 : RDs X.K H w1 H1 vs xs) p1 => ?_⟩
    split at p1
    · rename_i hz
      exact ⟨by rw [Dens.length q1]; exact hz, fun l hl => Post.newList ok1 st1 p1 q1 l hl⟩
    · exact p1.elim

theorem k_nil : PK X [] (TXv X E fun _ m => .ok [] m) := pk_nil.imp fun σ H Q h => by
  obtain ⟨w, r, m, ok, st, en, p⟩ := h
  exact p.here ok st .nil
theorem k_cons {nm : Option Str} {kp : Pos} {kws : List Keyword} (ha : PE X a (TX X E fa)) (hr : PK X kws (TXv X E fv)) :
    PK X (⟨nm, a, kp⟩ :: kws) (TXv X E fun r m => (fa r m).bind fun t m => (give t.val? m).bind fun x m => (fv r m).bind fun xs m => .ok (x :: xs) m) :=
  (pk_cons ha hr).imp fun σ H Q h => by
    obtain ⟨w, r, m, ok, st, en, p⟩ := h
    dsimp only at p
    rw [← bind_bind] at p
    refine ⟨w, r, m, ok, st, en, Post.toVal (Post.bind mRVs ok p fun x m1 v w1 H1 s1 ok1 st1 (q1 : RV X.K H w1 H1 v x) p1 => ?_)⟩
    refine ⟨w1, r, m1, ok1, st1, en.step ok s1, Post.bind mRVs ok1 p1 fun xs m2 vs w2 H2 s2 ok2 st2 q2 p2 => ?_⟩
    exact p2.here ok2 st2 (.cons (ValR.step ok1 s2 q1) q2)
theorem Paired.appd {α β : Type} {F : α → β → Prop} {as cs : List α} {bs ds : List β} (h : Paired F as bs) (g : Paired F cs ds) : Paired F (as ++ cs) (bs ++ ds) := by
  induction h with
  | nil => exact g
  | cons r _ ih => exact .cons r ih
theorem s_call {x : Str} {p : Pos} {kws : List Keyword} {ks : List Str} {n : Nat} {arr : List (Nat ⊕ D)}
    (C : CallOk X c x n ks arr) (hg : X.A.guards = some []) (hx : Passes (CXn X.prog X.w) X E) (hgl : Gl X x) (hdb : (x == ("__debug__" : Str)) = false) (hst : es.all noStar = true) (hks : kwNames kws = some ks)
    (hv : ∀ r m ys m1, fv r m = .ok ys m1 → ys.length = n) (hw : ∀ r m ys m1, fw r m = .ok ys m1 → ys.length = ks.length) (h0 : es = [] → fv = fun _ m => .ok [] m)
    (ha : PA X es (TXv X E fv)) (hk : PK X kws (TXv X E fw)) :
    PE X (.Call (.Name x p) es kws pos) (TX X E fun r m => (fv r m).bind fun xs m => (fw r m).bind fun ys m => (give (fill arr (xs ++ ys)) m).bind fun zs m => c x zs m) := by
  have fin : ∀ (σ : L2.St) (H : Hp) (Q : VK) (w : Wd) (r : Env) (m : Store) (xs : List Val) (vs : List V), WOk w H → StR X.K w H m → EnvR X.K w H σ r → Paired (ValR X.K w H) vs xs → vs.length = n →
      Post X.K X.mg E (RT X.K) w H ((fw r m).bind fun ys m => (give (fill arr (xs ++ ys)) m).bind fun zs m => c x zs m) Q → TXv X E fw σ H fun zs H2 => ArgsOk X E c x n ks.length arr Q vs zs H2 := fun σ H Q w r m xs vs ok st en q l p => by
    refine ⟨w, r, m, ok, st, en, Post.bindE mRT ok p fun ys m2 us w2 H2 e2 s2 ok2 st2 (q2 : RVs X.K H w2 H2 us ys) p2 => ?_⟩
    refine ⟨l, by rw [Paired.length q2]; exact hw _ _ _ _ e2, ?_⟩
    cases e3 : fill arr (xs ++ ys) with
    | none => rw [e3] at p2; exact p2.elim
    | some zz =>
      rw [e3] at p2
      exact ⟨w2, xs ++ ys, zz, m2, ok2, st2, Paired.appd (Paired.mapP q fun _ _ z => z.step ok s2) q2, e3, p2⟩
  cases es with
  | nil =>
    have e0 := h0 rfl
    subst e0
    refine pe_callG0 C hg hx hgl hdb hks hk fun σ H Q h => ?_
    obtain ⟨w, r, m, ok, st, en, p⟩ := h
    exact fin σ H Q w r m [] [] ok st en .nil (hv r m [] m rfl) p
  | cons a es =>
    refine pe_callG C hg hx hgl hdb hst hks ha hk fun σ H Q h => ?_
    obtain ⟨w, r, m, ok, st, en, p⟩ := h
    refine ⟨w, r, m, ok, st, en, Post.bindE mRT ok p fun xs m1 vs w1 H1 e1 s1 ok1 st1 (q1 : RVs X.K H w1 H1 vs xs) p1 => ?_⟩
    exact fin σ H1 Q w1 r m1 xs vs ok1 st1 (en.step ok s1) q1 (by rw [Paired.length q1]; exact hv _ _ _ _ e1) p1
theorem s_bfn {f : BFn} {p : Pos} (hf : ∀ l, f ≠ .isinst l) (hc : X.calm = true) (hg : X.A.guards = some []) (hu : X.A.units + 65 < cLine) (hgl : Gl X (bfnName f)) (hm : X.mg (bfnName f) = none) (hst : (a :: es).all noStar = true) (h : PA X (a :: es) (TXt X E fs)) :
    PE X (.Call (.Name (bfnName f) p) (a :: es) [] pos) (TX X E fun r m => (fs r m).bind fun xs m => give (bfnV f xs m) m) := by
  have hst2 := hst
  rw [List.all_cons, Bool.and_eq_true] at hst2
  have key : ∀ σ H Q, TX X E (fun r m => (fs r m).bind fun xs m => give (bfnV f xs m) m) σ H Q → tCB (rBfn X.K f) (TXt X E fs) σ H Q := fun σ H Q h => by
    obtain ⟨w, r, m, ok, st, en, p⟩ := h
    refine ⟨w, r, m, ok, st, en, Post.bind mRT ok p fun xs m1 vs w1 H1 s1 ok1 st1 (q1 : RTs X.K H w1 H1 vs xs) p1 => ?_⟩
    exact bfn_ok ok1 st1 q1 f hf p1
  have hn : bfnName f ≠ "__name__" := by cases f <;> first | decide +kernel | (show ("isinstance" : Str) ≠ "__name__"; decide +kernel)
  have hd : (bfnName f == ("__debug__" : Str)) = false := by cases f <;> first | decide +kernel | (show (("isinstance" : Str) == ("__debug__" : Str)) = false; decide +kernel)
  have hb := boot_bfn f
  have hcall := call_bfn hc hg hu f
  cases f <;> first
    | exact (pe_callB hcall hgl hm hb h hn hd (star_of hst2.1) (stars_of hst2.2)).imp key
    | exact (pe_callTy hcall hgl hm hb h hn hd (star_of hst2.1) (stars_of hst2.2)).imp key

def tyNames : List String := ["int", "str", "bool", "tuple", "list", "dict", "float"]
def tyD : List String := ["NoneType", "bool", "int", "str", "list", "tuple", "dict"]
theorem kit_all : (tyD.all fun s => tyNames.all fun t => decide (kitB s t = some (s == t || (s == "bool" && t == "int")))) = true := by decide +kernel
theorem tyOf_mem (d : D) : tyOf d ∈ tyD := by cases d <;> simp [tyOf, tyD]
theorem kit_one {d : D} {t : String} (h : t ∈ tyNames) : kitB (tyOf d) t = some (isTy d t) :=
  of_decide_eq_true (List.all_eq_true.mp (List.all_eq_true.mp kit_all _ (tyOf_mem d)) _ h)
theorem kit_list {d : D} : ∀ {ts : List String}, (∀ t ∈ ts, t ∈ tyNames) → kitAllB (tyOf d) ts = some (ts.any (isTy d))
  | [], _ => rfl
  | t :: ts, h => by
    unfold kitAllB
    rw [kit_one (h t (List.mem_cons_self ..)), List.any_cons]
    cases isTy d t with
    | true => rfl
    | false => exact kit_list fun x hx => h x (List.mem_cons_of_mem _ hx)
theorem boot_ty : ∀ t ∈ tyNames, bootBuiltins (Str.ofString t) = some (.type t) ∧ Str.ofString t ≠ "__name__" ∧ (Str.ofString t == ("__debug__" : Str)) = false := by decide +kernel
theorem tyx_of {w : Wd} {H : Hp} {v : V} {t : Tmp} {d : D} (h : TmpR X.K w H v t) (e : t.data? = some d) : TyX X.K H v (.type (tyOf d)) := by
  cases d with
  | none => cases h.dp e; exact .base .non
  | bool b => cases h.dp e; exact .base (.bl b)
  | int i => cases h.dp e; exact .base (.int i)
  | str s => cases h.dp e; exact .base (.str s)
  | list ds =>
    obtain ⟨a, xs, rfl, h1, _⟩ := h.list e
    exact .base (.lst h1)
  | tuple ds =>
    obtain ⟨a, xs, rfl, h1, _⟩ := h.tup e
    rcases h1 with (h1 | ⟨o, h1⟩) | ⟨o, its, n, h1, h2, _⟩
    · exact .base (.tup h1)
    · exact .fTuple h1
    · exact .kTuple h1 h2
  | dict kvs => cases h.dp e
theorem tys_pa : ∀ {ts : List String} {es : List Expr}, (∀ t ∈ ts, t ∈ tyNames) → Paired (fun (e : Expr) (t : String) => ∃ p, e = .Name (Str.ofString t) p) es ts → (∀ t ∈ ts, Gl X (Str.ofString t) ∧ X.mg (Str.ofString t) = none) →
    PA X es (fun _ H Q => Q (ts.map .ty) H)
  | [], _, _, .nil, _ => pa_nil
  | t :: ts, _, h, .cons a b, hg => by
    obtain ⟨p, rfl⟩ := a
    obtain ⟨b1, b2, b3⟩ := boot_ty t (h t (List.mem_cons_self ..))
    obtain ⟨g1, g2⟩ := hg t (List.mem_cons_self ..)
    exact (pa_cons (pe_bltn (v := .ty t) g1 g2 b1 rfl b2 b3) (tys_pa (fun x hx => h x (List.mem_cons_of_mem _ hx)) b fun x hx => hg x (List.mem_cons_of_mem _ hx))).imp fun σ H Q q => q
theorem cls_all : ∀ ts : List String, Paired ClsV (ts.map .ty) (ts.map .type)
  | [] => .nil
  | t :: ts => .cons (.ty t) (cls_all ts)
theorem s_isi {p : Pos} {ts : List String} {ty : Expr} (hl20 : ts.length ≤ 20) (hts : ∀ t ∈ ts, t ∈ tyNames) (hgl : Gl X "isinstance") (hm : X.mg "isinstance" = none) (hga : ∀ t ∈ ts, Gl X (Str.ofString t) ∧ X.mg (Str.ofString t) = none) (hst : noStar a = true)
    (hty : (∃ t p, ts = [t] ∧ ty = .Name (Str.ofString t) p) ∨ ∃ es k p, ty = .Tuple es k p ∧ Paired (fun (e : Expr) (t : String) => ∃ p, e = .Name (Str.ofString t) p) es ts)
    (ha : PE X a (TX X E fa)) :
    PE X (.Call (.Name "isinstance" p) [a, ty] [] pos) (TX X E fun r m => ((fa r m).bind fun x m => .ok [x] m).bind fun xs m => give (bfnV (.isinst ts) xs m) m) := by
  have hb := boot_bfn (.isinst ts)
  rcases hty with ⟨t, p2, rfl, rfl⟩ | ⟨es, k, p2, rfl, hp⟩
  · obtain ⟨b1, b2, b3⟩ := boot_ty t (hts t (List.mem_cons_self ..))
    obtain ⟨g1, g2⟩ := hga t (List.mem_cons_self ..)
    refine (pe_callB call_isi hgl hm hb (pa_cons ha (pa_cons (pe_bltn (v := .ty t) g1 g2 b1 rfl b2 b3) pa_nil) (star_of hst)) (by decide +kernel) (by decide +kernel) (star_of hst) rfl).imp fun σ H Q h => ?_
    obtain ⟨w, r, m, ok, st, en, p⟩ := h
    dsimp only at p
    rw [bind_bind] at p
    refine ⟨w, r, m, ok, st, en, Post.bind mRT ok p fun x m1 v w1 H1 s1 ok1 st1 (q1 : RT X.K H w1 H1 v x) p1 => ?_⟩
    obtain ⟨z, e1, p2⟩ := Post.given p1
    simp only [bfnV] at e1
    split at e1
    · rename_i d ed
      cases e1
      refine ⟨v, .ty t, .type (tyOf d), .type t, isTy d t, rfl, .ty t, tyx_of q1.1 ed, kit_ty (kit_one (hts t (List.mem_cons_self ..))), ?_⟩
      have e3 : ([t].any (isTy d)) = isTy d t := by simp
      rw [e3] at p2
      exact Post.bl ok1 st1 p2
    · cases e1
  · refine (pe_callB call_isiT hgl hm hb (pa_cons ha (pa_cons (pe_tup (tys_pa hts hp hga)) pa_nil) (star_of hst)) (by decide +kernel) (by decide +kernel) (star_of hst) rfl).imp fun σ H Q h => ?_
    obtain ⟨w, r, m, ok, st, en, p⟩ := h
    dsimp only at p
    rw [bind_bind] at p
    refine ⟨w, r, m, ok, st, en, Post.bind mRT ok p fun x m1 v w1 H1 s1 ok1 st1 (q1 : RT X.K H w1 H1 v x) p1 => ?_⟩
    obtain ⟨z, e1, p2⟩ := Post.given p1
    simp only [bfnV] at e1
    split at e1
    · rename_i d ed
      cases e1
      refine ⟨by rw [List.length_map]; exact Nat.le_trans hl20 (by rw [sizeLine_eq]; decide), fun l hl => ?_⟩
      have q2 : TmpR X.K w1 (upd H1 l (.tup (ts.map .ty))) v x := q1.1.step ok1 (grow_step (grow_upd hl))
      refine ⟨v, l, ts.map .ty, .type (tyOf d), ts.map .type, ts.any (isTy d), rfl, upd_same, cls_all ts, tyx_of q2 ed, kitAll_ok (kit_list hts), ?_⟩
      exact Post.bl (grow_ok (grow_upd hl) ok1) (st1.grow ok1 (grow_upd hl)) (Post.step mRT ok1 (grow_step (grow_upd hl)) p2)
    · cases e1
end
end Ev
set_option Elab.async false
set_option linter.all false
set_option maxRecDepth 100000
set_option maxHeartbeats 1000000
namespace Ev
open PySem PySem.Spec PyProof.Rows L2

section
variable {prog : Program} {w : World} {A : Around} {E : Value → Shared → Prop} {s : Shared}
abbrev enH1 (h : Heap) (l : Addr) : Heap := h.push { cls := .type "tuple_iterator", data := .fields #[.ref l, .int 0 0] }
abbrev enH2 (h : Heap) (l : Addr) : Heap := (enH1 h l).push { cls := .type "enumerate", data := .fields #[.none, .bool false, .ref h.objs.size, rawInt 0, .none, .none] }
theorem enumT_meets (l : Addr) (xs : Array Value) :
    Meets (Builtin.«enumerate.__new__» ⟨[.type "enumerate", .ref l], []⟩) (fun _ R t => t.heap.IsTuple l xs ∧ R (.ok (.ret (.ref (enH1 t.heap l).objs.size))) { t with heap := enH2 t.heap l }) :=
  .of_wp fun pr wo Ar R t hyp => by
    obtain ⟨h0, g0, d0, k0, o0⟩ := t
    obtain ⟨q1, q2⟩ := hyp
    have sb := sub_enumerate
    have q1' : Heap.IsTuple (Shared.heap ⟨h0, g0, d0, k0, o0⟩) l xs := q1
    wp_walk using wpAny_pyIter_tuple q1'
    refine wpAny_stack_any fun st => wpAny_pure ?_
    split
    · rename_i cc _ _ _ _ _
      cases (cc == Value.type "enumerate")
      all_goals
        wp_walk using wpAny_pyIter_tuple q1'
        exact ⟨_, rfl, q2⟩
    · wp_walk using wpAny_pyIter_tuple q1'
      exact ⟨_, rfl, q2⟩
theorem enumT_call {l : Addr} {xs : Array Value} {Q : Value → Shared → Prop} (hl : s.heap.IsTuple l xs)
    (k : ∀ h2, IsEnum h2 (s.heap.objs.size + 1) s.heap.objs.size 0 .none → h2.IsTupleIter s.heap.objs.size l 0 → (∀ b o, s.heap.get? b = some o → h2.get? b = some o) → Q (.ref (s.heap.objs.size + 1)) { s with heap := h2 }) :
    wpAny (model prog w) A (call (.type "enumerate") [.ref l]) Q E s := by
  refine callType_new F.called_enumerate (by decide) (F.typeCall_enumerate_1 _) (F.newCall_enumerate_1 _) (fun ob => F.args_object_init_2 ob _) F.entry_enumerate_new (enumT_meets l xs) ⟨hl, ?_⟩
  have z1 : (enH1 s.heap l).objs.size = s.heap.objs.size + 1 := Heap.size_push ..
  have z2 : (enH2 s.heap l).get? (enH1 s.heap l).objs.size = some _ := Heap.get?_push_size _ rfl
  show _ ∧ _
  rw [z1] at z2 ⊢
  exact ⟨⟨_, z2, rfl⟩, k _ z2 ⟨_, Heap.get?_push_of_some _ (Heap.get?_push_size _ rfl), rfl, rfl⟩ fun b o q => Heap.get?_push_of_some _ (Heap.get?_push_of_some _ q)⟩
theorem drawsT (hh : A.handled = none) (it l : Addr) (hne : l ≠ it) (xs : Array Value) : Draws prog w A it [it, l] xs.size (fun i v => xs[i]? = some v) (fun i h => h.IsTupleIter it l i ∧ h.IsTuple l xs) where
  live := fun _ _ q => let ⟨o, e, _⟩ := q.1; ⟨o, e⟩
  frame := fun _ _ _ q k => ⟨q.1.at fun o e => k it (by simp) o e, q.2.at fun o e => k l (by simp) o e⟩
  item := fun i t Q E hi q hQ => by
    have hx : xs[i]? = some xs[i] := by simp [hi]
    refine RZ.nextOf_tuple_item q.1 q.2 hx fun h2 it2 sb => hQ _ h2 t.toks hx ⟨it2, q.2.extBut sb.extBut hne⟩ sb
  done := fun t Q E q hE => RZ.nextOf_tuple_end hh q.1 q.2 (by simp) hE
end

def IteT (K : PySem.W.Frag) (a : Addr) : L2.It where
  go := fun i H => ∃ (xs : List V) (x : V), SqT K H a xs ∧ xs[i]? = some x
  yld := fun i H v H2 => ∃ T x, v = .ref T ∧ H T = none ∧ H2 = upd H T (.tup [.int (i : Nat), x]) ∧ ∀ xs, SqT K H a xs → xs[i]? = some x
  stop := fun i H => ∃ xs : List V, SqT K H a xs ∧ xs.length ≤ i
theorem turn_enumT {P : Program} {w : World} {K : PySem.W.Frag} {elts : List Expr} {kk : Nat} {tpos : Pos} (a e it : Addr) (hai : a ≠ it) (hae : a ≠ e) :
    Turn P w K (.Tuple elts kk tpos) (IteT K a) [e, it] e (fun i h => (∃ old, IsEnum h e it ((i : Nat) : Int) old) ∧ h.IsTupleIter it a i ∧ e ≠ it) where
  mem := List.mem_cons_self ..
  obj := fun i h st b hb => by
    obtain ⟨⟨old, he⟩, ⟨o, ho, hc, hd⟩, _⟩ := st
    rcases (by simpa using hb : b = e ∨ b = it) with rfl | rfl
    · exact ⟨_, he, fun v q => nomatch q⟩
    · exact ⟨o, ho, fun v q => by rw [hd] at q; cases q⟩
  keep := fun i h h2 st k => ⟨let ⟨old, he⟩ := st.1; ⟨old, k e (by simp) _ he⟩, st.2.1.at fun o q => k it (by simp) o q, st.2.2⟩
  item := by
    intro X hP hw hK hc i pins s σ H E I hf st hg
    subst hP hw hK
    obtain ⟨⟨old, he⟩, hit, hne⟩ := st
    obtain ⟨xs, x, hq, hx⟩ := hg
    obtain ⟨its, rv, p, hz⟩ := I.tuple hq
    obtain ⟨u, hu, ru⟩ := rv.get hx
    have hel : e < s.heap.objs.size := Heap.lt_size he
    have hil : it < s.heap.objs.size := by obtain ⟨_, q, _⟩ := hit; exact Heap.lt_size q
    have hlt : i < its.toArray.size := by
      rw [List.size_toArray]
      exact (List.getElem?_eq_some_iff.mp hu).1
    have pp : s.heap.IsTuple a its.toArray := p
    refine wpAny_pyNext_enum_itemD (drawsT (prog := X.prog) (w := X.w) (A := X.A.in1) (show X.A.in1.handled = none from I.ok.hd hc) it a hai its.toArray) he ⟨hit, pp⟩ hlt hne (by simp [hne, Ne.symm hae]) fun y h1 tk hy ho st1 hT hsz hk => ?_
    have hyu : y = u := by
      have : its.toArray[i]? = some u := by simpa using hu
      rw [this] at hy
      exact (Option.some.inj hy).symm
    subst hyu
    refine ⟨_, rfl, wpAny_letOwnedTupleGo_enum (s := { s with heap := h1, toks := tk + 1 }) ho fun h2 he2 sb => ?_⟩
    have hT2 : h2.get? s.heap.objs.size = some { cls := .type "tuple", data := .seq #[.int i tk, y] } := (sb.2 _ (Nat.ne_of_gt hel)).trans hT
    have new : ObjOk X.prog X.w (upd H s.heap.objs.size (.tup [.int (i : Nat), x])) h2 s.heap.objs.size (.tup [.int (i : Nat), x]) :=
      ⟨(by decide : 2 ≤ sizeLine), [.int i tk, y], .cons ⟨_, rfl⟩ (.cons ru .nil), ⟨_, hT2, rfl, _, rfl⟩⟩
    have I1 : Inv X pins σ (upd H s.heap.objs.size (.tup [.int (i : Nat), x])) { s with heap := h2, toks := tk + 1 } :=
      I.turnedNew (ch := [e, it]) (fun b o hb q => (sb.2 b (fun z => hb (by simp [z]))).trans (hk b o (fun z => hb (by simp [z])) (fun z => hb (by simp [z])) q)) hf (Nat.le_refl _) new
    refine ⟨.ref s.heap.objs.size, _, I1, rfl, ⟨_, x, rfl, I.hok.fresh (Nat.le_refl _), rfl, fun ys hy2 => by rw [I.tuple_inj hy2 hq]; exact hx⟩, ⟨⟨y, ?_⟩, st1.1.at fun o q => (sb.2 it (Ne.symm hne)).trans q, hne⟩, fun b hb => ?_⟩
    · rw [show ((i + 1 : Nat) : Int) = (i : Int) + 1 by omega]
      exact he2
    · have hb2 : b < s.heap.objs.size := by
        rcases (by simpa using hb : b = e ∨ b = it) with rfl | rfl
        · exact hel
        · exact hil
      rw [upd_ne (Nat.ne_of_lt hb2)]
      exact (hf b hb).1
  done := by
    intro X hP hw hK hc i pins s σ H E I hf st hg
    subst hP hw hK
    obtain ⟨⟨old, he⟩, hit, hne⟩ := st
    obtain ⟨xs, hq, hx⟩ := hg
    obtain ⟨its, rv, p, hz⟩ := I.tuple hq
    obtain ⟨f0, f1, f2, f3, f4, f5⟩ := hf it (by simp)
    have hl := rv.length
    have hT : s.TypeIs (.ref e) "enumerate" := ⟨_, he, rfl⟩
    unfold pyNext
    refine wpAny_bind (wpAny_attempt (wpAny_callSpecial?_slot (name := Str.ofString "__next__") hT F.slot_enumerate_next
      (wpAny_call_entry F.slot_enumerate_next hT F.entry_enumerate_next ?_ (F.args_enumerate_next_1 _))))
    show wpAny _ _ (field (.ref e) 2 >>= _) _ _ _
    refine wpAny_bind (wpAny_field he rfl (x := .ref it) rfl ?_)
    refine wpAny_bind (RZ.nextOf_tuple_end (I.ok.hd hc) hit p (by simp; omega) fun h2 ex eb hx => ?_)
    obtain ⟨o, ho, hcl⟩ := hx
    refine wpAny_bind (wpAny_isInstance (T := "StopIteration") (b := true) ⟨o, ho, hcl⟩ isSubtype_stop ?_)
    exact wpAny_pure ⟨rfl, I.turned (t' := s.toks) (fun b o hb q => eb b o hb q) f0 f1 f3 f4 f5⟩
  self := fun A i s Q E st h => let ⟨⟨_, he⟩, _⟩ := st; wpAny_pyIter_enum he h
def iEnumA (K : PySem.W.Frag) (ta : TA) : TI := fun σ H R => ta σ H fun vs H1 => ∃ a xs, vs = [.ref a] ∧ ((SqL K H1 a xs ∧ R (Ite K a) H1) ∨ (SqT K H1 a xs ∧ R (IteT K a) H1))
theorem pi_enumA {X : Cx} {e : Expr} {ta : TA} {p pos tpos : Pos} {elts : List Expr} {kk : Nat} (hg : Gl X "enumerate") (hm : X.mg "enumerate" = none) (ha : PA X [e] ta) (hs : starEach [e] X.env = [(false, eval e X.env)]) :
    PI X (.Tuple elts kk tpos) (.Call (.Name "enumerate" p) [e] [] pos) (iEnumA X.K ta) := by
  refine ⟨fun pins s σ H R I h => ?_⟩
  refine Call_ (ld_blt I hg hm boot_enumerate (PyProof.Rows.callWith_type1 (thn (ha.run pos pins s σ H _ I h) fun us s1 ⟨vs, H1, I1, r1, q1⟩ => ?_) hs rfl))
  obtain ⟨a, xs, ex, q1⟩ := q1
  subst ex
  cases r1 with
  | cons r rr =>
    cases rr
    cases r
    have fr : ∀ b, b ∈ [s1.heap.objs.size + 1, s1.heap.objs.size] → FpOk X pins H1 b := fun b hb => by
      have hle : s1.heap.objs.size ≤ b := by
        rcases (by simpa using hb : b = s1.heap.objs.size + 1 ∨ b = s1.heap.objs.size) with z | z <;> omega
      exact I1.fpOk hle (I1.hok.fresh hle)
    rcases q1 with ⟨hq, q⟩ | ⟨hq, q⟩
    · obtain ⟨its, rv, p', hz⟩ := I1.list hq
      refine call_enumerate_list p'.isList fun h2 he hit hsz hk => wpAny_pyIter_enum he ?_
      have I2 : Inv X pins σ H1 { s1 with heap := h2 } := I1.kept (t' := s1.toks) hk
      exact ⟨s1.heap.objs.size + 1, [s1.heap.objs.size + 1, s1.heap.objs.size], _, _, H1, rfl, I2, turn_enum a (s1.heap.objs.size + 1) s1.heap.objs.size, ⟨⟨.none, he⟩, hit, Nat.succ_ne_self _⟩, fr, q⟩
    · obtain ⟨its, rv, p', hz⟩ := I1.tuple hq
      have hal : a < s1.heap.objs.size := by
        obtain ⟨o, e, _⟩ := p'
        exact Heap.lt_size e
      refine enumT_call (show s1.heap.IsTuple a its.toArray from p') fun h2 he hit hk => wpAny_pyIter_enum he ?_
      have I2 : Inv X pins σ H1 { s1 with heap := h2 } := I1.kept (t' := s1.toks) hk
      exact ⟨s1.heap.objs.size + 1, [s1.heap.objs.size + 1, s1.heap.objs.size], _, _, H1, rfl, I2, turn_enumT a (s1.heap.objs.size + 1) s1.heap.objs.size (Nat.ne_of_lt hal) (Nat.ne_of_lt (Nat.lt_succ_of_lt hal)), ⟨⟨.none, he⟩, hit, Nat.succ_ne_self _⟩, fr, q⟩
end Ev
set_option Elab.async false
set_option linter.all false
set_option maxRecDepth 100000
set_option maxHeartbeats 1000000
namespace Ev
open PySem PySem.Spec PyProof.Rows L2

abbrev ZipS (h : Heap) (z TI TO : Addr) (f0 : Value) : Prop := h.get? z = some { cls := .type "zip", data := .fields #[f0, .bool false, .bool true, .ref TI, .ref TO] }
section
variable {prog : Program} {w : World} {A : Around} {E : Value → Shared → Prop} {s : Shared} {z TI TO i1 i2 it : Addr} {fp fp1 fp2 : List Addr} {n n1 n2 i : Nat} {P P1 P2 : Nat → Value → Prop} {St St1 St2 : Nat → Heap → Prop} {a1 a2 : Value}
theorem nxe_item {Q : Option Value → Shared → Prop} (D : Draws prog w A it fp n P St) (hi : i < n) (st : St i s.heap)
    (k : ∀ x h2 tk, P i x → St (i + 1) h2 → Heap.SameBut it s.heap h2 → Q (some x) { s with heap := h2, toks := tk }) : wpAny (model prog w) A (Builtin.SmallTypes.nextOrEnd (.ref it)) Q E s := by
  unfold Builtin.SmallTypes.nextOrEnd
  exact wpAny_bind (wpAny_attempt (D.item i s _ _ hi st fun x h2 tk b c d => wpAny_pure (k x h2 tk b c d)))
theorem nxe_end {Q : Option Value → Shared → Prop} (D : Draws prog w A it fp n P St) (st : St n s.heap)
    (k : ∀ h2, Heap.ExtBut it s.heap h2 → Q none { s with heap := h2 }) : wpAny (model prog w) A (Builtin.SmallTypes.nextOrEnd (.ref it)) Q E s := by
  unfold Builtin.SmallTypes.nextOrEnd
  refine wpAny_bind (wpAny_attempt (D.done s _ _ st fun h2 e eb q => ?_))
  obtain ⟨o, ho, hc⟩ := q
  exact wpAny_bind (wpAny_isInstance (T := "StopIteration") (b := true) ⟨o, ho, hc⟩ isSubtype_stop (wpAny_pure (k h2 eb)))
theorem stop_out {α : Type} {Q : α → Shared → Prop} (hh : A.handled = none)
    (k : ∀ h2 e, (∀ b o, s.heap.get? b = some o → h2.get? b = some o) → (∃ o, h2.get? e = some o ∧ o.cls = .type "StopIteration") → E (.ref e) { s with heap := h2 }) :
    wpAny (model prog w) A (Builtin.SmallTypes.stopIteration : Sem α) Q E s := by
  unfold Builtin.SmallTypes.stopIteration
  refine wpAny_bind ?_
  simp only [newExc, newTuple]
  refine wpAny_bind (wpAny_newObj_type ?_ (by size_fits))
  refine wpAny_bind (m := firstArgMember _ _) (wpAny_of_eq (a := Value.none) (by first | rfl | (simp only [firstArgMember]; rfl)) ?_)
  refine wpAny_newObj_type ?_ (by size_fits)
  simp only [raiseNew]
  refine wpAny_bind (wpAny_handled ?_)
  first | rw [show A.in1.handled = none from hh] | rw [hh]
  refine wpAny_bind (wpAny_pure (wpAny_throw ?_))
  exact k _ _ (fun b o q => Heap.get?_push_of_some _ (Heap.get?_push_of_some _ q)) ⟨_, Heap.get?_push_size _ rfl, rfl⟩
theorem zs_item {Q : Value → Shared → Prop} (S : ZipSep2 z TI TO i1 i2 fp1 fp2) (D1 : Draws prog w A i1 fp1 n1 P1 St1) (D2 : Draws prog w A i2 fp2 n2 P2 St2)
    (hz : ZipS s.heap z TI TO .none) (hTI : IsTupOf2 s.heap TI (.ref i1) (.ref i2)) (hTO : IsTupOf2 s.heap TO a1 a2) (st1 : St1 i s.heap) (st2 : St2 i s.heap) (l1 : i < n1) (l2 : i < n2)
    (k : ∀ x1 x2 h2 tk, P1 i x1 → P2 i x2 → ZipS h2 z TI TO (rawInt s.heap.objs.size) → IsTupOf2 h2 TO x1 x2 → St1 (i + 1) h2 → St2 (i + 1) h2 → IsTupOf2 h2 s.heap.objs.size x1 x2 → h2.objs.size = s.heap.objs.size + 1 →
      (∀ c o, c ≠ z → c ≠ TO → c ≠ i1 → c ≠ i2 → s.heap.get? c = some o → h2.get? c = some o) → Q (.ref s.heap.objs.size) { s with heap := h2, toks := tk }) :
    wpAny (model prog w) A (Builtin.«zip.__next__» ⟨[.ref z], []⟩) (fun fin t => ∃ v, fin = .done (.ret v) ∧ Q v t) E s := by
  obtain ⟨hp, gg, dd, tk0, os⟩ := s
  show wpAny _ _ (field (.ref z) 2 >>= _) _ _ _
  refine wpAny_bind (wpAny_field hz rfl (x := .bool true) rfl ?_)
  show wpAny _ _ (field (.ref z) 3 >>= _) _ _ _
  refine wpAny_bind (wpAny_field hz rfl (x := .ref TI) rfl (wpAny_bind (wpAny_seqItems hTI rfl ?_)))
  show wpAny _ _ (Builtin.SmallTypes.ownedTupleIsFree (.ref z) >>= _) _ _ _
  refine wpAny_bind ?_
  unfold Builtin.SmallTypes.ownedTupleIsFree
  refine wpAny_bind (wpAny_field hz rfl (x := .none) rfl (wpAny_pure ?_))
  simp only [if_true]
  refine wpAny_bind (wpAny_rule (wpAny_bind (wpAny_field hz rfl (x := .ref TO) rfl (wpAny_bind (wpAny_setField_rec hz (by simp) fun g0 hz0 hs0 => ?_)))))
  replace hz0 : ZipS g0 z TI TO .ellipsis := hz0
  replace hs0 : Heap.SameBut z hp g0 := hs0
  refine wpAny_bind ?_
  simp only [List.zipIdx_cons, List.zipIdx_nil, List.forIn_cons, List.forIn_nil]
  refine wpAny_bind (wpAny_bind (wpAny_onRaise ?_))
  show wpAny _ _ (Builtin.SmallTypes.nextOrEnd (.ref i1)) _ _ ⟨g0, gg, dd, tk0, os⟩
  refine nxe_item D1 l1 (D1.over st1 hs0 S.zf1) fun x1 p1 tk1 hx1 sn1 hp1 => ?_
  replace hp1 : Heap.SameBut i1 g0 p1 := hp1
  have hU1 : IsTupOf2 p1 TO a1 a2 := hp1.extBut _ _ S.Ti1 (hs0.extBut _ _ S.TOz hTO)
  refine wpAny_bind (wpAny_seqItems (s := ⟨p1, gg, dd, tk1, os⟩) hU1 rfl (wpAny_bind (updateSeq_IsTupOf2 (s := ⟨p1, gg, dd, tk1, os⟩) hU1 fun g1 hT1 hs1 => ?_)))
  replace hT1 : IsTupOf2 g1 TO x1 a2 := hT1
  replace hs1 : Heap.SameBut TO p1 g1 := hs1
  refine wpAny_bind (wpAny_letGo (wpAny_pure (wpAny_bind (wpAny_bind (wpAny_onRaise ?_)))))
  show wpAny _ _ (Builtin.SmallTypes.nextOrEnd (.ref i2)) _ _ ⟨g1, gg, dd, tk1, os⟩
  refine nxe_item D2 l2 (D2.over (D2.over (D2.over st2 hs0 S.zf2) hp1 S.sep1_2) hs1 S.Tf2) fun x2 p2 tk2 hx2 sn2 hp2 => ?_
  replace hp2 : Heap.SameBut i2 g1 p2 := hp2
  have hU2 : IsTupOf2 p2 TO x1 a2 := hp2.extBut _ _ S.Ti2 hT1
  refine wpAny_bind (wpAny_seqItems (s := ⟨p2, gg, dd, tk2, os⟩) hU2 rfl (wpAny_bind (updateSeq_IsTupOf2 (s := ⟨p2, gg, dd, tk2, os⟩) hU2 fun g2 hT2 hs2 => ?_)))
  replace hT2 : IsTupOf2 g2 TO x1 x2 := hT2
  replace hs2 : Heap.SameBut TO p2 g2 := hs2
  refine wpAny_bind (wpAny_letGo (wpAny_pure (wpAny_pure (wpAny_bind (wpAny_seqItems (s := ⟨g2, gg, dd, tk2, os⟩) hT2 rfl (wpAny_bind (wpAny_newTuple ?_)))))))
  have hsz : g2.objs.size = hp.objs.size := by rw [hs2.1, hp2.1, hs1.1, hp1.1, hs0.1]
  have hzz : ZipS g2 z TI TO .ellipsis := (hs2.extBut _ _ S.TOz.symm (hp2.extBut _ _ S.zi2 (hs1.extBut _ _ S.TOz.symm (hp1.extBut _ _ S.zi1 hz0))))
  have hkk : ∀ c o, c ≠ z → c ≠ TO → c ≠ i1 → c ≠ i2 → hp.get? c = some o → g2.get? c = some o := fun c o cz cT c1 c2 e =>
    (hs2.extBut _ _ cT (hp2.extBut _ _ c2 (hs1.extBut _ _ cT (hp1.extBut _ _ c1 (hs0.extBut _ _ cz e)))))
  have hj1 : St1 (i + 1) g2 := (D1.over (D1.over (D1.over sn1 hs1 S.Tf1) hp2 S.sep2_1) hs2 S.Tf1)
  have hj2 : St2 (i + 1) g2 := (D2.over sn2 hs2 S.Tf2)
  have zlt : z < g2.objs.size := Heap.lt_size hzz
  show wpAny _ _ (Builtin.SmallTypes.ownedTupleHandOut (.ref z) (.ref g2.objs.size) >>= _) _ _ ⟨g2.push { cls := .type "tuple", data := .seq #[x1, x2] }, gg, dd, tk2, os⟩
  refine wpAny_bind ?_
  unfold Builtin.SmallTypes.ownedTupleHandOut
  have hz6 : ZipS (g2.push { cls := .type "tuple", data := .seq #[x1, x2] }) z TI TO .ellipsis := Heap.get?_push_of_some _ hzz
  refine wpAny_bind (wpAny_setField_rec hz6 (by simp) fun h7 hz7 hs7 => ?_)
  replace hz7 : ZipS h7 z TI TO (rawInt g2.objs.size) := hz7
  refine wpAny_setField_rec hz7 (by simp) fun h8 hz8 hs8 => ?_
  replace hz8 : ZipS h8 z TI TO (rawInt g2.objs.size) := hz8
  replace hs7 : Heap.SameBut z (g2.push { cls := .type "tuple", data := .seq #[x1, x2] }) h7 := hs7
  replace hs8 : Heap.SameBut z h7 h8 := hs8
  have up : ∀ c o, c ≠ z → g2.get? c = some o → h8.get? c = some o := fun c o c1 e => hs8.extBut _ _ c1 (hs7.extBut _ _ c1 (Heap.get?_push_of_some _ e))
  have hT8 : IsTupOf2 h8 g2.objs.size x1 x2 := hs8.extBut _ _ (Nat.ne_of_gt zlt) (hs7.extBut _ _ (Nat.ne_of_gt zlt) (Heap.get?_push_size _ rfl))
  have hl8 : h8.objs.size = g2.objs.size + 1 := by rw [hs8.1, hs7.1, Heap.size_push]
  rw [hsz] at hz8 hT8 hl8
  refine wpAny_pure ⟨_, rfl, ?_⟩
  show Q (.ref g2.objs.size) ⟨h8, gg, dd, tk2, os⟩
  rw [hsz]
  exact k x1 x2 h8 tk2 hx1 hx2 hz8 (up _ _ S.TOz hT2) (D1.frame _ _ _ hj1 fun b hb o e => up b o (fun q => S.zf1 (q ▸ hb)) e) (D2.frame _ _ _ hj2 fun b hb o e => up b o (fun q => S.zf2 (q ▸ hb)) e) hT8 hl8 fun c o cz cT c1 c2 e => up c o cz (hkk c o cz cT c1 c2 e)
theorem zs_end {Q : Fin → Shared → Prop} (hh : A.handled = none) (S : ZipSep2 z TI TO i1 i2 fp1 fp2) (D1 : Draws prog w A i1 fp1 n P1 St1) (D2 : Draws prog w A i2 fp2 n P2 St2)
    (hz : ZipS s.heap z TI TO .none) (hTI : IsTupOf2 s.heap TI (.ref i1) (.ref i2)) (hTO : IsTupOf2 s.heap TO a1 a2) (st1 : St1 n s.heap) (st2 : St2 n s.heap)
    (k : ∀ h2 e, (∀ c o, c ≠ z → c ≠ TO → c ≠ i1 → c ≠ i2 → s.heap.get? c = some o → h2.get? c = some o) → (∃ o, h2.get? e = some o ∧ o.cls = .type "StopIteration") → E (.ref e) { s with heap := h2 }) :
    wpAny (model prog w) A (Builtin.«zip.__next__» ⟨[.ref z], []⟩) Q E s := by
  obtain ⟨hp, gg, dd, tk0, os⟩ := s
  show wpAny _ _ (field (.ref z) 2 >>= _) _ _ _
  refine wpAny_bind (wpAny_field hz rfl (x := .bool true) rfl ?_)
  show wpAny _ _ (field (.ref z) 3 >>= _) _ _ _
  refine wpAny_bind (wpAny_field hz rfl (x := .ref TI) rfl (wpAny_bind (wpAny_seqItems hTI rfl ?_)))
  show wpAny _ _ (Builtin.SmallTypes.ownedTupleIsFree (.ref z) >>= _) _ _ _
  refine wpAny_bind ?_
  unfold Builtin.SmallTypes.ownedTupleIsFree
  refine wpAny_bind (wpAny_field hz rfl (x := .none) rfl (wpAny_pure ?_))
  simp only [if_true]
  refine wpAny_bind (wpAny_rule (wpAny_bind (wpAny_field hz rfl (x := .ref TO) rfl (wpAny_bind (wpAny_setField_rec hz (by simp) fun g0 hz0 hs0 => ?_)))))
  replace hz0 : ZipS g0 z TI TO .ellipsis := hz0
  replace hs0 : Heap.SameBut z hp g0 := hs0
  refine wpAny_bind ?_
  simp only [List.zipIdx_cons, List.zipIdx_nil, List.forIn_cons, List.forIn_nil]
  refine wpAny_bind (wpAny_bind (wpAny_onRaise ?_))
  show wpAny _ _ (Builtin.SmallTypes.nextOrEnd (.ref i1)) _ _ ⟨g0, gg, dd, tk0, os⟩
  refine nxe_end D1 (D1.over st1 hs0 S.zf1) fun q1 b1 => ?_
  replace b1 : Heap.ExtBut i1 g0 q1 := b1
  have hz1 : ZipS q1 z TI TO .ellipsis := b1 _ _ S.zi1 hz0
  refine wpAny_bind (wpAny_setField_rec (s := ⟨q1, gg, dd, tk0, os⟩) hz1 (by simp) fun g1 hz2 hs1 => ?_)
  replace hs1 : Heap.SameBut z q1 g1 := hs1
  refine wpAny_bind (wpAny_bind ?_)
  show wpAny _ _ (forIn [(Value.ref i2, 1)] PUnit.unit _) _ _ _
  simp only [List.forIn_cons, List.forIn_nil]
  refine wpAny_bind (wpAny_bind (nxe_end D2 (s := ⟨g1, gg, dd, tk0, os⟩) ?_ fun q2 b2 => ?_))
  · exact D2.frame _ _ _ st2 fun b hb o e => hs1.extBut b _ (fun x => S.zf2 (x ▸ hb)) (b1 b _ (fun x => S.sep1_2 (x ▸ hb)) (hs0.extBut b _ (fun x => S.zf2 (x ▸ hb)) e))
  replace b2 : Heap.ExtBut i2 g1 q2 := b2
  refine wpAny_pure (wpAny_pure (wpAny_bind (wpAny_rule (stop_out (s := ⟨q2, gg, dd, tk0, os⟩) hh fun h2 e h3 he => ?_))))
  refine k h2 e (fun c o c1 c2 c3 c4 x => h3 c o (b2 c _ c4 (hs1.extBut c _ c1 (b1 c _ c3 (hs0.extBut c _ c1 x))))) he
theorem nx_item {Q : Option Value → Shared → Prop} (S : ZipSep2 z TI TO i1 i2 fp1 fp2) (D1 : Draws prog w A.in1 i1 fp1 n1 P1 St1) (D2 : Draws prog w A.in1 i2 fp2 n2 P2 St2)
    (hz : ZipS s.heap z TI TO .none) (hTI : IsTupOf2 s.heap TI (.ref i1) (.ref i2)) (hTO : IsTupOf2 s.heap TO a1 a2) (st1 : St1 i s.heap) (st2 : St2 i s.heap) (l1 : i < n1) (l2 : i < n2)
    (k : ∀ x1 x2 h2 tk, P1 i x1 → P2 i x2 → ZipS h2 z TI TO (rawInt s.heap.objs.size) → IsTupOf2 h2 TO x1 x2 → St1 (i + 1) h2 → St2 (i + 1) h2 → IsTupOf2 h2 s.heap.objs.size x1 x2 → h2.objs.size = s.heap.objs.size + 1 →
      (∀ c o, c ≠ z → c ≠ TO → c ≠ i1 → c ≠ i2 → s.heap.get? c = some o → h2.get? c = some o) → Q (some (.ref s.heap.objs.size)) { s with heap := h2, toks := tk }) :
    wpAny (model prog w) A (pyNext (.ref z)) Q E s := by
  have hT : s.TypeIs (.ref z) "zip" := ⟨_, hz, rfl⟩
  unfold pyNext
  exact wpAny_bind (wpAny_attempt (wpAny_callSpecial?_slot (name := Str.ofString "__next__") hT F.slot_zip_next (wpAny_call_entry F.slot_zip_next hT F.entry_zip_next
    (zs_item S D1 D2 hz hTI hTO st1 st2 l1 l2 fun x1 x2 h2 tk y1 y2 b1 b2 d1 d2 b5 b6 b7 => wpAny_pure (k x1 x2 h2 tk y1 y2 b1 b2 d1 d2 b5 b6 b7)) (F.args_zip_next_1 _))))
theorem nx_end {Q : Option Value → Shared → Prop} (hh : A.handled = none) (S : ZipSep2 z TI TO i1 i2 fp1 fp2) (D1 : Draws prog w A.in1 i1 fp1 n P1 St1) (D2 : Draws prog w A.in1 i2 fp2 n P2 St2)
    (hz : ZipS s.heap z TI TO .none) (hTI : IsTupOf2 s.heap TI (.ref i1) (.ref i2)) (hTO : IsTupOf2 s.heap TO a1 a2) (st1 : St1 n s.heap) (st2 : St2 n s.heap)
    (k : ∀ h2, (∀ c o, c ≠ z → c ≠ TO → c ≠ i1 → c ≠ i2 → s.heap.get? c = some o → h2.get? c = some o) → Q none { s with heap := h2 }) : wpAny (model prog w) A (pyNext (.ref z)) Q E s := by
  have hT : s.TypeIs (.ref z) "zip" := ⟨_, hz, rfl⟩
  unfold pyNext
  refine wpAny_bind (wpAny_attempt (wpAny_callSpecial?_slot (name := Str.ofString "__next__") hT F.slot_zip_next (wpAny_call_entry F.slot_zip_next hT F.entry_zip_next
    (zs_end (show A.in1.handled = none from hh) S D1 D2 hz hTI hTO st1 st2 fun h2 e hk he => ?_) (F.args_zip_next_1 _))))
  obtain ⟨o, ho, hc⟩ := he
  exact wpAny_bind (wpAny_isInstance (T := "StopIteration") (b := true) ⟨o, ho, hc⟩ isSubtype_stop (wpAny_pure (k _ hk)))
theorem go_free {elts : List Expr} {x1} {pos : Pos} {T : Addr} {Q : Unit → Shared → Prop} (hz : ZipS s.heap z TI TO (rawInt T)) (k : ∀ h2, ZipS h2 z TI TO .none → Heap.SameBut z s.heap h2 → Q () { s with heap := h2 }) :
    wpAny (model prog w) A (letOwnedTupleGo (.Tuple elts x1 pos) (.ref z) (.ref T)) Q E s := by
  unfold letOwnedTupleGo
  refine wpAny_bind (wpAny_load hz ?_)
  show wpAny _ _ (if (["enumerate", "zip", "dict_itemiterator", "dict_reverseitemiterator", "odict_iterator", "itertools.zip_longest", "itertools.pairwise"].contains "zip" &&
      (#[rawInt T, .bool false, .bool true, .ref TI, .ref TO] : Array Value)[0]? == some (rawInt T)) = true then _ else _) Q E s
  rw [if_pos (by simp)]
  refine wpAny_bind (wpAny_rule ?_)
  show wpAny _ _ (setField (.ref z) 0 .none) Q E s
  exact wpAny_setField_rec hz (by simp) fun h2 hz2 hs2 => k h2 hz2 hs2
theorem it_self {f0 : Value} {Q : Value → Shared → Prop} (hz : ZipS s.heap z TI TO f0) (h : Q (.ref z) s) : wpAny (model prog w) A (pyIter (.ref z)) Q E s := by
  have hT : s.TypeIs (.ref z) "zip" := ⟨_, hz, rfl⟩
  refine wpAny_pyIter_slot hT F.slot_zip_iter (wpAny_call_entry F.slot_zip_iter hT F.entry_zip_iter ?_ (F.args_zip_iter_1 _))
  show wpAny _ _ (ret (.ref z)) _ _ s
  exact wpAny_pure ⟨_, rfl, "zip", _, hT, F.slot_zip_next.lookup, h⟩
end
theorem tc_zipS (a b c : Value) : checkTypeCall "zip" ⟨[a, b], [(Str.ofString "strict", c)]⟩ = pure () := by kernel_rfl
theorem nc_zipS (a b c : Value) : checkBuiltinCall "zip.__new__" ⟨[.type "zip", a, b], [(Str.ofString "strict", c)]⟩ = pure () := by kernel_rfl
theorem oi_zipS (ob a b c : Value) : argsOk "object.__init__" ⟨[ob, a, b], [(Str.ofString "strict", c)]⟩ := by unfold argsOk; kernel_rfl
abbrev zsT (h : Heap) (o1 o2 : Obj) : Heap := ((h.push o1).push o2).push { cls := .type "tuple", data := .seq #[.ref h.objs.size, .ref (h.push o1).objs.size] }
abbrev zsO (h : Heap) (o1 o2 : Obj) : Heap := (zsT h o1 o2).push { cls := .type "tuple", data := .seq #[.none, .none] }
abbrev zsZ (h : Heap) (o1 o2 : Obj) : Heap := (zsO h o1 o2).push { cls := .type "zip", data := .fields #[.none, .bool false, .bool true, .ref ((h.push o1).push o2).objs.size, .ref (zsT h o1 o2).objs.size] }
theorem zipS_new {v1 v2 : Value} {o1 o2 : Obj} {H1 H2 : Heap → Prop} (B1 : Begins v1 o1 H1) (B2 : Begins v2 o2 H2) :
    Meets (Builtin.«zip.__new__» ⟨[.type "zip", v1, v2], [(Str.ofString "strict", .bool true)]⟩) (fun _ R t => (H1 t.heap ∧ H2 t.heap) ∧ R (.ok (.ret (.ref (zsO t.heap o1 o2).objs.size))) { t with heap := zsZ t.heap o1 o2 }) :=
  .of_wp fun pr wo Ar R t h => by
    obtain ⟨hp, g, d, tk, os⟩ := t
    obtain ⟨⟨h1, h2⟩, h⟩ := h
    have hsub := sub_zip
    have e1 : (Str.ofString "strict" == ("strict" : Str)) = true := by decide +kernel
    have e2 : (Str.ofString "strict" != ("strict" : Str)) = false := by decide +kernel
    have q1 : ∀ {A' : Around} {E : Value → Shared → Prop} {Q : Value → Shared → Prop}, Q (.ref hp.objs.size) ⟨(hp.push o1), g, d, tk, os⟩ → wpAny (model pr wo) A' (pyIter v1) Q E ⟨hp, g, d, tk, os⟩ :=
      fun q => B1.iter pr wo _ _ ⟨hp, g, d, tk, os⟩ _ h1 q
    have q2 : ∀ {A' : Around} {E : Value → Shared → Prop} {Q : Value → Shared → Prop}, Q (.ref (hp.push o1).objs.size) ⟨((hp.push o1).push o2), g, d, tk, os⟩ → wpAny (model pr wo) A' (pyIter v2) Q E ⟨(hp.push o1), g, d, tk, os⟩ :=
      fun q => B2.iter pr wo _ _ ⟨(hp.push o1), g, d, tk, os⟩ _ (B2.keeps _ _ h2 fun b o' e => (Heap.get?_push_of_some _ e)) q
    wp_walk using q1, q2
    exact ⟨_, rfl, h⟩
theorem callWith_tyK {M : Model} {A : Around} {E : Value → Shared → Prop} {s : Shared} {env : PySem.Env} {pos : Pos} {T : String} {e : Expr} {rest : List Expr} {kws : List Keyword} {Q : Value → Shared → Prop}
    (h : wpAny M A (spliced (backTo pos (starEach (e :: rest) env))) (fun vs s1 => wpAny M A (evalAll ((backToKw pos (keywordEach kws env)).map (·.2)))
      (fun kvs s2 => wpAny M A (call (.type T) vs (((backToKw pos (keywordEach kws env)).filterMap (·.1)).zip kvs)) Q E s2) E s1) E s)
    (he : backTo pos (starEach (e :: rest) env) = (false, eval e env) :: backTo pos (starEach rest env))
    (hpl : (backTo pos (starEach (e :: rest) env)).any (·.1) = false)
    (hall : (backToKw pos (keywordEach kws env)).all (·.1.isSome) = true)
    (hkw : (backToKw pos (keywordEach kws env)).any (·.1.isNone) = false) :
    wpAny M A (callWith pos (.type T) [] (backTo pos (starEach (e :: rest) env)) (backToKw pos (keywordEach kws env))) Q E s := by
  unfold callWith
  rw [he] at h hpl ⊢
  refine wpAny_bind (wpAny_holding (wpAny_mono (evalArgs_kwB (Q := fun a s1 => wpAny M A (call (.type T) ([] ++ a.pos) a.kw) Q E s1) hall h) (fun a s1 h1 => wpAny_bind (wpAny_standAt ?_)) fun _ _ x => x))
  simp only [hpl, hkw, Bool.or_false]
  refine wpAny_bind (wpAny_pure ?_)
  exact wpAny_bind (wpAny_mono h1 (fun r s2 hr => wpAny_bind (wpAny_holding (wpAny_point (wpAny_pure hr)))) fun _ _ x => x)
def SqA (K : PySem.W.Frag) (H : Hp) (a : Addr) (xs : List V) : Prop := SqL K H a xs ∨ SqT K H a xs
def itIs (k : Bool) (h : Heap) (it a : Addr) (i : Nat) : Prop := if k then h.IsListIter it a i else h.IsTupleIter it a i
def sqIs (k : Bool) (h : Heap) (a : Addr) (us : Array Value) : Prop := if k then h.IsList a us else h.IsTuple a us
def SqK (k : Bool) (K : PySem.W.Frag) (H : Hp) (a : Addr) (xs : List V) : Prop := if k then SqL K H a xs else SqT K H a xs
theorem sqA_of {k : Bool} {K : PySem.W.Frag} {H : Hp} {a : Addr} {xs : List V} (h : SqK k K H a xs) : SqA K H a xs := by
  cases k
  · exact .inr h
  · exact .inl h
theorem draws_of {prog : Program} {w : World} {A : Around} (hh : A.handled = none) (k : Bool) (it l : Addr) (hne : l ≠ it) (us : Array Value) :
    Draws prog w A it [it, l] us.size (fun i v => us[i]? = some v) (fun i h => itIs k h it l i ∧ sqIs k h l us) := by
  cases k
  · exact Draws.tuple hh it l hne us
  · exact Draws.list hh it l hne us
def beO (k : Bool) (a : Addr) : Obj := if k then { cls := .type "list_iterator", data := .fields #[.ref a, .int 0 0] } else { cls := .type "tuple_iterator", data := .fields #[.ref a, .int 0 0] }
theorem begins_of (k : Bool) (a : Addr) (us : Array Value) : Begins (.ref a) (beO k a) fun h => sqIs k h a us := by
  cases k
  · exact begins_tuple a us
  · exact begins_list a us
theorem itIs_of {k : Bool} {h : Heap} {it a : Addr} (e : h.get? it = some (beO k a)) : itIs k h it a 0 := by
  cases k
  · exact ⟨_, e, rfl, rfl⟩
  · exact ⟨_, e, rfl, rfl⟩
theorem itIs_obj {k : Bool} {h : Heap} {it a : Addr} {i : Nat} (x : itIs k h it a i) : ∃ o, h.get? it = some o ∧ ∀ v, o.data ≠ .cell v := by
  cases k
  · obtain ⟨o, e, _, d⟩ := x
    exact ⟨o, e, fun v q => by rw [d] at q; cases q⟩
  · obtain ⟨o, e, _, d⟩ := x
    exact ⟨o, e, fun v q => by rw [d] at q; cases q⟩
theorem itIs_at {k : Bool} {h h2 : Heap} {it a : Addr} {i : Nat} (x : itIs k h it a i) (e : ∀ o, h.get? it = some o → h2.get? it = some o) : itIs k h2 it a i := by
  cases k
  · exact Heap.IsTupleIter.at x e
  · exact Heap.IsListIter.at x e
section
variable {X : Cx} {pins : List (Addr × Obj)} {σ : L2.St} {H : Hp} {s : Shared} {a : Addr} {xs ys : List V}
theorem inv_sq {k : Bool} (I : Inv X pins σ H s) (h : SqK k X.K H a xs) : ∃ us : List Value, Vals xs us ∧ sqIs k s.heap a us.toArray ∧ a < s.heap.objs.size := by
  cases k
  · obtain ⟨us, r, p, _⟩ := I.tuple h
    obtain ⟨o, e, _⟩ := id p
    exact ⟨us, r, p, Heap.lt_size e⟩
  · obtain ⟨us, r, p, _⟩ := I.list h
    exact ⟨us, r, p.isList, p.lt⟩
theorem inv_inj {k : Bool} (I : Inv X pins σ H s) (h : SqK k X.K H a xs) (h2 : SqA X.K H a ys) : ys = xs := by
  cases k
  · rcases h2 with h2 | h2
    · obtain ⟨us, _, p, _⟩ := I.tuple h
      obtain ⟨vs, _, q, _⟩ := I.list h2
      obtain ⟨o, e, c, _⟩ := id p
      obtain ⟨o2, n, e2, c2, _⟩ := id q
      rw [e] at e2
      cases e2
      rw [c] at c2
      simp at c2
    · exact I.tuple_inj h2 h
  · rcases h2 with h2 | h2
    · exact I.list_inj h2 h
    · obtain ⟨us, _, p, _⟩ := I.tuple h2
      obtain ⟨vs, _, q, _⟩ := I.list h
      obtain ⟨o, e, c, _⟩ := id p
      obtain ⟨o2, n, e2, c2, _⟩ := id q
      rw [e] at e2
      cases e2
      rw [c] at c2
      simp at c2
end
def ItS (k1 k2 : Bool) (K : PySem.W.Frag) (a b : Addr) : L2.It where
  go := fun i H => ∃ (xs ys : List V) (x y : V), SqK k1 K H a xs ∧ SqK k2 K H b ys ∧ xs[i]? = some x ∧ ys[i]? = some y
  yld := fun i H v H2 => ∃ T x y, v = .ref T ∧ H T = none ∧ H2 = upd H T (.tup [x, y]) ∧ (∀ xs, SqA K H a xs → xs[i]? = some x) ∧ ∀ ys, SqA K H b ys → ys[i]? = some y
  stop := fun i H => ∃ xs ys : List V, SqK k1 K H a xs ∧ SqK k2 K H b ys ∧ xs.length = i ∧ ys.length = i
theorem sep_of {n a b : Nat} (ha : a < n) (hb : b < n) : ZipSep2 (n + 4) (n + 2) (n + 3) n (n + 1) [n, a] [n + 1, b] :=
  zip_sep2 (N := n) (fp1 := [a]) (fp2 := [b]) (fun c h => by rw [List.mem_singleton] at h; rw [h]; exact ha) (fun c h => by rw [List.mem_singleton] at h; rw [h]; exact hb)
section
variable {prog : Program} {w : World} {A : Around} {E : Value → Shared → Prop} {s : Shared}
theorem call_zipS {v1 v2 : Value} {o1 o2 : Obj} {H1 H2 : Heap → Prop} {Q : Value → Shared → Prop} (B1 : Begins v1 o1 H1) (B2 : Begins v2 o2 H2) (h1 : H1 s.heap) (h2 : H2 s.heap)
    (k : ∀ h3, ZipS h3 (s.heap.objs.size + 4) (s.heap.objs.size + 2) (s.heap.objs.size + 3) .none → IsTupOf2 h3 (s.heap.objs.size + 2) (.ref s.heap.objs.size) (.ref (s.heap.objs.size + 1)) →
      IsTupOf2 h3 (s.heap.objs.size + 3) .none .none → h3.get? s.heap.objs.size = some o1 → h3.get? (s.heap.objs.size + 1) = some o2 →
      (∀ c o, s.heap.get? c = some o → h3.get? c = some o) → Q (.ref (s.heap.objs.size + 4)) { s with heap := h3 }) :
    wpAny (model prog w) A (call (.type "zip") [v1, v2] [(Str.ofString "strict", .bool true)]) Q E s := by
  refine callType_newKw F.called_zip (by decide) (tc_zipS _ _ _) (nc_zipS _ _ _) (fun ob => oi_zipS ob _ _ _) F.entry_zip_new (zipS_new B1 B2) ⟨⟨h1, h2⟩, ?_⟩
  have p1 : (s.heap.push o1).objs.size = s.heap.objs.size + 1 := by rw [Heap.size_push]
  have p2 : ((s.heap.push o1).push o2).objs.size = s.heap.objs.size + 2 := by rw [Heap.size_push, p1]
  have p3 : (zsT s.heap o1 o2).objs.size = s.heap.objs.size + 3 := by rw [Heap.size_push, p2]
  have p4 : (zsO s.heap o1 o2).objs.size = s.heap.objs.size + 4 := by rw [Heap.size_push, p3]
  have gZ : (zsZ s.heap o1 o2).get? (zsO s.heap o1 o2).objs.size = some { cls := .type "zip", data := .fields #[.none, .bool false, .bool true, .ref ((s.heap.push o1).push o2).objs.size, .ref (zsT s.heap o1 o2).objs.size] } := Heap.get?_push_size _ rfl
  have gO : (zsZ s.heap o1 o2).get? (zsT s.heap o1 o2).objs.size = some { cls := .type "tuple", data := .seq #[.none, .none] } := Heap.get?_push_of_some _ (Heap.get?_push_size _ rfl)
  have gT : (zsZ s.heap o1 o2).get? ((s.heap.push o1).push o2).objs.size = some { cls := .type "tuple", data := .seq #[.ref s.heap.objs.size, .ref (s.heap.push o1).objs.size] } := Heap.get?_push_of_some _ (Heap.get?_push_of_some _ (Heap.get?_push_size _ rfl))
  have g1 : (zsZ s.heap o1 o2).get? s.heap.objs.size = some o1 := Heap.get?_push_of_some _ (Heap.get?_push_of_some _ (Heap.get?_push_of_some _ (Heap.get?_push_of_some _ (Heap.get?_push_size _ B1.free))))
  have g2 : (zsZ s.heap o1 o2).get? (s.heap.push o1).objs.size = some o2 := Heap.get?_push_of_some _ (Heap.get?_push_of_some _ (Heap.get?_push_of_some _ (Heap.get?_push_size _ B2.free)))
  rw [p4, p3, p2] at gZ
  rw [p3] at gO
  rw [p2, p1] at gT
  rw [p1] at g2
  show _ ∧ _
  rw [p4]
  exact ⟨⟨_, gZ, rfl⟩, k _ gZ gT gO g1 g2 fun c o e => Heap.get?_push_of_some _ (Heap.get?_push_of_some _ (Heap.get?_push_of_some _ (Heap.get?_push_of_some _ (Heap.get?_push_of_some _ e))))⟩
end
theorem turn_zipS {P : Program} {w : World} {K : PySem.W.Frag} {elts : List Expr} {kk : Nat} {tpos : Pos} {k1 k2 : Bool} {a b z TI TO i1 i2 : Addr} (S : ZipSep2 z TI TO i1 i2 [i1, a] [i2, b]) :
    Turn P w K (.Tuple elts kk tpos) (ItS k1 k2 K a b) [z, TI, TO, i1, i2] z (fun i h => ZipS h z TI TO .none ∧ IsTupOf2 h TI (.ref i1) (.ref i2) ∧ (∃ x y, IsTupOf2 h TO x y) ∧ itIs k1 h i1 a i ∧ itIs k2 h i2 b i) where
  mem := by simp
  obj := fun i h st c hc => by
    obtain ⟨hz, hTI, ⟨x, y, hTO⟩, h1, h2⟩ := st
    have e2 : c = z ∨ c = TI ∨ c = TO ∨ c = i1 ∨ c = i2 := by simpa using hc
    rcases e2 with q | q | q | q | q
    · rw [q]; exact ⟨_, hz, fun v q => nomatch q⟩
    · rw [q]; exact ⟨_, hTI, fun v q => nomatch q⟩
    · rw [q]; exact ⟨_, hTO, fun v q => nomatch q⟩
    · rw [q]; exact itIs_obj h1
    · rw [q]; exact itIs_obj h2
  keep := fun i h h2 st k => by
    obtain ⟨hz, hTI, ⟨x, y, hTO⟩, q1, q2⟩ := st
    exact ⟨k z (by simp) _ hz, k TI (by simp) _ hTI, ⟨x, y, k TO (by simp) _ hTO⟩, itIs_at q1 fun o q => k i1 (by simp) o q, itIs_at q2 fun o q => k i2 (by simp) o q⟩
  item := by
    intro X hP hw hK hc i pins s σ H E I hf st hg
    subst hP hw hK
    obtain ⟨hz, hTI, ⟨x0, y0, hTO⟩, h1, h2⟩ := st
    obtain ⟨xs, ys, x, y, hqx, hqy, hx, hy⟩ := hg
    obtain ⟨us, rv, p, al⟩ := inv_sq I hqx
    obtain ⟨us2, rv2, p2, bl⟩ := inv_sq I hqy
    obtain ⟨u, hu, ru⟩ := rv.get hx
    obtain ⟨u2, hu2, ru2⟩ := rv2.get hy
    have hzl : z < s.heap.objs.size := Heap.lt_size hz
    have ne1 : a ≠ i1 := fun e => by
      have := (hf i1 (by simp)).1
      have q := sqA_of hqx
      subst e
      obtain ⟨o, e3, _⟩ := itIs_obj h1
      obtain ⟨us3, _, p3, _⟩ := inv_sq I hqx
      cases k1
      · obtain ⟨o4, e4, c4, _⟩ := id p3
        obtain ⟨o5, e5, c5, _⟩ := id h1
        rw [e4] at e5; cases e5; rw [c4] at c5; simp at c5
      · obtain ⟨o4, e4, c4, _⟩ := id p3
        obtain ⟨o5, e5, c5, _⟩ := id h1
        rw [e4] at e5; cases e5; rw [c4] at c5; simp at c5
    have ne2 : b ≠ i2 := fun e => by
      subst e
      obtain ⟨us3, _, p3, _⟩ := inv_sq I hqy
      cases k2
      · obtain ⟨o4, e4, c4, _⟩ := id p3
        obtain ⟨o5, e5, c5, _⟩ := id h2
        rw [e4] at e5; cases e5; rw [c4] at c5; simp at c5
      · obtain ⟨o4, e4, c4, _⟩ := id p3
        obtain ⟨o5, e5, c5, _⟩ := id h2
        rw [e4] at e5; cases e5; rw [c4] at c5; simp at c5
    have hh : X.A.in1.handled = none := I.ok.hd hc
    refine nx_item S (draws_of hh k1 i1 a ne1 us.toArray) (draws_of hh k2 i2 b ne2 us2.toArray) hz hTI hTO ⟨h1, p⟩ ⟨h2, p2⟩ (by simpa using (List.getElem?_eq_some_iff.mp hu).1) (by simpa using (List.getElem?_eq_some_iff.mp hu2).1) fun w1 w2 h3 tk e1 e2 z3 TO3 s1 s2 hT hsz hk => ?_
    have ew1 : w1 = u := by
      have : us[i]? = some w1 := by simpa using e1
      rw [hu] at this
      exact (Option.some.inj this).symm
    have ew2 : w2 = u2 := by
      have : us2[i]? = some w2 := by simpa using e2
      rw [hu2] at this
      exact (Option.some.inj this).symm
    subst ew1 ew2
    refine ⟨_, rfl, go_free (s := { s with heap := h3, toks := tk }) z3 fun h4 z4 sb => ?_⟩
    have hT2 : h4.get? s.heap.objs.size = some { cls := .type "tuple", data := .seq #[w1, w2] } := (sb.2 _ (Nat.ne_of_gt hzl)).trans hT
    have new : ObjOk X.prog X.w (upd H s.heap.objs.size (.tup [x, y])) h4 s.heap.objs.size (.tup [x, y]) :=
      ⟨by show 2 ≤ sizeLine; decide, [w1, w2], .cons ru (.cons ru2 .nil), ⟨_, hT2, rfl, _, rfl⟩⟩
    have I1 : Inv X pins σ (upd H s.heap.objs.size (.tup [x, y])) { s with heap := h4, toks := tk } :=
      I.turnedNew (ch := [z, TI, TO, i1, i2]) (fun c o hb q => (sb.2 c (fun q' => hb (by simp [q']))).trans (hk c o (fun q' => hb (by simp [q'])) (fun q' => hb (by simp [q'])) (fun q' => hb (by simp [q'])) (fun q' => hb (by simp [q'])) q)) hf (Nat.le_refl _) new
    refine ⟨.ref s.heap.objs.size, _, I1, rfl, ⟨_, x, y, rfl, I.hok.fresh (Nat.le_refl _), rfl, fun l hl => by rw [inv_inj I hqx hl]; exact hx, fun l hl => by rw [inv_inj I hqy hl]; exact hy⟩, ⟨z4, ?_, ⟨w1, w2, ?_⟩, ?_, ?_⟩, fun c hcm => ?_⟩
    · exact (sb.2 _ S.TIz).trans (hk _ _ S.TIz S.TITO S.TIi1 S.TIi2 hTI)
    · exact (sb.2 _ S.TOz).trans TO3
    · exact itIs_at s1.1 fun o q => (sb.2 _ S.zi1.symm).trans q
    · exact itIs_at s2.1 fun o q => (sb.2 _ S.zi2.symm).trans q
    · have hlt : c < s.heap.objs.size := by
        have e2 : c = z ∨ c = TI ∨ c = TO ∨ c = i1 ∨ c = i2 := by simpa using hcm
        rcases e2 with q | q | q | q | q
        · rw [q]; exact hzl
        · rw [q]; exact Heap.lt_size hTI
        · rw [q]; exact Heap.lt_size hTO
        · rw [q]; obtain ⟨_, e1, _⟩ := itIs_obj h1; exact Heap.lt_size e1
        · rw [q]; obtain ⟨_, e1, _⟩ := itIs_obj h2; exact Heap.lt_size e1
      rw [upd_ne (Nat.ne_of_lt hlt)]
      exact (hf c hcm).1
  done := by
    intro X hP hw hK hc i pins s σ H E I hf st hg
    subst hP hw hK
    obtain ⟨hz, hTI, ⟨x0, y0, hTO⟩, h1, h2⟩ := st
    obtain ⟨xs, ys, hqx, hqy, e1, e2⟩ := hg
    obtain ⟨us, rv, p, al⟩ := inv_sq I hqx
    obtain ⟨us2, rv2, p2, bl⟩ := inv_sq I hqy
    have l1 := rv.length
    have l2 := rv2.length
    have ne1 : a ≠ i1 := fun e => by
      subst e
      cases k1
      · obtain ⟨o4, e4, c4, _⟩ := id p
        obtain ⟨o5, e5, c5, _⟩ := id h1
        rw [e4] at e5; cases e5; rw [c4] at c5; simp at c5
      · obtain ⟨o4, e4, c4, _⟩ := id p
        obtain ⟨o5, e5, c5, _⟩ := id h1
        rw [e4] at e5; cases e5; rw [c4] at c5; simp at c5
    have ne2 : b ≠ i2 := fun e => by
      subst e
      cases k2
      · obtain ⟨o4, e4, c4, _⟩ := id p2
        obtain ⟨o5, e5, c5, _⟩ := id h2
        rw [e4] at e5; cases e5; rw [c4] at c5; simp at c5
      · obtain ⟨o4, e4, c4, _⟩ := id p2
        obtain ⟨o5, e5, c5, _⟩ := id h2
        rw [e4] at e5; cases e5; rw [c4] at c5; simp at c5
    have hh : X.A.handled = none := I.ok.hd hc
    have z1 : us.toArray.size = i := by rw [List.size_toArray, ← l1, e1]
    have z2 : us2.toArray.size = i := by rw [List.size_toArray, ← l2, e2]
    have d1 := draws_of (prog := X.prog) (w := X.w) (A := X.A.in1) hh k1 i1 a ne1 us.toArray
    have d2 := draws_of (prog := X.prog) (w := X.w) (A := X.A.in1) hh k2 i2 b ne2 us2.toArray
    rw [z1] at d1
    rw [z2] at d2
    exact nx_end hh S d1 d2 hz hTI hTO ⟨h1, p⟩ ⟨h2, p2⟩ fun h3 hk => ⟨rfl, I.turnedL (t' := s.toks) (ch := [z, TI, TO, i1, i2]) (fun c o hb q =>
      hk c o (fun q' => hb (by simp [q'])) (fun q' => hb (by simp [q'])) (fun q' => hb (by simp [q'])) (fun q' => hb (by simp [q'])) q) hf⟩
  self := fun A i s Q E st h => it_self st.1 h
def iZipS (K : PySem.W.Frag) (ta : TA) : TI := fun σ H R => ta σ H fun vs H1 => ∃ k1 k2 a b xs ys, vs = [.ref a, .ref b] ∧ SqK k1 K H1 a xs ∧ SqK k2 K H1 b ys ∧ R (ItS k1 k2 K a b) H1
theorem pi_zipS {X : Cx} {e e2 : Expr} {ta : TA} {j kp} {p pos tpos cp : Pos} {elts : List Expr} {kk : Nat} (hg : Gl X "zip") (hm : X.mg "zip" = none) (ha : PA X [e, e2] ta)
    (hs : starEach [e, e2] X.env = (false, eval e X.env) :: starEach [e2] X.env) (hpl : (backTo pos (starEach [e, e2] X.env)).any (·.1) = false) :
    PI X (.Tuple elts kk tpos) (.Call (.Name "zip" p) [e, e2] [⟨some (Str.ofString "strict"), .Constant (.bool true) j cp, kp⟩] pos) (iZipS X.K ta) := by
  refine ⟨fun pins s σ H R I h => ?_⟩
  refine wpAny_Call_Name_kw (ld_blt I hg hm PyProof.Rows.boot_zip ?_)
  refine callWith_tyK (thn (ha.run pos pins s σ H _ I h) fun us s1 ⟨vs, H1, I1, r1, q1⟩ => ?_) (by rw [hs]; rfl) hpl rfl rfl
  refine thn ((pk_cons (pe_bl (X := X)) pk_nil).run pos pins s1 σ H1 (fun zs H2 => zs = [.bl true] ∧ H2 = H1) I1 ⟨rfl, rfl⟩) fun ws s2 ⟨zs, H2, I2, r2, q2⟩ => ?_
  obtain ⟨rfl, rfl⟩ := q2
  obtain ⟨k1, k2, a, b, xs, ys, ex, hqx, hqy, q⟩ := q1
  subst ex
  cases r1 with
  | cons r rr =>
    cases rr with
    | cons r3 rr =>
      cases rr
      cases r
      cases r3
      cases r2 with
      | cons r4 rr =>
        cases rr
        cases r4
        obtain ⟨us1, rv1, p1, la⟩ := inv_sq I2 hqx
        obtain ⟨us2, rv2, p2, lb⟩ := inv_sq I2 hqy
        refine call_zipS (begins_of k1 a us1.toArray) (begins_of k2 b us2.toArray) p1 p2 fun h3 hz hTI hTO g1 g2 hk => it_self hz ?_
        have I3 : Inv X pins σ H2 { s2 with heap := h3 } := I2.kept (t' := s2.toks) hk
        refine ⟨s2.heap.objs.size + 4, [s2.heap.objs.size + 4, s2.heap.objs.size + 2, s2.heap.objs.size + 3, s2.heap.objs.size, s2.heap.objs.size + 1], _, _, H2, rfl, I3, turn_zipS (k1 := k1) (k2 := k2) (sep_of la lb), ⟨hz, hTI, ⟨_, _, hTO⟩, itIs_of g1, itIs_of g2⟩, fun c hcm => ?_, q⟩
        have e3 : c = s2.heap.objs.size + 4 ∨ c = s2.heap.objs.size + 2 ∨ c = s2.heap.objs.size + 3 ∨ c = s2.heap.objs.size ∨ c = s2.heap.objs.size + 1 := by simpa using hcm
        have hle : s2.heap.objs.size ≤ c := by
          rcases e3 with z | z | z | z | z
          · rw [z]; exact Nat.le_add_right _ _
          · rw [z]; exact Nat.le_add_right _ _
          · rw [z]; exact Nat.le_add_right _ _
          · rw [z]; exact Nat.le_refl _
          · rw [z]; exact Nat.le_add_right _ _
        exact I2.fpOk hle (I2.hok.fresh hle)
end Ev
set_option Elab.async false
set_option linter.all false
namespace Ev
open PySem PySem.Spec L2

theorem walk_zipT {K : PySem.W.Frag} {a b : Addr} {xs ys : List V} {n : Nat} (hn : n = min xs.length ys.length) : Walk (RZ.ItzT K a b) n (fun H => SqT K H a xs ∧ SqT K H b ys) (YPair (fun i => xs[i]?) fun i => ys[i]?) where
  goes := fun i H hi q => by
    have h1 : i < xs.length := by omega
    have h2 : i < ys.length := by omega
    exact ⟨xs, ys, xs[i], ys[i], q.1, q.2, by simp [h1], by simp [h2]⟩
  stops := fun H q => ⟨xs, ys, q.1, q.2, by omega⟩
  yields := fun i H v H' hi q y => by
    obtain ⟨T, x, y, e, n, e2, f1, f2⟩ := y
    exact ⟨T, x, y, e, n, e2, f1 xs q.1, f2 ys q.2⟩

theorem walk_zipS {k1 k2 : Bool} {K : PySem.W.Frag} {a b : Addr} {xs ys : List V} {n : Nat} (h1 : xs.length = n) (h2 : ys.length = n) : Walk (ItS k1 k2 K a b) n (fun H => SqK k1 K H a xs ∧ SqK k2 K H b ys) (YPair (fun i => xs[i]?) fun i => ys[i]?) where
  goes := fun i H hi q => ⟨xs, ys, xs[i], ys[i], q.1, q.2, by simp [h1, hi], by simp [h2, hi]⟩
  stops := fun H q => ⟨xs, ys, q.1, q.2, h1, h2⟩
  yields := fun i H v H' hi q y => by
    obtain ⟨T, x, y, e, n, e2, f1, f2⟩ := y
    exact ⟨T, x, y, e, n, e2, f1 xs (sqA_of q.1), f2 ys (sqA_of q.2)⟩
theorem walk_enumT {K : PySem.W.Frag} {a : Addr} {xs : List V} : Walk (IteT K a) xs.length (fun H => SqT K H a xs) (fun i H v H2 => ∃ T x, v = .ref T ∧ H T = none ∧ H2 = upd H T (.tup [.int (i : Nat), x]) ∧ xs[i]? = some x) where
  goes := fun i H hi q => ⟨xs, xs[i], q, by simp [hi]⟩
  stops := fun H q => ⟨xs, q, Nat.le_refl _⟩
  yields := fun i H v H2 hi q y => by
    obtain ⟨T, x, e, n, e2, f⟩ := y
    exact ⟨T, x, e, n, e2, f xs q⟩
section
variable {K : PySem.W.Frag} {w w' w1 w2 : Wd} {H H' H1 H2 : Hp} {m : Store}
theorem enum_walkT {st : Bool} (ok : WOk w H) {a : Addr} {vs : List V} {ds : List D} (h : SqT K H a vs) (q : Dens K w H vs ds) : WalkV K (Srel st) w H (IteT K a) (enumL 0 ds) := by
  refine ⟨fun H => SqT K H a vs, _, by rw [enumL_len, ← q.length]; exact walk_enumT, fun w2 H2 s => (Srel.keep ok s).seqT h, fun i H2 v H3 hi y => ?_⟩
  obtain ⟨T, x, rfl, hT, rfl, e1⟩ := y
  obtain ⟨d, d1, d2⟩ := q.atV e1
  refine ⟨grow_upd hT, fun w2 s ok2 => ⟨.d (.tuple [.int (i : Nat), d]), by rw [enumL_at, d1, Nat.zero_add]; rfl, ?_⟩⟩
  exact pair_val ok2 hT (.int _) (d2.keep (Srel.keep ok s))
theorem zip_walkT {st : Bool} (ok : WOk w H) {a b : Addr} {vs us : List V} {ds es : List D} (h1 : SqT K H a vs) (h2 : SqT K H b us) (q : Dens K w H vs ds) (q' : Dens K w H us es) :
    WalkV K (Srel st) w H (RZ.ItzT K a b) (zipL ds es) := by
  refine ⟨fun H => SqT K H a vs ∧ SqT K H b us, _, by rw [zipL_len, ← q.length, ← q'.length]; exact walk_zipT rfl, fun w2 H2 s => ⟨(Srel.keep ok s).seqT h1, (Srel.keep ok s).seqT h2⟩, fun i H2 v H3 hi y => ?_⟩
  obtain ⟨T, x, y, rfl, hT, rfl, e1, e2⟩ := y
  obtain ⟨d, d1, d2⟩ := q.atV e1
  obtain ⟨e, d3, d4⟩ := q'.atV e2
  refine ⟨grow_upd hT, fun w2 s ok2 => ⟨.d (.tuple [d, e]), by rw [zipL_at, d1, d3], ?_⟩⟩
  exact pair_val ok2 hT (d2.keep (Srel.keep ok s)) (d4.keep (Srel.keep ok s))
theorem zip_walkS {st k1 k2 : Bool} (ok : WOk w H) {a b : Addr} {vs us : List V} {ds es : List D} (h1 : ∀ w2 H2, Srel st w H w2 H2 → SqK k1 K H2 a vs) (h2 : ∀ w2 H2, Srel st w H w2 H2 → SqK k2 K H2 b us) (q : Dens K w H vs ds) (q' : Dens K w H us es) (hl : ds.length = es.length) :
    WalkV K (Srel st) w H (ItS k1 k2 K a b) (zipL ds es) := by
  have l1 := q.length
  have l2 := q'.length
  refine ⟨fun H => SqK k1 K H a vs ∧ SqK k2 K H b us, _, by rw [zipL_len, ← hl, Nat.min_self]; exact walk_zipS l1 (by rw [l2, hl]), fun w2 H2 s => ⟨h1 w2 H2 s, h2 w2 H2 s⟩, fun i H2 v H3 hi y => ?_⟩
  obtain ⟨T, x, y, rfl, hT, rfl, e1, e2⟩ := y
  obtain ⟨d, d1, d2⟩ := q.atV e1
  obtain ⟨e, d3, d4⟩ := q'.atV e2
  refine ⟨grow_upd hT, fun w2 s ok2 => ⟨.d (.tuple [d, e]), by rw [zipL_at, d1, d3], ?_⟩⟩
  exact pair_val ok2 hT (d2.keep (Srel.keep ok s)) (d4.keep (Srel.keep ok s))
def Stays (st : Bool) (w : Wd) (H : Hp) (a : Addr) (vs : List V) : Prop := ∀ w2 H2, Srel st w H w2 H2 → H2 a = some (.lst vs)
theorem made_stay {st : Bool} (ok : WOk w H) (s1 : Step w H w1 H1) (ok1 : WOk w1 H1) (st1 : StR K w1 H1 m) {x : V} {t : Tmp} (q : RT K H w1 H1 x t) {d : D} (e : t.dataS? st = some d) :
    ∃ w2, Step w H w2 H1 ∧ WOk w2 H1 ∧ StR K w2 H1 m ∧ (∀ v y, Den K w1 H1 v y → Den K w2 H1 v y) ∧ (∀ a, w1.F a → w2.F a) ∧ (∀ a, a ∉ w1.io → a ∉ w2.io) ∧
      match d with
      | .list ds => ∃ a vs, x = .ref a ∧ H1 a = some (.lst vs) ∧ Stays st w2 H1 a vs ∧ Dens K w2 H1 vs ds ∧ (st = true → w2.F a) ∧ a ∉ w2.io
      | .tuple ds => ∃ a vs, x = .ref a ∧ SqT K H1 a vs ∧ Dens K w2 H1 vs ds
      | _ => True := by
  have hd : t.data? = some d := by
    unfold Tmp.dataS? at e
    split at e
    · cases e
    · exact e
  cases d with
  | list ds =>
    cases t with
    | v y =>
      cases y with
      | d y =>
        cases hd
        refine ⟨w1, s1, ok1, st1, fun _ _ z => z, fun _ z => z, fun _ z => z, ?_⟩
        cases q.1 with
        | @lst a xs _ hf hh r =>
          refine ⟨a, xs, rfl, hh, fun w2 H2 s => ?_, r, fun _ => hf, ok1.ff a hf⟩
          exact (Srel.keep ok1 s).fx a _ hf hh
      | loc n => cases hd
      | script ns => cases hd
      | kt ns => cases hd
    | new y =>
      cases hd
      obtain ⟨⟨a, rfl, ⟨xs, e1, r⟩, n1, n2⟩, fr⟩ := q
      refine ⟨w1.add a, s1.add (fr a rfl), add_ok ok1 (d := .list ds) ⟨xs, e1, r⟩ n2, st1.add, fun _ _ z => z.add, fun _ z => .inl z, fun _ z => z, a, xs, rfl, e1, fun w2 H2 s => ?_, r.add, fun _ => .inr rfl, n2⟩
      exact (Srel.keep (add_ok ok1 (d := .list ds) ⟨xs, e1, r⟩ n2) s).fx a _ (.inr rfl) e1
    | bor y =>
      cases hd
      obtain ⟨⟨a, rfl, ⟨xs, e1, r⟩, n2⟩, fr⟩ := q
      cases st with
      | true => cases e
      | false =>
        refine ⟨w1, s1, ok1, st1, fun _ _ z => z, fun _ z => z, fun _ z => z, a, xs, rfl, e1, fun w2 H2 s => ?_, r, (fun z => by cases z), n2⟩
        exact Step.ext s a _ e1 fun z => absurd z n2
  | tuple ds =>
    obtain ⟨a, vs, rfl, h1, h2⟩ := q.1.tup hd
    exact ⟨w1, s1, ok1, st1, fun _ _ z => z, fun _ z => z, fun _ z => z, a, vs, rfl, h1, h2⟩
  | _ => exact ⟨w1, s1, ok1, st1, fun _ _ z => z, fun _ z => z, fun _ z => z, trivial⟩
end

def iSeqA (K : PySem.W.Frag) (te : TE) : TI := fun σ H R => te σ H fun x H1 => ∃ a, x = .ref a ∧ (((∃ xs, SqL K H1 a xs) ∧ R (Itl K a) H1) ∨ ((∃ xs, SqT K H1 a xs) ∧ R (Itt K a) H1))
def iSeqS (K : PySem.W.Frag) (te : TE) : TI := fun σ H R => te σ H fun x H1 => (∃ a, x = .ref a ∧ (((∃ xs, SqL K H1 a xs) ∧ R (Itl K a) H1) ∨ ((∃ xs, SqT K H1 a xs) ∧ R (Itt K a) H1))) ∨ ∃ z, x = .str z ∧ R (Its z) H1
theorem walkS (z : Str) {K : PySem.W.Frag} {Sr : Wd → Hp → Wd → Hp → Prop} {w : Wd} {H : Hp} : WalkV K Sr w H (Its z) ((signs z).map .d) := by
  have hl : ((signs z).map Val.d).length = z.cps.size := by simp [signs]
  refine ⟨fun _ => True, _, by rw [hl]; exact walk_str, fun _ _ _ => trivial, fun i H2 v H3 hi' y => ?_⟩
  obtain ⟨rfl, c, e, rfl⟩ := y
  refine ⟨fun _ _ h => h, fun w2 _ _ => ⟨.d (.str ⟨#[c]⟩), ?_, (show Den K w2 H3 _ (.str _) from Den.str _)⟩⟩
  simp only [signs, List.map_map, List.getElem?_map, Array.getElem?_toList, e]
  rfl
theorem pi_seqS {X : Cx} {tg e : Expr} {te : TE} (he : PE X e te) : PI X tg e (iSeqS X.K te) := by
  refine ⟨fun pins s σ H R I h => ?_⟩
  refine thn (he.run pins s σ H _ I h) fun v s1 ⟨x, H1, I1, r1, q⟩ => ?_
  rcases q with ⟨a, ex, q1⟩ | ⟨z, ex, q⟩
  · subst ex
    cases r1
    have fr : ∀ b ∈ [s1.heap.objs.size], FpOk X pins H1 b := fun b hb => by
      obtain rfl : b = s1.heap.objs.size := by simpa using hb
      exact I1.fpOk (Nat.le_refl _) I1.fresh
    rcases q1 with ⟨⟨xs, hq⟩, q⟩ | ⟨⟨xs, hq⟩, q⟩
    · obtain ⟨its, rv, p, hz⟩ := I1.list hq
      refine wpAny_pyIter_list p.isList ⟨s1.heap.objs.size, [s1.heap.objs.size], _, _, H1, rfl, ?_, turn_list a _, ⟨_, Heap.get?_push_size _ rfl, rfl, rfl⟩, fr, q⟩
      exact I1.kept (t' := s1.toks) fun b o e => Heap.get?_push_of_some _ e
    · obtain ⟨its, rv, p, hz⟩ := I1.tuple hq
      refine wpAny_pyIter_tuple (show s1.heap.IsTuple a its.toArray from p) ⟨s1.heap.objs.size, [s1.heap.objs.size], _, _, H1, rfl, ?_, turn_tuple a _, ⟨_, Heap.get?_push_size _ rfl, rfl, rfl⟩, fr, q⟩
      exact I1.kept (t' := s1.toks) fun b o e => Heap.get?_push_of_some _ e
  · subst ex
    obtain ⟨t, rfl⟩ := r1
    cases ha : z.cps.all (· < 128)
    · exact wpAny_pyIter_wide ha (pi_one (tk := s1.toks) I1 _ (turn_str _ z t "str_iterator" (.inr rfl)) ⟨_, Heap.get?_push_size _ rfl, rfl, rfl⟩ q)
    · exact wpAny_pyIter_ascii ha (pi_one (tk := s1.toks) I1 _ (turn_str _ z t "str_ascii_iterator" (.inl rfl)) ⟨_, Heap.get?_push_size _ rfl, rfl, rfl⟩ q)

section
variable {X : Cx} {E : XK} {c : Calls} {a b z e tg : Expr} {pos : Pos} {fa fb fz : FE Tmp} {st : Bool}
abbrev TXi (X : Cx) (E : XK) (st : Bool) (f : FE (List Val)) : TI := TR X.K X.mg E (RI X.K st) f
theorem small62_ok {i : Int} (h : small62 i = true) : -(2 ^ 62) ≤ i ∧ i < 2 ^ 62 := by
  unfold small62 at h
  rw [Bool.and_eq_true] at h
  exact ⟨of_decide_eq_true h.1, of_decide_eq_true h.2⟩
theorem i_rng1 {p : Pos} (hg : Gl X "range") (hm : X.mg "range" = none) (hst : noStar a = true) (ha : PE X a (TX X E fa)) :
    PI X tg (.Call (.Name "range" p) [a] [] pos) (TXi X E st fun r m => (fa r m).bind fun t m => (give (getInt t) m).bind fun i m => if small62 i then .ok (rngL 0 i) m else .bad) :=
  (pi_range1 hg hm (pa_cons ha pa_nil (star_of hst)) (star_of hst)).imp fun σ H Q h => by
    obtain ⟨w, r, m, ok, stt, en, p⟩ := h
    refine ⟨w, r, m, ok, stt, en, Post.bind mRI ok p fun x m1 v w1 H1 s1 ok1 st1 (q1 : RT X.K H w1 H1 v x) p1 => ?_⟩
    cases e1 : getInt x with
    | none => rw [e1] at p1; exact p1.elim
    | some i =>
      rw [e1] at p1
      cases q1.1.int (getInt_data e1)
      dsimp only [give, Out.bind] at p1
      split at p1
      · rename_i hs
        obtain ⟨b1, b2⟩ := small62_ok hs
        refine ⟨i, rfl, b1, b2, p1.here ok1 st1 ⟨?_, ok1⟩⟩
        have := rng_walk (K := X.K) (Sr := Srel st) (w := w1) (H := H1) 0 i
        rwa [Int.sub_zero] at this
      · exact p1.elim
theorem i_rng2 {p : Pos} (hg : Gl X "range") (hm : X.mg "range" = none) (hst : noStar a = true) (hst2 : noStar b = true) (ha : PE X a (TX X E fa)) (hb : PE X b (TX X E fb)) :
    PI X tg (.Call (.Name "range" p) [a, b] [] pos) (TXi X E st fun r m => (fa r m).bind fun t m => (fb r m).bind fun u m => (give (getInt t) m).bind fun i m => (give (getInt u) m).bind fun j m =>
      if small62 i && small62 j then .ok (rngL i j) m else .bad) :=
  (pi_range2 hg hm (pa_cons ha (pa_cons hb pa_nil (star_of hst2)) (star_of hst)) (by rw [star_of hst, star_of hst2]; rfl) (star_of hst2)).imp fun σ H Q h => by
    obtain ⟨w, r, m, ok, st, en, p⟩ := h
    refine ⟨w, r, m, ok, st, en, Post.bind mRI ok p fun x m1 v w1 H1 s1 ok1 st1 (q1 : RT X.K H w1 H1 v x) p1 => ?_⟩
    refine ⟨w1, r, m1, ok1, st1, en.step ok s1, Post.bind mRI ok1 p1 fun y m2 u w2 H2 s2 ok2 st2 (q2 : RT X.K H1 w2 H2 u y) p2 => ?_⟩
    cases e1 : getInt x with
    | none => rw [e1] at p2; exact p2.elim
    | some i =>
      cases e2 : getInt y with
      | none => rw [e1, e2] at p2; exact p2.elim
      | some j =>
        rw [e1, e2] at p2
        cases q1.1.int (getInt_data e1)
        cases q2.1.int (getInt_data e2)
        dsimp only [give, Out.bind] at p2
        split at p2
        · rename_i hs
          rw [Bool.and_eq_true] at hs
          obtain ⟨b1, b2⟩ := small62_ok hs.1
          obtain ⟨b3, b4⟩ := small62_ok hs.2
          exact ⟨i, j, rfl, ⟨b1, b2, b3, b4⟩, p2.here ok2 st2 ⟨rng_walk i j, ok2⟩⟩
        · exact p2.elim
theorem i_seq (ha : PE X a (TX X E fa)) : PI X tg a (TXi X E st fun r m => (fa r m).bind fun t m => (give (t.itemsS? st) m).bind fun xs m => .ok (xs.map .d) m) :=
  (pi_seqS ha).imp fun σ H Q h => by
    obtain ⟨w, r, m, ok, stt, en, p⟩ := h
    refine ⟨w, r, m, ok, stt, en, ?_⟩
    dsimp only at p
    cases e0 : fa r m with
    | exc cc fs m1 => rw [e0] at p; exact p
    | bad => rw [e0] at p; exact p
    | ok t m1 =>
      rw [e0] at p
      intro x w1 H1 s1 ok1 st1 q1
      cases e1 : t.itemsS? st with
      | none => dsimp only [Out.bind] at p; rw [e1] at p; exact p.elim
      | some ds =>
        dsimp only [Out.bind] at p
        rw [e1] at p
        unfold Tmp.itemsS? at e1
        split at e1
        · rename_i xs e2
          cases e1
          obtain ⟨w2, s2, ok2, st2, _, _, _, a, vs, rfl, h1, h2, h3, h4, h5⟩ := made_stay ok s1 ok1 st1 q1 e2
          exact .inl ⟨a, rfl, .inl ⟨⟨vs, SqL.of h1⟩, p _ w2 H1 s2 ok2 st2 ⟨list_walk ok2 h2 h3, ok2⟩⟩⟩
        · rename_i xs e2
          cases e1
          obtain ⟨w2, s2, ok2, st2, _, _, _, a, vs, rfl, h1, h3⟩ := made_stay ok s1 ok1 st1 q1 e2
          exact .inl ⟨a, rfl, .inr ⟨⟨vs, h1⟩, p _ w2 H1 s2 ok2 st2 ⟨tup_walk ok2 h1 h3, ok2⟩⟩⟩
        · rename_i z e2
          cases e1
          have e3 : t.data? = some (.str z) := by
            cases t <;> cases st <;> first | exact e2 | cases e2
          cases q1.1.str e3
          exact .inr ⟨z, rfl, p _ w1 H1 s1 ok1 st1 ⟨walkS z, ok1⟩⟩
        · cases e1
theorem i_enum {p tpos : Pos} {elts : List Expr} {kk : Nat} (hg : Gl X "enumerate") (hm : X.mg "enumerate" = none) (hst : noStar a = true) (ha : PE X a (TX X E fa)) :
    PI X (.Tuple elts kk tpos) (.Call (.Name "enumerate" p) [a] [] pos) (TXi X E st fun r m => (fa r m).bind fun t m => match t.dataS? st with
      | some (.list xs) => .ok (enumL 0 xs) m
      | some (.tuple xs) => .ok (enumL 0 xs) m
      | _ => .bad) :=
  (pi_enumA hg hm (pa_cons ha pa_nil (star_of hst)) (star_of hst)).imp fun σ H Q h => by
    obtain ⟨w, r, m, ok, stt, en, p⟩ := h
    refine ⟨w, r, m, ok, stt, en, ?_⟩
    dsimp only at p
    cases e0 : fa r m with
    | exc cc fs m1 => rw [e0] at p; exact p
    | bad => rw [e0] at p; exact p
    | ok t m1 =>
      rw [e0] at p
      intro x w1 H1 s1 ok1 st1 q1
      dsimp only [Out.bind] at p
      split at p
      · rename_i xs e2
        obtain ⟨w2, s2, ok2, st2, _, _, _, a, vs, rfl, h1, h2, h3, h4, h5⟩ := made_stay ok s1 ok1 st1 q1 e2
        exact ⟨a, vs, rfl, .inl ⟨SqL.of h1, p _ w2 H1 s2 ok2 st2 ⟨enum_walk ok2 h2 h3, ok2⟩⟩⟩
      · rename_i xs e2
        obtain ⟨w2, s2, ok2, st2, _, _, _, a, vs, rfl, h1, h3⟩ := made_stay ok s1 ok1 st1 q1 e2
        exact ⟨a, vs, rfl, .inr ⟨h1, p _ w2 H1 s2 ok2 st2 ⟨enum_walkT ok2 h1 h3, ok2⟩⟩⟩
      · exact p.elim
theorem z_stay {K : PySem.W.Frag} {w1 w2 : Wd} {H1 H2 : Hp} {x : V} {t : Tmp} (ok2 : WOk w2 H2) (q : TmpR K w2 H2 x t) {ds : List D} (e : t.dataZ? st = some (.list ds)) :
    ∃ a vs, x = .ref a ∧ H2 a = some (.lst vs) ∧ Stays st w2 H2 a vs ∧ Dens K w2 H2 vs ds := by
  have hd : t.data? = some (.list ds) := by
    unfold Tmp.dataZ? at e
    split at e
    · exact e
    · cases e
    · exact e
  obtain ⟨a, vs, rfl, h1, h2⟩ := q.list hd
  refine ⟨a, vs, rfl, h1, fun w3 H3 s => ?_, h2⟩
  cases t with
  | v y =>
    cases y with
    | d y =>
      cases hd
      cases q with
      | lst hf hh r => exact (Srel.keep ok2 s).fx a _ hf h1
    | loc n => cases hd
    | script ns => cases hd
    | kt ns => cases hd
  | new y =>
    cases st with
    | true => cases e
    | false =>
      obtain ⟨b, eb, c, n1, n2⟩ := q
      cases eb
      exact Step.ext s a _ h1 fun z => absurd z n2
  | bor y =>
    cases st with
    | true => cases e
    | false =>
      obtain ⟨b, eb, c, n2⟩ := q
      cases eb
      exact Step.ext s a _ h1 fun z => absurd z n2
theorem dataZ_data {t : Tmp} {d : D} (e : t.dataZ? st = some d) : t.data? = some d := by
  unfold Tmp.dataZ? at e
  split at e
  · exact e
  · cases e
  · exact e
theorem i_zip {p tpos : Pos} {elts : List Expr} {kk : Nat} (hg : Gl X "zip") (hm : X.mg "zip" = none) (hst : noStar a = true) (hst2 : noStar b = true) (ha : PE X a (TX X E fa)) (hb : PE X b (TX X E fb)) :
    PI X (.Tuple elts kk tpos) (.Call (.Name "zip" p) [a, b] [] pos) (TXi X E st fun r m => (fa r m).bind fun t m => (fb r m).bind fun u m => (give (zipS st false t u) m).bind fun xs m => .ok xs m) :=
  (RZ.pi_zipA hg hm (pa_cons ha (pa_cons hb pa_nil (star_of hst2)) (star_of hst)) (star_of hst) (stars_of (by simp [hst2]))).imp fun σ H Q h => by
    obtain ⟨w, r, m, ok, stt, en, p⟩ := h
    refine ⟨w, r, m, ok, stt, en, Post.bind mRI ok p fun x m1 v w1 H1 s1 ok1 st1 (q1 : RT X.K H w1 H1 v x) p1 => ?_⟩
    refine ⟨w1, r, m1, ok1, st1, en.step ok s1, Post.bind mRI ok1 p1 fun y m2 u w2 H2 s2 ok2 st2 (q2 : RT X.K H1 w2 H2 u y) p2 => ?_⟩
    unfold zipS at p2
    rw [if_neg (by simp)] at p2
    split at p2
    · rename_i xs ys e1 e2
      obtain ⟨a, vs, rfl, h1, h2, h3⟩ := z_stay (w1 := w1) (H1 := H1) ok2 (q1.1.step ok1 s2) e1
      obtain ⟨b, us, rfl, h4, h5, h6⟩ := z_stay (w1 := w1) (H1 := H1) ok2 q2.1 e2
      exact ⟨a, b, vs, us, rfl, .inl ⟨SqL.of h1, SqL.of h4, p2.here ok2 st2 ⟨zip_walkL ok2 (fun w3 H3 s => ⟨h2 w3 H3 s, h5 w3 H3 s⟩) h3 h6, ok2⟩⟩⟩
    · rename_i xs ys e1 e2
      obtain ⟨a, vs, rfl, h1, h3⟩ := (q1.1.step ok1 s2).tup (dataZ_data e1)
      obtain ⟨b, us, rfl, h4, h6⟩ := q2.1.tup (dataZ_data e2)
      exact ⟨a, b, vs, us, rfl, .inr ⟨h1, h4, p2.here ok2 st2 ⟨zip_walkT ok2 h1 h4 h3 h6, ok2⟩⟩⟩
    · exact p2.elim
theorem seq_stay {K : PySem.W.Frag} {w2 : Wd} {H2 : Hp} {x : V} {t : Tmp} (ok2 : WOk w2 H2) (q : TmpR K w2 H2 x t) {ds : List D} (e : (t.dataZ? st).bind seqD = some ds) :
    ∃ k a vs, x = .ref a ∧ (∀ w3 H3, Srel st w2 H2 w3 H3 → SqK k K H3 a vs) ∧ SqK k K H2 a vs ∧ Dens K w2 H2 vs ds := by
  obtain ⟨d, e1, e2⟩ := Option.bind_eq_some_iff.mp e
  unfold seqD at e2
  split at e2
  · cases e2
    obtain ⟨a, vs, rfl, h1, h2, h3⟩ := z_stay (w1 := w2) (H1 := H2) ok2 q e1
    exact ⟨true, a, vs, rfl, fun w3 H3 s => SqL.of (h2 w3 H3 s), SqL.of h1, h3⟩
  · cases e2
    obtain ⟨a, vs, rfl, h1, h3⟩ := q.tup (dataZ_data e1)
    exact ⟨false, a, vs, rfl, fun w3 H3 s => (Srel.keep ok2 s).seqT h1, h1, h3⟩
  · cases e2
theorem i_zipS {j kp} {p pos tpos cp : Pos} {elts : List Expr} {kk : Nat} (hg : Gl X "zip") (hm : X.mg "zip" = none) (hst : noStar a = true) (hst2 : noStar b = true) (ha : PE X a (TX X E fa)) (hb : PE X b (TX X E fb)) :
    PI X (.Tuple elts kk tpos) (.Call (.Name "zip" p) [a, b] [⟨some (Str.ofString "strict"), .Constant (.bool true) j cp, kp⟩] pos) (TXi X E st fun r m => (fa r m).bind fun t m => (fb r m).bind fun u m => (give (zipS st true t u) m).bind fun xs m => .ok xs m) :=
  (pi_zipS hg hm (pa_cons ha (pa_cons hb pa_nil (star_of hst2)) (star_of hst)) (star_of hst) (stars_of (by simp [hst, hst2]))).imp fun σ H Q h => by
    obtain ⟨w, r, m, ok, stt, en, p⟩ := h
    refine ⟨w, r, m, ok, stt, en, Post.bind mRI ok p fun x m1 v w1 H1 s1 ok1 st1 (q1 : RT X.K H w1 H1 v x) p1 => ?_⟩
    refine ⟨w1, r, m1, ok1, st1, en.step ok s1, Post.bind mRI ok1 p1 fun y m2 u w2 H2 s2 ok2 st2 (q2 : RT X.K H1 w2 H2 u y) p2 => ?_⟩
    unfold zipS at p2
    rw [if_pos rfl] at p2
    unfold zipT at p2
    split at p2
    · rename_i xs ys e1 e2
      split at p2
      · rename_i hl
        obtain ⟨k1, a, vs, rfl, h1, h2, h3⟩ := seq_stay ok2 (q1.1.step ok1 s2) e1
        obtain ⟨k2, b, us, rfl, h4, h5, h6⟩ := seq_stay ok2 q2.1 e2
        exact ⟨k1, k2, a, b, vs, us, rfl, h2, h5, p2.here ok2 st2 ⟨zip_walkS ok2 h1 h4 h3 h6 hl, ok2⟩⟩
      · exact p2.elim
    · exact p2.elim
end
end Ev
set_option Elab.async false
set_option linter.all false
namespace Ev
open PySem PySem.Spec L2

section
variable {K : PySem.W.Frag} {w w' w1 w2 : Wd} {H H' H1 H2 : Hp} {m : Store} {p : Addr} {o : HO} {σ : L2.St} {r : Env}
theorem write_keep (hF : ¬ w.F p) (hM : Mut (H p)) : Keep w H w (upd H p o) where
  fm := fun _ h => h
  fx := fun a u f h => by
    rw [upd_ne fun z => by subst z; exact hF f]
    exact h
  im := fun a u h n => by
    rw [upd_ne fun z => by subst z; rw [h] at hM; exact n hM]
    exact h
  io := ⟨[], by simp⟩
theorem write_ok (ok : WOk w H) (hM : Mut (some o)) : WOk w (upd H p o) where
  ff := ok.ff
  fl := fun a f z => by
    by_cases h : a = p
    · subst h; rw [upd_same] at z; cases z
    · rw [upd_ne h] at z; exact ok.fl a f z
  im := fun a h => by
    by_cases q : a = p
    · subst q; rw [upd_same]; exact hM
    · rw [upd_ne q]; exact ok.im a h
  nd := ok.nd
theorem write_st (hF : ¬ w.F p) (hI : p ∉ w.io) (hM : Mut (H p)) (st : StR K w H m) : StR K w (upd H p o) m := ⟨st.len, fun n a b e1 e2 => by
  have ne : a ≠ p := fun z => by subst z; exact hI (List.mem_of_getElem? e1)
  have q := st.at_ n a b e1 e2
  cases b with
  | lst xs =>
    obtain ⟨vs, h1, h2⟩ := q
    exact ⟨vs, by rw [upd_ne ne]; exact h1, Paired.mapP h2 fun _ _ z => z.keep (write_keep hF hM)⟩
  | dct kvs =>
    obtain ⟨vs, h1, h2⟩ := q
    exact ⟨vs, by rw [upd_ne ne]; exact h1, Paired.mapP h2 fun _ _ z => ⟨z.1, z.2.keep (write_keep hF hM)⟩⟩
  | dcT kvs =>
    obtain ⟨vs, h1, h2⟩ := q
    exact ⟨vs, by rw [upd_ne ne]; exact h1, Paired.mapP h2 fun _ _ z => ⟨z.1, z.2.keep (write_keep hF hM)⟩⟩⟩
theorem write_step (s : Step w H w' H') (hn : H p = none) : Step w H w' (upd H' p o) where
  fm := s.fm
  io := s.io
  fn := s.fn
  ext := fun a u h n => by
    rw [upd_ne fun z => by subst z; rw [hn] at h; cases h]
    exact s.ext a u h n
  dom := fun a z => by
    by_cases q : a = p
    · subst q; exact hn
    · rw [upd_ne q] at z
      exact s.dom a z

theorem wipe_at : ∀ (vs : List Nat) (i : Nat), (wipe σ vs)[i]? = if i ∈ vs then (σ[i]?).map fun _ => none else σ[i]?
  | [], i => by simp [wipe]
  | v :: vs, i => by
    unfold wipe
    by_cases h : v = i
    · subst h
      rw [if_pos (List.mem_cons_self ..)]
      by_cases hl : v < σ.length
      · rw [List.getElem?_set_self (by rw [wipe_length]; exact hl)]
        simp [hl]
      · rw [List.getElem?_eq_none (by rw [List.length_set, wipe_length]; omega), List.getElem?_eq_none (by omega)]
        rfl
    · rw [List.getElem?_set_ne h, wipe_at vs i]
      simp [Ne.symm h]
theorem wipeE_at : ∀ (vs : List Nat) (i : Nat), (wipeE r vs)[i]? = if i ∈ vs then (r[i]?).map fun _ => .no else r[i]?
  | [], i => by simp [wipeE]
  | v :: vs, i => by
    unfold wipeE
    by_cases h : v = i
    · subst h
      rw [if_pos (List.mem_cons_self ..)]
      have hw : (wipeE r vs).length = r.length := wipeE_len vs
      by_cases hl : v < r.length
      · rw [List.getElem?_set_self (by rw [hw]; exact hl)]
        simp [hl]
      · rw [List.getElem?_eq_none (by rw [List.length_set, hw]; omega), List.getElem?_eq_none (by omega)]
        rfl
    · rw [List.getElem?_set_ne h, wipeE_at vs i]
      simp [Ne.symm h]
where
  wipeE_len : ∀ vs : List Nat, (wipeE r vs).length = r.length
  | [] => rfl
  | v :: vs => by unfold wipeE; rw [List.length_set, wipeE_len vs]
theorem wipeE_len (vs : List Nat) : (wipeE r vs).length = r.length := wipeE_at.wipeE_len vs
theorem EnvR.wipe (h : EnvR K w H σ r) (vs : List Nat) : EnvR K w H (L2.wipe σ vs) (wipeE r vs) where
  len := by rw [wipe_length, wipeE_len, h.len]
  val := fun i x e => by
    rw [wipeE_at] at e
    rw [wipe_at]
    split at e
    · cases q : r[i]? <;> rw [q] at e <;> cases e
    · rename_i hi
      rw [if_neg hi]
      exact h.val i x e
  own := fun i x e => by
    rw [wipeE_at] at e
    rw [wipe_at]
    split at e
    · cases q : r[i]? <;> rw [q] at e <;> cases e
    · rename_i hi
      rw [if_neg hi]
      exact h.own i x e
  inj := fun i j x y v e1 e2 e3 e4 => by
    rw [wipeE_at] at e1 e2
    rw [wipe_at] at e3 e4
    split at e1
    · cases q : r[i]? <;> rw [q] at e1 <;> cases e1
    · rename_i hi
      rw [if_neg hi] at e3
      split at e2
      · cases q : r[j]? <;> rw [q] at e2 <;> cases e2
      · rename_i hj
        rw [if_neg hj] at e4
        exact h.inj i j x y v e1 e2 e3 e4
theorem wipe_same {σ' : L2.St} {vs : List Nat} (hl : σ'.length = (wipe σ vs).length) (h : ∀ i, i ∉ vs → σ'[i]? = (wipe σ vs)[i]?) : wipe σ' vs = wipe σ vs := by
  apply List.ext_getElem?
  intro i
  rw [wipe_length] at hl
  rw [wipe_at]
  by_cases hi : i ∈ vs
  · rw [if_pos hi, wipe_at, if_pos hi]
    by_cases hl2 : i < σ.length
    · simp [hl2, hl]
    · rw [List.getElem?_eq_none (by omega), List.getElem?_eq_none (by omega)]
  · rw [if_neg hi]
    exact h i hi
end

section
variable {X : Cx} {E : XK} {elt tg iter : Expr} {ifs : List Expr} {scope : Scope} {own : List (Str × Nat)} {pos : Pos} {fi : FE (List Val)} {fe : FE Tmp} {ft : FE Bool} {tgt : Tg}
structure CompI (X : Cx) (E : XK) (tgt : Tg) (r : Env) (vs : List Nat) (ft : FE Bool) (fe : FE Tmp) (xs : List Val) (w1 : Wd) (H1 : Hp) (σ : L2.St) (D : Addr) (Q : VK) (i : Nat) (H2 : Hp) : Prop where
  ex : ∃ (w2 : Wd) (m2 : Store) (acc : List Ev.D) (us : List V), Step w1 H1 w2 H2 ∧ WOk w2 H2 ∧ StR X.K w2 H2 m2 ∧ H2 D = some (.lst us) ∧ Dens X.K w2 H2 us acc ∧ ¬ w2.F D ∧ D ∉ w2.io ∧
    Post X.K X.mg E (RT X.K) w1 H1 ((compL (compF tgt (wipeE r vs) ft fe) (xs.drop i) m2 acc).bind fun ys m => .ok (.new (.list ys)) m) Q
theorem s_comp (hc : X.calm = true) (hN : X.N.Nodup) (hi : PI X tg iter (TXi X E false fi)) (okb : BlkOk X.N X.env.scope scope own) (hs : ∀ x, foldedSetIterable iter X.env x = pure x)
    (hsl : ∀ i ∈ slots tgt, i ∈ own.map (·.2))
    (hg : ∀ (s : Shared) (H : Hp) (C : Addr) (cl : List (Str × Addr)) (fp : List Addr), PG (X.blk s H scope (compEnvC scope cl C X.env) fp) tg (gT X.K tgt))
    (ht : ∀ (s : Shared) (H : Hp) (C : Addr) (cl : List (Str × Addr)) (fp : List Addr), PTs (X.blk s H scope (compEnvC scope cl C X.env) fp) ifs (TXb X (fun _ _ _ => False) ft))
    (he : ∀ (s : Shared) (H : Hp) (C : Addr) (cl : List (Str × Addr)) (fp : List Addr), PE (X.blk s H scope (compEnvC scope cl C X.env) fp) elt (TX X (fun _ _ _ => False) fe)) :
    PE X (.ListComp elt [⟨tg, iter, ifs, 0⟩] scope pos) (TX X E fun r m => (fi r m).bind fun xs m => (compL (compF tgt (wipeE r (own.map (·.2))) ft fe) xs m []).bind fun ys m => .ok (.new (.list ys)) m) ∧
    ∀ σ H Q, TX X E (fun r m => (fi r m).bind fun xs m => (compL (compF tgt (wipeE r (own.map (·.2))) ft fe) xs m []).bind fun ys m => .ok (.new (.list ys)) m) σ H Q →
      tLc (TXi X E false fi) (gT X.K tgt) (TXb X (fun _ _ _ => False) ft) (TX X (fun _ _ _ => False) fe) (own.map (·.2)) σ H Q := by
  have key : ∀ σ H Q, TX X E (fun r m => (fi r m).bind fun xs m => (compL (compF tgt (wipeE r (own.map (·.2))) ft fe) xs m []).bind fun ys m => .ok (.new (.list ys)) m) σ H Q →
      tLc (TXi X E false fi) (gT X.K tgt) (TXb X (fun _ _ _ => False) ft) (TX X (fun _ _ _ => False) fe) (own.map (·.2)) σ H Q := fun σ H Q h => by
    obtain ⟨w, r, m, ok, st, en, p⟩ := h
    refine ⟨w, r, m, ok, st, en, Post.bind mRT ok p fun xs m1 J w1 H1 s1 ok1 st1 (q1 : RI X.K false H w1 H1 J xs) p1 => ?_⟩
    intro D hD
    have en1 := en.step ok s1
    obtain ⟨⟨G, Y, wk, wG, wY⟩, _⟩ := q1
    refine lc_it wk (CompI X E tgt r (own.map (·.2)) ft fe xs w1 H1 σ D Q) ?_ (fun i H2 hi hP => ?_) (fun i x H2 H3 hi hP hY => ?_) fun H2 hP => ?_
    · -- the start
      refine ⟨w1, m1, [], [], grow_step (grow_upd hD), grow_ok (grow_upd hD) ok1, st1.grow ok1 (grow_upd hD), upd_same, .nil, notF_new ok1 hD, notIo_new ok1 hD, ?_⟩
      rw [List.drop_zero]
      exact p1
    · obtain ⟨w2, m2, acc, us, s2, _⟩ := hP.ex
      exact wG w2 H2 s2
    · -- a turn
      obtain ⟨w2, m2, acc, us, s2, ok2, st2, e2, d2, f2, i2, p2⟩ := hP.ex
      obtain ⟨gr, val⟩ := wY i H2 x H3 hi hY
      obtain ⟨y, ey, qy⟩ := val w2 s2 ok2
      have s3 : Step w1 H1 w2 H3 := s2.trans ok1 (grow_step gr)
      have ok3 : WOk w2 H3 := grow_ok gr ok2
      have st3 : StR X.K w2 H3 m2 := st2.grow ok2 gr
      have en3 : EnvR X.K w2 H3 (wipe σ (own.map (·.2))) (wipeE r (own.map (·.2))) := (en1.step ok1 s3).wipe _
      have e3 : H3 D = some (.lst us) := gr _ _ e2
      have d3 : Dens X.K w2 H3 us acc := d2.step ok2 (grow_step gr)
      have hdrop : xs.drop i = y :: xs.drop (i + 1) := by
        rw [List.drop_eq_getElem_cons (by exact hi)]
        have : xs[i]? = some xs[i] := List.getElem?_eq_getElem hi
        rw [this] at ey
        cases ey
        rfl
      rw [hdrop] at p2
      unfold compL at p2
      cases ea : asg tgt y (wipeE r (own.map (·.2))) with
      | none =>
        have ec : compF tgt (wipeE r (own.map (·.2))) ft fe y m2 = .bad := by simp [compF, ea]
        rw [ec] at p2
        exact p2.elim
      | some r1 =>
        have ec : compF tgt (wipeE r (own.map (·.2))) ft fe y m2 = (ft r1 m2).bind fun k m => if k then (fe r1 m).bind fun y m => give ((toD y).map some) m else .ok none m := by simp [compF, ea]
        rw [ec] at p2
        refine asg_ok ea qy en3 fun σ2 en4 hl hsame _ => ?_
        refine ⟨wipe_same hl fun j hj => (hsame j fun z => hj (hsl j z)).1, ?_⟩
        refine ⟨w2, r1, m2, ok3, st3, en4, ?_⟩
        cases et : ft r1 m2 with
        | exc cc fs m3 => rw [et] at p2; exact p2.elim
        | bad => rw [et] at p2; exact p2.elim
        | ok k m3 =>
          rw [et] at p2
          intro k' w4 H4 s4 ok4 st4 qk
          cases qk
          have s5 : Step w1 H1 w4 H4 := s3.trans ok1 s4
          have nF4 : ¬ w4.F D := s4.notF (by rw [e3]; simp) f2
          have nI4 : D ∉ w4.io := s4.notIo (by rw [e3]; simp) i2
          have e4 : H4 D = some (.lst us) := s4.ext _ _ e3 fun z => absurd z i2
          have d4 : Dens X.K w4 H4 us acc := d3.step ok3 s4
          cases k with
          | false => exact ⟨w4, m3, acc, us, s5, ok4, st4, e4, d4, nF4, nI4, p2⟩
          | true =>
            refine ⟨w4, r1, m3, ok4, st4, en4.step ok3 s4, ?_⟩
            cases ee : fe r1 m3 with
            | exc cc fs m5 =>
              dsimp only [Out.bind] at p2
              rw [if_pos rfl, ee] at p2
              exact p2.elim
            | bad =>
              dsimp only [Out.bind] at p2
              rw [if_pos rfl, ee] at p2
              exact p2.elim
            | ok t m5 =>
              dsimp only [Out.bind] at p2
              rw [if_pos rfl, ee] at p2
              dsimp only at p2
              cases ed : toD t with
              | none => rw [ed] at p2; exact p2.elim
              | some dd =>
                rw [ed] at p2
                dsimp only [give, Option.map] at p2
                by_cases hz : acc.length < sizeLine
                · rw [if_pos hz] at p2
                  refine Post.toD (E := fun _ _ _ => False) (f := .ok t m5) (mg := X.mg) (K := X.K) (Q := fun y H5 => _) ?_
                  show Post X.K X.mg _ (RD X.K) w4 H4 (give (toD t) m5) _
                  rw [ed]
                  intro yv w6 H6 s6 ok6 st6 qd
                  have nF6 : ¬ w6.F D := s6.notF (by rw [e4]; simp) nF4
                  have nI6 : D ∉ w6.io := s6.notIo (by rw [e4]; simp) nI4
                  have e6 : H6 D = some (.lst us) := s6.ext _ _ e4 fun z => absurd z nI4
                  have d6 : Dens X.K w6 H6 us acc := d4.step ok4 s6
                  have hM : Mut (H6 D) := by rw [e6]; trivial
                  have kp : Keep w6 H6 w6 (upd H6 D (.lst (us ++ [yv]))) := write_keep nF6 hM
                  refine ⟨us, e6, by rw [d6.length]; exact hz, w6, m5, acc ++ [dd], us ++ [yv], ?_, ?_, ?_, upd_same, ?_, nF6, nI6, p2⟩
                  · exact write_step (s5.trans ok1 s6) hD
                  · exact write_ok ok6 trivial
                  · exact write_st nF6 nI6 hM st6
                  · exact (d6.keep kp).append (.cons (Den.keep kp qd) .nil)
                · rw [if_neg hz] at p2
                  exact p2.elim
    · -- the end
      obtain ⟨w2, m2, acc, us, s2, ok2, st2, e2, d2, f2, i2, p2⟩ := hP.ex
      rw [List.drop_length] at p2
      exact p2 _ w2 H2 s2 ok2 st2 ⟨⟨D, rfl, ⟨us, e2, d2⟩, f2, i2⟩, fun a ea => by cases ea; exact hD⟩
  exact ⟨(pe_lc hc hN hi okb hg ht he hs).imp key, key⟩
end
end Ev
set_option Elab.async false
set_option linter.all false
set_option maxHeartbeats 1000000
namespace Ev
open PySem PySem.Spec L2
section
variable {X : Cx} {E : XK} {elt tg iter tg1 iter1 : Expr} {ifs ifs1 : List Expr} {scope : Scope} {own : List (Str × Nat)} {pos : Pos} {fi fi1 : FE (List Val)} {fe : FE Tmp} {ft ft1 : FE Bool} {tgt tgt1 : Tg}
structure Acc (X : Cx) (w1 : Wd) (H1 : Hp) (D : Addr) (w2 : Wd) (H2 : Hp) (m2 : Store) (acc : List Ev.D) : Prop where
  s : Step w1 H1 w2 H2
  ok : WOk w2 H2
  st : StR X.K w2 H2 m2
  li : ∃ us, H2 D = some (.lst us) ∧ Dens X.K w2 H2 us acc
  nf : ¬ w2.F D
  ni : D ∉ w2.io
theorem Acc.step {w1 w2 w3 : Wd} {H1 H2 H3 : Hp} {D : Addr} {m2 m3 : Store} {acc : List Ev.D} (a : Acc X w1 H1 D w2 H2 m2 acc) (ok1 : WOk w1 H1) (s : Step w2 H2 w3 H3) (ok : WOk w3 H3) (st : StR X.K w3 H3 m3) : Acc X w1 H1 D w3 H3 m3 acc := by
  obtain ⟨us, e, d⟩ := a.li
  exact ⟨a.s.trans ok1 s, ok, st, ⟨us, s.ext _ _ e fun z => absurd z a.ni, d.step a.ok s⟩, s.notF (by rw [e]; simp) a.nf, s.notIo (by rw [e]; simp) a.ni⟩
def Out2 (X : Cx) (E : XK) (f : Val → Store → Out (Option (List Val × Env))) (g : Env → Val → Store → Out (Option Ev.D)) (xs : List Val) (w1 : Wd) (H1 : Hp) (D : Addr) (Q : VK) (i : Nat) (H2 : Hp) : Prop :=
  ∃ (w2 : Wd) (m2 : Store) (acc : List Ev.D), Acc X w1 H1 D w2 H2 m2 acc ∧ Post X.K X.mg E (RT X.K) w1 H1 ((compL2 f g (xs.drop i) m2 acc).bind fun ys m => .ok (.new (.list ys)) m) Q
def In2 (X : Cx) (E : XK) (f : Val → Store → Out (Option (List Val × Env))) (g : Env → Val → Store → Out (Option Ev.D)) (xs ys : List Val) (r1 : Env) (w1 : Wd) (H1 : Hp) (wI : Wd) (HI : Hp) (D : Addr) (Q : VK) (i j : Nat) (H2 : Hp) : Prop :=
  ∃ (w2 : Wd) (m2 : Store) (acc : List Ev.D), Acc X w1 H1 D w2 H2 m2 acc ∧ Keep wI HI w2 H2 ∧ Post X.K X.mg E (RT X.K) w1 H1 ((match compL (g r1) (ys.drop j) m2 acc with
    | .ok acc' m3 => compL2 f g (xs.drop (i + 1)) m3 acc'
    | _ => .bad).bind fun ys m => .ok (.new (.list ys)) m) Q
theorem drop_at {α : Type} {xs : List α} {i : Nat} {y : α} (e : xs[i]? = some y) : xs.drop i = y :: xs.drop (i + 1) := by
  obtain ⟨h, e⟩ := List.getElem?_eq_some_iff.mp e
  rw [List.drop_eq_getElem_cons h, e]
theorem env_mix {K : PySem.W.Frag} {w5 w6 : Wd} {H5 H7 : Hp} {σ2 σB : L2.St} {r1 rB : Env} (en6 : EnvR K w5 H5 σ2 r1) (k : Keep w5 H5 w6 H7) (enB : EnvR K w6 H7 σB rB) (ho : ∀ (i : Nat) (y : Ev.D), r1[i]? = some (.own y) → rB[i]? = some (.own y) ∧ σ2[i]? = σB[i]?) : EnvR K w6 H7 σ2 r1 where
  len := en6.len
  val := fun i x e => let ⟨v, e1, q⟩ := en6.val i x e; ⟨v, e1, q.keep k⟩
  own := fun i x e => by
    obtain ⟨e1, e2⟩ := ho i x e
    obtain ⟨v, e3, q⟩ := enB.own i x e1
    exact ⟨v, e2 ▸ e3, q⟩
  inj := en6.inj
theorem lc2_ok (hN : X.N.Nodup) (hsl : ∀ i ∈ slots tgt, i ∈ own.map (·.2)) {σ : L2.St} {H : Hp} {Q : VK}
    (h : TX X E (fun r m => (fi r m).bind fun xs m => (compL2 (compG tgt (wipeE r (own.map (·.2))) ft fi1) (fun r1 => compF tgt1 (wipeE r1 (slots tgt1)) ft1 fe) xs m []).bind fun ys m => .ok (.new (.list ys)) m) σ H Q) :
    tLc2 (TXi X E false fi) (gT X.K tgt) (TXb X (fun _ _ _ => False) ft) (TXi X (fun _ _ _ => False) true fi1) (gT X.K tgt1) (TXb X (fun _ _ _ => False) ft1) (TX X (fun _ _ _ => False) fe) (own.map (·.2)) (slots tgt1) σ H Q := by
  obtain ⟨w, r, m, ok, st, en, p⟩ := h
  dsimp only at p
  generalize hf : compG tgt (wipeE r (own.map (·.2))) ft fi1 = f at p
  generalize hgg : (fun r1 => compF tgt1 (wipeE r1 (slots tgt1)) ft1 fe) = g at p
  refine ⟨w, r, m, ok, st, en, Post.bind mRT ok p fun xs m1 J w1 H1 s1 ok1 st1 (q1 : RI X.K false H w1 H1 J xs) p1 => ?_⟩
  intro D hD
  have en1 := en.step ok s1
  obtain ⟨⟨G, Y, wk, wG, wY⟩, _⟩ := q1
  refine ⟨fun i k H2 => i ≤ xs.length ∧ k = xs.length - i ∧ Out2 X E f g xs w1 H1 D Q i H2, ⟨_, Nat.zero_le _, rfl, w1, m1, [], ⟨grow_step (grow_upd hD), grow_ok (grow_upd hD) ok1, st1.grow ok1 (grow_upd hD), ⟨[], upd_same, .nil⟩, notF_new ok1 hD, notIo_new ok1 hD⟩, by rw [List.drop_zero]; exact p1⟩, fun i k H2 hP => ?_⟩
  obtain ⟨hi, rfl, w2, m2, acc, A, p2⟩ := hP
  have hG : G H2 := wG w2 H2 A.s
  rcases Nat.lt_or_ge i xs.length with hlt | hge
  · refine .inr ⟨wk.goes i H2 hlt hG, fun H' => Out2 X E f g xs w1 H1 D Q (i + 1) H', fun H' q => ⟨xs.length - (i + 1), by omega, by omega, rfl, q⟩, fun x H3 hY => ?_⟩
    obtain ⟨gr, val⟩ := wY i H2 x H3 hlt (wk.yields i H2 x H3 hlt hG hY)
    obtain ⟨y, ey, qy⟩ := val w2 A.s A.ok
    have A3 : Acc X w1 H1 D w2 H3 m2 acc := A.step ok1 (grow_step gr) (grow_ok gr A.ok) (A.st.grow A.ok gr)
    have en3 : EnvR X.K w2 H3 (wipe σ (own.map (·.2))) (wipeE r (own.map (·.2))) := (en1.step ok1 A3.s).wipe _
    rw [drop_at ey] at p2
    unfold compL2 at p2
    cases ea : asg tgt y (wipeE r (own.map (·.2))) with
    | none =>
      rw [← hf] at p2
      simp only [compG, ea] at p2
      exact p2.elim
    | some r1 =>
      have ec : f y m2 = (ft r1 m2).bind fun k m => if k then (fi1 r1 m).bind fun ys m => .ok (some (ys, r1)) m else .ok none m := by
        rw [← hf]
        simp only [compG, ea]
      rw [ec] at p2
      refine asg_ok ea qy en3 fun σ2 en4 hl hsame hown => ?_
      refine ⟨wipe_same hl fun j hj => (hsame j fun z => hj (hsl j z)).1, ?_⟩
      refine ⟨w2, r1, m2, A3.ok, A3.st, en4, ?_⟩
      cases et : ft r1 m2 with
      | exc cc fs m3 => rw [et] at p2; exact p2.elim
      | bad => rw [et] at p2; exact p2.elim
      | ok k m3 =>
        rw [et] at p2
        intro k' w4 H4 s4 ok4 st4 qk
        cases qk
        have A4 : Acc X w1 H1 D w4 H4 m3 acc := A3.step ok1 s4 ok4 st4
        cases k with
        | false => exact ⟨w4, m3, acc, A4, p2⟩
        | true =>
          have en5 := en4.step A3.ok s4
          refine ⟨w4, r1, m3, ok4, st4, en5, ?_⟩
          dsimp only [Out.bind] at p2
          rw [if_pos rfl] at p2
          cases ee : fi1 r1 m3 with
          | exc cc fs m5 => rw [ee] at p2; exact p2.elim
          | bad => rw [ee] at p2; exact p2.elim
          | ok ys m5 =>
            rw [ee] at p2
            dsimp only [Out.bind] at p2
            intro J1 w5 H5 s5 ok5 st5 (q5 : RI X.K true H4 w5 H5 J1 ys)
            obtain ⟨⟨G1, Y1, wk1, wG1, wY1⟩, _⟩ := q5
            have A5 : Acc X w1 H1 D w5 H5 m5 acc := A4.step ok1 s5 ok5 st5
            have en6 := en5.step ok4 s5
            refine ⟨fun j k H6 => j ≤ ys.length ∧ k = ys.length - j ∧ In2 X E f g xs ys r1 w1 H1 w5 H5 D Q i j H6, ⟨_, Nat.zero_le _, rfl, w5, m5, acc, A5, Keep.refl _ _, ?_⟩, fun j k H6 hP => ?_⟩
            · rw [List.drop_zero]
              exact p2
            · obtain ⟨hj, rfl, w6, m6, acc6, A6, s6, p6⟩ := hP
              have hG1 : G1 H6 := wG1 w6 H6 s6
              rcases Nat.lt_or_ge j ys.length with hlt1 | hge1
              · refine .inr ⟨wk1.goes j H6 hlt1 hG1, fun H' => In2 X E f g xs ys r1 w1 H1 w5 H5 D Q i (j + 1) H', fun H' q => ⟨ys.length - (j + 1), by omega, by omega, rfl, q⟩, fun x H7 hY1 => ?_⟩
                obtain ⟨gr1, val1⟩ := wY1 j H6 x H7 hlt1 (wk1.yields j H6 x H7 hlt1 hG1 hY1)
                obtain ⟨y1, ey1, qy1⟩ := val1 w6 s6 A6.ok
                have s7 : Step w6 H6 w6 H7 := grow_step gr1
                have A7 : Acc X w1 H1 D w6 H7 m6 acc6 := A6.step ok1 s7 (grow_ok gr1 A6.ok) (A6.st.grow A6.ok gr1)
                have s57 : Keep w5 H5 w6 H7 := s6.trans (s7.keep A6.ok)
                have en7 : EnvR X.K w6 H7 (wipe σ2 (slots tgt1)) (wipeE r1 (slots tgt1)) := (env_mix en6 s57 ((en1.step ok1 A7.s).wipe _) hown).wipe _
                rw [drop_at ey1] at p6
                unfold compL at p6
                cases ea1 : asg tgt1 y1 (wipeE r1 (slots tgt1)) with
                | none =>
                  rw [← hgg] at p6
                  simp only [compF, ea1] at p6
                  exact p6.elim
                | some r3 =>
                  have ec1 : g r1 y1 m6 = (ft1 r3 m6).bind fun k m => if k then (fe r3 m).bind fun y m => give ((toD y).map some) m else .ok none m := by
                    rw [← hgg]
                    simp only [compF, ea1]
                  rw [ec1] at p6
                  refine asg_ok ea1 qy1 en7 fun σ3 en8 hl3 hsame3 _ => ?_
                  refine ⟨wipe_same hl3 fun j hj => (hsame3 j hj).1, ?_⟩
                  refine ⟨w6, r3, m6, A7.ok, A7.st, en8, ?_⟩
                  cases et1 : ft1 r3 m6 with
                  | exc cc fs m3 => rw [et1] at p6; exact p6.elim
                  | bad => rw [et1] at p6; exact p6.elim
                  | ok k1 m8 =>
                    rw [et1] at p6
                    intro k' w8 H8 s8 ok8 st8 qk
                    cases qk
                    have A8 : Acc X w1 H1 D w8 H8 m8 acc6 := A7.step ok1 s8 ok8 st8
                    have s58 : Keep w5 H5 w8 H8 := s57.trans (s8.keep A7.ok)
                    cases k1 with
                    | false => exact ⟨w8, m8, acc6, A8, s58, p6⟩
                    | true =>
                      refine ⟨w8, r3, m8, ok8, st8, en8.step A7.ok s8, ?_⟩
                      dsimp only [Out.bind] at p6
                      rw [if_pos rfl] at p6
                      cases ee1 : fe r3 m8 with
                      | exc cc fs m9 => rw [ee1] at p6; exact p6.elim
                      | bad => rw [ee1] at p6; exact p6.elim
                      | ok t m9 =>
                        rw [ee1] at p6
                        dsimp only [Out.bind] at p6
                        cases ed : toD t with
                        | none => rw [ed] at p6; exact p6.elim
                        | some dd =>
                          rw [ed] at p6
                          dsimp only [give, Option.map] at p6
                          by_cases hz : acc6.length < sizeLine
                          · rw [if_pos hz] at p6
                            refine Post.toD (E := fun _ _ _ => False) (f := .ok t m9) (mg := X.mg) (K := X.K) (Q := fun y H5 => _) ?_
                            show Post X.K X.mg _ (RD X.K) w8 H8 (give (toD t) m9) _
                            rw [ed]
                            intro yv w9 H9 s9 ok9 st9 qd
                            have A9 : Acc X w1 H1 D w9 H9 m9 acc6 := A8.step ok1 s9 ok9 st9
                            obtain ⟨us, e9, d9⟩ := A9.li
                            have hM : Mut (H9 D) := by rw [e9]; trivial
                            have kp : Keep w9 H9 w9 (upd H9 D (.lst (us ++ [yv]))) := write_keep A9.nf hM
                            refine ⟨us, e9, by rw [d9.length]; exact hz, w9, m9, acc6 ++ [dd], ⟨write_step A9.s hD, write_ok ok9 trivial, write_st A9.nf A9.ni hM st9, ⟨us ++ [yv], upd_same, (d9.keep kp).append (.cons (Den.keep kp qd) .nil)⟩, A9.nf, A9.ni⟩, (s58.trans (s9.keep A8.ok)).trans kp, p6⟩
                          · rw [if_neg hz] at p6
                            exact p6.elim
              · have ej : j = ys.length := Nat.le_antisymm hj hge1
                subst ej
                rw [List.drop_length] at p6
                exact .inl ⟨wk1.stops H6 hG1, w6, m6, acc6, A6, p6⟩
  · have ei : i = xs.length := Nat.le_antisymm hi hge
    subst ei
    rw [List.drop_length] at p2
    obtain ⟨us, e2, d2⟩ := A.li
    exact .inl ⟨wk.stops H2 hG, p2 _ w2 H2 A.s A.ok A.st ⟨⟨D, rfl, ⟨us, e2, d2⟩, A.nf, A.ni⟩, fun a ea => by cases ea; exact hD⟩⟩
theorem s_comp2 (hc : X.calm = true) (hN : X.N.Nodup) (hi : PI X tg iter (TXi X E false fi)) (okb : BlkOk X.N X.env.scope scope own) (hs : ∀ x, foldedSetIterable iter X.env x = pure x) (hs1 : ∀ env x, foldedSetIterable iter1 env x = pure x)
    (hsl : ∀ i ∈ slots tgt, i ∈ own.map (·.2)) (hsl1 : ∀ i ∈ slots tgt1, i ∈ own.map (·.2))
    (hg : ∀ (s : Shared) (H : Hp) (C : Addr) (cl : List (Str × Addr)) (fp : List Addr), PG (X.blk s H scope (compEnvC scope cl C X.env) fp) tg (gT X.K tgt))
    (ht : ∀ (s : Shared) (H : Hp) (C : Addr) (cl : List (Str × Addr)) (fp : List Addr), PTs (X.blk s H scope (compEnvC scope cl C X.env) fp) ifs (TXb X (fun _ _ _ => False) ft))
    (hi1 : ∀ (s : Shared) (H : Hp) (C : Addr) (cl : List (Str × Addr)) (fp : List Addr), PI (X.blk s H scope (compEnvC scope cl C X.env) fp) tg1 iter1 (TXi X (fun _ _ _ => False) true fi1))
    (hg1 : ∀ (s : Shared) (H : Hp) (C : Addr) (cl : List (Str × Addr)) (fp : List Addr), PG (X.blk s H scope (compEnvC scope cl C X.env) fp) tg1 (gT X.K tgt1))
    (ht1 : ∀ (s : Shared) (H : Hp) (C : Addr) (cl : List (Str × Addr)) (fp : List Addr), PTs (X.blk s H scope (compEnvC scope cl C X.env) fp) ifs1 (TXb X (fun _ _ _ => False) ft1))
    (he : ∀ (s : Shared) (H : Hp) (C : Addr) (cl : List (Str × Addr)) (fp : List Addr), PE (X.blk s H scope (compEnvC scope cl C X.env) fp) elt (TX X (fun _ _ _ => False) fe)) :
    PE X (.ListComp elt [⟨tg, iter, ifs, 0⟩, ⟨tg1, iter1, ifs1, 0⟩] scope pos) (TX X E fun r m => (fi r m).bind fun xs m => (compL2 (compG tgt (wipeE r (own.map (·.2))) ft fi1) (fun r1 => compF tgt1 (wipeE r1 (slots tgt1)) ft1 fe) xs m []).bind fun ys m => .ok (.new (.list ys)) m) :=
  (pe_lc2 hc hN hi okb hsl1 hg ht hi1 hg1 ht1 he hs hs1).imp fun σ H Q h => lc2_ok hN hsl h
end
end Ev
set_option Elab.async false
set_option linter.all false
namespace Ev
open PySem PySem.Spec L2

section
variable {K : PySem.W.Frag} {w w' w1 w2 : Wd} {H H' H1 H2 : Hp} {m : Store} {p : Addr} {o : HO}
def Wd.box (w : Wd) (a : Addr) : Wd := ⟨w.F, w.io ++ [a]⟩
theorem keep_box (a : Addr) : Keep w H (w.box a) H := ⟨fun _ h => h, fun _ _ _ h => h, fun _ _ h _ => h, ⟨[a], rfl⟩⟩
theorem box_ok (ok : WOk w H) (hF : ¬ w.F p) (hI : p ∉ w.io) (hM : Mut (H p)) : WOk (w.box p) H where
  ff := fun a f z => by
    rcases List.mem_append.mp z with z | z
    · exact ok.ff a f z
    · obtain rfl : a = p := by simpa using z
      exact hF f
  fl := ok.fl
  im := fun a z => by
    rcases List.mem_append.mp z with z | z
    · exact ok.im a z
    · obtain rfl : a = p := by simpa using z
      exact hM
  nd := by
    show (w.io ++ [p]).Nodup
    rw [List.nodup_append]
    exact ⟨ok.nd, by simp, fun a ha b hb => by
      obtain rfl : b = p := by simpa using hb
      intro e
      subst e
      exact hI ha⟩
theorem box_step (s : Step w H w' H') (hn : H p = none) : Step w H (w'.box p) H' where
  fm := s.fm
  io := by
    obtain ⟨l, e, f⟩ := s.io
    refine ⟨l ++ [p], by show w'.io ++ [p] = _; rw [e, List.append_assoc], fun a ha => ?_⟩
    rcases List.mem_append.mp ha with z | z
    · exact f a z
    · obtain rfl : a = p := by simpa using z
      exact hn
  fn := s.fn
  ext := s.ext
  dom := s.dom
theorem box_st (ok : WOk w H) (st : StR K w H m) {b : Box} (q : BoxR K (w.box p) H p b) : StR K (w.box p) H (m ++ [b]) where
  len := by
    show (w.io ++ [p]).length = _
    rw [List.length_append, List.length_append, st.len]
    rfl
  at_ := fun n a b' e1 e2 => by
    have e1' : (w.io ++ [p])[n]? = some a := e1
    by_cases hn : n < w.io.length
    · rw [List.getElem?_append_left hn] at e1'
      rw [List.getElem?_append_left (by rw [← st.len]; exact hn)] at e2
      have q' := st.at_ n a b' e1' e2
      cases b' with
      | lst xs =>
        obtain ⟨vs, h1, h2⟩ := q'
        exact ⟨vs, h1, Paired.mapP h2 fun _ _ z => z.keep (keep_box p)⟩
      | dct kvs =>
        obtain ⟨vs, h1, h2⟩ := q'
        exact ⟨vs, h1, Paired.mapP h2 fun _ _ z => ⟨z.1, z.2.keep (keep_box p)⟩⟩
      | dcT kvs =>
        obtain ⟨vs, h1, h2⟩ := q'
        exact ⟨vs, h1, Paired.mapP h2 fun _ _ z => ⟨z.1, z.2.keep (keep_box p)⟩⟩
    · have hn' : n < (w.io ++ [p]).length := (List.getElem?_eq_some_iff.mp e1').1
      have hn2 : n = w.io.length := by
        rw [List.length_append] at hn'
        simp at hn'
        omega
      subst hn2
      rw [List.getElem?_append_right (Nat.le_refl _)] at e1'
      simp at e1'
      subst e1'
      rw [st.len, List.getElem?_append_right (Nat.le_refl _)] at e2
      simp at e2
      subst e2
      exact q
theorem box_at (st : StR K w H m) : (w.box p).io[m.length]? = some p := by
  show (w.io ++ [p])[m.length]? = some p
  rw [← st.len, List.getElem?_append_right (Nat.le_refl _)]
  simp
theorem dens_vals : ∀ {vs : List V} {ds : List D}, Dens K w H vs ds → Paired (ValR K w H) vs (ds.map .d)
  | _, [], .nil => .nil
  | _, _ :: _, .cons h r => .cons (show ValR K w H _ (.d _) from h) (dens_vals r)
end

section
variable {X : Cx} {E : XK} {a e : Expr} {pos : Pos} {fa : FE Tmp}
theorem s_box (ha : PE X a (TX X E fa)) : PE X a (TX X E fun r m => (fa r m).bind fun t m => match t with
    | .new (.list xs) => .ok (.v (.loc m.length)) (m ++ [.lst (xs.map .d)])
    | _ => .bad) :=
  ha.imp fun σ H Q h => by
    obtain ⟨w, r, m, ok, st, en, p⟩ := h
    refine ⟨w, r, m, ok, st, en, ?_⟩
    dsimp only at p
    cases e0 : fa r m with
    | exc cc fs m1 => rw [e0] at p; exact p
    | bad => rw [e0] at p; exact p
    | ok t m1 =>
      rw [e0] at p
      dsimp only [Out.bind] at p
      intro v w1 H1 s1 ok1 st1 q
      split at p
      · rename_i xs
        obtain ⟨⟨b, rfl, ⟨us, e1, r1⟩, n1, n2⟩, fr⟩ := q
        have hM : Mut (H1 b) := by rw [e1]; trivial
        refine p (.ref b) (w1.box b) H1 (box_step s1 (fr b rfl)) (box_ok ok1 n1 n2 hM) (box_st ok1 st1 ⟨us, e1, dens_vals (r1.keep (keep_box b))⟩) ⟨⟨b, rfl, box_at st1⟩, trivial⟩
      · exact p.elim

theorem s_dnew {t : Bool} : PE X (.Dict [] [] pos) (TX X E fun _ m => .ok (.v (.loc m.length)) (m ++ [if t then .dcT [] else .dct []])) := by
  have fin : ∀ {σ : L2.St} {H : Hp} {Q : V → Hp → Prop} (b : Addr) (o : HO) (x : Box), H b = none → Mut (some o) → (∀ w : Wd, BoxR X.K (w.box b) (upd H b o) b x) →
      TX X E (fun _ m => .ok (.v (.loc m.length)) (m ++ [x])) σ H Q → Q (.ref b) (upd H b o) := fun {σ H Q} b o x hb hM hx h => by
    obtain ⟨w, r, m, ok, st, en, p⟩ := h
    dsimp only at p
    have hI := notIo_new ok hb
    have hF := notF_new ok hb
    have okA : WOk w (upd H b o) := write_ok ok hM
    refine p (.ref b) (w.box b) _ (box_step (write_step (Step.refl w H) hb) hb) (box_ok okA hF hI (by rw [upd_same]; exact hM)) (box_st okA (st.grow ok (grow_upd hb)) (hx w)) ⟨⟨b, rfl, box_at st⟩, trivial⟩
  cases t with
  | false => exact pe_dnewK.imp fun σ H Q h b hb => fin b (.dK []) (.dct []) hb trivial (fun w => ⟨[], upd_same, .nil⟩) h
  | true => exact pe_dnewT.imp fun σ H Q h b hb => fin b (.dT []) (.dcT []) hb trivial (fun w => ⟨[], upd_same, .nil⟩) h
theorem find_none {κ : Type} [DecidableEq κ] {F : V → Val → Prop} {vs : List (κ × V)} {kvs : List (κ × Val)} {k : κ} (h : Paired (fun (p : κ × V) (q : κ × Val) => p.1 = q.1 ∧ F p.2 q.2) vs kvs) :
    (valV vs k).isSome = (lookKV kvs k).isSome := by
  induction h with
  | nil => rfl
  | @cons p q ps qs r _ ih =>
    unfold lookKV
    rw [List.find?_cons]
    by_cases hk : q.1 = k
    · rw [decide_eq_true hk, valV_pos (r.1.trans hk)]; rfl
    · rw [decide_eq_false hk, valV_neg (fun z => hk (r.1.symm.trans z))]; exact ih
theorem din_ok {t u : Tmp} {x y : V} (st : StR K w H m) (hx : TmpR K w H x t) (hy : TmpR K w H y u) {b : Bool} (e : dinV t u m = some b) : ∃ a o, y = .ref a ∧ DGet H a x o ∧ o.isSome = b := by
  unfold dinV at e
  split at e
  · rename_i n
    obtain ⟨a, rfl, ea⟩ : ∃ a, y = .ref a ∧ w.io[n]? = some a := hy
    split at e
    · rename_i kvs em
      obtain ⟨vs, h1, h2⟩ := st.at_ n a _ ea em
      split at e
      · rename_i k ek
        cases hx.int ek
        cases e
        exact ⟨a, _, rfl, .inl ⟨vs, .inl k, .inl h1, rfl, rfl⟩, find_none h2⟩
      · rename_i k ek
        cases hx.str ek
        cases e
        exact ⟨a, _, rfl, .inl ⟨vs, .inr k, .inl h1, rfl, rfl⟩, find_none h2⟩
      · cases e
    · rename_i kvs em
      obtain ⟨vs, h1, h2⟩ := st.at_ n a _ ea em
      split at e
      · rename_i ds
        obtain ⟨ks, e0, rfl⟩ := Option.map_eq_some_iff.mp e
        obtain ⟨b, us, rfl, h3, h4⟩ := hx.tupX rfl
        exact ⟨a, _, rfl, .inr ⟨vs, ks, b, .inl h1, rfl, by rw [h3, keysD_of h4 e0], rfl⟩, find_none h2⟩
      · cases e
    · cases e
  · cases e
theorem s_din {n : Bool} {k d : Expr} {fk fd : FE Tmp} (hu : X.A.units + 1 < cLine) (hk : PE X k (TX X E fk)) (hd : PE X d (TX X E fd)) (h1 : behindInMarks (if n then .NotIn else .In) d = false) :
    PE X (.Compare k [if n then .NotIn else .In] [d] pos) (TX X E fun r m => (fk r m).bind fun x m => (fd r m).bind fun y m => give ((dinV x y m).map fun b => vB (if n then !b else b)) m) := by
  have main : ∀ {σ : L2.St} {H : Hp} {Q : V → Hp → Prop}, TX X E (fun r m => (fk r m).bind fun x m => (fd r m).bind fun y m => give ((dinV x y m).map fun b => vB (if n then !b else b)) m) σ H Q →
      TX X E fk σ H fun y H1 => TX X E fd σ H1 fun x H2 => ∃ a o, x = .ref a ∧ DGet H2 a y o ∧ Q (.bl (if n then !o.isSome else o.isSome)) H2 := fun {σ H Q} h => by
    obtain ⟨w, r, m, ok, st, en, p⟩ := h
    refine ⟨w, r, m, ok, st, en, Post.bind mRT ok p fun x m1 v w1 H1 s1 ok1 st1 (q1 : RT X.K H w1 H1 v x) p1 => ?_⟩
    refine ⟨w1, r, m1, ok1, st1, en.step ok s1, Post.bind mRT ok1 p1 fun y m2 v2 w2 H2 s2 ok2 st2 (q2 : RT X.K H1 w2 H2 v2 y) p2 => ?_⟩
    obtain ⟨z, e, p2⟩ := p2.given
    obtain ⟨b, e3, rfl⟩ := Option.map_eq_some_iff.mp e
    obtain ⟨a, o, rfl, g, rfl⟩ := din_ok st2 (q1.1.step ok1 s2) q2.1 e3
    exact ⟨a, o, rfl, g, p2.here ok2 st2 ⟨(show ValR X.K w2 H2 _ (.d (.bool _)) from Den.bl _), trivial⟩⟩
  cases n with
  | false => exact (pe_cmp (pc_din hu hk hd) h1).imp fun σ H Q h => main h
  | true => exact (pe_cmp (pc_dnotin hu hk hd) h1).imp fun σ H Q h => main h

theorem t_din {n : Bool} {k d : Expr} {fk fd : FE Tmp} (hu : X.A.units + 1 < cLine) (hk : PE X k (TX X E fk)) (hd : PE X d (TX X E fd)) (h1 : behindInMarks (if n then .NotIn else .In) d = false) :
    PT X (.Compare k [if n then .NotIn else .In] [d] pos) (TXb X E fun r m => (fk r m).bind fun x m => (fd r m).bind fun y m => give ((dinV x y m).map fun b => if n then !b else b) m) := by
  have main : ∀ {σ : L2.St} {H : Hp} {Q : Bool → Hp → Prop} {R : V → V → Hp → Prop}, (∀ y x H2 a o, x = .ref a → DGet H2 a y o → Q (if n then !o.isSome else o.isSome) H2 → R y x H2) →
      TXb X E (fun r m => (fk r m).bind fun x m => (fd r m).bind fun y m => give ((dinV x y m).map fun b => if n then !b else b) m) σ H Q →
      TX X E fk σ H fun y H1 => TX X E fd σ H1 fun x H2 => R y x H2 := fun {σ H Q R} hR h => by
    obtain ⟨w, r, m, ok, st, en, p⟩ := h
    refine ⟨w, r, m, ok, st, en, Post.bind mREq ok p fun x m1 v w1 H1 s1 ok1 st1 (q1 : RT X.K H w1 H1 v x) p1 => ?_⟩
    refine ⟨w1, r, m1, ok1, st1, en.step ok s1, Post.bind mREq ok1 p1 fun y m2 v2 w2 H2 s2 ok2 st2 (q2 : RT X.K H1 w2 H2 v2 y) p2 => ?_⟩
    obtain ⟨z, e, p2⟩ := p2.given
    obtain ⟨b, e3, rfl⟩ := Option.map_eq_some_iff.mp e
    obtain ⟨a, o, rfl, g, rfl⟩ := din_ok st2 (q1.1.step ok1 s2) q2.1 e3
    exact hR _ _ _ a o rfl g (p2.here ok2 st2 rfl)
  cases n with
  | false => exact (pt_cmp (pc_din hu hk hd) h1).imp fun σ H Q h => main (fun y x H2 a o e g q => ⟨a, o, e, g, _, rfl, q⟩) h
  | true => exact (pt_cmp (pc_dnotin hu hk hd) h1).imp fun σ H Q h => main (fun y x H2 a o e g q => ⟨a, o, e, g, _, rfl, q⟩) h

theorem isDct_ok {t : Tmp} {y : V} (st : StR K w H m) (hy : TmpR K w H y t) {u : Unit} (e : isDct t m = some u) : ∃ a, y = .ref a ∧ IsD H a := by
  unfold isDct at e
  split at e
  · rename_i n
    obtain ⟨a, rfl, ea⟩ : ∃ a, y = .ref a ∧ w.io[n]? = some a := hy
    split at e
    · rename_i kvs em
      obtain ⟨vs, h1, _⟩ := st.at_ n a _ ea em
      exact ⟨a, rfl, .inl ⟨vs, .inl h1⟩⟩
    · rename_i kvs em
      obtain ⟨vs, h1, _⟩ := st.at_ n a _ ea em
      exact ⟨a, rfl, .inr ⟨vs, .inl h1⟩⟩
    · cases e
  · cases e
theorem find_opt {κ : Type} [DecidableEq κ] {F : V → Val → Prop} {vs : List (κ × V)} {kvs : List (κ × Val)} {k : κ} (h : Paired (fun (p : κ × V) (q : κ × Val) => p.1 = q.1 ∧ F p.2 q.2) vs kvs) {d : V} {z : Val} (hd : F d z) :
    F ((valV vs k).getD d) ((lookKV kvs k).getD z) := by
  cases e : lookKV kvs k with
  | some x =>
    obtain ⟨v, e1, e2⟩ := find_pair h e
    rw [e1]; exact e2
  | none =>
    have := find_none (k := k) h
    rw [e] at this
    cases e1 : valV vs k with
    | some v => rw [e1] at this; cases this
    | none => exact hd
theorem dlook_ok {t u : Tmp} {x : V} {a : Addr} (st : StR K w H m) (hx : TmpR K w H x t) (hy : TmpR K w H (.ref a) u) {o : Option Val} (e : dlook t u m = some o) : ∃ ov, DGet H a x ov ∧ ∀ d z, ValR K w H d z → ValR K w H (ov.getD d) (o.getD z) := by
  unfold dlook at e
  split at e
  · rename_i n
    obtain ⟨b, eb, ea⟩ : ∃ b, V.ref a = .ref b ∧ w.io[n]? = some b := hy
    cases eb
    split at e
    · rename_i kvs em
      obtain ⟨vs, h1, h2⟩ := st.at_ n a _ ea em
      split at e
      · rename_i k ek
        cases hx.int ek
        cases e
        exact ⟨_, .inl ⟨vs, .inl k, .inl h1, rfl, rfl⟩, fun d z hd => find_opt h2 hd⟩
      · rename_i k ek
        cases hx.str ek
        cases e
        exact ⟨_, .inl ⟨vs, .inr k, .inl h1, rfl, rfl⟩, fun d z hd => find_opt h2 hd⟩
      · cases e
    · rename_i kvs em
      obtain ⟨vs, h1, h2⟩ := st.at_ n a _ ea em
      split at e
      · rename_i ds
        obtain ⟨ks, e0, rfl⟩ := Option.map_eq_some_iff.mp e
        obtain ⟨b, us, rfl, h3, h4⟩ := hx.tupX rfl
        exact ⟨_, .inr ⟨vs, ks, b, .inl h1, rfl, by rw [h3, keysD_of h4 e0], rfl⟩, fun d z hd => find_opt h2 hd⟩
      · cases e
    · cases e
  · cases e
theorem s_get1 {d k : Expr} {apos : Pos} {fk fd : FE Tmp} (hu : X.A.units + 1 < cLine) (hd : PE X d (TX X E fd)) (hk : PE X k (TX X E fk)) (M : M1 X d "get" apos k pos) :
    PE X (.Call (.Attribute d "get" apos) [k] [] pos) (TX X E fun r m => (fd r m).bind fun y m => (give (isDct y m) m).bind fun _ m => (fk r m).bind fun x m => give ((dlook x y m).map fun o => .v (o.getD (.d .none))) m) :=
  (pe_dget1 hu hd hk M).imp fun σ H Q h => by
    obtain ⟨w, r, m, ok, st, en, p⟩ := h
    refine ⟨w, r, m, ok, st, en, Post.bind mRT ok p fun y m1 v w1 H1 s1 ok1 st1 (q1 : RT X.K H w1 H1 v y) p1 => ?_⟩
    cases e0 : isDct y m1 with
    | none => rw [e0] at p1; exact p1.elim
    | some u =>
      rw [e0] at p1
      obtain ⟨a, rfl, hD⟩ := isDct_ok st1 q1.1 e0
      refine ⟨a, rfl, hD, w1, r, m1, ok1, st1, en.step ok s1, Post.bind mRT ok1 (show Post X.K X.mg E (RT X.K) w1 H1 ((fk r m1).bind fun x m => give ((dlook x y m).map fun o => .v (o.getD (.d .none))) m) _ from p1) fun x m2 v2 w2 H2 s2 ok2 st2 (q2 : RT X.K H1 w2 H2 v2 x) p2 => ?_⟩
      obtain ⟨z, e, p2⟩ := p2.given
      obtain ⟨o, e3, rfl⟩ := Option.map_eq_some_iff.mp e
      obtain ⟨ov, g, hov⟩ := dlook_ok st2 q2.1 (q1.1.step ok1 s2) e3
      exact ⟨ov, g, p2.here ok2 st2 ⟨hov _ (.d .none) (show Den X.K w2 H2 .non .none from .non), trivial⟩⟩

theorem s_get2 {d k f : Expr} {apos : Pos} {fk fd ff : FE Tmp} (hu : X.A.units + 1 < cLine) (hd : PE X d (TX X E fd)) (hk : PE X k (TX X E fk)) (hf : PE X f (TX X E ff)) (M : M2 X d "get" apos k f pos) :
    PE X (.Call (.Attribute d "get" apos) [k, f] [] pos) (TX X E fun r m => (fd r m).bind fun y m => (give (isDct y m) m).bind fun _ m => (fk r m).bind fun x m => (ff r m).bind fun t m => (give t.val? m).bind fun z m => give ((dlook x y m).map fun o => .v (o.getD z)) m) :=
  (pe_dget2 hu hd hk hf M).imp fun σ H Q h => by
    obtain ⟨w, r, m, ok, st, en, p⟩ := h
    refine ⟨w, r, m, ok, st, en, Post.bind mRT ok p fun y m1 v w1 H1 s1 ok1 st1 (q1 : RT X.K H w1 H1 v y) p1 => ?_⟩
    cases e0 : isDct y m1 with
    | none => rw [e0] at p1; exact p1.elim
    | some u =>
      rw [e0] at p1
      obtain ⟨a, rfl, hD⟩ := isDct_ok st1 q1.1 e0
      refine ⟨a, rfl, hD, w1, r, m1, ok1, st1, en.step ok s1, Post.bind mRT ok1 (show Post X.K X.mg E (RT X.K) w1 H1 ((fk r m1).bind fun x m => (ff r m).bind fun t m => (give t.val? m).bind fun z m => give ((dlook x y m).map fun o => .v (o.getD z)) m) _ from p1) fun x m2 v2 w2 H2 s2 ok2 st2 (q2 : RT X.K H1 w2 H2 v2 x) p2 => ?_⟩
      rw [← bind_bind] at p2
      refine ⟨w2, r, m2, ok2, st2, (en.step ok s1).step ok1 s2, Post.toVal (Post.bind mRT ok2 p2 fun z m3 v3 w3 H3 s3 ok3 st3 (q3 : RV X.K H2 w3 H3 v3 z) p3 => ?_)⟩
      obtain ⟨zz, e, p3⟩ := p3.given
      obtain ⟨o, e3, rfl⟩ := Option.map_eq_some_iff.mp e
      obtain ⟨ov, g, hov⟩ := dlook_ok st3 (q2.1.step ok2 s3) ((q1.1.step ok1 s2).step ok2 s3) e3
      exact ⟨ov, g, p3.here ok3 st3 ⟨hov _ z q3, trivial⟩⟩

def keysAre : List (Option Expr) → List Str → Bool
  | [], [] => true
  | some (.Constant (.str k) _ _) :: r, x :: xs => decide (k = x) && keysAre r xs
  | _, _ => false
def DPs (X : Cx) (E : XK) (pos : Pos) (keys : List (Option Expr)) (vals : List Expr) (ks : List Str) (fv : FE (List Val)) : Prop :=
  ∃ trs, PPs X pos keys vals trs ∧ ∀ σ H (Q : List V → Hp → Prop) (Q' : List (V × V) → Hp → Prop), (∀ vs H2, Q vs H2 → Q' ((ks.map V.str).zip vs) H2) → TXv X E fv σ H Q → tPairs trs σ H Q'
theorem dp_nil : DPs X E pos [] [] [] (fun _ m => .ok [] m) := ⟨[], pps_nil, fun σ H Q Q' hq h => by
  obtain ⟨w, r, m, ok, st, en, p⟩ := h
  exact hq [] H (p.here ok st .nil)⟩
theorem dp_cons {k : Str} {j : Nat} {kp : Pos} {keys : List (Option Expr)} {vals : List Expr} {ks : List Str} {fv : FE (List Val)} (ha : PE X a (TX X E fa)) (hr : DPs X E pos keys vals ks fv) :
    DPs X E pos (some (.Constant (.str k) j kp) :: keys) (a :: vals) (k :: ks) (fun r m => (fa r m).bind fun t m => (give t.val? m).bind fun x m => (fv r m).bind fun xs m => .ok (x :: xs) m) := by
  obtain ⟨trs, h1, h2⟩ := hr
  refine ⟨_, pps_cons pe_str ha h1, fun σ H Q Q' hq h => ?_⟩
  obtain ⟨w, r, m, ok, st, en, p⟩ := h
  dsimp only at p
  rw [← bind_bind] at p
  show TX X E fa σ H _
  refine ⟨w, r, m, ok, st, en, Post.toVal (Post.bind mRVs ok p fun x m1 v w1 H1 s1 ok1 st1 (q1 : RV X.K H w1 H1 v x) p1 => ?_)⟩
  exact h2 σ H1 (fun vs H2 => Q (v :: vs) H2) _ (fun vs H2 q => hq (v :: vs) H2 q) ⟨w1, r, m1, ok1, st1, en.step ok s1, Post.bind mRVs ok1 p1 fun xs m2 vs w2 H2 s2 ok2 st2 (q2 : RVs X.K H1 w2 H2 vs xs) p2 => p2.here ok2 st2 (.cons (ValR.step ok1 s2 q1) q2)⟩
theorem zip_keys : ∀ (ks : List Str) (vs : List V), (ks.map V.str).zip vs = ((ks.map (Sum.inr : Str → Key)).zip vs).map fun kv => (kV kv.1, kv.2)
  | [], _ => by simp
  | _ :: _, [] => by simp
  | k :: ks, v :: vs => by
    have := zip_keys ks vs
    simp only [List.map_cons, List.zip_cons_cons, this]
    rfl
theorem zip_fst : ∀ (ks : List Str) (vs : List V), vs.length = ks.length → ((ks.map (Sum.inr : Str → Key)).zip vs).map (·.1) = ks.map Sum.inr
  | [], _, _ => by simp
  | _ :: _, [], h => by simp at h
  | k :: ks, v :: vs, h => by
    have := zip_fst ks vs (by simpa using h)
    simp [this]
theorem zip_pair {K : PySem.W.Frag} {w : Wd} {H : Hp} : ∀ (ks : List Key) {vs : List V} {xs : List Val}, Paired (ValR K w H) vs xs → Paired (fun (p : Key × V) (q : Key × Val) => p.1 = q.1 ∧ ValR K w H p.2 q.2) (ks.zip vs) (ks.zip xs)
  | [], _, _, _ => by simp; exact .nil
  | k :: ks, _, _, .nil => by simp; exact .nil
  | k :: ks, _, _, .cons a b => .cons ⟨rfl, a⟩ (zip_pair ks b)
theorem merge_new : ∀ (more kvs : List (Key × V)), (more.map (·.1)).Nodup → (∀ k ∈ more.map (·.1), k ∉ kvs.map (·.1)) → mergeK kvs more = kvs ++ more
  | [], kvs, _, _ => by simp [mergeK]
  | p :: more, kvs, hn, hd => by
    rw [List.map_cons, List.nodup_cons] at hn
    have h1 : (kvs.any fun kv => decide (kv.1 = p.1)) = false := by
      rw [List.any_eq_false]
      intro q hq z
      have := hd p.1 (by simp)
      exact this (List.mem_map.mpr ⟨q, hq, of_decide_eq_true z⟩)
    have h2 : putK kvs p.1 p.2 = kvs ++ [p] := by
      unfold putK
      rw [h1, if_neg (by simp)]
    show mergeK (putK kvs p.1 p.2) more = _
    rw [h2, merge_new more _ hn.2 fun k hk z => ?_]
    · simp
    · rw [List.map_append, List.mem_append] at z
      rcases z with z | z
      · exact hd k (by simp [List.mem_map.mp hk]) z
      · have : k = p.1 := by simpa using z
        subst this
        exact hn.1 hk
theorem s_dbox {keys : List (Option Expr)} {vals : List Expr} {ks : List Str} {fv : FE (List Val)} (h : DPs X E pos keys vals ks fv) (hk : keys.all (·.isSome) = true) (hl : keys.length = vals.length) (h0 : keys ≠ []) (h15 : keys.length ≤ 15) (hl2 : ks.length ≤ 15) :
    PE X (.Dict keys vals pos) (TX X E fun r m => (fv r m).bind fun xs m => if xs.length = ks.length ∧ ks.Nodup then .ok (.v (.loc m.length)) (m ++ [.dct ((ks.map Sum.inr).zip xs)]) else .bad) := by
  obtain ⟨trs, h1, h2⟩ := h
  refine (pe_disp h1 hk hl h0 h15).imp fun σ H Q h => ?_
  obtain ⟨w, r, m, ok, st, en, p⟩ := h
  intro b hb
  refine h2 σ (upd H b (.dK [])) (fun vs H2 => H2 b = some (.dK []) ∧ vs.length = ks.length ∧ ks.Nodup ∧ Q (.ref b) (upd H2 b (.dK ((ks.map Sum.inr).zip vs)))) _ ?_ ?_
  · rintro vs H2 ⟨e1, e2, e3, q⟩
    refine ⟨e1, (ks.map Sum.inr).zip vs, zip_keys ks vs, ?_, ?_⟩
    · rw [List.length_zip, List.length_map]
      omega
    · rw [merge_new _ [] (by rw [zip_fst ks vs e2]; exact List.Pairwise.map (Sum.inr : Str → Key) (fun _ _ n z => n (Sum.inr.inj z)) e3) (by simp), List.nil_append]
      exact q
  · have hI := notIo_new ok hb
    have hF := notF_new ok hb
    refine ⟨w, r, m, grow_ok (grow_upd hb) ok, st.grow ok (grow_upd hb), en.step ok (grow_step (grow_upd hb)), ?_⟩
    dsimp only at p
    cases e0 : fv r m with
    | exc cc fs m1 =>
      rw [e0] at p
      exact Post.step (o := (Out.exc cc fs m1 : Out Tmp)) mRT ok (grow_step (grow_upd hb)) p
    | bad => rw [e0] at p; exact p.elim
    | ok xs m1 =>
      rw [e0] at p
      dsimp only [Out.bind] at p
      intro vs w1 H1 s1 ok1 st1 (q : Paired (ValR X.K w1 H1) vs xs)
      split at p
      · rename_i hh
        have e1 : H1 b = some (.dK []) := s1.ext _ _ upd_same fun z => absurd z hI
        have nF : ¬ w1.F b := s1.notF (by rw [upd_same]; simp) hF
        have nI : b ∉ w1.io := s1.notIo (by rw [upd_same]; simp) hI
        have hM : Mut (H1 b) := by rw [e1]; trivial
        have s0 : Step w H w1 H1 := (grow_step (grow_upd hb)).trans ok s1
        refine ⟨e1, by rw [Paired.length q]; exact hh.1, hh.2, ?_⟩
        have okA : WOk w1 (upd H1 b (.dK ((ks.map Sum.inr).zip vs))) := write_ok ok1 trivial
        refine p (.ref b) (w1.box b) _ (box_step (write_step s0 hb) hb) (box_ok okA nF nI (by rw [upd_same]; trivial)) (box_st okA (write_st nF nI hM st1) ⟨_, upd_same, zip_pair _ (Paired.mapP q fun _ _ z => ?_)⟩) ⟨⟨b, rfl, ?_⟩, trivial⟩
        · exact (z.keep (write_keep nF hM)).keep (keep_box b)
        · exact box_at st1
      · exact p.elim
end
end Ev
set_option Elab.async false
set_option linter.all false
set_option maxHeartbeats 1000000
namespace Ev
open PySem PySem.Spec L2

section
variable {K : PySem.W.Frag} {w w' : Wd} {H H' : Hp} {m m' : Store} {p : Addr} {o : HO}
theorem box_write {n : Nat} {b : Box} (ok : WOk w H) (st : StR K w H m) (e : w.io[n]? = some p) (hM : Mut (some o)) (q : Keep w H w (upd H p o) → BoxR K w (upd H p o) p b) :
    Step w H w (upd H p o) ∧ WOk w (upd H p o) ∧ StR K w (upd H p o) (m.set n b) := by
  have hp : p ∈ w.io := List.mem_of_getElem? e
  have nF : ¬ w.F p := fun z => ok.ff p z hp
  have hM0 : Mut (H p) := ok.im p hp
  have kp : Keep w H w (upd H p o) := write_keep nF hM0
  refine ⟨⟨fun _ h => h, ⟨[], by simp, by simp⟩, fun _ h => .inl h, fun a u h hn => ?_, fun a h => ?_⟩, write_ok ok hM, ⟨by rw [List.length_set]; exact st.len, fun k a b' e1 e2 => ?_⟩⟩
  · rw [upd_ne fun z => by subst z; rw [h] at hM0; exact hn hp hM0]
    exact h
  · by_cases z : a = p
    · subst z; rw [upd_same] at h; cases h
    · rw [upd_ne z] at h; exact h
  · by_cases hk : n = k
    · subst hk
      rw [e] at e1
      cases e1
      have hn : n < m.length := by rw [← st.len]; exact (List.getElem?_eq_some_iff.mp e).1
      rw [List.getElem?_set_self hn] at e2
      cases e2
      exact q kp
    · rw [List.getElem?_set_ne hk] at e2
      have ne : a ≠ p := fun z => by
        subst z
        exact hk ((List.getElem?_inj (List.getElem?_eq_some_iff.mp e).1 ok.nd).mp (e.trans e1.symm))
      have q' := st.at_ k a b' e1 e2
      cases b' with
      | lst xs =>
        obtain ⟨vs, h1, h2⟩ := q'
        exact ⟨vs, by rw [upd_ne ne]; exact h1, Paired.mapP h2 fun _ _ z => z.keep kp⟩
      | dct kvs =>
        obtain ⟨vs, h1, h2⟩ := q'
        exact ⟨vs, by rw [upd_ne ne]; exact h1, Paired.mapP h2 fun _ _ z => ⟨z.1, z.2.keep kp⟩⟩
      | dcT kvs =>
        obtain ⟨vs, h1, h2⟩ := q'
        exact ⟨vs, by rw [upd_ne ne]; exact h1, Paired.mapP h2 fun _ _ z => ⟨z.1, z.2.keep kp⟩⟩
theorem Paired.setd {α β : Type} {F : α → β → Prop} {as : List α} {bs : List β} {a : α} {b : β} (h : Paired F as bs) (f : F a b) : ∀ j, Paired F (as.set j a) (bs.set j b) := by
  induction h with
  | nil => intro j; simp; exact .nil
  | cons r t ih =>
    intro j
    cases j with
    | zero => exact .cons f t
    | succ j => exact .cons r (ih j)
end

section
variable {X : Cx} {E : XK} {a b e : Expr} {es : List Expr} {pos : Pos} {fa fb : FE Tmp} {fv : FE (List Val)}
theorem s_bad : PE X a (TX X E fun _ _ => .bad) := ⟨fun pins s σ H Q I h => by
  obtain ⟨w, r, m, _, _, _, p⟩ := h
  exact p.elim⟩
theorem t_bad : PT X a (TXb X E fun _ _ => .bad) := ⟨fun pins s σ H Q I h => by
  obtain ⟨w, r, m, _, _, _, p⟩ := h
  exact p.elim⟩
theorem w_bad : PW X a (TXb X E fun _ _ => .bad) := ⟨fun wh pins s σ H Q I h => by
  obtain ⟨w, r, m, _, _, _, p⟩ := h
  exact p.elim⟩

theorem rg_dens {K : PySem.W.Frag} {w : Wd} {H : Hp} (i : Int) (n : Nat) : Dens K w H ((List.range n).map fun k => V.int (i + (k : Nat))) ((List.range n).map fun k => PyData.int (i + (k : Nat))) := by
  have := Dens.ints (K := K) (w := w) (H := H) ((List.range n).map fun k => i + ((k : Nat) : Int))
  rw [List.map_map, List.map_map] at this
  exact this
theorem rngT_ok {K : PySem.W.Frag} {mg : Str → Option Value} {w : Wd} {H : Hp} {m : Store} {t : Bool} {i j : Int} {Q : V → Hp → Prop} (ok : WOk w H) (st : StR K w H m) (p : Post K mg E (RT K) w H (give (rngT t i j) m) Q) :
    RgOk i j ∧ ∀ q, H q = none → Q (.ref q) (upd H q (if t then .tup (rgV i j) else .lst (rgV i j))) := by
  obtain ⟨z, e, p⟩ := p.given
  unfold rngT at e
  split at e
  · rename_i h
    simp only [Bool.and_eq_true, decide_eq_true_eq] at h
    obtain ⟨b1, b2⟩ := small62_ok h.1.1
    obtain ⟨b3, b4⟩ := small62_ok h.1.2
    refine ⟨⟨b1, b2, b3, b4, h.2⟩, fun q hq => ?_⟩
    cases t with
    | true =>
      rw [if_pos rfl] at e
      cases e
      exact Post.newTup ok st p (rg_dens i _) q hq
    | false =>
      rw [if_neg (by simp)] at e
      cases e
      exact Post.newList ok st p (rg_dens i _) q hq
  · cases e
def rgName (t : Bool) : Str := if t then "tuple" else "list"
theorem s_lrng0 {t : Bool} {p : Pos} {e : Expr} {te : L2.St → Hp → (Int → Int → Hp → Prop) → Prop} {f : FE Tmp} (hc : X.calm = true) (hg : Gl X (rgName t)) (hm : X.mg (rgName t) = none) (he : PRg X e te) (na : starEach [e] X.env = (false, eval e X.env) :: starEach [] X.env)
    (key : ∀ σ H Q, TX X E f σ H Q → te σ H fun i j H1 => RgOk i j ∧ ∀ q, H1 q = none → Q (.ref q) (upd H1 q (if t then .tup (rgV i j) else .lst (rgV i j)))) :
    PE X (.Call (.Name (rgName t) p) [e] [] pos) (TX X E f) := by
  cases t with
  | true => exact (pe_tupRg hc hg hm he na).imp fun σ H Q h => key σ H Q h
  | false => exact (pe_listRg hc hg hm he na).imp fun σ H Q h => key σ H Q h
theorem s_lrng1 {t : Bool} {p p2 pos2 : Pos} (hc : X.calm = true) (hg : Gl X (rgName t)) (hm : X.mg (rgName t) = none) (hg2 : Gl X "range") (hm2 : X.mg "range" = none) (hst : noStar a = true) (ha : PE X a (TX X E fa)) :
    PE X (.Call (.Name (rgName t) p) [.Call (.Name "range" p2) [a] [] pos2] [] pos) (TX X E fun r m => (fa r m).bind fun x m => give ((getInt x).bind fun j => rngT t 0 j) m) := by
  refine s_lrng0 hc hg hm (prg_1 hg2 hm2 ha (star_of hst)) rfl fun σ H Q h => ?_
  obtain ⟨w, r, m, ok, st, en, p⟩ := h
  refine ⟨w, r, m, ok, st, en, Post.bind mRT ok p fun x m1 v w1 H1 s1 ok1 st1 (q1 : RT X.K H w1 H1 v x) p1 => ?_⟩
  cases ej : getInt x with
  | none => rw [ej] at p1; exact p1.elim
  | some j =>
    rw [ej] at p1
    cases q1.1.int (getInt_data ej)
    exact ⟨j, rfl, rngT_ok ok1 st1 p1⟩
theorem s_lrng2 {t : Bool} {p p2 pos2 : Pos} (hc : X.calm = true) (hg : Gl X (rgName t)) (hm : X.mg (rgName t) = none) (hg2 : Gl X "range") (hm2 : X.mg "range" = none) (hst : noStar a = true) (hst2 : noStar b = true) (ha : PE X a (TX X E fa)) (hb : PE X b (TX X E fb)) :
    PE X (.Call (.Name (rgName t) p) [.Call (.Name "range" p2) [a, b] [] pos2] [] pos) (TX X E fun r m => (fa r m).bind fun x m => (fb r m).bind fun y m => give ((getInt x).bind fun i => (getInt y).bind fun j => rngT t i j) m) := by
  refine s_lrng0 hc hg hm (prg_2 hg2 hm2 ha hb (by rw [star_of hst, star_of hst2]) (star_of hst2) (by rw [star_of hst2]; rfl)) rfl fun σ H Q h => ?_
  obtain ⟨w, r, m, ok, st, en, p⟩ := h
  refine ⟨w, r, m, ok, st, en, Post.bind mRT ok p fun x m1 v w1 H1 s1 ok1 st1 (q1 : RT X.K H w1 H1 v x) p1 => ?_⟩
  refine ⟨w1, r, m1, ok1, st1, en.step ok s1, Post.bind mRT ok1 p1 fun y m2 u w2 H2 s2 ok2 st2 (q2 : RT X.K H1 w2 H2 u y) p2 => ?_⟩
  cases ei : getInt x with
  | none => rw [ei] at p2; exact p2.elim
  | some i =>
    cases ej : getInt y with
    | none => rw [ei, ej] at p2; exact p2.elim
    | some j =>
      rw [ei, ej] at p2
      cases q1.1.int (getInt_data ei)
      cases q2.1.int (getInt_data ej)
      exact ⟨i, j, rfl, rfl, rngT_ok ok2 st2 p2⟩

theorem isLst_ok {K : PySem.W.Frag} {w : Wd} {H : Hp} {m : Store} {t : Tmp} {y : V} (st : StR K w H m) (hy : TmpR K w H y t) {u : Unit} (e : isLst t m = some u) : tyV K "list" y H := by
  unfold isLst at e
  split at e
  · rename_i n
    obtain ⟨a, rfl, ea⟩ : ∃ a, y = .ref a ∧ w.io[n]? = some a := hy
    split at e
    · rename_i xs em
      obtain ⟨vs, h1, _⟩ := st.at_ n a _ ea em
      exact .inl ⟨rfl, _, SqL.of h1⟩
    · cases e
  · cases e
theorem Paired.dropLast {α β : Type} {F : α → β → Prop} {as : List α} {bs : List β} (h : Paired F as bs) : Paired F as.dropLast bs.dropLast := by
  induction h with
  | nil => exact .nil
  | @cons p q ps qs r t ih =>
    cases t with
    | nil => exact .nil
    | cons r2 t2 => exact .cons r ih
theorem Paired.eraseIdx {α β : Type} {F : α → β → Prop} {as : List α} {bs : List β} (h : Paired F as bs) : ∀ k, Paired F (as.eraseIdx k) (bs.eraseIdx k) := by
  induction h with
  | nil => intro k; exact .nil
  | @cons p q ps qs r t ih =>
    intro k
    cases k with
    | zero => exact t
    | succ k => exact .cons r (ih k)
theorem Paired.atR {α β : Type} {F : α → β → Prop} {as : List α} {bs : List β} (h : Paired F as bs) {i : Nat} {b : β} (e : bs[i]? = some b) : ∃ a, as[i]? = some a ∧ F a b := by
  induction h generalizing i with
  | nil => simp at e
  | @cons p q ps qs r t ih =>
    cases i with
    | zero =>
      simp at e
      subst e
      exact ⟨p, rfl, r⟩
    | succ i => exact ih (by simpa using e)
def rXfn : XFn → V → List V → Hp → VK → Prop
  | .pop => rPop
  | .popAt => rPopAt
  | .append => rAppend
  | .extend => rExtend
def xfnName : XFn → Str
  | .pop => "pop"
  | .popAt => "pop"
  | .append => "append"
  | .extend => "extend"
theorem xfn_ok {K : PySem.W.Frag} {mg : Str → Option Value} {w : Wd} {H : Hp} {m : Store} {x : V} {t : Tmp} {vs : List V} {ys : List Val} {Q : V → Hp → Prop} (ok : WOk w H) (st : StR K w H m) (hx : TmpR K w H x t) (hy : Paired (ValR K w H) vs ys) (f : XFn)
    (p : Post K mg E (RT K) w H ((give (xfnV f t ys m) m).bind fun p _ => .ok (.v p.1) p.2) Q) : rXfn f x vs H Q := by
  cases e : xfnV f t ys m with
  | none => rw [e] at p; exact p.elim
  | some z =>
    rw [e] at p
    have p : Post K mg E (RT K) w H (.ok (.v z.1) z.2) Q := p
    unfold xfnV at e
    split at e
    · rename_i n
      cases hy
      obtain ⟨a, rfl, ea⟩ : ∃ a, x = .ref a ∧ w.io[n]? = some a := hx
      split at e
      · rename_i xs em
        obtain ⟨us, h1, h2⟩ := st.at_ n a _ ea em
        obtain ⟨y, e1, rfl⟩ := Option.map_eq_some_iff.mp e
        rw [List.getLast?_eq_getElem?] at e1
        obtain ⟨v, v1, v2⟩ := Paired.atR h2 e1
        refine ⟨a, us, v, rfl, rfl, h1, by rw [Paired.length h2]; exact v1, ?_⟩
        obtain ⟨b1, b2, b3⟩ := box_write (o := .lst us.dropLast) (b := .lst xs.dropLast) ok st ea trivial fun kp => ⟨_, upd_same, Paired.dropLast (Paired.mapP h2 fun _ _ z => z.keep kp)⟩
        exact p v w _ b1 b2 b3 ⟨v2.keep (b1.keep ok), trivial⟩
      · cases e
    · rename_i n i
      obtain ⟨v, rfl, hv⟩ := pair1 hy
      obtain ⟨a, rfl, ea⟩ : ∃ a, x = .ref a ∧ w.io[n]? = some a := hx
      cases (show Den K w H v (.int i) from hv)
      split at e
      · rename_i xs em
        obtain ⟨us, h1, h2⟩ := st.at_ n a _ ea em
        split at e
        · rename_i hz
          simp only [Bool.and_eq_true, decide_eq_true_eq] at hz
          obtain ⟨k, e1, e2⟩ := Option.bind_eq_some_iff.mp e
          obtain ⟨y, e3, rfl⟩ := Option.map_eq_some_iff.mp e2
          obtain ⟨v, v1, v2⟩ := Paired.atR h2 e3
          refine ⟨a, us, i, k, v, rfl, rfl, h1, hz.1, hz.2, by rw [Paired.length h2]; exact (ixN_seq e1).1, v1, ?_⟩
          obtain ⟨b1, b2, b3⟩ := box_write (o := .lst (us.eraseIdx k)) (b := .lst (xs.eraseIdx k)) ok st ea trivial fun kp => ⟨_, upd_same, Paired.eraseIdx (Paired.mapP h2 fun _ _ z => z.keep kp) k⟩
          exact p v w _ b1 b2 b3 ⟨v2.keep (b1.keep ok), trivial⟩
        · cases e
      · cases e
    · rename_i n y
      obtain ⟨v, rfl, hv⟩ := pair1 hy
      obtain ⟨a, rfl, ea⟩ : ∃ a, x = .ref a ∧ w.io[n]? = some a := hx
      split at e
      · rename_i xs em
        obtain ⟨us, h1, h2⟩ := st.at_ n a _ ea em
        split at e
        · rename_i hz
          cases e
          refine ⟨a, us, v, rfl, rfl, h1, by rw [Paired.length h2]; exact hz, ?_⟩
          obtain ⟨b1, b2, b3⟩ := box_write (o := .lst (us ++ [v])) (b := .lst (xs ++ [y])) ok st ea trivial fun kp => ⟨_, upd_same, put_end (Paired.mapP h2 fun _ _ z => z.keep kp) (hv.keep kp)⟩
          exact p .non w _ b1 b2 b3 ⟨(show Den K w _ .non .none from .non), trivial⟩
        · cases e
      · cases e
    · rename_i n y
      obtain ⟨v, rfl, hv⟩ := pair1 hy
      obtain ⟨a, rfl, ea⟩ : ∃ a, x = .ref a ∧ w.io[n]? = some a := hx
      split at e
      · rename_i xs zs em ez
        obtain ⟨us, h1, h2⟩ := st.at_ n a _ ea em
        split at e
        · rename_i hz
          cases e
          have fin : ∀ (b : Addr) (ws : List V), v = .ref b → H b = some (.lst ws) → Paired (ValR K w H) ws zs → rExtend (.ref a) [v] H Q := fun b ws ev eb hw => by
            subst ev
            refine ⟨a, b, us, ws, rfl, rfl, h1, eb, by rw [Paired.length h2, Paired.length hw]; exact hz, ?_⟩
            obtain ⟨b1, b2, b3⟩ := box_write (o := .lst (us ++ ws)) (b := .lst (xs ++ zs)) ok st ea trivial fun kp => ⟨_, upd_same, Paired.appd (Paired.mapP h2 fun _ _ z => z.keep kp) (Paired.mapP hw fun _ _ z => z.keep kp)⟩
            exact p .non w _ b1 b2 b3 ⟨(show Den K w _ .non .none from .non), trivial⟩
          unfold valsT at ez
          split at ez
          · rename_i k
            obtain ⟨b, rfl, eb⟩ : ∃ b, v = .ref b ∧ w.io[k]? = some b := hv
            split at ez
            · rename_i ys em2
              cases ez
              obtain ⟨ws, w1, w2⟩ := st.at_ k b _ eb em2
              exact fin b ws rfl w1 w2
            · cases ez
          · rename_i ys
            cases ez
            cases (show Den K w H v (.list ys) from hv) with
            | lst _ hb r => exact fin _ _ rfl hb (dens_vals r)
          · cases ez
        · cases e
      · cases e
    · cases e
theorem pe_xfn0 {o : Expr} {to : TE} {apos cpos : Pos} (ho : PE X o to) (hbase : ∀ n, attributeBase o n X.env (eval o X.env) = eval o X.env) (hline : (apos.endLine == cpos.line) = true) :
    PE X (.Call (.Attribute o "pop" apos) [] [] cpos) (tBM0 X.K "list" rPop to) :=
  pe_bm0 PySem.F.plainAttrs_list PySem.F.slot_list_pop PySem.F.type_list_pop mt_pop ho (hbase _) hline
theorem pe_xfn1 {o : Expr} {to : TE} {ta : TA} {apos cpos : Pos} (f : XFn) (hf : xfnName f ≠ "pop" ∨ f = .popAt) (ho : PE X o to) (ha : PA X [a] ta) (hst : noStar a = true) (hbase : ∀ n, attributeBase o n X.env (eval o X.env) = eval o X.env) (hline : (apos.endLine == cpos.line) = true) :
    PE X (.Call (.Attribute o (xfnName f) apos) [a] [] cpos) (tBM X.K "list" (rXfn f) to ta) := by
  cases f with
  | pop =>
    rcases hf with hf | hf
    · exact absurd rfl hf
    · cases hf
  | popAt => exact pe_bm PySem.F.plainAttrs_list PySem.F.slot_list_pop PySem.F.type_list_pop mt_popAt ho ha (hbase _) (by rw [star_of hst]; rfl) hline (star_of hst) rfl
  | append => exact pe_bm PySem.F.plainAttrs_list PySem.F.slot_list_append PySem.F.type_list_append mt_append ho ha (hbase _) (by rw [star_of hst]; rfl) hline (star_of hst) rfl
  | extend => exact pe_bm PySem.F.plainAttrs_list PySem.F.slot_list_extend PySem.F.type_list_extend mt_extend ho ha (hbase _) (by rw [star_of hst]; rfl) hline (star_of hst) rfl
theorem s_xm {f : XFn} {o : Expr} {apos : Pos} {fo : FE Tmp} (hf : f = .pop ∧ es = [] ∧ fv = (fun _ m => .ok [] m) ∨ ∃ a, es = [a] ∧ noStar a = true ∧ (xfnName f ≠ "pop" ∨ f = .popAt)) (ho : PE X o (TX X E fo)) (ha : PA X es (TXv X E fv)) (hbase : ∀ n, attributeBase o n X.env (eval o X.env) = eval o X.env) (hline : (apos.endLine == pos.line) = true) :
    PE X (.Call (.Attribute o (xfnName f) apos) es [] pos) (TX X E fun r m => (fo r m).bind fun x m => (give (isLst x m) m).bind fun _ m => (fv r m).bind fun ys m => (give (xfnV f x ys m) m).bind fun p _ => .ok (.v p.1) p.2) := by
  rcases hf with ⟨rfl, rfl, rfl⟩ | ⟨a, rfl, hst, hf⟩
  · refine (pe_xfn0 ho hbase hline).imp fun σ H Q h => ?_
    obtain ⟨w, r, m, ok, st, en, p⟩ := h
    refine ⟨w, r, m, ok, st, en, Post.bind mRT ok p fun x m1 v w1 H1 s1 ok1 st1 (q1 : RT X.K H w1 H1 v x) p1 => ?_⟩
    cases e0 : isLst x m1 with
    | none => rw [e0] at p1; exact p1.elim
    | some u =>
      rw [e0] at p1
      exact ⟨isLst_ok st1 q1.1 e0, xfn_ok (ys := []) ok1 st1 q1.1 .nil .pop p1⟩
  · refine (pe_xfn1 f hf ho ha hst hbase hline).imp fun σ H Q h => ?_
    obtain ⟨w, r, m, ok, st, en, p⟩ := h
    refine ⟨w, r, m, ok, st, en, Post.bind mRT ok p fun x m1 v w1 H1 s1 ok1 st1 (q1 : RT X.K H w1 H1 v x) p1 => ?_⟩
    cases e0 : isLst x m1 with
    | none => rw [e0] at p1; exact p1.elim
    | some u =>
      rw [e0] at p1
      refine ⟨isLst_ok st1 q1.1 e0, w1, r, m1, ok1, st1, en.step ok s1, Post.bind mRT ok1 (show Post X.K X.mg E (RT X.K) w1 H1 ((fv r m1).bind fun ys m => (give (xfnV f x ys m) m).bind fun p _ => .ok (.v p.1) p.2) Q from p1) fun ys m2 vs w2 H2 s2 ok2 st2 (q2 : Paired (ValR X.K w2 H2) vs ys) p2 => ?_⟩
      exact xfn_ok ok2 st2 (q1.1.step ok1 s2) q2 f p2

theorem idxD_spec {y : Ev.D} : ∀ {xs : List Ev.D} {j : Nat}, idxD y xs = some j → (∃ z, xs[j]? = some z ∧ PyData.eqv z y = true) ∧ ∀ (k : Nat) (z : Ev.D), k < j → xs[k]? = some z → PyData.eqv z y = false
  | [], _, e => by cases e
  | x :: r, j, e => by
    unfold idxD at e
    by_cases h : PyData.eqv x y = true
    · rw [if_pos h] at e
      cases e
      exact ⟨⟨x, rfl, h⟩, fun k z hk => by omega⟩
    · rw [if_neg h] at e
      obtain ⟨i, e1, rfl⟩ := Option.map_eq_some_iff.mp e
      obtain ⟨⟨z, z1, z2⟩, f⟩ := idxD_spec e1
      refine ⟨⟨z, by simpa using z1, z2⟩, fun k z hk hz => ?_⟩
      cases k with
      | zero =>
        simp at hz
        subst hz
        simpa using h
      | succ k => exact f k z (by omega) (by simpa using hz)
def pfnName : PFn → Str
  | .index => "index"
theorem isSeq_ok {K : PySem.W.Frag} {w : Wd} {H : Hp} {t : Tmp} {y : V} (hy : TmpR K w H y t) {u : Unit} (e : isSeq t = some u) : tyV K "list" y H ∧ ∃ ds, t.data? = some (.list ds) := by
  unfold isSeq at e
  split at e
  · rename_i ds ed
    obtain ⟨a, vs, rfl, h1, _⟩ := hy.list ed
    exact ⟨.inl ⟨rfl, _, SqL.of h1⟩, ds, ed⟩
  · cases e
theorem s_pm {f : PFn} {o : Expr} {apos : Pos} {fo : FE Tmp} (hu : X.A.units + 65 < cLine) (ho : PE X o (TX X E fo)) (ha : PE X a (TX X E fa)) (hst : noStar a = true) (hbase : ∀ n, attributeBase o n X.env (eval o X.env) = eval o X.env) (hline : (apos.endLine == pos.line) = true) :
    PE X (.Call (.Attribute o (pfnName f) apos) [a] [] pos) (TX X E fun r m => (fo r m).bind fun x m => (give (isSeq x) m).bind fun _ m => (fa r m).bind fun y m => give (pfnV f x y) m) := by
  cases f with
  | index =>
    refine (pe_bm PySem.F.plainAttrs_list PySem.F.slot_list_index PySem.F.type_list_index (mt_indexD hu) ho (pa_cons ha pa_nil (star_of hst)) (hbase _) (by rw [star_of hst]; rfl) hline (star_of hst) rfl).imp fun σ H Q h => ?_
    obtain ⟨w, r, m, ok, st, en, p⟩ := h
    refine ⟨w, r, m, ok, st, en, Post.bind mRT ok p fun x m1 v w1 H1 s1 ok1 st1 (q1 : RT X.K H w1 H1 v x) p1 => ?_⟩
    cases e0 : isSeq x with
    | none => rw [e0] at p1; exact p1.elim
    | some u =>
      rw [e0] at p1
      obtain ⟨ty, ds, ed⟩ := isSeq_ok q1.1 e0
      refine ⟨ty, w1, r, m1, ok1, st1, en.step ok s1, Post.bind mRT ok1 (show Post X.K X.mg E (RT X.K) w1 H1 ((fa r m1).bind fun y m => give (pfnV .index x y) m) Q from p1) fun y m2 u2 w2 H2 s2 ok2 st2 (q2 : RT X.K H1 w2 H2 u2 y) p2 => ?_⟩
      obtain ⟨z, e, p2⟩ := p2.given
      unfold pfnV at e
      dsimp only at e
      rw [ed] at e
      split at e
      · rename_i xs d e1 e2
        cases e1
        split at e
        · rename_i hh
          rw [Bool.and_eq_true] at hh
          obtain ⟨j, e3, rfl⟩ := Option.map_eq_some_iff.mp e
          obtain ⟨⟨z, z1, z2⟩, f⟩ := idxD_spec e3
          have q1' := q1.1.step ok1 s2
          obtain ⟨a', vs, rfl, h1, h2⟩ := q1'.list ed
          exact ⟨a', u2, d, ds, j, z, rfl, rfl, q1'.dp ed, q2.1.dp e2, hh.2, hh.1, z1, z2, f, Post.int ok2 st2 p2⟩
        · cases e
      · cases e

def tDispT (trs : List (TE × TE)) : TE := fun σ H Q => ∀ p, H p = none → tPairs trs σ (upd H p (.dT [])) fun ps H2 => H2 p = some (.dT []) ∧ ∃ kvs : List (List Key × Addr × V), ps = kvs.map (fun x => (V.ref x.2.1, x.2.2)) ∧ (∀ x ∈ kvs, H2 x.2.1 = some (.tup (x.1.map kV))) ∧ kvs.length ≤ 15 ∧
  Q (.ref p) (upd H2 p (.dT (kvs.foldl (fun acc x => putK acc x.1 x.2.2) [])))
theorem carriesT {P : Program} {w : World} {H : Hp} {h : Heap} (ok : HOk P w H h) : ∀ {kvs : List (List Key × Addr × V)} {ws : List (Value × Value)}, VV (kvs.map fun x => (V.ref x.2.1, x.2.2)) ws → (∀ x ∈ kvs, H x.2.1 = some (.tup (x.1.map kV))) →
    ∃ rs : List (List Key × Addr × Value), CarriesH (tupleKind (mixKind P w)) h ws rs ∧ Paired (fun (p : List Key × Addr × V) (q : List Key × Addr × Value) => p.1 = q.1 ∧ p.2.1 = q.2.1 ∧ RelV p.2.2 q.2.2) kvs rs
  | [], _, r, _ => by
    rw [List.map_nil] at r
    cases r
    exact ⟨[], trivial, .nil⟩
  | p :: kvs, _, r, hk => by
    rw [List.map_cons] at r
    cases r with
    | @cons a b as bs h1 t =>
      obtain ⟨rs, c, q⟩ := carriesT ok t fun x hx => hk x (List.mem_cons_of_mem _ hx)
      obtain ⟨b1, b2⟩ := b
      exact ⟨(p.1, p.2.1, b2) :: rs, ⟨h1.1, rfl, key_of ok (hk p (List.mem_cons_self ..)), c⟩, .cons ⟨rfl, rfl, h1.2⟩ q⟩
theorem storedT {H : Hp} {kvs : List (List Key × Addr × V)} {rs : List (List Key × Addr × Value)} (h : Paired (fun (p : List Key × Addr × V) (q : List Key × Addr × Value) => p.1 = q.1 ∧ p.2.1 = q.2.1 ∧ RelV p.2.2 q.2.2) kvs rs) :
    (∀ x ∈ kvs, H x.2.1 = some (.tup (x.1.map kV))) → ∀ {acc : List (List Key × V)} {xs : List (List Key × Addr × Value)}, KT H acc xs → KT H (kvs.foldl (fun acc x => putK acc x.1 x.2.2) acc) (storedAllH xs rs) := by
  induction h with
  | nil => exact fun _ _ _ r => r
  | @cons p q ps qs e t ih =>
    intro hk acc xs r
    obtain ⟨e1, e2, e3⟩ := e
    have h1 := hk p (List.mem_cons_self ..)
    have := r.put p.1 h1 e3
    rw [e1, e2] at this
    show KT H (ps.foldl _ (putK acc p.1 p.2.2)) (storedAllH (storedH xs q.1 q.2.1 q.2.2) qs)
    rw [e1]
    exact ih (fun x hx => hk x (List.mem_cons_of_mem _ hx)) this
theorem foldT_len : ∀ (kvs : List (List Key × Addr × V)) (acc : List (List Key × V)), (kvs.foldl (fun acc x => putK acc x.1 x.2.2) acc).length ≤ acc.length + kvs.length
  | [], acc => by simp
  | p :: r, acc => by
    have h1 := foldT_len r (putK acc p.1 p.2.2)
    have h2 := length_putK acc p.1 p.2.2
    show (r.foldl _ (putK acc p.1 p.2.2)).length ≤ _
    rw [List.length_cons]
    omega
theorem dt_got {P : Program} {w : World} {H : Hp} {h : Heap} {a : Addr} {kvs : List (List Key × V)} (ok : HOk P w H h) (e : H a = some (.dT kvs)) : kvs.length ≤ sizeLine ∧ (a == sysModules) = false ∧ ∃ xs, KT H kvs xs ∧ h.DictOfH (tupleKind (mixKind P w)) a xs := dt_of ok e
theorem pe_dispT {keys : List (Option Expr)} {values : List Expr} {trs : List (TE × TE)} (hu : X.A.units + 1 < cLine) (h : PPs X pos keys values trs) (hall : keys.all (·.isSome) = true) (hl : keys.length = values.length) (h0 : keys ≠ [])
    (h15 : keys.length ≤ 15) : PE X (.Dict keys values pos) (tDispT trs) := by
  refine ⟨fun pins s σ H Q I q => ?_⟩
  have hn := I.hok.fresh (Nat.le_refl s.heap.objs.size)
  have I1 := I.laid (a := s.heap.objs.size) (o := .dT []) (h' := s.heap.push { cls := .type "dict", data := .dict #[] }) (t' := s.toks) (fun _ _ q => Heap.get?_push_of_some _ q) (Nat.le_refl _) (dt_empty s.heap I.big)
  have hpl := pairTrees_length keys values X.env pos hall hl
  rw [arm_eval_Dict, zip_pairTrees keys values X.env pos hall hl, dictDisplay_pairs _ (fun z => by rw [z] at hpl; exact h0 (List.length_eq_zero_iff.mp hpl.symm)) (by omega)]
  refine wpAny_bind (wpAny_standAt (wpAny_bind (wpAny_subDictH (knd := tupleKind (mixKind X.prog X.w)) (by show X.A.units < cLine; omega) (by omega) (thn (h.run pins _ σ _ _ I1 (q _ hn)) fun ws s2 ⟨ps, H2, I2, rel, e, kvs, ep, hk, lk, q2⟩ => ?_))))
  subst ep
  obtain ⟨rs, c, rk⟩ := carriesT (P := X.prog) (w := X.w) I2.hok rel hk
  obtain ⟨z, hd, vs0, r0, dd⟩ := dt_got I2.hok e
  cases r0
  refine ⟨rs, c, dd, fun h2 tk dd2 hs => wpAny_pure ⟨.ref s.heap.objs.size, _, ?_, rfl, q2⟩⟩
  have hz : (kvs.foldl (fun acc x => putK acc x.1 x.2.2) ([] : List (List Key × V))).length ≤ sizeLine := by
    have h1 := foldT_len kvs []
    rw [List.length_nil] at h1
    rw [sizeLine_eq]
    omega
  obtain ⟨qo, es, ep, hq, g2, g3, g4, _, g5⟩ := dd2
  refine d_write I2 (by rw [e]; exact True.intro) hs ⟨qo, hq⟩ ⟨hz, hd, _, (storedT rk hk .nil).keeps fun c ys ec => ?_, qo, es, ep, hq, g2, g3, g4, g5⟩
  rw [upd_ne (ne_of ec e (fun z => nomatch z))]
  exact ec
def pairUpV : List V → List (V × V)
  | k :: v :: r => (k, v) :: pairUpV r
  | _ => []
def DPs2 (X : Cx) (E : XK) (pos : Pos) (keys : List (Option Expr)) (vals : List Expr) (fv : FE (List Val)) : Prop :=
  ∃ trs, PPs X pos keys vals trs ∧ ∀ σ H (Q : List V → Hp → Prop) (Q' : List (V × V) → Hp → Prop), (∀ vs H2, Q vs H2 → Q' (pairUpV vs) H2) → TXv X E fv σ H Q → tPairs trs σ H Q'
theorem dp2_nil : DPs2 X E pos [] [] (fun _ m => .ok [] m) := ⟨[], pps_nil, fun σ H Q Q' hq h => by
  obtain ⟨w, r, m, ok, st, en, p⟩ := h
  exact hq [] H (p.here ok st .nil)⟩
theorem dp2_cons {k : Expr} {fk : FE Tmp} {keys : List (Option Expr)} {vals : List Expr} {fv : FE (List Val)} (hk : PE X k (TX X E fk)) (ha : PE X a (TX X E fa)) (hr : DPs2 X E pos keys vals fv) :
    DPs2 X E pos (some k :: keys) (a :: vals) (fun r m => (fk r m).bind fun t m => (give t.val? m).bind fun x m => ((fa r m).bind fun u m => (give u.val? m).bind fun y m => (fv r m).bind fun xs m => .ok (y :: xs) m).bind fun xs m => .ok (x :: xs) m) := by
  obtain ⟨trs, h1, h2⟩ := hr
  refine ⟨_, pps_cons hk ha h1, fun σ H Q Q' hq h => ?_⟩
  obtain ⟨w, r, m, ok, st, en, p⟩ := h
  dsimp only at p
  rw [← bind_bind] at p
  show TX X E fk σ H _
  refine ⟨w, r, m, ok, st, en, Post.toVal (Post.bind mRVs ok p fun x m1 v w1 H1 s1 ok1 st1 (q1 : RV X.K H w1 H1 v x) p1 => ?_)⟩
  rw [bind_bind] at p1
  have e2 : ∀ (u : Tmp) (m : Store), ((give u.val? m).bind fun y m => (fv r m).bind fun xs m => .ok (y :: xs) m).bind (fun xs m => .ok (x :: xs) m) = (give u.val? m).bind fun y m => (fv r m).bind fun xs m => .ok (x :: y :: xs) m := fun u m => by
    cases u.val? with
    | none => rfl
    | some y =>
      show Out.bind (Out.bind (fv r m) _) _ = Out.bind (fv r m) _
      cases fv r m <;> rfl
  have e3 : ((fa r m1).bind fun u m => ((give u.val? m).bind fun y m => (fv r m).bind fun xs m => .ok (y :: xs) m).bind fun xs m => .ok (x :: xs) m) = ((fa r m1).bind fun u m => give u.val? m).bind fun y m => (fv r m).bind fun xs m => .ok (x :: y :: xs) m := by
    cases fa r m1 with
    | ok u m2 => exact e2 u m2
    | exc _ _ _ => rfl
    | bad => rfl
  rw [e3] at p1
  refine ⟨w1, r, m1, ok1, st1, en.step ok s1, Post.toVal (Post.bind mRVs ok1 p1 fun y m2 v2 w2 H2 s2 ok2 st2 (q2 : RV X.K H1 w2 H2 v2 y) p2 => ?_)⟩
  exact h2 σ H2 (fun vs H3 => Q (v :: v2 :: vs) H3) _ (fun vs H3 q => hq (v :: v2 :: vs) H3 q) ⟨w2, r, m2, ok2, st2, (en.step ok s1).step ok1 s2, Post.bind mRVs ok2 p2 fun xs m3 vs w3 H3 s3 ok3 st3 (q3 : RVs X.K H2 w3 H3 vs xs) p3 =>
    p3.here ok3 st3 (.cons (ValR.step ok2 s3 (ValR.step ok1 s2 q1)) (.cons (ValR.step ok2 s3 q2) q3))⟩
theorem merge_pair {κ : Type} [DecidableEq κ] {F : V → Val → Prop} {more : List (κ × V)} {more' : List (κ × Val)} (h : Paired (fun (p : κ × V) (q : κ × Val) => p.1 = q.1 ∧ F p.2 q.2) more more') :
    ∀ {kvs : List (κ × V)} {kvs' : List (κ × Val)}, Paired (fun (p : κ × V) (q : κ × Val) => p.1 = q.1 ∧ F p.2 q.2) kvs kvs' →
      Paired (fun (p : κ × V) (q : κ × Val) => p.1 = q.1 ∧ F p.2 q.2) (more.foldl (fun acc kv => putK acc kv.1 kv.2) kvs) (more'.foldl (fun acc kv => putKV acc kv.1 kv.2) kvs') := by
  induction h with
  | nil => exact fun r => r
  | @cons p q ps qs e t ih =>
    intro kvs kvs' r
    rw [List.foldl_cons, List.foldl_cons]
    refine ih ?_
    have := put_pair (k := q.1) r e.2
    rw [e.1]
    exact this
theorem pairUp_ok {K : PySem.W.Frag} {w : Wd} {H : Hp} : ∀ {vs : List V} {xs : List Val} {ps : List (Val × Val)}, Paired (ValR K w H) vs xs → pairUp xs = some ps → Paired (fun (p : V × V) (q : Val × Val) => ValR K w H p.1 q.1 ∧ ValR K w H p.2 q.2) (pairUpV vs) ps
  | [], [], _, .nil, e => by cases e; exact .nil
  | [_], [_], _, .cons _ .nil, e => by simp [pairUp] at e
  | _ :: _ :: _, _ :: _ :: _, _, .cons a (.cons b r), e => by
    simp only [pairUp] at e
    obtain ⟨z, e1, rfl⟩ := Option.map_eq_some_iff.mp e
    exact .cons ⟨a, b⟩ (pairUp_ok r e1)
theorem dispK_ok {K : PySem.W.Frag} {w : Wd} {H : Hp} {vs : List (V × V)} {ps : List (Val × Val)} (h : Paired (fun (p : V × V) (q : Val × Val) => ValR K w H p.1 q.1 ∧ ValR K w H p.2 q.2) vs ps) :
    ∀ {kvs : List (Key × Val)}, (ps.mapM fun p => (keyOf p.1).map fun k => (k, p.2)) = some kvs → ∃ us : List (Key × V), vs = us.map (fun kv => (kV kv.1, kv.2)) ∧ Paired (fun (p : Key × V) (q : Key × Val) => p.1 = q.1 ∧ ValR K w H p.2 q.2) us kvs := by
  induction h with
  | nil =>
    intro kvs e
    cases e
    exact ⟨[], rfl, .nil⟩
  | @cons p q ps qs r t ih =>
    intro kvs e
    rw [List.mapM_cons] at e
    obtain ⟨z, e1, e2⟩ := Option.bind_eq_some_iff.mp e
    obtain ⟨zs, e3, e4⟩ := Option.bind_eq_some_iff.mp e2
    cases e4
    obtain ⟨k, e5, rfl⟩ := Option.map_eq_some_iff.mp e1
    obtain ⟨us, rfl, h2⟩ := ih e3
    obtain ⟨u, v⟩ := p
    obtain ⟨x, y⟩ := q
    refine ⟨(k, v) :: us, ?_, .cons ⟨rfl, r.2⟩ h2⟩
    have : u = kV k := by
      dsimp only at e5 r
      unfold keyOf at e5
      split at e5
      · cases e5
        cases (show Den K w H u (.int _) from r.1)
        rfl
      · cases e5
        cases (show Den K w H u (.str _) from r.1)
        rfl
      · cases e5
    rw [List.map_cons, this]
theorem dispT_ok {K : PySem.W.Frag} {w : Wd} {H : Hp} {vs : List (V × V)} {ps : List (Val × Val)} (h : Paired (fun (p : V × V) (q : Val × Val) => ValR K w H p.1 q.1 ∧ ValR K w H p.2 q.2) vs ps) :
    ∀ {kvs : List (List Key × Val)}, (ps.mapM fun p => (keysOf p.1).map fun k => (k, p.2)) = some kvs → ∃ us : List (List Key × Addr × V), vs = us.map (fun x => (V.ref x.2.1, x.2.2)) ∧ (∀ x ∈ us, H x.2.1 = some (.tup (x.1.map kV))) ∧
      Paired (fun (p : List Key × V) (q : List Key × Val) => p.1 = q.1 ∧ ValR K w H p.2 q.2) (us.map fun x => (x.1, x.2.2)) kvs := by
  induction h with
  | nil =>
    intro kvs e
    cases e
    exact ⟨[], rfl, (fun _ h => nomatch h), Paired.nil⟩
  | @cons p q ps qs r t ih =>
    intro kvs e
    rw [List.mapM_cons] at e
    obtain ⟨z, e1, e2⟩ := Option.bind_eq_some_iff.mp e
    obtain ⟨zs, e3, e4⟩ := Option.bind_eq_some_iff.mp e2
    cases e4
    obtain ⟨k, e5, rfl⟩ := Option.map_eq_some_iff.mp e1
    obtain ⟨us, rfl, h1, h2⟩ := ih e3
    obtain ⟨u, v⟩ := p
    obtain ⟨x, y⟩ := q
    dsimp only at e5 r
    unfold keysOf at e5
    split at e5
    · rename_i ds
      cases (show Den K w H u (.tuple ds) from r.1) with
      | @tup b ws _ hb hd =>
        refine ⟨(k, b, v) :: us, rfl, fun x hx => ?_, .cons ⟨rfl, r.2⟩ h2⟩
        rcases List.mem_cons.mp hx with rfl | hx
        · show H b = _
          rw [hb, keysD_of hd e5]
        · exact h1 x hx
    · cases e5
theorem fold_map {κ : Type} [DecidableEq κ] {α : Type} : ∀ (us : List (κ × α × V)) (acc : List (κ × V)), us.foldl (fun acc x => putK acc x.1 x.2.2) acc = (us.map fun x => (x.1, x.2.2)).foldl (fun acc kv => putK acc kv.1 kv.2) acc
  | [], _ => rfl
  | _ :: r, _ => fold_map r _
theorem s_ddis {t : Bool} {keys : List (Option Expr)} {vals : List Expr} {fv : FE (List Val)} (hu : X.A.units + 1 < cLine) (h : DPs2 X E pos keys vals fv) (hk : keys.all (·.isSome) = true) (hl : keys.length = vals.length) (h0 : keys ≠ []) (h15 : keys.length ≤ 15) :
    PE X (.Dict keys vals pos) (TX X E fun r m => (fv r m).bind fun xs m => (give ((pairUp xs).bind fun kvs => if t then dispT kvs else dispK kvs) m).bind fun b m => .ok (.v (.loc m.length)) (m ++ [b])) := by
  obtain ⟨trs, h1, h2⟩ := h
  have main : ∀ {σ : L2.St} {H : Hp} {Q : V → Hp → Prop} (o0 : HO) (b : Addr) (Q' : List (V × V) → Hp → Prop), Mut (some o0) → H b = none →
      TX X E (fun r m => (fv r m).bind fun xs m => (give ((pairUp xs).bind fun kvs => if t then dispT kvs else dispK kvs) m).bind fun b m => .ok (.v (.loc m.length)) (m ++ [b])) σ H Q →
      (∀ (vs : List V) (xs : List Val) (w1 : Wd) (H1 : Hp) (m1 : Store) (bx : Box), H1 b = some o0 → WOk w1 H1 → Paired (ValR X.K w1 H1) vs xs → ((pairUp xs).bind fun kvs => if t then dispT kvs else dispK kvs) = some bx →
        (∀ o, Mut (some o) → (Keep w1 H1 w1 (upd H1 b o) → BoxR X.K (w1.box b) (upd H1 b o) b bx) → Q (.ref b) (upd H1 b o)) → Q' (pairUpV vs) H1) → tPairs trs σ (upd H b o0) Q' := fun {σ H Q} o0 b Q' hM0 hb h hq => by
    obtain ⟨w, r, m, ok, st, en, p⟩ := h
    refine h2 σ (upd H b o0) (fun vs H1 => Q' (pairUpV vs) H1) Q' (fun vs H2 q => q) ?_
    have hI := notIo_new ok hb
    have hF := notF_new ok hb
    refine ⟨w, r, m, grow_ok (grow_upd hb) ok, st.grow ok (grow_upd hb), en.step ok (grow_step (grow_upd hb)), ?_⟩
    dsimp only at p
    cases e0 : fv r m with
    | exc cc fs m1 =>
      rw [e0] at p
      exact Post.step (o := (Out.exc cc fs m1 : Out Tmp)) mRT ok (grow_step (grow_upd hb)) p
    | bad => rw [e0] at p; exact p.elim
    | ok xs m1 =>
      rw [e0] at p
      dsimp only [Out.bind] at p
      intro vs w1 H1 s1 ok1 st1 (q : Paired (ValR X.K w1 H1) vs xs)
      cases eb : ((pairUp xs).bind fun kvs => if t then dispT kvs else dispK kvs) with
      | none => rw [eb] at p; exact p.elim
      | some bx =>
        rw [eb] at p
        dsimp only [give] at p
        have e1 : H1 b = some o0 := s1.ext _ _ upd_same fun z => absurd z hI
        have nF : ¬ w1.F b := s1.notF (by rw [upd_same]; simp) hF
        have nI : b ∉ w1.io := s1.notIo (by rw [upd_same]; simp) hI
        have hM : Mut (H1 b) := by rw [e1]; exact hM0
        have s0 : Step w H w1 H1 := (grow_step (grow_upd hb)).trans ok s1
        refine hq vs xs w1 H1 m1 bx e1 ok1 q eb fun o hMo hbx => ?_
        have okA : WOk w1 (upd H1 b o) := write_ok ok1 hMo
        exact p (.ref b) (w1.box b) _ (box_step (write_step s0 hb) hb) (box_ok okA nF nI (by rw [upd_same]; exact hMo)) (box_st okA (write_st nF nI hM st1) (hbx (write_keep nF hM))) ⟨⟨b, rfl, box_at st1⟩, trivial⟩
  cases t with
  | false =>
    refine (pe_disp h1 hk hl h0 h15).imp fun σ H Q h => ?_
    intro b hb
    refine main (.dK []) b _ trivial hb h fun vs xs w1 H1 m1 bx e1 ok1 q eb fin => ⟨e1, ?_⟩
    obtain ⟨ps, e2, e3⟩ := Option.bind_eq_some_iff.mp eb
    rw [if_neg (by simp)] at e3
    unfold dispK at e3
    split at e3
    · rename_i hz
      obtain ⟨kvs, e4, rfl⟩ := Option.map_eq_some_iff.mp e3
      obtain ⟨us, f1, f2⟩ := dispK_ok (pairUp_ok q e2) e4
      have hlen : us.length ≤ 15 := by
        have := congrArg List.length f1
        rw [List.length_map] at this
        rw [← this, Paired.length (pairUp_ok q e2)]
        exact hz
      refine ⟨us, f1, hlen, fin _ trivial fun kp => ⟨_, upd_same, merge_pair (F := ValR X.K (w1.box b) (upd H1 b _)) (Paired.mapP f2 fun _ _ z => ⟨z.1, (z.2.keep kp).keep (keep_box b)⟩) .nil⟩⟩
    · cases e3
  | true =>
    refine (pe_dispT hu h1 hk hl h0 h15).imp fun σ H Q h => ?_
    intro b hb
    refine main (.dT []) b _ trivial hb h fun vs xs w1 H1 m1 bx e1 ok1 q eb fin => ⟨e1, ?_⟩
    obtain ⟨ps, e2, e3⟩ := Option.bind_eq_some_iff.mp eb
    rw [if_pos rfl] at e3
    unfold dispT at e3
    split at e3
    · rename_i hz
      obtain ⟨kvs, e4, rfl⟩ := Option.map_eq_some_iff.mp e3
      obtain ⟨us, f1, f3, f2⟩ := dispT_ok (pairUp_ok q e2) e4
      have hlen : us.length ≤ 15 := by
        have := congrArg List.length f1
        rw [List.length_map] at this
        rw [← this, Paired.length (pairUp_ok q e2)]
        exact hz
      refine ⟨us, f1, f3, hlen, ?_⟩
      rw [fold_map]
      exact fin _ trivial fun kp => ⟨_, upd_same, merge_pair (F := ValR X.K (w1.box b) (upd H1 b _)) (Paired.mapP f2 fun _ _ z => ⟨z.1, (z.2.keep kp).keep (keep_box b)⟩) .nil⟩
    · cases e3
end
end Ev
set_option Elab.async false
set_option linter.all false
namespace Ev
open PySem PySem.Spec L2

structure Tbl where
  sig : Str → Nat → List Str → List (Nat ⊕ D) → Bool
  free : Str → Bool
  con : Str → D → Bool

def locB (sc : Scope) (x : Str) : Bool := match sc.names.lookup x with
  | some .local => true
  | some .cell => true
  | _ => false
def visB (sc : Scope) (x : Str) : Bool := match sc.names.lookup x with
  | some .local => true
  | some .cell => true
  | some .free => true
  | _ => false
def glB (sc : Scope) (x : Str) : Bool := match sc.names.lookup x with
  | some .globalImplicit => true
  | _ => false
def okName (x : Str) : Bool := !(x == ("__debug__" : Str)) && !(x == ("__classdict__" : Str))
def conB : D → Const → Bool
  | .none, .none => true
  | .bool b, .bool c => b == c
  | .int i, .int j => decide (i = j)
  | .str x, .str y => decide (x = y)
  | _, _ => false
def opB : BOp → Operator → Bool
  | .add, .Add => true
  | .sub, .Sub => true
  | .mul, .Mult => true
  | .fdiv, .FloorDiv => true
  | .mod, .Mod => true
  | .pow, .Pow => true
  | _, _ => false
def opC : COp → CmpOp → Bool
  | .lt, .Lt => true
  | .le, .LtE => true
  | .gt, .Gt => true
  | .ge, .GtE => true
  | .eq, .Eq => true
  | .ne, .NotEq => true
  | .isN, .Is => true
  | .notN, .IsNot => true
  | .inn, .In => true
  | .notin, .NotIn => true
  | _, _ => false
def notSet : Expr → Bool
  | .Set _ _ _ => false
  | _ => true
def notSlice : Expr → Bool
  | .Slice _ _ _ _ => false
  | _ => true
def sideB : COp → Ex → Bool
  | .isN, .const .none => true
  | .isN, _ => false
  | .notN, .const .none => true
  | .notN, _ => false
  | _, _ => true
def plainT : Expr → Bool
  | .UnaryOp .Not _ _ => false
  | .BoolOp _ _ _ => false
  | .IfExp _ _ _ _ => false
  | .Compare _ _ _ _ => false
  | _ => true
def tyB (sc : Scope) (G : Tbl) (t : String) : Expr → Bool
  | .Name x _ => decide (x = Str.ofString t) && tyNames.contains t && glB sc x && G.free x
  | _ => false
def tysB (sc : Scope) (G : Tbl) : List String → List Expr → Bool
  | [], [] => true
  | t :: ts, e :: es => tyB sc G t e && tysB sc G ts es
  | _, _ => false
def isiB (sc : Scope) (G : Tbl) (ts : List String) : Expr → Bool
  | .Name x p => match ts with
    | [t] => tyB sc G t (.Name x p)
    | _ => false
  | .Tuple es _ _ => tysB sc G ts es
  | _ => false
def isIsi : BFn → Bool
  | .isinst _ => true
  | _ => false

def nam1 : Expr → Option (Str)
  | .Name x _ => some x
  | _ => none
theorem nam1_of {a : Expr} {x : Str} (h : nam1 a = some x) : ∃ p, a = .Name x p := by
  unfold nam1 at h; split at h
  · cases h; exact ⟨_, rfl⟩
  · cases h
def cst1 : Expr → Option (Const)
  | .Constant x _ _ => some x
  | _ => none
theorem cst1_of {a : Expr} {x : Const} (h : cst1 a = some x) : ∃ k p, a = .Constant x k p := by
  unfold cst1 at h; split at h
  · cases h; exact ⟨_, _, rfl⟩
  · cases h
def tup1 : Expr → Option (List Expr)
  | .Tuple x _ _ => some x
  | _ => none
theorem tup1_of {a : Expr} {x : List Expr} (h : tup1 a = some x) : ∃ k p, a = .Tuple x k p := by
  unfold tup1 at h; split at h
  · cases h; exact ⟨_, _, rfl⟩
  · cases h
def lst1 : Expr → Option (List Expr)
  | .List x _ => some x
  | _ => none
theorem lst1_of {a : Expr} {x : List Expr} (h : lst1 a = some x) : ∃ p, a = .List x p := by
  unfold lst1 at h; split at h
  · cases h; exact ⟨_, rfl⟩
  · cases h
def dic1 : Expr → Option (List (Option Expr) × List Expr)
  | .Dict x y _ => some (x, y)
  | _ => none
theorem dic1_of {a : Expr} {x : List (Option Expr)} {y : List Expr} (h : dic1 a = some (x, y)) : ∃ p, a = .Dict x y p := by
  unfold dic1 at h; split at h
  · cases h; exact ⟨_, rfl⟩
  · cases h
def bin1 : Expr → Option (Expr × Operator × Expr)
  | .BinOp x y z _ => some (x, y, z)
  | _ => none
theorem bin1_of {a : Expr} {x : Expr} {y : Operator} {z : Expr} (h : bin1 a = some (x, y, z)) : ∃ p, a = .BinOp x y z p := by
  unfold bin1 at h; split at h
  · cases h; exact ⟨_, rfl⟩
  · cases h
def usub1 : Expr → Option (Expr)
  | .UnaryOp .USub x _ => some x
  | _ => none
theorem usub1_of {a : Expr} {x : Expr} (h : usub1 a = some x) : ∃ p, a = .UnaryOp .USub x p := by
  unfold usub1 at h; split at h
  · cases h; exact ⟨_, rfl⟩
  · cases h
def unot1 : Expr → Option (Expr)
  | .UnaryOp .Not x _ => some x
  | _ => none
theorem unot1_of {a : Expr} {x : Expr} (h : unot1 a = some x) : ∃ p, a = .UnaryOp .Not x p := by
  unfold unot1 at h; split at h
  · cases h; exact ⟨_, rfl⟩
  · cases h
def cmp1 : Expr → Option (Expr × CmpOp × Expr)
  | .Compare x [y] [z] _ => some (x, y, z)
  | _ => none
theorem cmp1_of {a : Expr} {x : Expr} {y : CmpOp} {z : Expr} (h : cmp1 a = some (x, y, z)) : ∃ p, a = .Compare x [y] [z] p := by
  unfold cmp1 at h; split at h
  · cases h; exact ⟨_, rfl⟩
  · cases h
def cmp2 : Expr → Option (Expr × CmpOp × CmpOp × Expr × Expr)
  | .Compare x [y, y2] [z, z2] _ => some (x, y, y2, z, z2)
  | _ => none
theorem cmp2_of {a : Expr} {x : Expr} {y y2 : CmpOp} {z z2 : Expr} (h : cmp2 a = some (x, y, y2, z, z2)) : ∃ p, a = .Compare x [y, y2] [z, z2] p := by
  unfold cmp2 at h; split at h
  · cases h; exact ⟨_, rfl⟩
  · cases h
def and1 : Expr → Option (Expr × Expr × List Expr × Pos)
  | .BoolOp .And (x :: y :: z) p => some (x, y, z, p)
  | _ => none
theorem and1_of {a : Expr} {x y : Expr} {z : List Expr} {p : Pos} (h : and1 a = some (x, y, z, p)) : a = .BoolOp .And (x :: y :: z) p := by
  unfold and1 at h; split at h
  · cases h; exact rfl
  · cases h
def orr1 : Expr → Option (Expr × Expr × List Expr × Pos)
  | .BoolOp .Or (x :: y :: z) p => some (x, y, z, p)
  | _ => none
theorem orr1_of {a : Expr} {x y : Expr} {z : List Expr} {p : Pos} (h : orr1 a = some (x, y, z, p)) : a = .BoolOp .Or (x :: y :: z) p := by
  unfold orr1 at h; split at h
  · cases h; exact rfl
  · cases h
def ife1 : Expr → Option (Expr × Expr × Expr)
  | .IfExp x y z _ => some (x, y, z)
  | _ => none
theorem ife1_of {a : Expr} {x y z : Expr} (h : ife1 a = some (x, y, z)) : ∃ p, a = .IfExp x y z p := by
  unfold ife1 at h; split at h
  · cases h; exact ⟨_, rfl⟩
  · cases h
def sub1 : Expr → Option (Expr × Expr)
  | .Subscript x y _ => some (x, y)
  | _ => none
theorem sub1_of {a : Expr} {x y : Expr} (h : sub1 a = some (x, y)) : ∃ p, a = .Subscript x y p := by
  unfold sub1 at h; split at h
  · cases h; exact ⟨_, rfl⟩
  · cases h
def sli1 : Expr → Option (Expr × Option Expr × Option Expr)
  | .Subscript x (.Slice y z none _) _ => some (x, y, z)
  | _ => none
theorem sli1_of {a : Expr} {x : Expr} {y z : Option Expr} (h : sli1 a = some (x, y, z)) : ∃ p q, a = .Subscript x (.Slice y z none p) q := by
  unfold sli1 at h; split at h
  · cases h; exact ⟨_, _, rfl⟩
  · cases h
def rev1 : Expr → Option Expr
  | .Subscript x (.Slice none none (some (.UnaryOp .USub (.Constant (.int 1) _ _) _)) _) _ => some x
  | _ => none
theorem rev1_of {a x : Expr} (h : rev1 a = some x) : ∃ k p1 p2 p3 p, a = .Subscript x (.Slice none none (some (.UnaryOp .USub (.Constant (.int 1) k p1) p2)) p3) p := by
  unfold rev1 at h; split at h
  · cases h; exact ⟨_, _, _, _, _, rfl⟩
  · cases h
def mtz1 : Expr → Option (Expr × Str × Pos × Pos)
  | .Call (.Attribute o n p) [] [] q => some (o, n, p, q)
  | _ => none
theorem mtz1_of {a o : Expr} {n : Str} {p q : Pos} (h : mtz1 a = some (o, n, p, q)) : a = .Call (.Attribute o n p) [] [] q := by
  unfold mtz1 at h; split at h
  · cases h; rfl
  · cases h
def baseB : Expr → Bool
  | .Call _ [] _ _ => false
  | _ => true
theorem base_of {o : Expr} {n : Str} {env : PySem.Env} {wh : Sem Value} (h : baseB o = true) : attributeBase o n env wh = wh := by
  cases o with
  | Call f as ks p =>
    cases as with
    | nil => cases h
    | cons a as => cases f <;> rfl
  | _ => rfl
def get1 : Expr → Option (Expr × Str × List Expr × Pos × Pos)
  | .Call (.Attribute o n p) as [] q => some (o, n, as, p, q)
  | _ => none
theorem get1_of {a o : Expr} {n : Str} {as : List Expr} {p q : Pos} (h : get1 a = some (o, n, as, p, q)) : a = .Call (.Attribute o n p) as [] q := by
  unfold get1 at h; split at h
  · cases h; rfl
  · cases h
def cal1 : Expr → Option (Str × List Expr × List Keyword)
  | .Call (.Name x _) y z _ => some (x, y, z)
  | _ => none
theorem cal1_of {a : Expr} {x : Str} {y : List Expr} {z : List Keyword} (h : cal1 a = some (x, y, z)) : ∃ p q, a = .Call (.Name x p) y z q := by
  unfold cal1 at h; split at h
  · cases h; exact ⟨_, _, rfl⟩
  · cases h
def kwS : Keyword → Bool
  | ⟨some k, .Constant (.bool b) _ _, _⟩ => decide (k = Str.ofString "strict") && b
  | _ => false
theorem kwS_of {k : Keyword} (h : kwS k = true) : ∃ j p q, k = ⟨some (Str.ofString "strict"), .Constant (.bool true) j p, q⟩ := by
  unfold kwS at h
  split at h
  · simp only [Bool.and_eq_true, decide_eq_true_eq] at h
    obtain ⟨rfl, rfl⟩ := h
    exact ⟨_, _, _, rfl⟩
  · cases h
def lcm1 : Expr → Option (Expr × Expr × Expr × List Expr × Scope)
  | .ListComp e [⟨t, i, ifs, 0⟩] sc _ => some (e, t, i, ifs, sc)
  | _ => none
theorem lcm1_of {a : Expr} {e t i : Expr} {ifs : List Expr} {sc : Scope} (h : lcm1 a = some (e, t, i, ifs, sc)) : ∃ p, a = .ListComp e [⟨t, i, ifs, 0⟩] sc p := by
  unfold lcm1 at h; split at h
  · cases h; exact ⟨_, rfl⟩
  · cases h
def lcm2 : Expr → Option ((Expr × Expr × Expr × List Expr) × (Expr × Expr × List Expr) × Scope)
  | .ListComp e [⟨t, i, ifs, 0⟩, ⟨t1, i1, ifs1, 0⟩] sc _ => some ((e, t, i, ifs), (t1, i1, ifs1), sc)
  | _ => none
theorem lcm2_of {a e t i t1 i1 : Expr} {ifs ifs1 : List Expr} {sc : Scope} (h : lcm2 a = some ((e, t, i, ifs), (t1, i1, ifs1), sc)) : ∃ p, a = .ListComp e [⟨t, i, ifs, 0⟩, ⟨t1, i1, ifs1, 0⟩] sc p := by
  unfold lcm2 at h; split at h
  · cases h; exact ⟨_, rfl⟩
  · cases h
def rgB (sc : Scope) (G : Tbl) (t : Bool) (a : Expr) : Option (List Expr) := match cal1 a with
  | some (x, [z], []) => if decide (x = rgName t) && glB sc x && G.free x then match cal1 z with
    | some (y, as, []) => if decide (y = "range") && glB sc y && G.free y then some as else none
    | _ => none
    else none
  | _ => none
theorem rgB_of {sc : Scope} {G : Tbl} {t : Bool} {a : Expr} {as : List Expr} (h : rgB sc G t a = some as) : ∃ p q p2 q2, a = .Call (.Name (rgName t) p) [.Call (.Name "range" p2) as [] q2] [] q ∧ glB sc (rgName t) = true ∧ G.free (rgName t) = true ∧ glB sc "range" = true ∧ G.free "range" = true := by
  unfold rgB at h; split at h
  · rename_i x z e
    obtain ⟨p, q, rfl⟩ := cal1_of e
    split at h
    · rename_i hh
      simp only [Bool.and_eq_true, decide_eq_true_eq] at hh
      obtain ⟨⟨rfl, h1⟩, h2⟩ := hh
      split at h
      · rename_i y bs e2
        obtain ⟨p2, q2, rfl⟩ := cal1_of e2
        split at h
        · rename_i hh
          simp only [Bool.and_eq_true, decide_eq_true_eq] at hh
          obtain ⟨⟨rfl, h3⟩, h4⟩ := hh
          cases h
          exact ⟨p, q, p2, q2, rfl, h1, h2, h3, h4⟩
        · cases h
      · cases h
    · cases h
  · cases h
def xmB : XFn → List Expr → Bool
  | .pop, as => as.isEmpty
  | _, [_] => true
  | _, _ => false
def altL : List (Option Expr) → List Expr → List Expr
  | some k :: ks, v :: vs => k :: v :: altL ks vs
  | _, _ => []
mutual
def ckE (G : Tbl) (N : List Str) : Scope → Ex → Expr → Bool
  | sc, .var i, a => match nam1 a with
    | some x => decide (N[i]? = some x) && visB sc x && okName x
    | none => false
  | _, .const d, a => match cst1 a with
    | some c => conB d c
    | none => false
  | sc, .glob x d, a => match nam1 a with
    | some y => decide (x = y) && glB sc y && okName y && G.con y d
    | none => false
  | sc, .tup es, a => match tup1 a with
    | some as => ckEs G N sc es as
    | none => false
  | sc, .lst es, a => match lst1 a with
    | some as => ckEs G N sc es as
    | none => false
  | sc, .box e, a => ckE G N sc e a
  | sc, .dbox ks es, a => match dic1 a with
    | some (keys, vals) => keysAre keys ks && decide (vals.length = ks.length) && ckEs G N sc es vals && decide (ks ≠ []) && decide (ks.length ≤ 15)
    | none => false
  | sc, .dnew _, a => match dic1 a with
    | some ([], []) => true
    | _ => false
  | sc, .din n u v, a => match cmp1 a with
    | some (x, op, y) => opC (if n then .notin else .inn) op && notSet y && ckE G N sc u x && ckE G N sc v y
    | none => false
  | sc, .get1 d k, a => match get1 a with
    | some (o, n, [x], p, q) => decide (n = "get") && baseB o && (p.endLine == q.line) && noStar x && ckE G N sc d o && ckE G N sc k x
    | _ => false
  | sc, .get2 d k f, a => match get1 a with
    | some (o, n, [x, y], p, q) => decide (n = "get") && baseB o && (p.endLine == q.line) && noStar x && noStar y && ckE G N sc d o && ckE G N sc k x && ckE G N sc f y
    | _ => false
  | sc, .bin o u v, a => match bin1 a with
    | some (x, op, y) => opB o op && ckE G N sc u x && ckE G N sc v y
    | none => false
  | sc, .neg u, a => match usub1 a with
    | some x => ckE G N sc u x
    | none => false
  | sc, .cmp o u v, a => match cmp1 a with
    | some (x, op, y) => opC o op && sideB o v && notSet y && ckE G N sc u x && ckE G N sc v y
    | none => false
  | sc, .chain o o' u v w, a => match cmp2 a with
    | some (x, op, op', y, z) => opC o op && opC o' op' && sideB o v && sideB o' w && notSet z && ckE G N sc u x && ckE G N sc v y && ckE G N sc w z
    | none => false
  | sc, .and u v, a => match and1 a with
    | some (x, y, rest, pos) => ckE G N sc u x && ckE G N sc v (match rest with
      | [] => y
      | _ => .BoolOp .And (y :: rest) pos)
    | none => false
  | sc, .or u v, a => match orr1 a with
    | some (x, y, rest, pos) => ckE G N sc u x && ckE G N sc v (match rest with
      | [] => y
      | _ => .BoolOp .Or (y :: rest) pos)
    | none => false
  | sc, .not u, a => match unot1 a with
    | some x => ckE G N sc u x
    | none => false
  | sc, .ife t u v, a => match ife1 a with
    | some (c, x, y) => ckT G N sc t c && ckE G N sc u x && ckE G N sc v y
    | none => false
  | sc, .idx u i, a => match sub1 a with
    | some (x, y) => notSlice y && ckE G N sc u x && ckE G N sc i y
    | none => false
  | sc, .slice u lo hi, a => match sli1 a with
    | some (x, l, h) => ckE G N sc u x && ckO G N sc lo l && ckO G N sc hi h
    | none => false
  | sc, .rev u, a => match rev1 a with
    | some x => ckE G N sc u x
    | none => false
  | sc, .m0 f u, a => match mtz1 a with
    | some (x, n, p, q) => decide (n = mfnName f) && baseB x && (p.endLine == q.line) && ckE G N sc u x
    | none => false
  | sc, .call f es ks ws arr, a => match cal1 a with
    | some (x, as, kws) => decide (x = f) && glB sc x && okName x && as.all noStar && decide (kwNames kws = some ks) && G.sig f es.length ks arr && decide (ws.length = ks.length) && ckEs G N sc es as && ckEs G N sc ws (kws.map (·.value))
    | none => false
  | sc, .bfn f e es, a => match cal1 a with
    | some (x, b :: as, []) => decide (x = bfnName f) && glB sc x && G.free x && noStar b && as.all noStar && !isIsi f && ckE G N sc e b && ckEs G N sc es as
    | _ => false
  | sc, .isi ts e, a => match cal1 a with
    | some (x, [b, ty], []) => decide (x = "isinstance") && glB sc x && G.free x && noStar b && decide (ts.length ≤ 20) && isiB sc G ts ty && ckE G N sc e b
    | _ => false
  | sc, .comp elt tg it cond own, a => match lcm1 a with
    | some (e, t, i, ifs, scope) => blkC N sc scope own && ckTg N (locB scope) tg t && (slots tg).all (fun j => (own.map (·.2)).contains j) && notSet i && ckI G N sc it t i && ckC G N (relS scope sc) cond ifs && ckE G N (relS scope sc) elt e
    | none => false
  | sc, .comp2 elt tg it cond tg1 it1 cond1 own, a => match lcm2 a with
    | some ((e, t, i, ifs), (t1, i1, ifs1), scope) => blkC N sc scope own && ckTg N (locB scope) tg t && (slots tg).all (fun j => (own.map (·.2)).contains j) && notSet i && ckI G N sc it t i && ckC G N (relS scope sc) cond ifs &&
      ckTg N (locB scope) tg1 t1 && (slots tg1).all (fun j => (own.map (·.2)).contains j) && notSet i1 && ckI G N (relS scope sc) it1 t1 i1 && ckC G N (relS scope sc) cond1 ifs1 && ckE G N (relS scope sc) elt e
    | none => false
  | _, .bad, _ => true
  | sc, .lrng1 t u, a => match rgB sc G t a with
    | some [x] => noStar x && ckE G N sc u x
    | _ => false
  | sc, .lrng2 t u v, a => match rgB sc G t a with
    | some [x, y] => noStar x && noStar y && ckE G N sc u x && ckE G N sc v y
    | _ => false
  | _, .lzip _ _ _ _, _ => false
  | sc, .xm f o es, a => match get1 a with
    | some (b, n, as, p, q) => decide (n = xfnName f) && baseB b && (p.endLine == q.line) && xmB f as && ckE G N sc o b && ckEs G N sc es as
    | none => false
  | sc, .pm f o u, a => match get1 a with
    | some (b, n, [x], p, q) => decide (n = pfnName f) && baseB b && (p.endLine == q.line) && noStar x && ckE G N sc o b && ckE G N sc u x
    | _ => false
  | sc, .ddis _ es, a => match dic1 a with
    | some (keys, vals) => keys.all (·.isSome) && decide (keys.length = vals.length) && decide (keys ≠ []) && decide (keys.length ≤ 15) && ckEs G N sc es (altL keys vals)
    | none => false
termination_by structural _ x => x
def ckT (G : Tbl) (N : List Str) : Scope → Te → Expr → Bool
  | sc, .val e, a => plainT a && ckE G N sc e a
  | sc, .din n u v, a => match cmp1 a with
    | some (x, op, y) => opC (if n then .notin else .inn) op && notSet y && ckE G N sc u x && ckE G N sc v y
    | none => false
  | sc, .cmp o u v, a => match cmp1 a with
    | some (x, op, y) => opC o op && sideB o v && notSet y && ckE G N sc u x && ckE G N sc v y
    | none => false
  | sc, .chain o o' u v w, a => match cmp2 a with
    | some (x, op, op', y, z) => opC o op && opC o' op' && sideB o v && sideB o' w && notSet z && ckE G N sc u x && ckE G N sc v y && ckE G N sc w z
    | none => false
  | sc, .and u v, a => match and1 a with
    | some (x, y, rest, pos) => ckT G N sc u x && ckT G N sc v (match rest with
      | [] => y
      | _ => .BoolOp .And (y :: rest) pos)
    | none => false
  | sc, .or u v, a => match orr1 a with
    | some (x, y, rest, pos) => ckT G N sc u x && ckT G N sc v (match rest with
      | [] => y
      | _ => .BoolOp .Or (y :: rest) pos)
    | none => false
  | sc, .not u, a => match unot1 a with
    | some x => ckT G N sc u x
    | none => false
  | _, .bad, _ => true
termination_by structural _ x => x
def ckEs (G : Tbl) (N : List Str) : Scope → List Ex → List Expr → Bool
  | _, [], as => as.isEmpty
  | sc, e :: es, as => match as with
    | a :: as => noStar a && ckE G N sc e a && ckEs G N sc es as
    | [] => false
termination_by structural _ x => x
def ckO (G : Tbl) (N : List Str) : Scope → Option Ex → Option Expr → Bool
  | _, none, a => a.isNone
  | sc, some e, a => match a with
    | some a => ckE G N sc e a
    | none => false
termination_by structural _ x => x
def ckC (G : Tbl) (N : List Str) : Scope → Option Te → List Expr → Bool
  | _, none, as => as.isEmpty
  | sc, some t, as => match as with
    | [a] => ckT G N sc t a
    | _ => false
termination_by structural _ x => x
def ckI (G : Tbl) (N : List Str) : Scope → It → Expr → Expr → Bool
  | sc, .rng1 u, _, a => match cal1 a with
    | some (x, [y], []) => decide (x = "range") && glB sc x && G.free x && noStar y && ckE G N sc u y
    | _ => false
  | sc, .rng2 u v, _, a => match cal1 a with
    | some (x, [y, z], []) => decide (x = "range") && glB sc x && G.free x && noStar y && noStar z && ckE G N sc u y && ckE G N sc v z
    | _ => false
  | sc, .seq e, _, a => ckE G N sc e a
  | sc, .enum e, t, a => match tup1 t, cal1 a with
    | some _, some (x, [y], []) => decide (x = "enumerate") && glB sc x && G.free x && noStar y && ckE G N sc e y
    | _, _ => false
  | sc, .zip s u v, t, a => match tup1 t, cal1 a with
    | some _, some (x, [y, z], []) => !s && decide (x = "zip") && glB sc x && G.free x && noStar y && noStar z && ckE G N sc u y && ckE G N sc v z
    | some _, some (x, [y, z], [kw]) => s && kwS kw && decide (x = "zip") && glB sc x && G.free x && noStar y && noStar z && ckE G N sc u y && ckE G N sc v z
    | _, _ => false
termination_by structural _ x => x
end

structure Gd (G : Tbl) (c : Calls) (X : Cx) (E : XK) : Prop where
  calm : X.calm = true
  gd : X.A.guards = some []
  hu : X.A.units + 65 < cLine
  nd : X.N.Nodup
  pass : Passes (CXn X.prog X.w) X E
  call : ∀ f n ks arr, G.sig f n ks arr = true → CallOk X c f n ks arr
  free : ∀ x, G.free x = true → X.mg x = none
  con : ∀ x d, G.con x d = true → ∃ u v, X.mg x = some u ∧ RelV v u ∧ ∀ (w : Wd) (H : Hp), ValR X.K w H v (kval d)
theorem Gd.blk {G : Tbl} {c : Calls} {X : Cx} {E : XK} (g : Gd G c X E) {s : Shared} {H : Hp} {scope : Scope} {cenv : PySem.Env} {fp : List Addr} : Gd G c (X.blk s H scope cenv fp) (fun _ _ _ => False) where
  calm := g.calm
  gd := g.gd
  hu := g.hu
  nd := g.nd
  pass := fun _ _ _ _ _ _ _ h => by
    obtain ⟨_, _, _, _, _, _, _, _, _, _, _, _, z⟩ := h
    exact z.elim
  call := fun f n ks arr h => ⟨(g.call f n ks arr h).ex⟩
  free := g.free
  con := g.con

section
variable {sc : Scope} {x : Str} {X : Cx}
theorem vis_of (h : visB X.env.scope x = true) : Vis X.env.scope x := by
  unfold visB at h
  unfold Vis
  split at h
  · exact .inl (by assumption)
  · exact .inr (.inl (by assumption))
  · exact .inr (.inr (by assumption))
  · cases h
theorem gl_of (h : glB X.env.scope x = true) : Gl X x := by
  unfold glB at h
  split at h
  · assumption
  · cases h
theorem okName_of (h : okName x = true) : (x == ("__debug__" : Str)) = false ∧ (x == ("__classdict__" : Str)) = false := by
  unfold okName at h
  rw [Bool.and_eq_true] at h
  refine ⟨?_, ?_⟩
  · cases q : (x == ("__debug__" : Str)) with
    | false => rfl
    | true => rw [q] at h; exact absurd h.1 (by simp)
  · cases q : (x == ("__classdict__" : Str)) with
    | false => rfl
    | true => rw [q] at h; exact absurd h.2 (by simp)
theorem opB_of {o : BOp} {op : Operator} (h : opB o op = true) : op = astB o := by
  cases o <;> cases op <;> first | rfl | cases h
theorem opC_of {o : COp} {op : CmpOp} (h : opC o op = true) : op = astC o := by
  cases o <;> cases op <;> first | rfl | cases h
theorem marks_of {op : CmpOp} {e : Expr} (h : notSet e = true) : behindInMarks op e = false := by
  cases e <;> first | rfl | cases h
theorem folded_of {e : Expr} {env : PySem.Env} (h : notSet e = true) : ∀ v, foldedSetIterable e env v = pure v := by
  intro v
  cases e <;> first | rfl | cases h
theorem plainIx_of {e : Expr} (h : notSlice e = true) : PlainIx e := by
  intro o i
  cases e <;> first | rfl | cases h
theorem plainT_of {e : Expr} {env : PySem.Env} (h : plainT e = true) : ∀ whole, isTrue e env whole = (do let v ← whole; standAt e.pos; holding [v] (truthy v)) := by
  intro whole
  cases e with
  | UnaryOp op a p => cases op <;> first | rfl | cases h
  | BoolOp _ _ _ => cases h
  | IfExp _ _ _ _ => cases h
  | Compare _ _ _ _ => cases h
  | _ => rfl
theorem side_ok {c : Calls} {o : COp} {b : Ex} (h : sideB o b = true) : sideOk o (evE c b) := by
  cases o with
  | isN =>
    cases b with
    | const d =>
      cases d with
      | none => intro r m; simp only [evE]
      | _ => cases h
    | _ => cases h
  | notN =>
    cases b with
    | const d =>
      cases d with
      | none => intro r m; simp only [evE]
      | _ => cases h
    | _ => cases h
  | _ => trivial
theorem may_fn {scope : Scope} {s : Shared} {H : Hp} {C : Addr} {cl : List (Str × Addr)} {fp : List Addr} : MayOk (X.blk s H scope (compEnvC scope cl C X.env) fp) (locB scope) := by
  intro x h
  unfold locB at h
  split at h
  · rename_i q
    have e : (relS scope X.env.scope).names.lookup x = some .local := lookup_relS_keep (by simp) q
    exact ⟨.inl e, .inr e⟩
  · rename_i q
    have e : (relS scope X.env.scope).names.lookup x = some .cell := lookup_relS_keep (by simp) q
    refine ⟨.inr e, .inl ?_⟩
    show (scope.names.lookup x == some .cell) = true
    rw [q]
    rfl
  · cases h
theorem ty_of_b {G : Tbl} {c : Calls} {E : XK} (g : Gd G c X E) {t : String} {e : Expr} (h : tyB X.env.scope G t e = true) : (∃ p, e = .Name (Str.ofString t) p) ∧ t ∈ tyNames ∧ Gl X (Str.ofString t) ∧ X.mg (Str.ofString t) = none := by
  cases e with
  | Name x p =>
    simp only [tyB, Bool.and_eq_true, decide_eq_true_eq] at h
    obtain ⟨⟨⟨rfl, h2⟩, h3⟩, h4⟩ := h
    exact ⟨⟨p, rfl⟩, by simpa using h2, gl_of h3, g.free _ h4⟩
  | _ => cases h
theorem tys_of_b {G : Tbl} {c : Calls} {E : XK} (g : Gd G c X E) : ∀ {ts : List String} {es : List Expr}, tysB X.env.scope G ts es = true →
    Paired (fun (e : Expr) (t : String) => ∃ p, e = .Name (Str.ofString t) p) es ts ∧ (∀ t ∈ ts, t ∈ tyNames) ∧ ∀ t ∈ ts, Gl X (Str.ofString t) ∧ X.mg (Str.ofString t) = none
  | [], [], _ => ⟨.nil, by simp, by simp⟩
  | t :: ts, e :: es, h => by
    simp only [tysB, Bool.and_eq_true] at h
    obtain ⟨a1, a2, a3⟩ := ty_of_b g h.1
    obtain ⟨b1, b2, b3⟩ := tys_of_b g h.2
    refine ⟨.cons a1 b1, fun x hx => ?_, fun x hx => ?_⟩
    · rcases List.mem_cons.mp hx with rfl | hx
      · exact a2
      · exact b2 x hx
    · rcases List.mem_cons.mp hx with rfl | hx
      · exact a3
      · exact b3 x hx
  | [], _ :: _, h => by cases h
  | _ :: _, [], h => by cases h
end
end Ev
set_option Elab.async false
set_option linter.all false
set_option maxHeartbeats 4000000
namespace Ev
open PySem PySem.Spec L2

theorem len_vs {c : Calls} : ∀ {es : List Ex} {r : Env} {m : Store} {ys : List Val} {m1 : Store}, evVs c es r m = .ok ys m1 → ys.length = es.length
  | [], r, m, ys, m1, e => by
    simp only [evVs] at e
    cases e
    rfl
  | a :: es, r, m, ys, m1, e => by
    simp only [evVs] at e
    obtain ⟨t, m2, _, e⟩ := bind_ok e
    obtain ⟨x, m3, _, e⟩ := bind_ok e
    obtain ⟨xs, m4, e4, e⟩ := bind_ok e
    cases e
    exact congrArg (· + 1) (len_vs e4)
theorem keys_ok {X : Cx} {E : XK} {pos : Pos} : ∀ {keys : List (Option Expr)} {ks : List Str}, keysAre keys ks = true → keys.all (·.isSome) = true ∧ keys.length = ks.length
  | [], [], _ => ⟨rfl, rfl⟩
  | some (.Constant (.str k) _ _) :: r, x :: xs, h => by
    simp only [keysAre, Bool.and_eq_true] at h
    obtain ⟨h1, h2⟩ := keys_ok (X := X) (E := E) (pos := pos) h.2
    exact ⟨by simp [h1], by simp [h2]⟩
theorem constPE {X : Cx} {d : D} {c : Const} {k : Nat} {pos : Pos} (h : conB d c = true) : ∃ v, PE X (.Constant c k pos) (tC v) ∧ ∀ (w : Wd) (H : Hp), Den X.K w H v d := by
  cases d <;> cases c <;> first
    | exact ⟨.non, pe_non, fun _ _ => .non⟩
    | (have e := eq_of_beq h; subst e; exact ⟨.bl _, pe_bl, fun _ _ => .bl _⟩)
    | (have e := of_decide_eq_true h; subst e; exact ⟨.int _, pe_int, fun _ _ => .int _⟩)
    | (have e := of_decide_eq_true h; subst e; exact ⟨.str _, pe_str, fun _ _ => .str _⟩)
    | (exfalso; have h2 : false = true := h; cases h2)

theorem oneW {X : Cx} {E : XK} {y : Expr} {pos : Pos} {f : FE Bool} (h : PT X y (TXb X E f)) : PW X (.BoolOp .And [y] pos) (TXb X E f) := pw_and1 h
theorem oneWo {X : Cx} {E : XK} {y : Expr} {pos : Pos} {f : FE Bool} (h : PT X y (TXb X E f)) : PW X (.BoolOp .Or [y] pos) (TXb X E f) := pw_or1 h

mutual
theorem sE {G : Tbl} {c : Calls} : ∀ (e : Ex) {X : Cx} {E : XK} {a : Expr}, Gd G c X E → ckE G X.N X.env.scope e a = true → PE X a (TX X E (evE c e))
  | .var i, X, E, a, g, h => by
    simp only [ckE] at h
    split at h
    · rename_i x q
      obtain ⟨p, rfl⟩ := nam1_of q
      simp only [Bool.and_eq_true, decide_eq_true_eq] at h
      exact s_var h.1.1 (vis_of h.1.2) (okName_of h.2).1 (okName_of h.2).2
    · cases h
  | .const d, X, E, a, g, h => by
    simp only [ckE] at h
    split at h
    · rename_i k q
      obtain ⟨k0, p, rfl⟩ := cst1_of q
      obtain ⟨v, h1, h2⟩ := constPE h
      exact s_const h1 h2
    · cases h
  | .glob x d, X, E, a, g, h => by
    simp only [ckE] at h
    split at h
    · rename_i y q
      obtain ⟨p, rfl⟩ := nam1_of q
      simp only [Bool.and_eq_true, decide_eq_true_eq] at h
      obtain ⟨u, v, h1, h2, h3⟩ := g.con y d h.2
      exact s_const (pe_glob (gl_of h.1.1.2) h1 h2 (okName_of h.1.2).1) h3
    · cases h
  | .tup es, X, E, a, g, h => by
    simp only [ckE] at h
    split at h
    · rename_i as q
      obtain ⟨k0, p, rfl⟩ := tup1_of q
      exact s_tup (sDs es g h)
    · cases h
  | .lst es, X, E, a, g, h => by
    simp only [ckE] at h
    split at h
    · rename_i as q
      obtain ⟨p, rfl⟩ := lst1_of q
      exact s_lst (sDs es g h)
    · cases h
  | .box e, X, E, a, g, h => by
    have h : ckE G X.N X.env.scope e a = true := by simpa only [ckE] using h
    exact s_box (sE e g h)
  | .dbox ks es, X, E, a, g, h => by
    simp only [ckE] at h
    split at h
    · rename_i keys vals q
      obtain ⟨p, rfl⟩ := dic1_of q
      simp only [Bool.and_eq_true, decide_eq_true_eq] at h
      obtain ⟨k1, k2⟩ := keys_ok (X := X) (E := E) (pos := ⟨0, 0, 0, 0⟩) h.1.1.1.1
      have hk0 : keys ≠ [] := fun z => by subst z; exact h.1.2 (List.length_eq_zero_iff.mp k2.symm)
      have hl : keys.length = vals.length := k2.trans h.1.1.1.2.symm
      exact s_dbox (sDp es g h.1.1.1.1 h.1.1.2 hl) k1 hl hk0 (by rw [k2]; exact h.2) h.2
    · cases h
  | .dnew t, X, E, a, g, h => by
    simp only [ckE] at h
    split at h
    · rename_i q
      obtain ⟨p, rfl⟩ := dic1_of q
      exact s_dnew
    · cases h
  | .din n u v, X, E, a, g, h => by
    simp only [ckE] at h
    split at h
    · rename_i x op y q
      obtain ⟨p, rfl⟩ := cmp1_of q
      simp only [Bool.and_eq_true] at h
      have e : op = if n then .NotIn else .In := by
        have := opC_of h.1.1.1
        cases n <;> exact this
      subst e
      exact s_din (Nat.lt_of_le_of_lt (by omega) g.hu) (sE u g h.1.2) (sE v g h.2) (marks_of h.1.1.2)
    · cases h
  | .get1 d k, X, E, a, g, h => by
    simp only [ckE] at h
    split at h
    · rename_i o n x p q e
      cases get1_of e
      simp only [Bool.and_eq_true, decide_eq_true_eq] at h
      obtain ⟨⟨⟨⟨⟨rfl, h1⟩, h2⟩, h3⟩, h4⟩, h5⟩ := h
      exact s_get1 (Nat.lt_of_le_of_lt (by omega) g.hu) (sE d g h4) (sE k g h5) ⟨base_of h1, by rw [star_of h3]; rfl, h2, by rw [star_of h3]; rfl⟩
    · cases h
  | .get2 d k f, X, E, a, g, h => by
    simp only [ckE] at h
    split at h
    · rename_i o n x y p q e
      cases get1_of e
      simp only [Bool.and_eq_true, decide_eq_true_eq] at h
      obtain ⟨⟨⟨⟨⟨⟨⟨rfl, h1⟩, h2⟩, h3⟩, h3'⟩, h4⟩, h5⟩, h6⟩ := h
      exact s_get2 (Nat.lt_of_le_of_lt (by omega) g.hu) (sE d g h4) (sE k g h5) (sE f g h6) ⟨base_of h1, by rw [star_of h3, star_of h3']; rfl, h2, by rw [star_of h3, star_of h3']; rfl⟩
    · cases h
  | .bin o a b, X, E, z, g, h => by
    simp only [ckE] at h
    split at h
    · rename_i x op y q
      obtain ⟨p, rfl⟩ := bin1_of q
      simp only [Bool.and_eq_true] at h
      have e := opB_of h.1.1
      subst e
      exact s_bin (sE a g h.1.2) (sE b g h.2)
    · cases h
  | .neg a, X, E, z, g, h => by
    simp only [ckE] at h
    split at h
    · rename_i x q
      obtain ⟨p, rfl⟩ := usub1_of q
      exact s_neg (sE a g h)
    · cases h
  | .cmp o a b, X, E, z, g, h => by
    simp only [ckE] at h
    split at h
    · rename_i x op y q
      obtain ⟨p, rfl⟩ := cmp1_of q
      simp only [Bool.and_eq_true] at h
      have e := opC_of h.1.1.1.1
      subst e
      exact s_cmp g.hu (side_ok h.1.1.1.2) (marks_of h.1.1.2) (sE a g h.1.2) (sE b g h.2)
    · cases h
  | .chain o o' a b z, X, E, zz, g, h => by
    simp only [ckE] at h
    split at h
    · rename_i x op op' y u q
      obtain ⟨p, rfl⟩ := cmp2_of q
      simp only [Bool.and_eq_true] at h
      obtain ⟨⟨⟨⟨⟨⟨⟨h1, h2⟩, h3⟩, h4⟩, h5⟩, h6⟩, h7⟩, h8⟩ := h
      have e := opC_of h1
      subst e
      have e := opC_of h2
      subst e
      exact s_chain g.hu (side_ok h3) (side_ok h4) (marks_of h5) (sE a g h6) (sE b g h7) (sE z g h8)
    · cases h
  | .and a b, X, E, z, g, h => by
    simp only [ckE] at h
    split at h
    · rename_i x y rest pos q
      cases and1_of q
      simp only [Bool.and_eq_true] at h
      refine s_and (sE a g h.1) ?_
      cases rest with
      | nil => exact pe_one (sE b g h.2)
      | cons z rest => exact sE b g h.2
    · cases h
  | .or a b, X, E, z, g, h => by
    simp only [ckE] at h
    split at h
    · rename_i x y rest pos q
      cases orr1_of q
      simp only [Bool.and_eq_true] at h
      refine s_or (sE a g h.1) ?_
      cases rest with
      | nil => exact pe_one (sE b g h.2)
      | cons z rest => exact sE b g h.2
    · cases h
  | .not a, X, E, z, g, h => by
    simp only [ckE] at h
    split at h
    · rename_i x q
      obtain ⟨p, rfl⟩ := unot1_of q
      exact s_not (sE a g h)
    · cases h
  | .ife t a b, X, E, z, g, h => by
    simp only [ckE] at h
    split at h
    · rename_i k x y q
      obtain ⟨p, rfl⟩ := ife1_of q
      simp only [Bool.and_eq_true] at h
      exact s_ife (sT t g h.1.1).1 (sE a g h.1.2) (sE b g h.2)
    · cases h
  | .idx a i, X, E, z, g, h => by
    simp only [ckE] at h
    split at h
    · rename_i x y q
      obtain ⟨p, rfl⟩ := sub1_of q
      simp only [Bool.and_eq_true] at h
      have := g.hu
      exact s_idx (by omega) (plainIx_of h.1.1) (sE a g h.1.2) (sE i g h.2)
    · cases h
  | .slice a lo hi, X, E, z, g, h => by
    simp only [ckE] at h
    split at h
    · rename_i x l u q
      obtain ⟨p, p2, rfl⟩ := sli1_of q
      simp only [Bool.and_eq_true] at h
      exact s_slice (sE a g h.1.1) (sO lo g h.1.2) (sO hi g h.2)
    · cases h
  | .rev u, X, E, z, g, h => by
    simp only [ckE] at h
    split at h
    · rename_i x q
      obtain ⟨k, p1, p2, p3, p, rfl⟩ := rev1_of q
      exact s_rev (sE u g h)
    · cases h
  | .m0 f u, X, E, z, g, h => by
    simp only [ckE] at h
    split at h
    · rename_i x n p1 p2 q
      cases mtz1_of q
      simp only [Bool.and_eq_true, decide_eq_true_eq] at h
      obtain ⟨⟨⟨rfl, h2⟩, h3⟩, h4⟩ := h
      exact s_m0 (sE u g h4) (fun _ => base_of h2) h3
    · cases h
  | .call f es ks ws arr, X, E, z, g, h => by
    simp only [ckE] at h
    split at h
    · rename_i x as kws q
      obtain ⟨p, p2, rfl⟩ := cal1_of q
      simp only [Bool.and_eq_true, decide_eq_true_eq] at h
      obtain ⟨⟨⟨⟨⟨⟨⟨⟨rfl, h2⟩, h3⟩, h4⟩, h5⟩, h6⟩, h7⟩, h8⟩, h9⟩ := h
      refine s_call (g.call x es.length ks arr h6) g.gd g.pass (gl_of h2) (okName_of h3).1 h4 h5 (fun r m ys m1 e => len_vs e) (fun r m ys m1 e => (len_vs e).trans h7) ?_ (sVs es g h8) (sKs ws g h9)
      intro e
      subst e
      cases es with
      | nil => funext r m; simp only [evVs]
      | cons e es => have h9 : false = true := h8; cases h9
    · cases h
  | .bfn f e es, X, E, z, g, h => by
    simp only [ckE] at h
    split at h
    · rename_i x a as q
      obtain ⟨p, p2, rfl⟩ := cal1_of q
      simp only [Bool.and_eq_true, decide_eq_true_eq] at h
      obtain ⟨⟨⟨⟨⟨⟨⟨rfl, h2⟩, h3⟩, h4⟩, h5⟩, h6⟩, h7⟩, h8⟩ := h
      have hl : PA X (a :: as) (TXt X E fun r m => (evE c e r m).bind fun x m => (evTs c es r m).bind fun xs m => .ok (x :: xs) m) := cons_t h4 (sE e g h7) (sTs es g h8)
      refine s_bfn (fun l z => ?_) g.calm g.gd g.hu (gl_of h2) (g.free _ h3) (by rw [List.all_cons, h4, h5]; rfl) hl
      subst z
      cases h6
    · cases h
  | .isi ts e, X, E, z, g, h => by
    simp only [ckE] at h
    split at h
    · rename_i x a ty q
      obtain ⟨p, p2, rfl⟩ := cal1_of q
      simp only [Bool.and_eq_true, decide_eq_true_eq] at h
      obtain ⟨⟨⟨⟨⟨⟨rfl, h2⟩, h3⟩, h4⟩, h5⟩, h6⟩, h7⟩ := h
      have ha := sE e g h7
      have hm := g.free _ h3
      cases ty with
      | Name y p =>
        simp only [isiB] at h6
        split at h6
        · rename_i t
          obtain ⟨⟨p', e'⟩, a2, a3⟩ := ty_of_b g h6
          exact s_isi h5 (by simpa using a2) (gl_of h2) hm (by simpa using a3) h4 (.inl ⟨t, p', rfl, e'⟩) ha
        · cases h6
      | Tuple es k p =>
        simp only [isiB] at h6
        obtain ⟨b1, b2, b3⟩ := tys_of_b g h6
        exact s_isi h5 b2 (gl_of h2) hm b3 h4 (.inr ⟨es, k, p, rfl, b1⟩) ha
      | _ => cases h6
    · cases h
  | .comp elt tg it cond own, X, E, z, g, h => by
    simp only [ckE] at h
    split at h
    · rename_i e t i ifs scope q
      obtain ⟨p, rfl⟩ := lcm1_of q
      simp only [Bool.and_eq_true] at h
      obtain ⟨⟨⟨⟨⟨⟨h1, h2⟩, h3⟩, h4⟩, h5⟩, h6⟩, h7⟩ := h
      refine (s_comp g.calm g.nd (sI it g h5) (blkOk_by h1) (folded_of h4) (fun j hj => ?_) (fun s H C cl fp => ?_) (fun s H C cl fp => ?_) fun s H C cl fp => ?_).1
      · simpa using List.all_eq_true.mp h3 j hj
      · exact tg_ok (X := X.blk s H scope (compEnvC scope cl C X.env) fp) g.calm g.nd may_fn h2
      · exact sC cond (X := X.blk s H scope (compEnvC scope cl C X.env) fp) g.blk h6
      · exact sE elt (X := X.blk s H scope (compEnvC scope cl C X.env) fp) g.blk h7
    · cases h
  | .comp2 elt tg it cond tg1 it1 cond1 own, X, E, z, g, h => by
    simp only [ckE] at h
    split at h
    · rename_i e t i ifs t1 i1 ifs1 scope q
      obtain ⟨p, rfl⟩ := lcm2_of q
      simp only [Bool.and_eq_true] at h
      obtain ⟨⟨⟨⟨⟨⟨⟨⟨⟨⟨⟨h1, h2⟩, h3⟩, h4⟩, h5⟩, h6⟩, h7⟩, h8⟩, h9⟩, h10⟩, h11⟩, h12⟩ := h
      refine s_comp2 g.calm g.nd (sI it g h5) (blkOk_by h1) (folded_of h4) (fun env => folded_of h9) (fun j hj => ?_) (fun j hj => ?_) (fun s H C cl fp => ?_) (fun s H C cl fp => ?_) (fun s H C cl fp => ?_) (fun s H C cl fp => ?_) (fun s H C cl fp => ?_) fun s H C cl fp => ?_
      · simpa using List.all_eq_true.mp h3 j hj
      · simpa using List.all_eq_true.mp h8 j hj
      · exact tg_ok (X := X.blk s H scope (compEnvC scope cl C X.env) fp) g.calm g.nd may_fn h2
      · exact sC cond (X := X.blk s H scope (compEnvC scope cl C X.env) fp) g.blk h6
      · exact sI it1 (X := X.blk s H scope (compEnvC scope cl C X.env) fp) g.blk h10
      · exact tg_ok (X := X.blk s H scope (compEnvC scope cl C X.env) fp) g.calm g.nd may_fn h7
      · exact sC cond1 (X := X.blk s H scope (compEnvC scope cl C X.env) fp) g.blk h11
      · exact sE elt (X := X.blk s H scope (compEnvC scope cl C X.env) fp) g.blk h12
    · cases h
  | .bad, X, E, z, g, h => by
    show PE X z (TX X E fun r m => evE c .bad r m)
    simp only [evE]
    exact s_bad
  | .lrng1 t u, X, E, z, g, h => by
    simp only [ckE] at h
    split at h
    · rename_i x q
      obtain ⟨p, q1, p2, q2, rfl, a1, a2, a3, a4⟩ := rgB_of q
      rw [Bool.and_eq_true] at h
      exact s_lrng1 g.calm (gl_of a1) (g.free _ a2) (gl_of a3) (g.free _ a4) h.1 (sE u g h.2)
    · cases h
  | .lrng2 t u v, X, E, z, g, h => by
    simp only [ckE] at h
    split at h
    · rename_i x y q
      obtain ⟨p, q1, p2, q2, rfl, a1, a2, a3, a4⟩ := rgB_of q
      simp only [Bool.and_eq_true] at h
      exact s_lrng2 g.calm (gl_of a1) (g.free _ a2) (gl_of a3) (g.free _ a4) h.1.1.1 h.1.1.2 (sE u g h.1.2) (sE v g h.2)
    · cases h
  | .lzip _ _ _ _, X, E, z, g, h => by
    simp only [ckE] at h
    cases h
  | .xm f o es, X, E, z, g, h => by
    simp only [ckE] at h
    split at h
    · rename_i b n as p q e
      cases get1_of e
      simp only [Bool.and_eq_true, decide_eq_true_eq] at h
      obtain ⟨⟨⟨⟨⟨rfl, h1⟩, h2⟩, h3⟩, h4⟩, h5⟩ := h
      refine s_xm ?_ (sE o g h4) (sVs es g h5) (fun _ => base_of h1) h2
      have one : ∀ {f : XFn} {as : List Expr} {es : List Ex}, (xfnName f ≠ "pop" ∨ f = .popAt) → xmB f as = true → ckEs G X.N X.env.scope es as = true → ∃ a, as = [a] ∧ noStar a = true ∧ (xfnName f ≠ "pop" ∨ f = .popAt) := fun {f as es} hn hx hc => by
        match f, as, es, hx, hc with
        | .popAt, [a], e :: es, _, hc =>
          simp only [ckEs, Bool.and_eq_true] at hc
          exact ⟨a, rfl, hc.1.1, hn⟩
        | .append, [a], e :: es, _, hc =>
          simp only [ckEs, Bool.and_eq_true] at hc
          exact ⟨a, rfl, hc.1.1, hn⟩
        | .extend, [a], e :: es, _, hc =>
          simp only [ckEs, Bool.and_eq_true] at hc
          exact ⟨a, rfl, hc.1.1, hn⟩
        | .pop, _, _, _, _ => rcases hn with hn | hn
                              · exact absurd rfl hn
                              · cases hn
        | _, [a], [], _, hc => exact absurd (show false = true from hc) (by simp)
      cases f with
      | pop =>
        cases as with
        | cons a as => exact absurd (show false = true from h3) (by simp)
        | nil =>
          cases es with
          | cons e es => exact absurd (show false = true from h5) (by simp)
          | nil => exact .inl ⟨rfl, rfl, by funext r m; simp only [evVs]⟩
      | popAt => exact .inr (one (.inr rfl) h3 h5)
      | append => exact .inr (one (.inl (by decide)) h3 h5)
      | extend => exact .inr (one (.inl (by decide)) h3 h5)
    · cases h
  | .pm f o u, X, E, z, g, h => by
    simp only [ckE] at h
    split at h
    · rename_i b n x p q e
      cases get1_of e
      simp only [Bool.and_eq_true, decide_eq_true_eq] at h
      obtain ⟨⟨⟨⟨⟨rfl, h1⟩, h2⟩, h3⟩, h4⟩, h5⟩ := h
      exact s_pm g.hu (sE o g h4) (sE u g h5) h3 (fun _ => base_of h1) h2
    · cases h
  | .ddis t es, X, E, z, g, h => by
    simp only [ckE] at h
    split at h
    · rename_i keys vals q
      obtain ⟨p, rfl⟩ := dic1_of q
      simp only [Bool.and_eq_true, decide_eq_true_eq] at h
      obtain ⟨⟨⟨⟨h1, h2⟩, h3⟩, h4⟩, h5⟩ := h
      exact s_ddis (Nat.lt_of_le_of_lt (by omega) g.hu) (sDp2 es g h1 h2 h5) h1 h2 h3 h4
    · cases h
termination_by structural x => x
theorem sDp2 {G : Tbl} {c : Calls} : ∀ (es : List Ex) {X : Cx} {E : XK} {pos : Pos} {keys : List (Option Expr)} {vals : List Expr}, Gd G c X E → keys.all (·.isSome) = true → keys.length = vals.length → ckEs G X.N X.env.scope es (altL keys vals) = true →
    DPs2 X E pos keys vals (evVs c es)
  | [], X, E, pos, [], [], g, h1, h2, h3 => dp2_nil
  | k :: e :: es, X, E, pos, some a :: keys, b :: vals, g, h1, h2, h3 => by
    simp only [altL, ckEs, Bool.and_eq_true] at h3
    exact dp2_cons (sE k g h3.1.2) (sE e g h3.2.1.2) (sDp2 es g (by simpa using h1) (by simpa using h2) h3.2.2)
  | [], X, E, pos, some a :: keys, b :: vals, g, h1, h2, h3 => by have h9 : false = true := h3; cases h9
  | [_], X, E, pos, some a :: keys, b :: vals, g, h1, h2, h3 => by
    simp only [altL, ckEs, Bool.and_eq_true] at h3
    have h9 : false = true := h3.2
    cases h9
  | _ :: _, X, E, pos, [], [], g, h1, h2, h3 => by have h9 : false = true := h3; cases h9
  | _, X, E, pos, none :: _, _, g, h1, h2, h3 => by simp at h1
  | _, X, E, pos, [], _ :: _, g, h1, h2, h3 => by simp at h2
  | _, X, E, pos, _ :: _, [], g, h1, h2, h3 => by simp at h2
termination_by structural x => x
theorem sT {G : Tbl} {c : Calls} : ∀ (t : Te) {X : Cx} {E : XK} {a : Expr}, Gd G c X E → ckT G X.N X.env.scope t a = true → PT X a (TXb X E (evT c t)) ∧ ∀ op vs pos, a = .BoolOp op vs pos → PW X a (TXb X E (evT c t))
  | .val e, X, E, a, g, h => by
    have h : (plainT a && ckE G X.N X.env.scope e a) = true := by simpa only [ckT] using h
    rw [Bool.and_eq_true] at h
    refine ⟨t_val (sE e g h.2) (plainT_of h.1), fun op vs pos e => ?_⟩
    subst e
    exact absurd h.1 (by simp [plainT])
  | .din n u v, X, E, a, g, h => by
    simp only [ckT] at h
    split at h
    · rename_i x op y q
      obtain ⟨p, rfl⟩ := cmp1_of q
      simp only [Bool.and_eq_true] at h
      have e : op = if n then .NotIn else .In := by
        have := opC_of h.1.1.1
        cases n <;> exact this
      subst e
      exact ⟨t_din (Nat.lt_of_le_of_lt (by omega) g.hu) (sE u g h.1.2) (sE v g h.2) (marks_of h.1.1.2), fun op vs pos e => by cases e⟩
    · cases h
  | .cmp o a b, X, E, z, g, h => by
    simp only [ckT] at h
    split at h
    · rename_i x op y q
      obtain ⟨p, rfl⟩ := cmp1_of q
      simp only [Bool.and_eq_true] at h
      have e := opC_of h.1.1.1.1
      subst e
      exact ⟨t_cmp g.hu (side_ok h.1.1.1.2) (marks_of h.1.1.2) (sE a g h.1.2) (sE b g h.2), fun _ _ _ e => by cases e⟩
    · cases h
  | .chain o o' a b z, X, E, zz, g, h => by
    simp only [ckT] at h
    split at h
    · rename_i x op op' y u q
      obtain ⟨p, rfl⟩ := cmp2_of q
      simp only [Bool.and_eq_true] at h
      obtain ⟨⟨⟨⟨⟨⟨⟨h1, h2⟩, h3⟩, h4⟩, h5⟩, h6⟩, h7⟩, h8⟩ := h
      have e := opC_of h1
      subst e
      have e := opC_of h2
      subst e
      exact ⟨t_chain g.hu (side_ok h3) (side_ok h4) (marks_of h5) (sE a g h6) (sE b g h7) (sE z g h8), fun _ _ _ e => by cases e⟩
    · cases h
  | .and a b, X, E, z, g, h => by
    simp only [ckT] at h
    split at h
    · rename_i x y rest pos q
      cases and1_of q
      simp only [Bool.and_eq_true] at h
      have h1 := (sT a g h.1).1
      have h2 : PW X (.BoolOp .And (y :: rest) pos) (TXb X E (evT c b)) := by
        cases rest with
        | nil => exact oneW (sT b g h.2).1
        | cons z rest => exact (sT b g h.2).2 _ _ _ rfl
      have h3 := t_and h1 h2
      exact ⟨h3.pt, fun _ _ _ _ => h3⟩
    · cases h
  | .or a b, X, E, z, g, h => by
    simp only [ckT] at h
    split at h
    · rename_i x y rest pos q
      cases orr1_of q
      simp only [Bool.and_eq_true] at h
      have h1 := (sT a g h.1).1
      have h2 : PW X (.BoolOp .Or (y :: rest) pos) (TXb X E (evT c b)) := by
        cases rest with
        | nil => exact oneWo (sT b g h.2).1
        | cons z rest => exact (sT b g h.2).2 _ _ _ rfl
      have h3 := t_or h1 h2
      exact ⟨h3.pt, fun _ _ _ _ => h3⟩
    · cases h
  | .not a, X, E, z, g, h => by
    simp only [ckT] at h
    split at h
    · rename_i x q
      obtain ⟨p, rfl⟩ := unot1_of q
      exact ⟨t_not (sT a g h).1, fun _ _ _ e => by cases e⟩
    · cases h
  | .bad, X, E, a, g, h => by
    show PT X a (TXb X E fun r m => evT c .bad r m) ∧ ∀ op vs pos, a = .BoolOp op vs pos → PW X a (TXb X E fun r m => evT c .bad r m)
    simp only [evT]
    exact ⟨t_bad, fun _ _ _ _ => w_bad⟩
termination_by structural x => x
theorem sVs {G : Tbl} {c : Calls} : ∀ (es : List Ex) {X : Cx} {E : XK} {as : List Expr}, Gd G c X E → ckEs G X.N X.env.scope es as = true → PA X as (TXv X E (evVs c es))
  | [], X, E, [], g, h => nil_v
  | e :: es, X, E, a :: as, g, h => by
    simp only [ckEs, Bool.and_eq_true] at h
    exact cons_v h.1.1 (sE e g h.1.2) (sVs es g h.2)
  | [], X, E, _ :: _, g, h => by have h9 : false = true := h; cases h9
  | _ :: _, X, E, [], g, h => by have h9 : false = true := h; cases h9
termination_by structural x => x
theorem sDs {G : Tbl} {c : Calls} : ∀ (es : List Ex) {X : Cx} {E : XK} {as : List Expr}, Gd G c X E → ckEs G X.N X.env.scope es as = true → PA X as (TXd X E (evDs c es))
  | [], X, E, [], g, h => nil_d
  | e :: es, X, E, a :: as, g, h => by
    simp only [ckEs, Bool.and_eq_true] at h
    exact cons_d h.1.1 (sE e g h.1.2) (sDs es g h.2)
  | [], X, E, _ :: _, g, h => by have h9 : false = true := h; cases h9
  | _ :: _, X, E, [], g, h => by have h9 : false = true := h; cases h9
termination_by structural x => x
theorem sTs {G : Tbl} {c : Calls} : ∀ (es : List Ex) {X : Cx} {E : XK} {as : List Expr}, Gd G c X E → ckEs G X.N X.env.scope es as = true → PA X as (TXt X E (evTs c es))
  | [], X, E, [], g, h => nil_t
  | e :: es, X, E, a :: as, g, h => by
    simp only [ckEs, Bool.and_eq_true] at h
    exact cons_t h.1.1 (sE e g h.1.2) (sTs es g h.2)
  | [], X, E, _ :: _, g, h => by have h9 : false = true := h; cases h9
  | _ :: _, X, E, [], g, h => by have h9 : false = true := h; cases h9
termination_by structural x => x
theorem sKs {G : Tbl} {c : Calls} : ∀ (es : List Ex) {X : Cx} {E : XK} {kws : List Keyword}, Gd G c X E → ckEs G X.N X.env.scope es (kws.map (·.value)) = true → PK X kws (TXv X E (evVs c es))
  | [], X, E, [], g, h => k_nil
  | e :: es, X, E, ⟨nm, a, p⟩ :: kws, g, h => by
    simp only [List.map_cons, ckEs, Bool.and_eq_true] at h
    exact k_cons (sE e g h.1.2) (sKs es g h.2)
  | [], X, E, _ :: _, g, h => by have h9 : false = true := h; cases h9
  | _ :: _, X, E, [], g, h => by have h9 : false = true := h; cases h9
termination_by structural x => x
theorem sDp {G : Tbl} {c : Calls} : ∀ (es : List Ex) {X : Cx} {E : XK} {pos : Pos} {keys : List (Option Expr)} {ks : List Str} {as : List Expr}, Gd G c X E → keysAre keys ks = true → ckEs G X.N X.env.scope es as = true →
    keys.length = as.length → DPs X E pos keys as ks (evVs c es)
  | [], X, E, pos, [], [], [], g, h1, h2, h3 => dp_nil
  | e :: es, X, E, pos, some (.Constant (.str k) j kp) :: keys, x :: ks, a :: as, g, h1, h2, h3 => by
    simp only [keysAre, Bool.and_eq_true, decide_eq_true_eq] at h1
    simp only [ckEs, Bool.and_eq_true] at h2
    obtain ⟨rfl, h1⟩ := h1
    exact dp_cons (sE e g h2.1.2) (sDp es g h1 h2.2 (by simpa using h3))
  | [], X, E, pos, _ :: _, _, [], g, h1, h2, h3 => by simp at h3
  | [], X, E, pos, _, _, _ :: _, g, h1, h2, h3 => by have h9 : false = true := h2; cases h9
  | _ :: _, X, E, pos, [], _, _ :: _, g, h1, h2, h3 => by simp at h3
  | _ :: _, X, E, pos, _, _, [], g, h1, h2, h3 => by have h9 : false = true := h2; cases h9
termination_by structural x => x
theorem sO {G : Tbl} {c : Calls} : ∀ (o : Option Ex) {X : Cx} {E : XK} {a : Option Expr}, Gd G c X E → ckO G X.N X.env.scope o a = true → PO X a (TXo X E (evO c o))
  | none, X, E, none, g, h => o_none
  | some e, X, E, some a, g, h => by
    simp only [ckO] at h
    exact o_some (sE e g h)
  | none, X, E, some _, g, h => by have h9 : false = true := h; cases h9
  | some _, X, E, none, g, h => by have h9 : false = true := h; cases h9
termination_by structural x => x
theorem sC {G : Tbl} {c : Calls} : ∀ (t : Option Te) {X : Cx} {E : XK} {ifs : List Expr}, Gd G c X E → ckC G X.N X.env.scope t ifs = true → PTs X ifs (TXb X E (evC c t))
  | none, X, E, [], g, h => ⟨fun pins s σ H Q I q => pts_nil.run pins s σ H Q I (by
      obtain ⟨w, r, m, ok, st, en, p⟩ := q
      exact p.here ok st rfl)⟩
  | some t, X, E, [a], g, h => by
    simp only [ckC] at h
    exact pts_one (sT t g h).1
  | none, X, E, _ :: _, g, h => by have h9 : false = true := h; cases h9
  | some _, X, E, [], g, h => by have h9 : false = true := h; cases h9
  | some _, X, E, _ :: _ :: _, g, h => by have h9 : false = true := h; cases h9
termination_by structural x => x
theorem sI {G : Tbl} {c : Calls} {st : Bool} : ∀ (it : It) {X : Cx} {E : XK} {tg a : Expr}, Gd G c X E → ckI G X.N X.env.scope it tg a = true → PI X tg a (TXi X E st (evI c st it))
  | .rng1 a, X, E, tg, z, g, h => by
    simp only [ckI] at h
    split at h
    · rename_i x u q
      obtain ⟨p, p2, rfl⟩ := cal1_of q
      simp only [Bool.and_eq_true, decide_eq_true_eq] at h
      obtain ⟨⟨⟨⟨rfl, h2⟩, h3⟩, h4⟩, h5⟩ := h
      exact i_rng1 (gl_of h2) (g.free _ h3) h4 (sE a g h5)
    · cases h
  | .rng2 a b, X, E, tg, z, g, h => by
    simp only [ckI] at h
    split at h
    · rename_i x u v q
      obtain ⟨p, p2, rfl⟩ := cal1_of q
      simp only [Bool.and_eq_true, decide_eq_true_eq] at h
      obtain ⟨⟨⟨⟨⟨⟨rfl, h2⟩, h3⟩, h4⟩, h5⟩, h6⟩, h7⟩ := h
      exact i_rng2 (gl_of h2) (g.free _ h3) h4 h5 (sE a g h6) (sE b g h7)
    · cases h
  | .seq e, X, E, tg, a, g, h => by
    have h : ckE G X.N X.env.scope e a = true := by simpa only [ckI] using h
    exact i_seq (sE e g h)
  | .enum e, X, E, tg, z, g, h => by
    simp only [ckI] at h
    split at h
    · rename_i ts x u q0 q
      obtain ⟨k0, p0, rfl⟩ := tup1_of q0
      obtain ⟨p, p2, rfl⟩ := cal1_of q
      simp only [Bool.and_eq_true, decide_eq_true_eq] at h
      obtain ⟨⟨⟨⟨rfl, h2⟩, h3⟩, h4⟩, h5⟩ := h
      exact i_enum (gl_of h2) (g.free _ h3) h4 (sE e g h5)
    · cases h
  | .zip s a b, X, E, tg, z, g, h => by
    simp only [ckI] at h
    split at h
    · rename_i ts x u v q0 q
      obtain ⟨k0, p0, rfl⟩ := tup1_of q0
      obtain ⟨p, p2, rfl⟩ := cal1_of q
      simp only [Bool.and_eq_true, decide_eq_true_eq, Bool.not_eq_true'] at h
      obtain ⟨⟨⟨⟨⟨⟨⟨rfl, rfl⟩, h2⟩, h3⟩, h4⟩, h5⟩, h6⟩, h7⟩ := h
      exact i_zip (gl_of h2) (g.free _ h3) h4 h5 (sE a g h6) (sE b g h7)
    · rename_i ts x u v kw q0 q
      obtain ⟨k0, p0, rfl⟩ := tup1_of q0
      obtain ⟨p, p2, rfl⟩ := cal1_of q
      simp only [Bool.and_eq_true, decide_eq_true_eq] at h
      obtain ⟨⟨⟨⟨⟨⟨⟨⟨rfl, hk⟩, rfl⟩, h2⟩, h3⟩, h4⟩, h5⟩, h6⟩, h7⟩ := h
      obtain ⟨j, cp, kp, rfl⟩ := kwS_of hk
      exact i_zipS (gl_of h2) (g.free _ h3) h4 h5 (sE a g h6) (sE b g h7)
    · cases h
termination_by structural x => x
end
end Ev
set_option Elab.async false
set_option linter.all false
set_option maxHeartbeats 1000000
namespace Ev
open PySem PySem.Spec L2

structure At (K : PySem.W.Frag) (w0 : Wd) (H0 : Hp) (w : Wd) (H : Hp) (σ : L2.St) (r : Env) : Prop where
  s : Step w0 H0 w H
  ok : WOk w H
  en : EnvR K w H σ r
  fr : ∀ (i : Nat) (x : D) (a : Addr), r[i]? = some (.own x) → σ[i]? = some (some (.ref a)) → H0 a = none
section
variable {K : PySem.W.Frag} {mg : Str → Option Value} {E : XK} {w0 w w' w1 w2 : Wd} {H0 H H' H1 H2 : Hp} {m m' m1 : Store} {σ σ' : L2.St} {r r' : Env} {Dd : Ends}

def PostF (K : PySem.W.Frag) (w0 : Wd) (H0 : Hp) (w' : Wd) (H' : Hp) (D : Ends) : Fl → Prop
  | .nx r => ∀ σ, At K w0 H0 w' H' σ r → D.nx σ H'
  | .ct r => ∀ σ, At K w0 H0 w' H' σ r → D.ct σ H'
  | .bk r => ∀ σ, At K w0 H0 w' H' σ r → D.bk σ H'
  | .rt t => ∀ v, TmpR K w' H' v t → FrT H0 v t → D.rt v H'
def PostS (K : PySem.W.Frag) (mg : Str → Option Value) (E : XK) (w0 : Wd) (H0 : Hp) (w : Wd) (H : Hp) (o : Out Fl) (D : Ends) : Prop := match o with
  | .ok fl m => ∀ w' H', Keep w H w' H' → Step w0 H0 w' H' → WOk w' H' → StR K w' H' m → PostF K w0 H0 w' H' D fl
  | .exc c fs m => ∀ cls d w' H', Step w0 H0 w' H' → WOk w' H' → StR K w' H' m → XcR K mg w' H' cls d c fs → E cls d H'
  | .bad => False
theorem PostS.keep {o : Out Fl} (k : Keep w H w1 H1) (p : PostS K mg E w0 H0 w H o Dd) : PostS K mg E w0 H0 w1 H1 o Dd := by
  cases o with
  | ok fl m => exact fun w' H' k' s ok st => p w' H' (k.trans k') s ok st
  | exc c fs m => exact p
  | bad => exact p
def TS' (K : PySem.W.Frag) (mg : Str → Option Value) (E : XK) (w0 : Wd) (H0 : Hp) (f : Env → Store → Out Fl) : TS := fun D σ H =>
  ∃ w r m, At K w0 H0 w H σ r ∧ StR K w H m ∧ PostS K mg E w0 H0 w H (f r m) D
theorem PostS.expr {α β : Type} {R : Rel β α} {o : Out α} {k : α → Store → Out Fl} {Q : β → Hp → Prop} (at_ : At K w0 H0 w H σ r) (ok0 : WOk w0 H0) (p : PostS K mg E w0 H0 w H (o.bind k) Dd)
    (h : ∀ x m1 y w1 H1, Step w H w1 H1 → WOk w1 H1 → StR K w1 H1 m1 → R H w1 H1 y x → PostS K mg E w0 H0 w1 H1 (k x m1) Dd → Q y H1) : Post K mg E R w H o Q := by
  cases o with
  | ok x m1 => exact fun y w1 H1 s1 ok1 st1 q => h x m1 y w1 H1 s1 ok1 st1 q (PostS.keep (Step.keep at_.ok s1) p)
  | exc c fs m1 => exact fun cls d w' H' s' ok' st' x => p cls d w' H' (at_.s.trans ok0 s') ok' st' x
  | bad => exact p
theorem At.step (ok0 : WOk w0 H0) (a : At K w0 H0 w H σ r) (s : Step w H w1 H1) (ok1 : WOk w1 H1) : At K w0 H0 w1 H1 σ r :=
  ⟨a.s.trans ok0 s, ok1, a.en.step a.ok s, a.fr⟩
theorem PostS.here {fl : Fl} (a : At K w0 H0 w H σ r) (st : StR K w H m) (p : PostS K mg E w0 H0 w H (.ok fl m) Dd) : PostF K w0 H0 w H Dd fl :=
  p w H (Keep.refl w H) a.s a.ok st

theorem asgT_ok {tg : Tg} {t : Tmp} {v : V} {w1 : Wd} {H1 : Hp} {Q : L2.St → Hp → Prop} (ok0 : WOk w0 H0) (a : At K w0 H0 w H σ r) (s1 : Step w H w1 H1) (ok1 : WOk w1 H1) (st1 : StR K w1 H1 m) (q : RT K H w1 H1 v t) {r' : Env} (e : asgT tg t r = some r')
    (h : ∀ σ', At K w0 H0 w1 H1 σ' r' → Q σ' H1) : gT K tg v σ H1 Q := by
  have a1 := a.step ok0 s1 ok1
  cases t with
  | v x =>
    refine asg_ok e q.1 a1.en fun σ' en' _ _ ho => h σ' ⟨a1.s, ok1, en', fun i x b e1 e2 => ?_⟩
    obtain ⟨e3, e4⟩ := ho i x e1
    exact a1.fr i x b e3 (e4 ▸ e2)
  | bor x => cases e
  | new x =>
    cases tg with
    | tup ts => cases e
    | name i =>
      simp only [asgT] at e
      split at e
      · rename_i hi
        cases e
        obtain ⟨⟨b, rfl, c, n1, n2⟩, fr⟩ := q
        have hb : H b = none := fr b rfl
        have hl : i < σ.length := by rw [a.en.len]; exact hi
        have far : ∀ (j : Nat) (y : D) (u : V), i ≠ j → r[j]? = some (.own y) → σ[j]? = some (some u) → u ≠ .ref b := fun j y u _ e1 e2 z => by
          obtain ⟨v', e3, b', e4, c', _⟩ := a.en.own j y e1
          rw [e2] at e3
          cases e3
          rw [z] at e4
          cases e4
          exact c'.some hb
        refine h _ ⟨a1.s, ok1, ⟨by rw [List.length_set, List.length_set, a.en.len], fun j y ej => ?_, fun j y ej => ?_, fun j k y z u e1 e2 e3 e4 => ?_⟩, fun j y b' e1 e2 => ?_⟩
        · by_cases hj : i = j
          · subst hj
            rw [List.getElem?_set_self hi] at ej
            cases ej
          · rw [List.getElem?_set_ne hj] at ej ⊢
            exact a1.en.val j y ej
        · by_cases hj : i = j
          · subst hj
            rw [List.getElem?_set_self hi] at ej
            cases ej
            exact ⟨.ref b, by rw [List.getElem?_set_self hl], b, rfl, c, n1, n2⟩
          · rw [List.getElem?_set_ne hj] at ej ⊢
            exact a1.en.own j y ej
        · by_cases hj : i = j
          · by_cases hk : i = k
            · exact hj.symm.trans hk
            · subst hj
              rw [List.getElem?_set_self hl] at e3
              cases e3
              rw [List.getElem?_set_ne hk] at e2 e4
              exact absurd rfl (far k z _ hk e2 e4)
          · by_cases hk : i = k
            · subst hk
              rw [List.getElem?_set_self hl] at e4
              cases e4
              rw [List.getElem?_set_ne hj] at e1 e3
              exact absurd rfl (far j y _ hj e1 e3)
            · rw [List.getElem?_set_ne hj] at e1 e3
              rw [List.getElem?_set_ne hk] at e2 e4
              exact a1.en.inj j k y z u e1 e2 e3 e4
        · by_cases hj : i = j
          · subst hj
            rw [List.getElem?_set_self hl] at e2
            cases e2
            exact a.s.dom _ hb
          · rw [List.getElem?_set_ne hj] at e1 e2
            exact a.fr j y b' e1 e2
      · cases e

theorem own_write {x : Nat} {a : Addr} {old new : D} {o : HO} (A : At K w0 H0 w H σ r) (e : r[x]? = some (.own old)) (ea : σ[x]? = some (some (.ref a))) (hM : Mut (H a)) (hM2 : Mut (some o)) (hc : Keep w H w (upd H a o) → ConR K w (upd H a o) a new) :
    At K w0 H0 w (upd H a o) σ (r.set x (.own new)) ∧ Keep w H w (upd H a o) := by
  obtain ⟨v, e1, b, e2, c, n1, n2⟩ := A.en.own x old e
  rw [ea] at e1
  cases e1
  cases e2
  have kp : Keep w H w (upd H a o) := write_keep n1 hM
  have hx : x < r.length := (List.getElem?_eq_some_iff.mp e).1
  have hn : H0 a = none := A.fr x old a e ea
  refine ⟨⟨write_step A.s hn, write_ok A.ok hM2, ⟨by rw [List.length_set]; exact A.en.len, fun j y ej => ?_, fun j y ej => ?_, fun j k y z u e1 e2 e3 e4 => ?_⟩, fun j y b' e1 e2 => ?_⟩, kp⟩
  · by_cases hj : x = j
    · subst hj
      rw [List.getElem?_set_self hx] at ej
      cases ej
    · rw [List.getElem?_set_ne hj] at ej
      obtain ⟨v, v1, v2⟩ := A.en.val j y ej
      exact ⟨v, v1, v2.keep kp⟩
  · by_cases hj : x = j
    · subst hj
      rw [List.getElem?_set_self hx] at ej
      cases ej
      exact ⟨_, ea, a, rfl, hc kp, n1, n2⟩
    · rw [List.getElem?_set_ne hj] at ej
      obtain ⟨v, v1, b, rfl, c', n1', n2'⟩ := A.en.own j y ej
      have ne : b ≠ a := fun z => by
        subst z
        exact hj (A.en.inj x j old y _ e ej ea v1)
      refine ⟨_, v1, b, rfl, ?_, n1', n2'⟩
      cases y with
      | list ds =>
        obtain ⟨us, u1, u2⟩ := c'
        exact ⟨us, by rw [upd_ne ne]; exact u1, u2.keep kp⟩
      | _ => exact c'.elim
  · have key : ∀ (j : Nat) (y : D), (r.set x (.own new))[j]? = some (.own y) → ∃ y', r[j]? = some (.own y') := fun j y ej => by
      by_cases hj : x = j
      · subst hj
        exact ⟨old, e⟩
      · rw [List.getElem?_set_ne hj] at ej
        exact ⟨y, ej⟩
    obtain ⟨y', h1⟩ := key j y e1
    obtain ⟨z', h2⟩ := key k z e2
    exact A.en.inj j k y' z' u h1 h2 e3 e4
  · by_cases hj : x = j
    · subst hj
      rw [ea] at e2
      cases e2
      exact hn
    · rw [List.getElem?_set_ne hj] at e1
      exact A.fr j y b' e1 e2
theorem own_freeze {x : Nat} {d : D} (A : At K w0 H0 w H σ r) (st : StR K w H m) (e : r[x]? = some (.own d)) : ∃ w1, At K w0 H0 w1 H σ (r.set x (.val (.d d))) ∧ StR K w1 H m ∧ Keep w H w1 H := by
  obtain ⟨v, e1, a, rfl, c, n1, n2⟩ := A.en.own x d e
  have hn : H0 a = none := A.fr x d a e e1
  have hx : x < r.length := (List.getElem?_eq_some_iff.mp e).1
  refine ⟨w.add a, ⟨A.s.add hn, add_ok A.ok c n2, ⟨by rw [List.length_set]; exact A.en.len, fun j y ej => ?_, fun j y ej => ?_, fun j k y z u e1' e2 e3 e4 => ?_⟩, fun j y b' e1' e2 => ?_⟩, st.add, ⟨fun _ h => .inl h, fun _ _ _ h => h, fun _ _ h _ => h, ⟨[], by simp [Wd.add]⟩⟩⟩
  · by_cases hj : x = j
    · subst hj
      rw [List.getElem?_set_self hx] at ej
      cases ej
      exact ⟨_, e1, (show Den K (w.add a) H _ d from c.den)⟩
    · rw [List.getElem?_set_ne hj] at ej
      obtain ⟨v, v1, v2⟩ := A.en.val j y ej
      exact ⟨v, v1, v2.add⟩
  · by_cases hj : x = j
    · subst hj
      rw [List.getElem?_set_self hx] at ej
      cases ej
    · rw [List.getElem?_set_ne hj] at ej
      obtain ⟨v, v1, b, rfl, c', n1', n2'⟩ := A.en.own j y ej
      refine ⟨_, v1, b, rfl, ?_, fun z => ?_, n2'⟩
      · cases y with
        | list ds =>
          obtain ⟨us, u1, u2⟩ := c'
          exact ⟨us, u1, u2.add⟩
        | _ => exact c'.elim
      · rcases z with z | z
        · exact n1' z
        · subst z
          exact hj (A.en.inj x j d y _ e ej e1 v1)
  · have key : ∀ (j : Nat) (y : D), (r.set x (.val (.d d)))[j]? = some (.own y) → r[j]? = some (.own y) := fun j y ej => by
      by_cases hj : x = j
      · subst hj
        rw [List.getElem?_set_self hx] at ej
        cases ej
      · rwa [List.getElem?_set_ne hj] at ej
    exact A.en.inj j k y z u (key j y e1') (key k z e2) e3 e4
  · by_cases hj : x = j
    · subst hj
      rw [List.getElem?_set_self hx] at e1'
      cases e1'
    · rw [List.getElem?_set_ne hj] at e1'
      exact A.fr j y b' e1' e2
end
end Ev
set_option Elab.async false
set_option linter.all false
set_option maxHeartbeats 1000000
namespace Ev
open PySem PySem.Spec L2

theorem _root_.L2.PS.imp {X : Cx} {e : Stmt} {t t' : TS} (h : PS X e t) (f : ∀ D σ H, t' D σ H → t D σ H) : PS X e t' := ⟨fun pins s σ H D I q => h.run pins s σ H D I (f D σ H q)⟩
theorem _root_.L2.PSs.imp {X : Cx} {e : List Stmt} {t t' : TS} (h : PSs X e t) (f : ∀ D σ H, t' D σ H → t D σ H) : PSs X e t' := ⟨fun pins s σ H D I q => h.run pins s σ H D I (f D σ H q)⟩

abbrev FS := Env → Store → Out Fl
abbrev TXs (X : Cx) (E : XK) (w0 : Wd) (H0 : Hp) (f : FS) : TS := TS' X.K X.mg E w0 H0 f

def notComp : Expr → Bool
  | .ListComp _ _ _ _ => false
  | .SetComp _ _ _ _ => false
  | .DictComp _ _ _ _ _ => false
  | _ => true
theorem noswap {v : Expr} {t : Option Expr} {l : Nat} {env : PySem.Env} (h : notComp v = true) : swapsWith v t l env = pure false := by
  cases v <;> first | rfl | cases h
def notTup : Expr → Bool
  | .Tuple _ _ _ => false
  | .List _ _ => false
  | _ => true
theorem nostores {t v : Expr} {env : PySem.Env} (h : notTup t = true ∨ notTup v = true) : swappedStores [t] v env = pure none := by
  rcases h with h | h
  · cases t <;> first | rfl | cases h
  · cases v <;> first | (cases t <;> rfl) | cases h

section
variable {X : Cx} {E : XK} {w0 : Wd} {H0 : Hp} {a b v tgt : Expr} {pos : Pos} {fa fb fz : FE Tmp} {ga : FE Bool} {f1 f2 : FS} {tg : Tg}
theorem c_asg (ok0 : WOk w0 H0) (hv : PE X v (TX X E fa)) (hg : PG X tgt (gT X.K tg)) (hs : swapsWithSole [tgt] v pos.line X.env = pure false) (hw : swappedStores [tgt] v X.env = pure none) (h1 : (assignEach [tgt] X.env).map (·.2) = [assign tgt X.env]) :
    PS X (.Assign [tgt] v pos) (TXs X E w0 H0 fun r m => (fa r m).bind fun t m => (give (asgT tg t r) m).bind fun r m => .ok (.nx r) m) :=
  (ps_asg hv hg hs hw (h1 := h1)).imp fun D σ H h => by
    obtain ⟨w, r, m, A, st, p⟩ := h
    refine ⟨w, r, m, A.ok, st, A.en, PostS.expr A ok0 p fun t m1 y w1 H1 s1 ok1 st1 (q1 : RT X.K H w1 H1 y t) p1 => ?_⟩
    cases e1 : asgT tg t r with
    | none => rw [e1] at p1; exact p1.elim
    | some r' =>
      rw [e1] at p1
      exact asgT_ok ok0 A s1 ok1 st1 q1 e1 fun σ' A' => PostS.here A' st1 p1 σ' A'
theorem At.fresh {K : PySem.W.Frag} {w0 w1 : Wd} {H0 H1 : Hp} {σ σ' : L2.St} {r r' : Env} {i : Nat} {p : Addr} {vs : List V} {ds : List D} (ok0 : WOk w0 H0) (a1 : At K w0 H0 w1 H1 σ r) (hp : H1 p = none) (hd : Dens K w1 (upd H1 p (.lst vs)) vs ds)
    (en' : EnvR K w1 (upd H1 p (.lst vs)) σ' r') (ho : ∀ (j : Nat) (y : D), r'[j]? = some (.own y) → r[j]? = some (.own y) ∧ σ'[j]? = σ[j]?) (hi : i < r'.length) : At K w0 H0 w1 (upd H1 p (.lst vs)) (σ'.set i (some (.ref p))) (r'.set i (.own (.list ds))) := by
  have hl : i < σ'.length := by rw [en'.len]; exact hi
  have far : ∀ (j : Nat) (y : D) (u : V), i ≠ j → r'[j]? = some (.own y) → σ'[j]? = some (some u) → u ≠ .ref p := fun j y u _ e1 e2 z => by
    obtain ⟨e3, e4⟩ := ho j y e1
    obtain ⟨v', e5, b', e6, c', _⟩ := a1.en.own j y e3
    rw [← e4, e2] at e5
    cases e5
    rw [z] at e6
    cases e6
    exact c'.some hp
  refine ⟨a1.s.trans ok0 (grow_step (grow_upd hp)), grow_ok (grow_upd hp) a1.ok, ⟨by rw [List.length_set, List.length_set, en'.len], fun j y ej => ?_, fun j y ej => ?_, fun j k y z u e1 e2 e3 e4 => ?_⟩, fun j y b' e1 e2 => ?_⟩
  · by_cases hj : i = j
    · subst hj
      rw [List.getElem?_set_self hi] at ej
      cases ej
    · rw [List.getElem?_set_ne hj] at ej ⊢
      exact en'.val j y ej
  · by_cases hj : i = j
    · subst hj
      rw [List.getElem?_set_self hi] at ej
      cases ej
      exact ⟨.ref p, by rw [List.getElem?_set_self hl], p, rfl, ⟨vs, upd_same, hd⟩, notF_new a1.ok hp, notIo_new a1.ok hp⟩
    · rw [List.getElem?_set_ne hj] at ej ⊢
      exact en'.own j y ej
  · by_cases hj : i = j
    · by_cases hk : i = k
      · exact hj.symm.trans hk
      · subst hj
        rw [List.getElem?_set_self hl] at e3
        cases e3
        rw [List.getElem?_set_ne hk] at e2 e4
        exact absurd rfl (far k z _ hk e2 e4)
    · by_cases hk : i = k
      · subst hk
        rw [List.getElem?_set_self hl] at e4
        cases e4
        rw [List.getElem?_set_ne hj] at e1 e3
        exact absurd rfl (far j y _ hj e1 e3)
      · rw [List.getElem?_set_ne hj] at e1 e3
        rw [List.getElem?_set_ne hk] at e2 e4
        exact en'.inj j k y z u e1 e2 e3 e4
  · by_cases hj : i = j
    · subst hj
      rw [List.getElem?_set_self hl] at e2
      cases e2
      exact a1.s.dom _ hp
    · rw [List.getElem?_set_ne hj] at e1 e2
      obtain ⟨e3, e4⟩ := ho j y e1
      exact a1.fr j y b' e3 (e4 ▸ e2)
theorem c_asgS {may : Str → Bool} {ts : List Tg} {i : Nat} {x : Str} {es : List Expr} {px sp tpos : Pos} {kt : Nat} (ok0 : WOk w0 H0) (hc : X.calm = true) (hN : X.N.Nodup) (hm : MayOk X may) (hv : PE X v (TX X E fa)) (hts : ckTgs X.N may ts es = true) (hi : X.N[i]? = some x) (hx : may x = true)
    (hs : swapsWithSole [.Tuple (es ++ [.Starred (.Name x px) sp]) kt tpos] v pos.line X.env = pure false) (hw : swappedStores [.Tuple (es ++ [.Starred (.Name x px) sp]) kt tpos] v X.env = pure none) :
    PS X (.Assign [.Tuple (es ++ [.Starred (.Name x px) sp]) kt tpos] v pos) (TXs X E w0 H0 fun r m => (fa r m).bind fun t m => (give t.items? m).bind fun xs m => if ts.length ≤ xs.length ∧ xs.length ≤ 16384 then (give (asgs ts (xs.take ts.length) r) m).bind fun r' m =>
      if i < r'.length then .ok (.nx (r'.set i (.own (.list (xs.drop ts.length))))) m else .bad else .bad) :=
  let ⟨g1, g2, g3⟩ := pgs_star hc hN hm hi hx hts (px := px) (sp := sp)
  (ps_asg hv (pg_star hc g1 g2 g3) hs hw (h1 := rfl)).imp fun D σ H h => by
    obtain ⟨w, r, m, A, st, p⟩ := h
    refine ⟨w, r, m, A.ok, st, A.en, PostS.expr A ok0 p fun t m1 y w1 H1 s1 ok1 st1 (q1 : RT X.K H w1 H1 y t) p1 => ?_⟩
    have A1 := A.step ok0 s1 ok1
    cases e0 : t.items? with
    | none => rw [e0] at p1; exact p1.elim
    | some xs =>
      rw [e0] at p1
      obtain ⟨a, vs, rfl, hq, hd⟩ := q1.1.items e0
      dsimp only [give, Out.bind] at p1
      split at p1
      · rename_i hz
        cases e1 : asgs ts (xs.take ts.length) r with
        | none => rw [e1] at p1; exact p1.elim
        | some r' =>
          rw [e1] at p1
          dsimp only [give, Out.bind] at p1
          split at p1
          · rename_i hi2
            refine ⟨a, vs, rfl, hq, by rw [hd.length]; exact hz.1, by rw [hd.length]; exact hz.2, fun pp hp => ?_⟩
            have gs : Step w1 H1 w1 (upd H1 pp (.lst (vs.drop ts.length))) := grow_step (grow_upd hp)
            have d2 := hd.step ok1 gs
            refine asgsS_ok e1 (d2.take _) (A1.en.step ok1 gs) fun σ' en' _ ho => ?_
            have A2 := At.fresh ok0 A1 hp (d2.drop ts.length) en' ho hi2
            exact PostS.here A2 (st1.grow ok1 (grow_upd hp)) (PostS.keep (gs.keep ok1) p1) _ A2
          · exact p1.elim
      · exact p1.elim
theorem c_setLc {i : Nat} {tl : TE} {st0 : Stmt} (ok0 : WOk w0 H0) (h : PS X st0 (tAsg tl (gName i))) (key : ∀ σ H Q, TX X E fa σ H Q → tl σ H Q) :
    PS X st0 (TXs X E w0 H0 fun r m => (fa r m).bind fun t m => (give (asgT (.name i) t r) m).bind fun r m => .ok (.nx r) m) :=
  h.imp fun D σ H h => by
    obtain ⟨w, r, m, A, st, p⟩ := h
    refine key σ H _ ⟨w, r, m, A.ok, st, A.en, PostS.expr A ok0 p fun t m1 y w1 H1 s1 ok1 st1 (q1 : RT X.K H w1 H1 y t) p1 => ?_⟩
    cases e1 : asgT (.name i) t r with
    | none => rw [e1] at p1; exact p1.elim
    | some r' =>
      rw [e1] at p1
      exact asgT_ok (tg := .name i) ok0 A s1 ok1 st1 q1 e1 fun σ' A' => PostS.here A' st1 p1 σ' A'
theorem c_expr (ok0 : WOk w0 H0) (hv : PE X v (TX X E fa)) (hs : swapsWith v none pos.line X.env = pure false) : PS X (.Expr v pos) (TXs X E w0 H0 fun r m => (fa r m).bind fun _ m => .ok (.nx r) m) :=
  (ps_expr hv hs).imp fun D σ H h => by
    obtain ⟨w, r, m, A, st, p⟩ := h
    refine ⟨w, r, m, A.ok, st, A.en, PostS.expr A ok0 p fun t m1 y w1 H1 s1 ok1 st1 (q1 : RT X.K H w1 H1 y t) p1 => ?_⟩
    have A1 := A.step ok0 s1 ok1
    exact PostS.here A1 st1 p1 σ A1
theorem c_ret (ok0 : WOk w0 H0) (hv : PE X v (TX X E fa)) : PS X (.Return (some v) pos) (TXs X E w0 H0 fun r m => (fa r m).bind fun t m => match t with
    | .bor _ => .bad
    | t => .ok (.rt t) m) :=
  (ps_ret hv).imp fun D σ H h => by
    obtain ⟨w, r, m, A, st, p⟩ := h
    refine ⟨w, r, m, A.ok, st, A.en, PostS.expr A ok0 p fun t m1 y w1 H1 s1 ok1 st1 (q1 : RT X.K H w1 H1 y t) p1 => ?_⟩
    have A1 := A.step ok0 s1 ok1
    cases t with
    | bor d => exact p1.elim
    | v x => exact PostS.here A1 st1 p1 y q1.1 trivial
    | new d => exact PostS.here A1 st1 p1 y q1.1 fun a e => A.s.dom a (q1.2 a e)
theorem c_retN : PS X (.Return none pos) (TXs X E w0 H0 fun _ m => .ok (.rt (.v (.d .none))) m) :=
  ps_retN.imp fun D σ H h => by
    obtain ⟨w, r, m, A, st, p⟩ := h
    exact PostS.here A st p .non (show Den X.K w H .non .none from .non) trivial
theorem c_retOwn {i : Nat} {x : Str} (hN : X.N[i]? = some x) (hv : Vis X.env.scope x) (hd : (x == ("__debug__" : Str)) = false) (hcd : (x == ("__classdict__" : Str)) = false) {p' : Pos} :
    PS X (.Return (some (.Name x p')) pos) (TXs X E w0 H0 fun r m => match r[i]? with
      | some (.own x) => .ok (.rt (.new x)) m
      | _ => .bad) :=
  (ps_ret (pe_var hN hv hd hcd)).imp fun D σ H h => by
    obtain ⟨w, r, m, A, st, p⟩ := h
    dsimp only at p
    split at p
    · rename_i d e
      obtain ⟨v, e1, q⟩ := A.en.own i d e
      refine ⟨v, e1, PostS.here A st p v q fun a ea => ?_⟩
      subst ea
      exact A.fr i d a e e1
    · exact p.elim
theorem c_pass : PS X (.Pass pos) (TXs X E w0 H0 fun r m => .ok (.nx r) m) := ps_pass.imp fun D σ H h => by
  obtain ⟨w, r, m, A, st, p⟩ := h
  exact PostS.here A st p σ A
theorem c_brk : PS X (.Break pos) (TXs X E w0 H0 fun r m => .ok (.bk r) m) := ps_break.imp fun D σ H h => by
  obtain ⟨w, r, m, A, st, p⟩ := h
  exact PostS.here A st p σ A
theorem c_cont : PS X (.Continue pos) (TXs X E w0 H0 fun r m => .ok (.ct r) m) := ps_continue.imp fun D σ H h => by
  obtain ⟨w, r, m, A, st, p⟩ := h
  exact PostS.here A st p σ A
theorem c_ife {c : Expr} {xs ys : List Stmt} (ok0 : WOk w0 H0) (hc : PT X c (TXb X E ga)) (ha : PSs X xs (TXs X E w0 H0 f1)) (hb : PSs X ys (TXs X E w0 H0 f2)) :
    PS X (.If c xs ys pos) (TXs X E w0 H0 fun r m => (ga r m).bind fun k m => if k then f1 r m else f2 r m) :=
  (ps_if hc ha hb).imp fun D σ H h => by
    obtain ⟨w, r, m, A, st, p⟩ := h
    refine ⟨w, r, m, A.ok, st, A.en, PostS.expr A ok0 p fun k m1 y w1 H1 s1 ok1 st1 (q1 : y = k) p1 => ?_⟩
    subst q1
    have A1 := A.step ok0 s1 ok1
    cases y with
    | true => exact ⟨w1, r, m1, A1, st1, p1⟩
    | false => exact ⟨w1, r, m1, A1, st1, p1⟩
theorem c_nil : PSs X [] (TXs X E w0 H0 fun r m => .ok (.nx r) m) := pss_nil.imp fun D σ H h => by
  obtain ⟨w, r, m, A, st, p⟩ := h
  exact PostS.here A st p σ A
theorem c_cons {s0 : Stmt} {ss : List Stmt} (ha : PS X s0 (TXs X E w0 H0 f1)) (hb : PSs X ss (TXs X E w0 H0 f2)) :
    PSs X (s0 :: ss) (TXs X E w0 H0 fun r m => (f1 r m).bind fun o m => match o with
      | .nx r => f2 r m
      | o => .ok o m) :=
  (pss_cons ha hb).imp fun D σ H h => by
    obtain ⟨w, r, m, A, st, p⟩ := h
    refine ⟨w, r, m, A, st, ?_⟩
    dsimp only at p
    cases e : f1 r m with
    | exc cc fs m1 => rw [e] at p; exact p
    | bad => rw [e] at p; exact p
    | ok o m1 =>
      rw [e] at p
      intro w' H' k s ok' st'
      cases o with
      | nx r1 => exact fun σ1 A1 => ⟨w', r1, m1, A1, st', PostS.keep k p⟩
      | ct r1 => exact p w' H' k s ok' st'
      | bk r1 => exact p w' H' k s ok' st'
      | rt t => exact p w' H' k s ok' st'
theorem c_freeze {i : Nat} {ss : List Stmt} (hb : PSs X ss (TXs X E w0 H0 f2)) :
    PSs X ss (TXs X E w0 H0 fun r m => ((match r[i]? with
      | some (.own x) => .ok (.nx (r.set i (.val (.d x)))) m
      | _ => .ok (.nx r) m) : Out Fl).bind fun o m => match o with
      | .nx r => f2 r m
      | o => .ok o m) :=
  hb.imp fun D σ H h => by
    obtain ⟨w, r, m, A, st, p⟩ := h
    dsimp only at p
    split at p
    · rename_i d e
      obtain ⟨w1, A1, st1, k⟩ := own_freeze A st e
      exact ⟨w1, _, m, A1, st1, PostS.keep k p⟩
    · exact ⟨w, r, m, A, st, p⟩
end
end Ev
set_option Elab.async false
set_option linter.all false
set_option maxHeartbeats 1000000
namespace Ev
open PySem PySem.Spec L2

section
variable {X : Cx} {E : XK} {w0 : Wd} {H0 : Hp} {a b v tgt : Expr} {pos : Pos} {fa fb fz fe : FE Tmp} {ga : FE Bool} {f1 f2 : FS} {tg : Tg}
theorem c_par {i j : Nat} {x y : Str} {px py pt pt2 : Pos} {kt k2 : Nat} (ok0 : WOk w0 H0) (hc : X.calm = true) (hN : X.N.Nodup) (hi : X.N[i]? = some x) (hj : X.N[j]? = some y) (hij : i ≠ j)
    (hx : X.env.scope.names.lookup x = some .local) (hy : X.env.scope.names.lookup y = some .local) (n1 : noStar a = true) (n2 : noStar b = true) (ha : PE X a (TX X E fa)) (hb : PE X b (TX X E fb))
    (hw : swappedStores [.Tuple [.Name x px, .Name y py] kt pt] (.Tuple [a, b] k2 pt2) X.env = pure (some [x, y])) :
    PS X (.Assign [.Tuple [.Name x px, .Name y py] kt pt] (.Tuple [a, b] k2 pt2) pos) (TXs X E w0 H0 fun r m => (fa r m).bind fun t m => (fb r m).bind fun u m => (give (asgT (.name i) t r) m).bind fun r m =>
      (give (asgT (.name j) u r) m).bind fun r m => .ok (.nx r) m) :=
  (ps_par hc hN hi hj hij hx hy (pa_cons ha (pa_cons hb pa_nil (star_of n2)) (star_of n1)) hw).imp fun D σ H h => by
    obtain ⟨w, r, m, A, st, p⟩ := h
    refine ⟨w, r, m, A.ok, st, A.en, PostS.expr A ok0 p fun t m1 v w1 H1 s1 ok1 st1 (q1 : RT X.K H w1 H1 v t) p1 => ?_⟩
    have A1 := A.step ok0 s1 ok1
    refine ⟨w1, r, m1, ok1, st1, A1.en, PostS.expr A1 ok0 p1 fun u m2 v2 w2 H2 s2 ok2 st2 (q2 : RT X.K H1 w2 H2 v2 u) p2 => ?_⟩
    refine ⟨v, v2, rfl, ?_⟩
    cases e1 : asgT (.name i) t r with
    | none => rw [e1] at p2; exact p2.elim
    | some r1 =>
      rw [e1] at p2
      dsimp only [give, Out.bind] at p2
      have A2 : At X.K w0 H0 w1 H1 (σ.set i (some v)) r1 := asgT_ok (tg := .name i) (Q := fun σ' _ => At X.K w0 H0 w1 H1 σ' r1) ok0 A s1 ok1 st1 q1 e1 fun σ' h => h
      cases e2 : asgT (.name j) u r1 with
      | none => rw [e2] at p2; exact p2.elim
      | some r2 =>
        rw [e2] at p2
        exact asgT_ok (tg := .name j) (Q := fun σ' H' => D.nx σ' H') ok0 A2 s2 ok2 st2 q2 e2 fun σ' A' => PostS.here A' st2 p2 σ' A'
theorem tmpStep {K : PySem.W.Frag} {w w' : Wd} {H H' : Hp} (ok : WOk w H) (s : Step w H w' H') {v : V} : ∀ {t : Tmp}, TmpR K w H v t → TmpR K w' H' v t
  | .v _, h => ValR.step ok s h
  | .new _, h => newStep ok s h
  | .bor _, ⟨a, e, c, n⟩ => ⟨a, e, c.step ok s n, s.notIo c.some n⟩
theorem c_parT {i j : Nat} {p q : Expr} {pt pt2 : Pos} {kt k2 : Nat} (ok0 : WOk w0 H0) (n1 : noStar a = true) (n2 : noStar b = true) (ha : PE X a (TX X E fa)) (hb : PE X b (TX X E fb))
    (hg : PG X (.Tuple [p, q] kt pt) (gT X.K (.tup [.name i, .name j]))) (hs : swapsWithSole [.Tuple [p, q] kt pt] (.Tuple [a, b] k2 pt2) pos.line X.env = pure false)
    (hw : swappedStores [.Tuple [p, q] kt pt] (.Tuple [a, b] k2 pt2) X.env = pure none) (h1 : (assignEach [.Tuple [p, q] kt pt] X.env).map (·.2) = [assign (.Tuple [p, q] kt pt) X.env]) :
    PS X (.Assign [.Tuple [p, q] kt pt] (.Tuple [a, b] k2 pt2) pos) (TXs X E w0 H0 fun r m => (fa r m).bind fun t m => (fb r m).bind fun u m => (give (asgT (.name i) t r) m).bind fun r m =>
      (give (asgT (.name j) u r) m).bind fun r m => .ok (.nx r) m) :=
  (ps_asg (pe_tup (pa_cons ha (pa_cons hb pa_nil (star_of n2)) (star_of n1))) hg hs hw h1).imp fun D σ H h => by
    obtain ⟨w, r, m, A, st, p⟩ := h
    refine ⟨w, r, m, A.ok, st, A.en, PostS.expr A ok0 p fun t m1 v w1 H1 s1 ok1 st1 (q1 : RT X.K H w1 H1 v t) p1 => ?_⟩
    have A1 := A.step ok0 s1 ok1
    refine ⟨w1, r, m1, ok1, st1, A1.en, PostS.expr A1 ok0 p1 fun u m2 v2 w2 H2 s2 ok2 st2 (q2 : RT X.K H1 w2 H2 v2 u) p2 => ?_⟩
    refine ⟨(show 2 ≤ 16777216 by decide), fun l hl => ?_⟩
    have sg : Step w2 H2 w2 (upd H2 l (.tup [v, v2])) := grow_step (grow_upd hl)
    have okg := grow_ok (grow_upd (o := .tup [v, v2]) hl) ok2
    have stg := st2.grow ok2 (grow_upd (o := .tup [v, v2]) hl)
    cases e1 : asgT (.name i) t r with
    | none => rw [e1] at p2; exact p2.elim
    | some r1 =>
      rw [e1] at p2
      dsimp only [give, Out.bind] at p2
      have A2 : At X.K w0 H0 w1 H1 (σ.set i (some v)) r1 := asgT_ok (tg := .name i) (Q := fun σ' _ => At X.K w0 H0 w1 H1 σ' r1) ok0 A s1 ok1 st1 q1 e1 fun σ' h => h
      cases e2 : asgT (.name j) u r1 with
      | none => rw [e2] at p2; exact p2.elim
      | some r2 =>
        rw [e2] at p2
        refine ⟨l, [v, v2], rfl, .of upd_same, rfl, v, [v2], rfl, v2, [], rfl, ?_⟩
        exact asgT_ok (tg := .name j) (Q := fun σ' H' => ([] : List V) = [] ∧ D.nx σ' H') ok0 A2 (s2.trans ok1 sg) okg stg ⟨tmpStep ok2 sg q2.1, q2.2⟩ e2 fun σ' A' => ⟨rfl, PostS.here A' stg (PostS.keep (Step.keep ok2 sg) p2) σ' A'⟩
theorem setBox_ok {w : Wd} {H : Hp} {m m' : Store} {t u : Tmp} {x y z : V} {vv : Val} {Q : Hp → Prop} (ok : WOk w H) (st : StR X.K w H m) (hx : TmpR X.K w H x t) (hy : TmpR X.K w H y u) (hz : ValR X.K w H z vv) (e : setBox m t u vv = some m')
    (q : ∀ H', Step w H w H' → WOk w H' → StR X.K w H' m' → Q H') : rSetA x y z H Q := by
  unfold setBox at e
  split at e
  · rename_i n
    obtain ⟨a, rfl, ea⟩ : ∃ a, x = .ref a ∧ w.io[n]? = some a := hx
    split at e
    · rename_i xs em
      obtain ⟨vs, h1, h2⟩ := st.at_ n a _ ea em
      split at e
      · rename_i k ek
        cases hy.int (getInt_data ek)
        obtain ⟨j, ej, rfl⟩ := Option.map_eq_some_iff.mp e
        refine .inl ⟨a, vs, k, j, rfl, rfl, h1, by rw [Paired.length h2]; exact ej, ?_⟩
        obtain ⟨b1, b2, b3⟩ := box_write (o := .lst (vs.set j z)) (b := .lst (xs.set j vv)) ok st ea trivial fun kp => ⟨_, upd_same, Paired.setd (Paired.mapP h2 fun _ _ z => z.keep kp) (hz.keep kp) j⟩
        exact q _ b1 b2 b3
      · cases e
    · rename_i kvs em
      obtain ⟨vs, h1, h2⟩ := st.at_ n a _ ea em
      split at e
      · rename_i s es
        cases hy.str es
        split at e
        · rename_i hl
          cases e
          have hl2 : vs.length < sizeLine := by rw [Paired.length h2]; exact hl
          refine .inr ⟨a, _, rfl, DPut.k (k := .inr s) h1 hl2, ?_⟩
          obtain ⟨b1, b2, b3⟩ := box_write (o := .dK (putK vs (.inr s) z)) (b := .dct (putKV kvs (.inr s) vv)) ok st ea trivial fun kp => ⟨_, upd_same, put_pair (F := ValR X.K w (upd H a _)) (Paired.mapP h2 fun _ _ z => ⟨z.1, z.2.keep kp⟩) (hz.keep kp)⟩
          exact q _ b1 b2 b3
        · cases e
      · rename_i s es
        cases hy.int es
        split at e
        · rename_i hl
          cases e
          have hl2 : vs.length < sizeLine := by rw [Paired.length h2]; exact hl
          refine .inr ⟨a, _, rfl, DPut.k (k := .inl s) h1 hl2, ?_⟩
          obtain ⟨b1, b2, b3⟩ := box_write (o := .dK (putK vs (.inl s) z)) (b := .dct (putKV kvs (.inl s) vv)) ok st ea trivial fun kp => ⟨_, upd_same, put_pair (F := ValR X.K w (upd H a _)) (Paired.mapP h2 fun _ _ z => ⟨z.1, z.2.keep kp⟩) (hz.keep kp)⟩
          exact q _ b1 b2 b3
        · cases e
      · cases e
    · rename_i kvs em
      obtain ⟨vs, h1, h2⟩ := st.at_ n a _ ea em
      split at e
      · rename_i ds
        obtain ⟨b, us, rfl, h3, h4⟩ := hy.tupX rfl
        split at e
        · rename_i ks e0
          split at e
          · rename_i hl
            cases e
            have hl2 : vs.length < sizeLine := by rw [Paired.length h2]; exact hl
            refine .inr ⟨a, _, rfl, DPut.t (k := ks) h1 (by rw [h3, keysD_of h4 e0]) hl2, ?_⟩
            obtain ⟨b1, b2, b3⟩ := box_write (o := .dT (putK vs ks z)) (b := .dcT (putKV kvs ks vv)) ok st ea trivial fun kp => ⟨_, upd_same, put_pair (F := ValR X.K w (upd H a _)) (Paired.mapP h2 fun _ _ z => ⟨z.1, z.2.keep kp⟩) (hz.keep kp)⟩
            exact q _ b1 b2 b3
          · cases e
        · cases e
      · cases e
    · cases e
  · cases e
theorem assign_sub {o i : Expr} {p : Pos} {env : PySem.Env} (h : notSlice i = true) : ∀ v, assign (.Subscript o i p) env v = (do
      let ov ← holding [v] (eval o env)
      let iv ← holding [v, ov] (eval i env)
      standAt p
      holding [v, ov, iv] (setItem ov iv v)
      release [v, ov, iv] []) := by
  intro v
  cases i <;> first | rfl | cases h
theorem sole_sub {o i : Expr} {p : Pos} {l : Nat} {env : PySem.Env} : swapsWithSole [.Subscript o i p] v l env = pure false := by
  cases v <;> rfl
theorem c_seti {o i : Expr} {p : Pos} (ok0 : WOk w0 H0) (hu : X.A.units + 1 < cLine) (hi : notSlice i = true) (ho : PE X o (TX X E fa)) (hb : PE X i (TX X E fb)) (hv : PE X v (TX X E fe)) :
    PS X (.Assign [.Subscript o i p] v pos) (TXs X E w0 H0 fun r m => (fe r m).bind fun t m => (give t.val? m).bind fun x m => (fa r m).bind fun a m => (fb r m).bind fun k m =>
      (give (setBox m a k x) m).bind fun m' _ => .ok (.nx r) m') :=
  (ps_asg hv (pg_sub ho hb (set_all hu) (assign_sub hi)) sole_sub (nostores (.inl rfl)) (h1 := rfl)).imp fun D σ H h => by
    obtain ⟨w, r, m, A, st, p⟩ := h
    dsimp only at p
    rw [← bind_bind] at p
    refine ⟨w, r, m, A.ok, st, A.en, Post.toVal (PostS.expr (R := RV X.K) A ok0 p fun x m1 z w1 H1 s1 ok1 st1 (q1 : RV X.K H w1 H1 z x) p1 => ?_)⟩
    have A1 := A.step ok0 s1 ok1
    refine ⟨w1, r, m1, ok1, st1, A1.en, PostS.expr A1 ok0 p1 fun t m2 v2 w2 H2 s2 ok2 st2 (q2 : RT X.K H1 w2 H2 v2 t) p2 => ?_⟩
    have A2 := A1.step ok0 s2 ok2
    refine ⟨w2, r, m2, ok2, st2, A2.en, PostS.expr A2 ok0 p2 fun u m3 v3 w3 H3 s3 ok3 st3 (q3 : RT X.K H2 w3 H3 v3 u) p3 => ?_⟩
    have A3 := A2.step ok0 s3 ok3
    cases e : setBox m3 t u x with
    | none => rw [e] at p3; exact p3.elim
    | some m' =>
      rw [e] at p3
      dsimp only [give, Out.bind] at p3
      refine setBox_ok ok3 st3 (q2.1.step ok2 s3) q3.1 ((ValR.step ok1 s2 q1).step ok2 s3) e fun H4 b1 b2 b3 => ?_
      have A4 := A3.step ok0 b1 b2
      exact PostS.here A4 b3 (PostS.keep (Step.keep ok3 b1) p3) σ A4
theorem ownList_of {r : Env} {x : Nat} {xs : List D} (e : ownList r x = some xs) : r[x]? = some (.own (.list xs)) := by
  unfold ownList at e
  split at e
  · cases e
    assumption
  · cases e
theorem own_list {w : Wd} {H : Hp} {σ : L2.St} {r : Env} {x : Nat} {xs : List D} (A : At X.K w0 H0 w H σ r) (e : ownList r x = some xs) :
    ∃ a vs, σ[x]? = some (some (.ref a)) ∧ H a = some (.lst vs) ∧ Dens X.K w H vs xs := by
  obtain ⟨v, e1, a, rfl, ⟨vs, e2, e3⟩, _⟩ := A.en.own x _ (ownList_of e)
  exact ⟨a, vs, e1, e2, e3⟩
theorem c_setOwn {x : Nat} {n : Str} {np : Pos} {i : Expr} {p : Pos} (ok0 : WOk w0 H0) (hu : X.A.units + 1 < cLine) (hi : notSlice i = true) (hN : X.N[x]? = some n) (hvis : Vis X.env.scope n) (hd : (n == ("__debug__" : Str)) = false) (hcd : (n == ("__classdict__" : Str)) = false)
    (hb : PE X i (TX X E fb)) (hv : PE X v (TX X E fe)) :
    PS X (.Assign [.Subscript (.Name n np) i p] v pos) (TXs X E w0 H0 fun r m => (give (ownList r x) m).bind fun xs m => (fe r m).bind fun t m => (give (toD t) m).bind fun y m => (fb r m).bind fun k m => (give (getInt k) m).bind fun k m =>
      (give (L2.ixN xs.length k) m).bind fun j m => .ok (.nx (r.set x (.own (.list (xs.set j y))))) m) :=
  (ps_asg hv (pg_sub (pe_var hN hvis hd hcd) hb (set_all hu) (assign_sub hi)) sole_sub (nostores (.inl rfl)) (h1 := rfl)).imp fun D σ H h => by
    obtain ⟨w, r, m, A, st, p⟩ := h
    dsimp only at p
    cases eo : ownList r x with
    | none => rw [eo] at p; exact p.elim
    | some xs =>
      rw [eo] at p
      have p : PostS X.K X.mg E w0 H0 w H ((fe r m).bind fun t m => (give (toD t) m).bind fun y m => (fb r m).bind fun k m => (give (getInt k) m).bind fun k m =>
        (give (L2.ixN xs.length k) m).bind fun j m => .ok (.nx (r.set x (.own (.list (xs.set j y))))) m) D := p
      rw [← bind_bind] at p
      refine ⟨w, r, m, A.ok, st, A.en, Post.toD (PostS.expr (R := RD X.K) A ok0 p fun y m1 z w1 H1 s1 ok1 st1 (q1 : RD X.K H w1 H1 z y) p1 => ?_)⟩
      have A1 := A.step ok0 s1 ok1
      obtain ⟨a, vs, e1, e2, e3⟩ := own_list A1 eo
      refine ⟨_, e1, w1, r, m1, ok1, st1, A1.en, PostS.expr A1 ok0 p1 fun u m3 v3 w3 H3 s3 ok3 st3 (q3 : RT X.K H1 w3 H3 v3 u) p3 => ?_⟩
      have A3 := A1.step ok0 s3 ok3
      obtain ⟨a', vs', f1, f2, f3⟩ := own_list A3 eo
      rw [e1] at f1
      cases f1
      cases ek : getInt u with
      | none => rw [ek] at p3; exact p3.elim
      | some k =>
        rw [ek] at p3
        cases q3.1.int (getInt_data ek)
        dsimp only [give, Out.bind] at p3
        cases ej : ixN xs.length k with
        | none => rw [ej] at p3; exact p3.elim
        | some j =>
          rw [ej] at p3
          refine .inl ⟨a, vs', k, j, rfl, rfl, f2, by rw [f3.length]; exact ej, ?_⟩
          have qd : Den X.K w3 H3 z y := Den.step ok1 s3 q1
          obtain ⟨b1, b2⟩ := own_write (new := .list (xs.set j y)) (o := .lst (vs'.set j z)) A3 (ownList_of eo) e1 (by rw [f2]; trivial) trivial fun kp => ⟨_, upd_same, (f3.keep kp).set j (Den.keep kp qd)⟩
          have nF : ¬ w3.F a := by
            obtain ⟨v', g1, b, g2, _, g3, _⟩ := A3.en.own x _ (ownList_of eo)
            rw [e1] at g1
            cases g1
            cases g2
            exact g3
          have nI : a ∉ w3.io := by
            obtain ⟨v', g1, b, g2, _, _, g3⟩ := A3.en.own x _ (ownList_of eo)
            rw [e1] at g1
            cases g1
            cases g2
            exact g3
          exact PostS.here b1 (write_st nF nI (by rw [f2]; trivial) st3) (PostS.keep b2 p3) σ b1
theorem own_apart {w : Wd} {H : Hp} {σ : L2.St} {r : Env} {x : Nat} {d : D} {a : Addr} (A : At X.K w0 H0 w H σ r) (e : r[x]? = some (.own d)) (e1 : σ[x]? = some (some (.ref a))) : ¬ w.F a ∧ a ∉ w.io := by
  obtain ⟨v', g1, b, g2, _, g3, g4⟩ := A.en.own x _ e
  rw [e1] at g1
  cases g1
  cases g2
  exact ⟨g3, g4⟩
theorem c_append {x : Nat} {n : Str} {np apos cpos : Pos} (ok0 : WOk w0 H0) (hN : X.N[x]? = some n) (hvis : Vis X.env.scope n) (hd : (n == ("__debug__" : Str)) = false) (hcd : (n == ("__classdict__" : Str)) = false)
    (hst : noStar a = true) (hline : (apos.endLine == cpos.line) = true) (ha : PE X a (TX X E fa)) :
    PS X (.Expr (.Call (.Attribute (.Name n np) "append" apos) [a] [] cpos) pos) (TXs X E w0 H0 fun r m => (give (ownList r x) m).bind fun xs m => (fa r m).bind fun t m => (give (toD t) m).bind fun y m =>
      if xs.length < sizeLine then .ok (.nx (r.set x (.own (.list (xs ++ [y]))))) m else .bad) :=
  (ps_expr (pe_bm PySem.F.plainAttrs_list PySem.F.slot_list_append PySem.F.type_list_append mt_append (pe_var hN hvis hd hcd) (pa_cons ha pa_nil (star_of hst)) rfl (by rw [star_of hst]; rfl) hline (star_of hst) rfl) rfl).imp fun D σ H h => by
    obtain ⟨w, r, m, A, st, p⟩ := h
    dsimp only at p
    cases eo : ownList r x with
    | none => rw [eo] at p; exact p.elim
    | some xs =>
      rw [eo] at p
      have p : PostS X.K X.mg E w0 H0 w H ((fa r m).bind fun t m => (give (toD t) m).bind fun y m => if xs.length < sizeLine then .ok (.nx (r.set x (.own (.list (xs ++ [y]))))) m else .bad) D := p
      rw [← bind_bind] at p
      obtain ⟨a, vs, e1, e2, e3⟩ := own_list A eo
      refine ⟨_, e1, .inl ⟨rfl, _, SqL.of e2⟩, w, r, m, A.ok, st, A.en, Post.toD (PostS.expr (R := RD X.K) A ok0 p fun y m1 z w1 H1 s1 ok1 st1 (q1 : RD X.K H w1 H1 z y) p1 => ?_)⟩
      have A1 := A.step ok0 s1 ok1
      obtain ⟨a', vs', f1, f2, f3⟩ := own_list A1 eo
      rw [e1] at f1
      cases f1
      split at p1
      · rename_i hz
        refine ⟨a, vs', z, rfl, rfl, f2, by rw [f3.length]; exact hz, ?_⟩
        obtain ⟨b1, b2⟩ := own_write (new := .list (xs ++ [y])) (o := .lst (vs' ++ [z])) A1 (ownList_of eo) e1 (by rw [f2]; trivial) trivial fun kp => ⟨_, upd_same, (f3.keep kp).append (.cons (Den.keep kp q1) .nil)⟩
        obtain ⟨nF, nI⟩ := own_apart A1 (ownList_of eo) e1
        exact PostS.here b1 (write_st nF nI (by rw [f2]; trivial) st1) (PostS.keep b2 p1) σ b1
      · exact p1.elim
theorem dens_dropLast {K : PySem.W.Frag} {w : Wd} {H : Hp} {vs : List V} {ds : List D} (h : Dens K w H vs ds) : Dens K w H vs.dropLast ds.dropLast := by
  rw [List.dropLast_eq_take, List.dropLast_eq_take, h.length]
  exact h.take _
theorem c_popA {x : Nat} {n : Str} {np apos cpos : Pos} (ok0 : WOk w0 H0) (hN : X.N[x]? = some n) (hvis : Vis X.env.scope n) (hd : (n == ("__debug__" : Str)) = false) (hcd : (n == ("__classdict__" : Str)) = false)
    (hline : (apos.endLine == cpos.line) = true) (hg : PG X tgt (gT X.K tg)) (h1 : (assignEach [tgt] X.env).map (·.2) = [assign tgt X.env]) :
    PS X (.Assign [tgt] (.Call (.Attribute (.Name n np) "pop" apos) [] [] cpos) pos) (TXs X E w0 H0 fun r m => (give (ownList r x) m).bind fun xs m => (give xs.getLast? m).bind fun y m =>
      (give (asg tg (.d y) (r.set x (.own (.list xs.dropLast)))) m).bind fun r m => .ok (.nx r) m) :=
  (ps_asg (pe_bm0 PySem.F.plainAttrs_list PySem.F.slot_list_pop PySem.F.type_list_pop mt_pop (pe_var hN hvis hd hcd) rfl hline) hg rfl (nostores (.inr rfl)) (h1 := h1)).imp fun D σ H h => by
    obtain ⟨w, r, m, A, st, p⟩ := h
    dsimp only at p
    cases eo : ownList r x with
    | none => rw [eo] at p; exact p.elim
    | some xs =>
      rw [eo] at p
      obtain ⟨a, vs, e1, e2, e3⟩ := own_list A eo
      dsimp only [give, Out.bind] at p
      cases el : xs.getLast? with
      | none => rw [el] at p; exact p.elim
      | some y =>
        rw [el] at p
        dsimp only [give, Out.bind] at p
        rw [List.getLast?_eq_getElem?] at el
        obtain ⟨z, z1, z2⟩ := e3.at el
        refine ⟨_, e1, .inl ⟨rfl, _, SqL.of e2⟩, a, vs, z, rfl, rfl, e2, by rw [e3.length]; exact z1, ?_⟩
        obtain ⟨b1, b2⟩ := own_write (new := .list xs.dropLast) (o := .lst vs.dropLast) A (ownList_of eo) e1 (by rw [e2]; trivial) trivial fun kp => ⟨_, upd_same, dens_dropLast (e3.keep kp)⟩
        obtain ⟨nF, nI⟩ := own_apart A (ownList_of eo) e1
        have st2 := write_st (o := .lst vs.dropLast) nF nI (by rw [e2]; trivial) st
        cases ea : asg tg (.d y) (r.set x (.own (.list xs.dropLast))) with
        | none => rw [ea] at p; exact p.elim
        | some r' =>
          rw [ea] at p
          refine asg_ok (Q := D.nx) ea (show ValR X.K w _ z (.d y) from Den.keep b2 z2) b1.en fun σ' en' _ _ ho => ?_
          have A' : At X.K w0 H0 w (upd H a (.lst vs.dropLast)) σ' r' := ⟨b1.s, b1.ok, en', fun i x' b ei es => by
            obtain ⟨h3, h4⟩ := ho i x' ei
            exact b1.fr i x' b h3 (h4 ▸ es)⟩
          exact PostS.here A' st2 (PostS.keep b2 p) σ' A'
def ipO (g : Int → Int → Option Int) : TIp := fun x y H Q => ∃ i j k, x = .int i ∧ y = .int j ∧ g i j = some k ∧ Q (.int k) H
theorem ip_aug : ∀ o : BOp, PIp X (astB o) (ipO (augI o))
  | .add => fun pins s σ H x y v u Q I r1 r2 h => by
    obtain ⟨i, j, k, e1, e2, e3, q⟩ := h
    cases e3
    exact ip_add pins s σ H x y v u Q I r1 r2 ⟨i, j, e1, e2, q⟩
  | .sub => fun pins s σ H x y v u Q I r1 r2 h => by
    obtain ⟨i, j, k, e1, e2, e3, q⟩ := h
    cases e3
    exact ip_sub pins s σ H x y v u Q I r1 r2 ⟨i, j, e1, e2, q⟩
  | .mul => fun pins s σ H x y v u Q I r1 r2 h => by
    obtain ⟨i, j, k, e1, e2, e3, q⟩ := h
    have e3 : (if okMul i j = true then some (i * j) else none) = some k := e3
    split at e3
    · rename_i hm
      cases e3
      refine iop_mul pins s σ H x y v u Q I r1 r2 ⟨i, j, e1, e2, ?_, q⟩
      unfold okMul at hm
      simp only [Bool.or_eq_true, Bool.and_eq_true, decide_eq_true_eq] at hm
      exact hm
    · cases e3
  | .fdiv => fun pins s σ H x y v u Q I r1 r2 h => by
    obtain ⟨i, j, k, e1, e2, e3, q⟩ := h
    cases e3
  | .mod => fun pins s σ H x y v u Q I r1 r2 h => by
    obtain ⟨i, j, k, e1, e2, e3, q⟩ := h
    cases e3
  | .pow => fun pins s σ H x y v u Q I r1 r2 h => by
    obtain ⟨i, j, k, e1, e2, e3, q⟩ := h
    cases e3
theorem c_aug {i : Nat} {x : Str} {px : Pos} {o : BOp} (ok0 : WOk w0 H0) (hN : X.N.Nodup) (hi : X.N[i]? = some x) (hx : Loc X.env.scope x) (hf : X.fn x = true ∨ X.env.scope.names.lookup x = some .local) (ha : PE X a (TX X E fa)) :
    PS X (.AugAssign (.Name x px) (astB o) a pos) (TXs X E w0 H0 fun r m => ((match r[i]? with
      | some (.val x) => .ok (.v x) m
      | some (.own x) => .ok (.bor x) m
      | _ => .bad) : Out Tmp).bind fun x m => (fa r m).bind fun y m => match (getInt x).bind fun p => (getInt y).bind fun q => augI o p q with
    | some k => if i < r.length then .ok (.nx (r.set i (.val (.d (.int k))))) m else .bad
    | none => .bad) := by
  refine (ps_aug hN hi hx ha (ip_aug o) hf).imp fun D σ H h => ?_
  obtain ⟨w, r, m, A, st, p⟩ := h
  cases er : r[i]? with
  | none => dsimp only at p; rw [er] at p; exact p.elim
  | some sl =>
    dsimp only at p
    rw [er] at p
    have rest : ∀ (t : Tmp) (v : V), σ[i]? = some (some v) → TmpR X.K w H v t → PostS X.K X.mg E w0 H0 w H ((fa r m).bind fun y m => match (getInt t).bind fun p => (getInt y).bind fun q => augI o p q with
      | some k => if i < r.length then .ok (.nx (r.set i (.val (.d (.int k))))) m else .bad
      | none => .bad) D → tAug i (TX X E fa) (ipO (augI o)) D σ H := fun t v e1 q p => by
      refine ⟨v, e1, w, r, m, A.ok, st, A.en, PostS.expr A ok0 p fun u m1 y w1 H1 s1 ok1 st1 (q1 : RT X.K H w1 H1 y u) p1 => ?_⟩
      have A1 := A.step ok0 s1 ok1
      cases ek : (getInt t).bind fun p => (getInt u).bind fun q => augI o p q with
      | none => rw [ek] at p1; exact p1.elim
      | some k =>
        rw [ek] at p1
        obtain ⟨k1, ek1, ek⟩ := Option.bind_eq_some_iff.mp ek
        obtain ⟨k2, ek2, ek⟩ := Option.bind_eq_some_iff.mp ek
        cases q.int (getInt_data ek1)
        cases q1.1.int (getInt_data ek2)
        dsimp only at p1
        split at p1
        · rename_i hl
          refine ⟨k1, k2, k, rfl, rfl, ek, ?_⟩
          have en' : EnvR X.K w1 H1 (σ.set i (some (.int k))) (r.set i (.val (.d (.int k)))) := A1.en.set hl (show Den X.K w1 H1 _ (.int _) from .int _)
          have A' : At X.K w0 H0 w1 H1 (σ.set i (some (.int k))) (r.set i (.val (.d (.int k)))) := ⟨A1.s, ok1, en', fun j y' b ej es => by
            by_cases hj : i = j
            · subst hj
              rw [List.getElem?_set_self hl] at ej
              cases ej
            · rw [List.getElem?_set_ne hj] at ej es
              exact A1.fr j y' b ej es⟩
          exact PostS.here A' st1 p1 _ A'
        · exact p1.elim
    cases sl with
    | no => exact p.elim
    | val y =>
      obtain ⟨v, e1, q⟩ := A.en.val i y er
      exact rest (.v y) v e1 q p
    | own y =>
      obtain ⟨v, e1, b, rfl, c, n1, n2⟩ := A.en.own i y er
      exact rest (.bor y) _ e1 ⟨b, rfl, c, n2⟩ p

theorem c_bad {st : Stmt} : PS X st (TXs X E w0 H0 fun _ _ => .bad) := ⟨fun pins s σ H D I h => by
  obtain ⟨w, r, m, A, st, p⟩ := h
  exact p.elim⟩
theorem c_extend {x : Nat} {n : Str} {np apos cpos : Pos} (ok0 : WOk w0 H0) (hN : X.N[x]? = some n) (hvis : Vis X.env.scope n) (hd : (n == ("__debug__" : Str)) = false) (hcd : (n == ("__classdict__" : Str)) = false)
    (hst : noStar a = true) (hline : (apos.endLine == cpos.line) = true) (ha : PE X a (TX X E fa)) :
    PS X (.Expr (.Call (.Attribute (.Name n np) "extend" apos) [a] [] cpos) pos) (TXs X E w0 H0 fun r m => (give (ownList r x) m).bind fun xs m => (fa r m).bind fun t m => match t.data? with
      | some (.list ys) => if xs.length + ys.length ≤ sizeLine then .ok (.nx (r.set x (.own (.list (xs ++ ys))))) m else .bad
      | _ => .bad) :=
  (ps_expr (pe_bm PySem.F.plainAttrs_list PySem.F.slot_list_extend PySem.F.type_list_extend mt_extend (pe_var hN hvis hd hcd) (pa_cons ha pa_nil (star_of hst)) rfl (by rw [star_of hst]; rfl) hline (star_of hst) rfl) rfl).imp fun D σ H h => by
    obtain ⟨w, r, m, A, st, p⟩ := h
    dsimp only at p
    cases eo : ownList r x with
    | none => rw [eo] at p; exact p.elim
    | some xs =>
      rw [eo] at p
      obtain ⟨a, vs, e1, e2, e3⟩ := own_list A eo
      refine ⟨_, e1, .inl ⟨rfl, _, SqL.of e2⟩, w, r, m, A.ok, st, A.en, PostS.expr (R := RT X.K) A ok0 (show PostS X.K X.mg E w0 H0 w H ((fa r m).bind fun t m => match t.data? with
      | some (.list ys) => if xs.length + ys.length ≤ sizeLine then .ok (.nx (r.set x (.own (.list (xs ++ ys))))) m else .bad
      | _ => .bad) D from p) fun t m1 z w1 H1 s1 ok1 st1 (q1 : RT X.K H w1 H1 z t) p1 => ?_⟩
      have A1 := A.step ok0 s1 ok1
      obtain ⟨a', vs', f1, f2, f3⟩ := own_list A1 eo
      rw [e1] at f1
      cases f1
      split at p1
      · rename_i ys ed
        obtain ⟨b, us, rfl, g1, g2⟩ := q1.1.list ed
        split at p1
        · rename_i hz
          refine ⟨a, b, vs', us, rfl, rfl, f2, g1, by rw [f3.length, g2.length]; exact hz, ?_⟩
          obtain ⟨b1, b2⟩ := own_write (new := .list (xs ++ ys)) (o := .lst (vs' ++ us)) A1 (ownList_of eo) e1 (by rw [f2]; trivial) trivial fun kp => ⟨_, upd_same, (f3.keep kp).append (g2.keep kp)⟩
          obtain ⟨nF, nI⟩ := own_apart A1 (ownList_of eo) e1
          exact PostS.here b1 (write_st nF nI (by rw [f2]; trivial) st1) (PostS.keep b2 p1) σ b1
        · exact p1.elim
      · exact p1.elim
theorem asgLs_ok {K : PySem.W.Frag} {w : Wd} {H : Hp} {Q : L2.St → Hp → Prop} : ∀ {is : List Nat} {xs : List Val} {vs : List V} {r r' : Env} {σ : L2.St}, asgLs is xs r = some r' → Paired (ValR K w H) vs xs → EnvR K w H σ r →
    (∀ σ', EnvR K w H σ' r' → (∀ (i : Nat) (y : Ev.D), r'[i]? = some (.own y) → r[i]? = some (.own y) ∧ σ'[i]? = σ[i]?) → Q σ' H) → gTs K (is.map .name) vs σ H Q
  | [], [], _, r, r', σ, e, .nil, en, h => by
    simp only [asgLs, Option.some.injEq] at e
    subst e
    exact ⟨rfl, h σ en fun _ _ z => ⟨z, rfl⟩⟩
  | i :: is, x :: xs, _, r, r', σ, e, .cons q t, en, h => by
    simp only [asgLs] at e
    split at e
    · rename_i hi
      refine ⟨_, _, rfl, ?_⟩
      refine asgLs_ok e t (en.set hi q) fun σ2 n3 n6 => h σ2 n3 fun j y ej => ?_
      obtain ⟨a1, a2⟩ := n6 j y ej
      by_cases hj : i = j
      · subst hj
        rw [List.getElem?_set_self hi] at a1
        cases a1
      · rw [List.getElem?_set_ne hj] at a1 a2
        exact ⟨a1, a2⟩
    · cases e
  | [], _ :: _, _, _, _, _, e, _, _, _ => by simp [asgLs] at e
  | _ :: _, [], _, _, _, _, e, _, _, _ => by simp [asgLs] at e
theorem asgLs_len : ∀ {is : List Nat} {xs : List Val} {r r' : Env}, asgLs is xs r = some r' → xs.length = is.length
  | [], [], _, _, _ => rfl
  | i :: is, x :: xs, r, r', e => by
    simp only [asgLs] at e
    split at e
    · rw [List.length_cons, List.length_cons, asgLs_len e]
    · cases e
  | [], _ :: _, _, _, e => by simp [asgLs] at e
  | _ :: _, [], _, _, e => by simp [asgLs] at e
theorem c_asgL {may : Str → Bool} {is : List Nat} {es : List Expr} {tpos : Pos} {kt : Nat} (ok0 : WOk w0 H0) (hc : X.calm = true) (hN : X.N.Nodup) (hm : MayOk X may) (hv : PE X v (TX X E fa)) (hts : ckTgs X.N may (is.map .name) es = true)
    (hs : swapsWithSole [.Tuple es kt tpos] v pos.line X.env = pure false) (hw : swappedStores [.Tuple es kt tpos] v X.env = pure none) :
    PS X (.Assign [.Tuple es kt tpos] v pos) (TXs X E w0 H0 fun r m => (fa r m).bind fun t m => match t with
      | .v (.loc n) => match m[n]? with
        | some (.lst xs) => (give (asgLs is xs r) m).bind fun r' m => .ok (.nx r') m
        | _ => .bad
      | _ => .bad) :=
  (ps_asg hv (pg_lst hc (tgs_ok hc hN hm hts) (eachs_of hts).1 (eachs_of hts).2) hs hw (h1 := rfl)).imp fun D σ H h => by
    obtain ⟨w, r, m, A, st, p⟩ := h
    refine ⟨w, r, m, A.ok, st, A.en, PostS.expr A ok0 p fun t m1 y w1 H1 s1 ok1 st1 (q1 : RT X.K H w1 H1 y t) p1 => ?_⟩
    have A1 := A.step ok0 s1 ok1
    split at p1
    · rename_i n
      obtain ⟨a, rfl, ea⟩ : ∃ a, y = .ref a ∧ w1.io[n]? = some a := q1.1
      split at p1
      · rename_i xs em
        obtain ⟨vs, h1, h2⟩ := st1.at_ n a _ ea em
        cases e1 : asgLs is xs r with
        | none => rw [e1] at p1; exact p1.elim
        | some r' =>
          rw [e1] at p1
          refine ⟨a, vs, rfl, SqL.of h1, by rw [Paired.length h2, asgLs_len e1, List.length_map], asgLs_ok e1 h2 A1.en fun σ' en' ho => ?_⟩
          have A2 : At X.K w0 H0 w1 H1 σ' r' := ⟨A1.s, A1.ok, en', fun j x' b ei es => by
            obtain ⟨h3, h4⟩ := ho j x' ei
            exact A1.fr j x' b h3 (h4 ▸ es)⟩
          exact PostS.here A2 st1 p1 _ A2
      · exact p1.elim
    · exact p1.elim
end
end Ev
set_option Elab.async false
set_option linter.all false
set_option maxHeartbeats 1000000
namespace Ev
open PySem PySem.Spec L2

section
variable {X : Cx} {E : XK} {w0 : Wd} {H0 : Hp} {tgt iter : Expr} {pos : Pos} {fi : FE (List Val)} {ga : FE Bool} {f1 : FS} {tg : Tg} {body : List Stmt}
structure ForI (X : Cx) (E : XK) (w0 : Wd) (H0 : Hp) (tg : Tg) (f : FS) (xs : List Val) (w1 : Wd) (H1 : Hp) (D : Ends) (i : Nat) (σ : L2.St) (H : Hp) : Prop where
  ex : ∃ w r m, At X.K w0 H0 w H σ r ∧ StR X.K w H m ∧ Keep w1 H1 w H ∧ PostS X.K X.mg E w0 H0 w H (forL (forF tg f) (xs.drop i) r m) D
theorem c_for (ok0 : WOk w0 H0) (hp : PassesOwn (model X.prog X.w) X.A X.env X.xe) (hc : X.calm = true) (hi : PI X tgt iter (TXi X E true fi)) (hg : PG X tgt (gT X.K tg)) (hs : ∀ x, foldedSetIterable iter X.env x = pure x) (hb : PSs X body (TXs X E w0 H0 f1)) :
    PS X (.For tgt iter body [] pos) (TXs X E w0 H0 fun r m => (fi r m).bind fun xs m => forL (forF tg f1) xs r m) :=
  (ps_for hp hc hi hg hb hs).imp fun D σ H h => by
    obtain ⟨w, r, m, A, st, p⟩ := h
    refine ⟨w, r, m, A.ok, st, A.en, PostS.expr A ok0 p fun xs m1 J w1 H1 s1 ok1 st1 (q1 : RI X.K true H w1 H1 J xs) p1 => ?_⟩
    obtain ⟨⟨G, Y, wk, wG, wY⟩, _⟩ := q1
    have A1 := A.step ok0 s1 ok1
    refine for_it wk (ForI X E w0 H0 tg f1 xs w1 H1 D) ?_ (fun i σ2 H2 hi hP => ?_) (fun i x σ2 H2 H3 hi hP hY => ?_) fun σ2 H2 hP => ?_
    · exact ⟨w1, r, m1, A1, st1, Keep.refl _ _, by rw [List.drop_zero]; exact p1⟩
    · obtain ⟨w2, r2, m2, A2, st2, k2, _⟩ := hP.ex
      exact wG w2 H2 k2
    · obtain ⟨w2, r2, m2, A2, st2, k2, p2⟩ := hP.ex
      obtain ⟨gr, val⟩ := wY i H2 x H3 hi hY
      obtain ⟨y, ey, qy⟩ := val w2 k2 A2.ok
      have A3 : At X.K w0 H0 w2 H3 σ2 r2 := A2.step ok0 (grow_step gr) (grow_ok gr A2.ok)
      have st3 : StR X.K w2 H3 m2 := st2.grow A2.ok gr
      have hdrop : xs.drop i = y :: xs.drop (i + 1) := by
        rw [List.drop_eq_getElem_cons (by exact hi)]
        have : xs[i]? = some xs[i] := List.getElem?_eq_getElem hi
        rw [this] at ey
        cases ey
        rfl
      rw [hdrop] at p2
      unfold forL at p2
      have k3 : Keep w2 H2 w2 H3 := Step.keep A2.ok (grow_step gr)
      cases ea : asg tg y r2 with
      | none =>
        have ec : forF tg f1 y r2 m2 = .bad := by simp [forF, ea]
        rw [ec] at p2
        exact p2.elim
      | some r3 =>
        have ec : forF tg f1 y r2 m2 = f1 r3 m2 := by simp [forF, ea]
        rw [ec] at p2
        refine asg_ok ea qy A3.en fun σ4 en4 _ _ ho => ?_
        have A4 : At X.K w0 H0 w2 H3 σ4 r3 := ⟨A3.s, A3.ok, en4, fun j x' b ei es => by
          obtain ⟨h3, h4⟩ := ho j x' ei
          exact A3.fr j x' b h3 (h4 ▸ es)⟩
        refine ⟨w2, r3, m2, A4, st3, ?_⟩
        cases ef : f1 r3 m2 with
        | exc cc fs m5 => rw [ef] at p2; exact p2
        | bad => rw [ef] at p2; exact p2
        | ok fl m5 =>
          rw [ef] at p2
          intro w5 H5 k5 s5 ok5 st5
          cases fl with
          | nx r5 => exact fun σ5 A5 => ⟨w5, r5, m5, A5, st5, (k2.trans k3).trans k5, PostS.keep (k3.trans k5) p2⟩
          | ct r5 => exact fun σ5 A5 => ⟨w5, r5, m5, A5, st5, (k2.trans k3).trans k5, PostS.keep (k3.trans k5) p2⟩
          | bk r5 => exact p2 w5 H5 (k3.trans k5) s5 ok5 st5
          | rt t => exact p2 w5 H5 (k3.trans k5) s5 ok5 st5
    · obtain ⟨w2, r2, m2, A2, st2, k2, p2⟩ := hP.ex
      rw [List.drop_length] at p2
      exact PostS.here A2 st2 p2 σ2 A2

structure ForJ (X : Cx) (E : XK) (w0 : Wd) (H0 : Hp) (ts : List Tg) (k : Nat) (f : FS) (xs : List Val) (w1 : Wd) (H1 : Hp) (D : Ends) (i : Nat) (σ : L2.St) (H : Hp) : Prop where
  ex : ∃ w r m, At X.K w0 H0 w H σ r ∧ StR X.K w H m ∧ Keep w1 H1 w H ∧ PostS X.K X.mg E w0 H0 w H (forL (forFS ts k f) (xs.drop i) r m) D
theorem c_forS {may : Str → Bool} {ts : List Tg} {k : Nat} {x : Str} {es : List Expr} {px sp tpos : Pos} {kt : Nat} (ok0 : WOk w0 H0) (hp : PassesOwn (model X.prog X.w) X.A X.env X.xe) (hc : X.calm = true) (hN : X.N.Nodup) (hm : MayOk X may)
    (hts : ckTgs X.N may ts es = true) (hk : X.N[k]? = some x) (hx : may x = true) (hi : PI X (.Tuple (es ++ [.Starred (.Name x px) sp]) kt tpos) iter (TXi X E true fi)) (hs : ∀ x, foldedSetIterable iter X.env x = pure x) (hb : PSs X body (TXs X E w0 H0 f1)) :
    PS X (.For (.Tuple (es ++ [.Starred (.Name x px) sp]) kt tpos) iter body [] pos) (TXs X E w0 H0 fun r m => (fi r m).bind fun xs m => forL (forFS ts k f1) xs r m) :=
  let ⟨g1, g2, g3⟩ := pgs_star hc hN hm hk hx hts (px := px) (sp := sp)
  (ps_for hp hc hi (pg_star hc g1 g2 g3) hb hs).imp fun D σ H h => by
    obtain ⟨w, r, m, A, st, p⟩ := h
    refine ⟨w, r, m, A.ok, st, A.en, PostS.expr A ok0 p fun xs m1 J w1 H1 s1 ok1 st1 (q1 : RI X.K true H w1 H1 J xs) p1 => ?_⟩
    obtain ⟨⟨G, Y, wk, wG, wY⟩, _⟩ := q1
    have A1 := A.step ok0 s1 ok1
    refine for_it wk (ForJ X E w0 H0 ts k f1 xs w1 H1 D) ?_ (fun i σ2 H2 hi hP => ?_) (fun i x σ2 H2 H3 hi hP hY => ?_) fun σ2 H2 hP => ?_
    · exact ⟨w1, r, m1, A1, st1, Keep.refl _ _, by rw [List.drop_zero]; exact p1⟩
    · obtain ⟨w2, r2, m2, A2, st2, k2, _⟩ := hP.ex
      exact wG w2 H2 k2
    · obtain ⟨w2, r2, m2, A2, st2, k2, p2⟩ := hP.ex
      obtain ⟨gr, val⟩ := wY i H2 x H3 hi hY
      obtain ⟨y, ey, qy⟩ := val w2 k2 A2.ok
      have A3 : At X.K w0 H0 w2 H3 σ2 r2 := A2.step ok0 (grow_step gr) (grow_ok gr A2.ok)
      have st3 : StR X.K w2 H3 m2 := st2.grow A2.ok gr
      rw [drop_at ey] at p2
      unfold forL at p2
      have k3 : Keep w2 H2 w2 H3 := Step.keep A2.ok (grow_step gr)
      cases ei : (Tmp.v y).items? with
      | none =>
        have ec : forFS ts k f1 y r2 m2 = .bad := by simp [forFS, ei]
        rw [ec] at p2
        exact p2.elim
      | some zs =>
        by_cases hz : ts.length ≤ zs.length ∧ zs.length ≤ 16384
        · cases ea : asgs ts (zs.take ts.length) r2 with
          | none =>
            have ec : forFS ts k f1 y r2 m2 = .bad := by simp [forFS, ei, hz, ea]
            rw [ec] at p2
            exact p2.elim
          | some r3 =>
            by_cases hk2 : k < r3.length
            · have ec : forFS ts k f1 y r2 m2 = f1 (r3.set k (.own (.list (zs.drop ts.length)))) m2 := by simp [forFS, ei, hz, ea, hk2]
              rw [ec] at p2
              obtain ⟨a, vs, rfl, hq, hd⟩ := TmpR.items (t := .v y) qy ei
              refine ⟨a, vs, rfl, hq, by rw [hd.length]; exact hz.1, by rw [hd.length]; exact hz.2, fun pp hpp => ?_⟩
              have gs : Step w2 H3 w2 (upd H3 pp (.lst (vs.drop ts.length))) := grow_step (grow_upd hpp)
              have d2 := hd.step A3.ok gs
              refine asgsS_ok ea (d2.take _) (A3.en.step A3.ok gs) fun σ4 en4 _ ho => ?_
              have A4 := At.fresh ok0 A3 hpp (d2.drop ts.length) en4 ho hk2
              have st4 : StR X.K w2 (upd H3 pp (.lst (vs.drop ts.length))) m2 := st3.grow A3.ok (grow_upd hpp)
              have k4 : Keep w2 H3 w2 (upd H3 pp (.lst (vs.drop ts.length))) := Step.keep A3.ok gs
              refine ⟨w2, _, m2, A4, st4, ?_⟩
              cases ef : f1 (r3.set k (.own (.list (zs.drop ts.length)))) m2 with
              | exc cc fs m5 => rw [ef] at p2; exact p2
              | bad => rw [ef] at p2; exact p2
              | ok fl m5 =>
                rw [ef] at p2
                intro w5 H5 k5 s5 ok5 st5
                have k35 := (k3.trans k4).trans k5
                cases fl with
                | nx r5 => exact fun σ5 A5 => ⟨w5, r5, m5, A5, st5, k2.trans k35, PostS.keep k35 p2⟩
                | ct r5 => exact fun σ5 A5 => ⟨w5, r5, m5, A5, st5, k2.trans k35, PostS.keep k35 p2⟩
                | bk r5 => exact p2 w5 H5 k35 s5 ok5 st5
                | rt t => exact p2 w5 H5 k35 s5 ok5 st5
            · have ec : forFS ts k f1 y r2 m2 = .bad := by simp [forFS, ei, hz, ea, hk2]
              rw [ec] at p2
              exact p2.elim
        · have ec : forFS ts k f1 y r2 m2 = .bad := by simp [forFS, ei, hz]
          rw [ec] at p2
          exact p2.elim
    · obtain ⟨w2, r2, m2, A2, st2, k2, p2⟩ := hP.ex
      rw [List.drop_length] at p2
      exact PostS.here A2 st2 p2 σ2 A2

theorem whil_some {t : FE Bool} {f : FS} {r : Env} {m : Store} (h : whilL t f r m ≠ .bad) : ∃ n, whilN t f n r m = some (whilL t f r m) := by
  unfold whilL at h ⊢
  split
  · rename_i hh
    have := Classical.choose_spec hh
    refine ⟨Classical.choose hh, ?_⟩
    cases e : whilN t f (Classical.choose hh) r m with
    | none => rw [e] at this; cases this
    | some o => rfl
  · rename_i hh
    rw [dif_neg hh] at h
    exact absurd rfl h
theorem c_whil {c : Expr} (ok0 : WOk w0 H0) (hp : PassesOwn (model X.prog X.w) X.A X.env X.xe) (hc : PT X c (TXb X E ga)) (hb : PSs X body (TXs X E w0 H0 f1)) :
    PS X (.While c body [] pos) (TXs X E w0 H0 fun r m => whilL ga f1 r m) :=
  (ps_while hp hc hb).imp fun D σ H h => by
    obtain ⟨w, r, m, A, st, p⟩ := h
    have hne : whilL ga f1 r m ≠ .bad := fun z => by
      dsimp only at p
      rw [z] at p
      exact p
    obtain ⟨n, hn⟩ := whil_some hne
    refine ⟨fun k σ H => ∃ w r m o, At X.K w0 H0 w H σ r ∧ StR X.K w H m ∧ whilN ga f1 k r m = some o ∧ PostS X.K X.mg E w0 H0 w H o D, ⟨n, w, r, m, _, A, st, hn, p⟩, ?_⟩
    rintro k σ2 H2 ⟨w2, r2, m2, o, A2, st2, hk, p2⟩
    cases k with
    | zero => cases hk
    | succ k =>
      unfold whilN at hk
      refine ⟨w2, r2, m2, A2.ok, st2, A2.en, ?_⟩
      cases eg : ga r2 m2 with
      | exc cc fs m3 =>
        rw [eg] at hk
        cases hk
        exact fun cls d w' H' s' ok' st' x => p2 cls d w' H' (A2.s.trans ok0 s') ok' st' x
      | bad =>
        rw [eg] at hk
        cases hk
        exact p2
      | ok b m3 =>
        rw [eg] at hk
        intro b' w3 H3 s3 ok3 st3 qb
        cases qb
        have A3 := A2.step ok0 s3 ok3
        have kp3 : Keep w2 H2 w3 H3 := Step.keep A2.ok s3
        cases b with
        | false =>
          cases hk
          exact PostS.here A3 st3 (PostS.keep kp3 p2) σ2 A3
        | true =>
          refine ⟨fun σ4 H4 => ∃ w r m o, At X.K w0 H0 w H4 σ4 r ∧ StR X.K w H4 m ∧ whilN ga f1 k r m = some o ∧ PostS X.K X.mg E w0 H0 w H4 o D, fun σ' H' hN => ⟨k, Nat.lt_succ_self k, hN⟩, w3, r2, m3, A3, st3, ?_⟩
          dsimp only at hk
          rw [if_pos rfl] at hk
          cases ef : f1 r2 m3 with
          | exc cc fs m5 =>
            rw [ef] at hk
            cases hk
            exact p2
          | bad =>
            rw [ef] at hk
            cases hk
            exact p2
          | ok fl m5 =>
            rw [ef] at hk
            intro w5 H5 k5 s5 ok5 st5
            cases fl with
            | nx r5 => exact fun σ5 A5 => ⟨w5, r5, m5, o, A5, st5, hk, PostS.keep (kp3.trans k5) p2⟩
            | ct r5 => exact fun σ5 A5 => ⟨w5, r5, m5, o, A5, st5, hk, PostS.keep (kp3.trans k5) p2⟩
            | bk r5 =>
              cases hk
              exact p2 w5 H5 (kp3.trans k5) s5 ok5 st5
            | rt t =>
              cases hk
              exact p2 w5 H5 (kp3.trans k5) s5 ok5 st5
end
end Ev
set_option Elab.async false
set_option linter.all false
set_option maxHeartbeats 4000000
namespace Ev
open PySem PySem.Spec L2

def isFn (sc : Scope) : Bool := match sc.kind with
  | .function => true
  | _ => false
def lcB (sc scope : Scope) (y : Str) (py pos : Pos) : Bool :=
  (sc.names.lookup y == some .local) && (py.line == pos.line) && !(scope.names.any fun (n, k) => n == y && (k == .local || k == .cell))
theorem swaps_lc {elt : Expr} {gs : List Comprehension} {scope : Scope} {pos py : Pos} {y : Str} {l : Nat} {env : PySem.Env} (hk : env.scope.kind = .function) :
    swapsWith (.ListComp elt gs scope pos) (some (.Name y py)) l env = pure (lcB env.scope scope y py pos) := by
  have hb : env.blockKind = .function := by unfold Env.blockKind; rw [hk]; rfl
  unfold swapsWith lcB
  simp only [hb, Expr.pos]
  rfl
def lineOk (a b : Pos) : Bool := a.endLine == b.line
def parB (ts vs : List Expr) (sc : Scope) : Bool := match ts, vs with
  | [.Name x px, .Name y py], [u, v] => noStar u && noStar v && (sc.names.lookup x == some .local) && (sc.names.lookup y == some .local) && decide (px.line = py.line) && !decide (x = y) && !([u, v].all (foldedForSure 8)) && !([u, v].all (constantsAlone 8))
  | _, _ => false
def parTB (t : Expr) (ts vs : List Expr) (sc : Scope) (N : List Str) (i j : Nat) : Bool := match ts, vs with
  | [.Name x _, .Name y _], [u, v] => noStar u && noStar v && (!(sc.names.lookup x == some .local) || !(sc.names.lookup y == some .local)) && ckTg N (locB sc) (.tup [.name i, .name j]) t
  | _, _ => false
def augB : BOp → Bool
  | .add => true
  | .sub => true
  | .mul => true
  | _ => false
def notName : Expr → Bool
  | .Name _ _ => false
  | _ => true
def swB : Expr → Expr → Bool
  | .Tuple ts _ _, .Tuple vs _ _ => !(ts.length == 2 || ts.length == 3) || vs.all (foldedForSure 8) || ts.any notName
  | _, _ => false
def isComp : Ex → Bool
  | .comp _ _ _ _ _ => true
  | _ => false

def asn1 : Stmt → Option (Expr × Expr)
  | .Assign [t] v _ => some (t, v)
  | _ => none
def aug1 : Stmt → Option (Expr × Operator × Expr)
  | .AugAssign t op v _ => some (t, op, v)
  | _ => none
def exp1 : Stmt → Option Expr
  | .Expr v _ => some v
  | _ => none
def ret1 : Stmt → Option (Option Expr)
  | .Return v _ => some v
  | _ => none
def if1 : Stmt → Option (Expr × List Stmt × List Stmt)
  | .If c x y _ => some (c, x, y)
  | _ => none
def for1 : Stmt → Option (Expr × Expr × List Stmt)
  | .For t i b [] _ => some (t, i, b)
  | _ => none
def whi1 : Stmt → Option (Expr × List Stmt)
  | .While c b [] _ => some (c, b)
  | _ => none
def tup2 : Expr → Option (Expr × Expr)
  | .Tuple [x, y] _ _ => some (x, y)
  | _ => none
def met1 : Expr → Option (Expr × Str × List Expr × Pos × Pos)
  | .Call (.Attribute n m ap) as [] cp => some (n, m, as, ap, cp)
  | _ => none
theorem asn1_of {a : Stmt} {t v : Expr} (h : asn1 a = some (t, v)) : ∃ p, a = .Assign [t] v p := by
  unfold asn1 at h; split at h
  · cases h; exact ⟨_, rfl⟩
  · cases h
theorem aug1_of {a : Stmt} {t v : Expr} {op : Operator} (h : aug1 a = some (t, op, v)) : ∃ p, a = .AugAssign t op v p := by
  unfold aug1 at h; split at h
  · cases h; exact ⟨_, rfl⟩
  · cases h
theorem exp1_of {a : Stmt} {v : Expr} (h : exp1 a = some v) : ∃ p, a = .Expr v p := by
  unfold exp1 at h; split at h
  · cases h; exact ⟨_, rfl⟩
  · cases h
theorem ret1_of {a : Stmt} {v : Option Expr} (h : ret1 a = some v) : ∃ p, a = .Return v p := by
  unfold ret1 at h; split at h
  · cases h; exact ⟨_, rfl⟩
  · cases h
theorem if1_of {a : Stmt} {c : Expr} {x y : List Stmt} (h : if1 a = some (c, x, y)) : ∃ p, a = .If c x y p := by
  unfold if1 at h; split at h
  · cases h; exact ⟨_, rfl⟩
  · cases h
theorem for1_of {a : Stmt} {t i : Expr} {b : List Stmt} (h : for1 a = some (t, i, b)) : ∃ p, a = .For t i b [] p := by
  unfold for1 at h; split at h
  · cases h; exact ⟨_, rfl⟩
  · cases h
theorem whi1_of {a : Stmt} {c : Expr} {b : List Stmt} (h : whi1 a = some (c, b)) : ∃ p, a = .While c b [] p := by
  unfold whi1 at h; split at h
  · cases h; exact ⟨_, rfl⟩
  · cases h
theorem tup2_of {a x y : Expr} (h : tup2 a = some (x, y)) : ∃ k p, a = .Tuple [x, y] k p := by
  unfold tup2 at h; split at h
  · cases h; exact ⟨_, _, rfl⟩
  · cases h
theorem met1_of {a n : Expr} {m : Str} {as : List Expr} {ap cp : Pos} (h : met1 a = some (n, m, as, ap, cp)) : a = .Call (.Attribute n m ap) as [] cp := by
  unfold met1 at h; split at h
  · cases h; rfl
  · cases h
def com1 : Expr → Option (Scope × Pos)
  | .ListComp _ _ s p => some (s, p)
  | _ => none
def starT : Expr → Option (List Expr × Expr)
  | .Tuple es _ _ => match es.getLast? with
    | some (.Starred x _) => some (es.dropLast, x)
    | _ => none
  | _ => none
theorem starT_of {a x : Expr} {es : List Expr} (h : starT a = some (es, x)) : ∃ sp k p, a = .Tuple (es ++ [.Starred x sp]) k p := by
  unfold starT at h; split at h
  · rename_i es' k p
    split at h
    · rename_i x' sp q
      cases h
      obtain ⟨l, hl⟩ := List.getLast?_eq_some_iff.mp q
      exact ⟨sp, k, p, by rw [hl, List.dropLast_concat]⟩
    · cases h
  · cases h
def asgB (sc : Scope) (t v : Expr) (e : Ex) : Bool := match com1 v with
  | none => notComp v
  | some (scope, p) => match t with
    | .Name y py => !(lcB sc scope y py p) || isComp e
    | _ => true

def ckA (G : Tbl) (N : List Str) (sc : Scope) (s : Sm) (a : Stmt) : Bool := match s with
  | .asg tg e => match asn1 a with
    | some (t, v) => ckTg N (locB sc) tg t && ckE G N sc e v && (notTup t || notTup v || swB t v) && asgB sc t v e
    | none => false
  | .asgS ts i e => match asn1 a with
    | some (t, v) => match starT t with
      | some (es, y) => match nam1 y with
        | some x => ckTgs N (locB sc) ts es && decide (N[i]? = some x) && locB sc x && ckE G N sc e v && notTup v && asgB sc t v e
        | none => false
      | none => false
    | none => false
  | .par i j x y => match asn1 a with
    | some (t, v) => match tup2 t, tup2 v with
      | some (p, q), some (u, v) => match nam1 p, nam1 q with
        | some n, some n' => (parB [p, q] [u, v] sc || parTB t [p, q] [u, v] sc N i j) && decide (N[i]? = some n) && decide (N[j]? = some n') && ckE G N sc x u && ckE G N sc y v
        | _, _ => false
      | _, _ => false
    | none => false
  | .seti o i e => match asn1 a with
    | some (t, v) => match sub1 t with
      | some (x, y) => notSlice y && ckE G N sc o x && ckE G N sc i y && ckE G N sc e v
      | none => false
    | none => false
  | .setOwn k i e => match asn1 a with
    | some (t, v) => match sub1 t with
      | some (x, y) => match nam1 x with
        | some n => decide (N[k]? = some n) && visB sc n && okName n && notSlice y && ckE G N sc i y && ckE G N sc e v
        | none => false
      | none => false
    | none => false
  | .aug i o e => match aug1 a with
    | some (t, op, v) => match nam1 t with
      | some x => augB o && opB o op && decide (N[i]? = some x) && locB sc x && ckE G N sc e v
      | none => false
    | none => false
  | .append k e => match exp1 a with
    | some z => match met1 z with
      | some (n, m, [v], ap, cp) => match nam1 n with
        | some n => decide (m = "append") && lineOk ap cp && decide (N[k]? = some n) && visB sc n && okName n && noStar v && ckE G N sc e v
        | none => false
      | _ => false
    | none => false
  | .popA tg k => match asn1 a with
    | some (t, z) => match met1 z with
      | some (n, m, [], ap, cp) => match nam1 n with
        | some n => decide (m = "pop") && lineOk ap cp && decide (N[k]? = some n) && visB sc n && okName n && ckTg N (locB sc) tg t
        | none => false
      | _ => false
    | none => false
  | .expr e => match exp1 a with
    | some v => notComp v && ckE G N sc e v
    | none => false
  | .ret e => match ret1 a with
    | some (some v) => ckE G N sc e v
    | _ => false
  | .bad => true
  | .extend k e => match exp1 a with
    | some z => match met1 z with
      | some (n, m, [v], ap, cp) => match nam1 n with
        | some n => decide (m = "extend") && lineOk ap cp && decide (N[k]? = some n) && visB sc n && okName n && noStar v && ckE G N sc e v
        | none => false
      | _ => false
    | none => false
  | .asgL is e => match asn1 a with
    | some (t, v) => match tup1 t with
      | some es => ckTgs N (locB sc) (is.map .name) es && ckE G N sc e v && notTup v && asgB sc t v e
      | none => false
    | none => false
  | .retN => match ret1 a with
    | some none => true
    | _ => false
  | .retOwn i => match ret1 a with
    | some (some v) => match nam1 v with
      | some x => decide (N[i]? = some x) && visB sc x && okName x
      | none => false
    | _ => false
  | .brk => match a with
    | .Break _ => true
    | _ => false
  | .cont => match a with
    | .Continue _ => true
    | _ => false
  | .pass => match a with
    | .Pass _ => true
    | _ => false
  | _ => false
mutual
def ckS (G : Tbl) (N : List Str) (sc : Scope) : Sm → Stmt → Bool
  | .ife t x y, a => match if1 a with
    | some (c, u, v) => ckT G N sc t c && ckSs G N sc x u && ckSs G N sc y v
    | none => false
  | .forr tg it body, a => match for1 a with
    | some (t, i, b) => ckTg N (locB sc) tg t && notSet i && ckI G N sc it t i && ckSs G N sc body b
    | none => false
  | .forS ts i it body, a => match for1 a with
    | some (t, it', b) => match starT t with
      | some (es, y) => match nam1 y with
        | some x => ckTgs N (locB sc) ts es && decide (N[i]? = some x) && locB sc x && notSet it' && ckI G N sc it t it' && ckSs G N sc body b
        | none => false
      | none => false
    | none => false
  | .whil t body, a => match whi1 a with
    | some (c, b) => ckT G N sc t c && ckSs G N sc body b
    | none => false
  | s, a => ckA G N sc s a
termination_by structural x => x
def ckSs (G : Tbl) (N : List Str) (sc : Scope) : List Sm → List Stmt → Bool
  | [], as => as.isEmpty
  | s :: ss, as => match s with
    | .freeze _ => ckSs G N sc ss as
    | s => match as with
      | a :: as => ckS G N sc s a && ckSs G N sc ss as
      | [] => false
termination_by structural x => x
end

structure Gf (G : Tbl) (c : Calls) (X : Cx) (E : XK) : Prop where
  g : Gd G c X E
  kind : X.env.scope.kind = .function
  may : MayOk X (locB X.env.scope)
  po : PassesOwn (model X.prog X.w) X.A X.env X.xe
def isStar : Expr → Bool
  | .Starred .. => true
  | _ => false
def nameAt (env : PySem.Env) (line : Nat) : Expr → Option Str
  | .Name id pos => if (env.kindOf id == some .local && pos.line == line) = true then some id else none
  | _ => none
theorem par_of {X : Cx} {x y : Str} {px py pt pt2 : Pos} {kt k2 : Nat} {u v : Expr} (hk : X.env.scope.kind = .function) (h : parB [.Name x px, .Name y py] [u, v] X.env.scope = true) :
    noStar u = true ∧ noStar v = true ∧ X.env.scope.names.lookup x = some .local ∧ X.env.scope.names.lookup y = some .local ∧ x ≠ y ∧
      swappedStores [.Tuple [.Name x px, .Name y py] kt pt] (.Tuple [u, v] k2 pt2) X.env = pure (some [x, y]) := by
  simp only [parB, Bool.and_eq_true, beq_iff_eq, decide_eq_true_eq, Bool.not_eq_true', decide_eq_false_iff_not] at h
  obtain ⟨⟨⟨⟨⟨⟨⟨h1, h2⟩, h3⟩, h4⟩, h5⟩, h6⟩, h7⟩, h8⟩ := h
  refine ⟨h1, h2, h3, h4, h6, ?_⟩
  have hb : X.env.blockKind = .function := by unfold Env.blockKind; rw [hk]; rfl
  have kx : X.env.kindOf x = some .local := h3
  have ky : X.env.kindOf y = some .local := h4
  have hs : ∀ e : Expr, noStar e = true → isStar e = false := fun e he => by
    cases e <;> first | rfl | exact nomatch (show false = true from he)
  have hn : [Expr.Name x px, Expr.Name y py].filterMap (nameAt X.env px.line) = [x, y] := by
    have e1 : nameAt X.env px.line (.Name x px) = some x := by
      simp only [nameAt, kx, beq_self_eq_true, Bool.and_self, if_true]
    have e2 : nameAt X.env px.line (.Name y py) = some y := by
      simp only [nameAt, ky, h5, beq_self_eq_true, Bool.and_self, if_true]
    rw [List.filterMap_cons_some e1, List.filterMap_cons_some e2]; rfl
  have hxy : (y == x) = false := beq_eq_false_iff_ne.mpr (Ne.symm h6)
  have hd : [x, y].eraseDups = [x, y] := by
    simp [List.eraseDups, List.eraseDupsBy, List.eraseDupsBy.loop, hxy]
  have e : swappedStores [.Tuple [.Name x px, .Name y py] kt pt] (.Tuple [u, v] k2 pt2) X.env =
      (if (!(true || false) || false || X.env.blockKind != .function) = true then pure none else
       if ([u, v].any isStar) = true then pure none else
       if (([Expr.Name x px, Expr.Name y py].filterMap (nameAt X.env px.line)).length != 2 || ([Expr.Name x px, Expr.Name y py].filterMap (nameAt X.env px.line)).eraseDups.length != ([Expr.Name x px, Expr.Name y py].filterMap (nameAt X.env px.line)).length) = true then pure none else
       if ([u, v].all (foldedForSure 8)) = true then pure none else
       if ([u, v].all (constantsAlone 8)) = true then (do let _ : PUnit ← unsupported "assign.tuple-of-constant-expressions:order-of-the-stores"; pure (some ([Expr.Name x px, Expr.Name y py].filterMap (nameAt X.env px.line)))) else
       pure (some ([Expr.Name x px, Expr.Name y py].filterMap (nameAt X.env px.line)))) := rfl
  rw [e, hn, hd, hb, h7, h8]
  simp only [List.any_cons, List.any_nil, hs u h1, hs v h2]
  rfl
end Ev
set_option Elab.async false
set_option linter.all false
set_option maxHeartbeats 4000000
namespace Ev
open PySem PySem.Spec L2

theorem fm_lt {env : PySem.Env} {l : Nat} : ∀ {ts : List Expr}, (ts.filterMap (nameAt env l)).length ≤ ts.length ∧ (ts.any notName = true → (ts.filterMap (nameAt env l)).length < ts.length)
  | [] => ⟨Nat.le_refl _, fun h => nomatch h⟩
  | t :: ts => by
    obtain ⟨h1, h2⟩ := fm_lt (env := env) (l := l) (ts := ts)
    rw [List.filterMap_cons]
    refine ⟨?_, fun h => ?_⟩
    · split <;> simp only [List.length_cons] <;> omega
    · rw [List.any_cons, Bool.or_eq_true] at h
      rcases h with h | h
      · have e : nameAt env l t = none := by
          cases t <;> first | rfl | exact absurd h (by simp [notName])
        rw [e]
        simp only [List.length_cons]
        omega
      · have := h2 h
        split <;> simp only [List.length_cons] <;> omega
theorem sw_none {t v : Expr} {env : PySem.Env} (h : swB t v = true) : swappedStores [t] v env = pure none := by
  unfold swB at h
  split at h
  · rename_i ts k p vs k2 p2
    have e : swappedStores [.Tuple ts k p] (.Tuple vs k2 p2) env =
        (if (!(ts.length == 2 || ts.length == 3) || vs.length != ts.length || env.blockKind != .function) = true then pure none else
         if (vs.any isStar) = true then pure none else
         if ((ts.filterMap (nameAt env ((ts.head?.map (·.pos.line)).getD 0))).length != ts.length || (ts.filterMap (nameAt env ((ts.head?.map (·.pos.line)).getD 0))).eraseDups.length != (ts.filterMap (nameAt env ((ts.head?.map (·.pos.line)).getD 0))).length) = true then pure none else
         if (vs.all (foldedForSure 8)) = true then pure none else
         if (vs.all (constantsAlone 8)) = true then (do let _ : PUnit ← unsupported "assign.tuple-of-constant-expressions:order-of-the-stores"; pure (some (ts.filterMap (nameAt env ((ts.head?.map (·.pos.line)).getD 0))))) else
         pure (some (ts.filterMap (nameAt env ((ts.head?.map (·.pos.line)).getD 0))))) := rfl
    rw [e]
    by_cases c1 : (!(ts.length == 2 || ts.length == 3) || vs.length != ts.length || env.blockKind != .function) = true
    · rw [if_pos c1]
    rw [if_neg c1]
    by_cases c2 : (vs.any isStar) = true
    · rw [if_pos c2]
    rw [if_neg c2]
    rw [Bool.or_eq_true, Bool.or_eq_true] at h
    rcases h with (h | h) | h
    · exact absurd (by rw [Bool.or_eq_true, Bool.or_eq_true]; exact .inl (.inl h)) c1
    · by_cases c3 : ((ts.filterMap (nameAt env ((ts.head?.map (·.pos.line)).getD 0))).length != ts.length || (ts.filterMap (nameAt env ((ts.head?.map (·.pos.line)).getD 0))).eraseDups.length != (ts.filterMap (nameAt env ((ts.head?.map (·.pos.line)).getD 0))).length) = true
      · rw [if_pos c3]
      · rw [if_neg c3, if_pos h]
    · have := (fm_lt (env := env) (l := (ts.head?.map (·.pos.line)).getD 0) (ts := ts)).2 h
      rw [if_pos]
      rw [Bool.or_eq_true]
      left
      rw [bne_iff_ne]
      omega
  · cases h
theorem parT_sw {x y : Str} {px py pt pt2 : Pos} {kt k2 : Nat} {u v : Expr} {env : PySem.Env} (h : (!(env.scope.names.lookup x == some .local) || !(env.scope.names.lookup y == some .local)) = true) :
    swappedStores [.Tuple [.Name x px, .Name y py] kt pt] (.Tuple [u, v] k2 pt2) env = pure none := by
  have e : swappedStores [.Tuple [.Name x px, .Name y py] kt pt] (.Tuple [u, v] k2 pt2) env =
      (if (!(true || false) || false || env.blockKind != .function) = true then pure none else
       if ([u, v].any isStar) = true then pure none else
       if (([Expr.Name x px, Expr.Name y py].filterMap (nameAt env px.line)).length != 2 || ([Expr.Name x px, Expr.Name y py].filterMap (nameAt env px.line)).eraseDups.length != ([Expr.Name x px, Expr.Name y py].filterMap (nameAt env px.line)).length) = true then pure none else
       if ([u, v].all (foldedForSure 8)) = true then pure none else
       if ([u, v].all (constantsAlone 8)) = true then (do let _ : PUnit ← unsupported "assign.tuple-of-constant-expressions:order-of-the-stores"; pure (some ([Expr.Name x px, Expr.Name y py].filterMap (nameAt env px.line)))) else
       pure (some ([Expr.Name x px, Expr.Name y py].filterMap (nameAt env px.line)))) := rfl
  rw [e]
  by_cases c1 : (!(true || false) || false || env.blockKind != .function) = true
  · rw [if_pos c1]
  rw [if_neg c1]
  by_cases c2 : ([u, v].any isStar) = true
  · rw [if_pos c2]
  rw [if_neg c2]
  have lt : ([Expr.Name x px, Expr.Name y py].filterMap (nameAt env px.line)).length < 2 := by
    have one : ∀ (z : Str) (pz : Pos), (!(env.scope.names.lookup z == some .local)) = true → nameAt env px.line (.Name z pz) = none := fun z pz hz => by
      have : (env.kindOf z == some .local) = false := by simpa [Env.kindOf] using hz
      simp only [nameAt, this, Bool.false_and]
      rfl
    rw [Bool.or_eq_true] at h
    rcases h with h | h
    · rw [List.filterMap_cons_none (one x px h)]
      exact Nat.lt_of_le_of_lt (List.length_filterMap_le _ _) (show 1 < 2 by decide)
    · have : [Expr.Name x px, Expr.Name y py].filterMap (nameAt env px.line) = [Expr.Name x px].filterMap (nameAt env px.line) := by
        rw [show [Expr.Name x px, Expr.Name y py] = [Expr.Name x px] ++ [Expr.Name y py] from rfl, List.filterMap_append, List.filterMap_cons_none (one y py h), List.filterMap_nil, List.append_nil]
      rw [this]
      exact Nat.lt_of_le_of_lt (List.length_filterMap_le _ _) (show 1 < 2 by decide)
  rw [if_pos]
  rw [Bool.or_eq_true]
  left
  rw [bne_iff_ne]
  omega
theorem notTup_or {t v : Expr} (h : (notTup t || notTup v) = true) : notTup t = true ∨ notTup v = true := by
  rwa [Bool.or_eq_true] at h
theorem sComp2 {G : Tbl} {c : Calls} {X : Cx} {E : XK} {tg : Tg} {e : Ex} {elt : Expr} {gs : List Comprehension} {scope : Scope} {p py pos : Pos} {y : Str} {w0 : Wd} {H0 : Hp} (F : Gf G c X E) (ok0 : WOk w0 H0)
    (he : isComp e = true) (hl : lcB X.env.scope scope y py p = true) (ht : ckTg X.N (locB X.env.scope) tg (.Name y py) = true) (h : ckE G X.N X.env.scope e (.ListComp elt gs scope p) = true) :
    PS X (.Assign [.Name y py] (.ListComp elt gs scope p) pos) (TXs X E w0 H0 (evS c (.asg tg e))) := by
  have g := F.g
  cases e with
  | comp ee tgt it cond own =>
    simp only [ckE] at h
    split at h
    · rename_i e1 t i ifs sc1 q
      obtain ⟨p1, e9⟩ := lcm1_of q
      cases e9
      simp only [Bool.and_eq_true] at h
      obtain ⟨⟨⟨⟨⟨⟨h1, h2⟩, h3⟩, h4⟩, h5⟩, h6⟩, h7⟩ := h
      cases tg with
      | tup ts => exact nomatch (show false = true from ht)
      | name j =>
        simp only [ckTg, Bool.and_eq_true, decide_eq_true_eq] at ht
        have hb := blkOk_by h1
        have hg : ∀ (s : Shared) (H : Hp) (C : Addr) (cl : List (Str × Addr)) (fp : List Addr), PG (X.blk s H scope (compEnvC scope cl C X.env) fp) t (gT X.K tgt) := fun (s : Shared) (H : Hp) (C : Addr) (cl : List (Str × Addr)) (fp : List Addr) => tg_ok (X := X.blk s H scope (compEnvC scope cl C X.env) fp) g.calm g.nd may_fn h2
        have hc : ∀ (s : Shared) (H : Hp) (C : Addr) (cl : List (Str × Addr)) (fp : List Addr), PTs (X.blk s H scope (compEnvC scope cl C X.env) fp) ifs (TXb X (fun _ _ _ => False) (evC c cond)) := fun (s : Shared) (H : Hp) (C : Addr) (cl : List (Str × Addr)) (fp : List Addr) => sC cond (X := X.blk s H scope (compEnvC scope cl C X.env) fp) g.blk h6
        have hz : ∀ (s : Shared) (H : Hp) (C : Addr) (cl : List (Str × Addr)) (fp : List Addr), PE (X.blk s H scope (compEnvC scope cl C X.env) fp) elt (TX X (fun _ _ _ => False) (evE c ee)) := fun (s : Shared) (H : Hp) (C : Addr) (cl : List (Str × Addr)) (fp : List Addr) => sE ee (X := X.blk s H scope (compEnvC scope cl C X.env) fp) g.blk h7
        have hsl : ∀ j ∈ slots tgt, j ∈ own.map (·.2) := fun j hj => by simpa using List.all_eq_true.mp h3 j hj
        have hl2 := hl
        simp only [lcB, Bool.and_eq_true, beq_iff_eq] at hl2
        refine c_setLc (i := j) (fa := evE c (.comp ee tgt it cond own)) ok0 (ps_setLc g.calm g.nd ht.1 hl2.1.1 (by rw [swaps_lc F.kind, hl]) (sI (st := false) it g h5) hb hg hc hz (folded_of h4)) ?_
        intro σ H Q q
        exact (s_comp (pos := p) g.calm g.nd (sI (st := false) it g h5) hb (folded_of h4) hsl hg hc hz).2 σ H Q q
    · cases h
  | _ => exact nomatch (show false = true from he)
theorem com1_of {v : Expr} {s : Scope} {p : Pos} (h : com1 v = some (s, p)) : ∃ elt gs, v = .ListComp elt gs s p := by
  unfold com1 at h; split at h
  · cases h; exact ⟨_, _, rfl⟩
  · cases h
theorem sAsg {G : Tbl} {c : Calls} {X : Cx} {E : XK} {tg : Tg} {e : Ex} {t v : Expr} {pos : Pos} {w0 : Wd} {H0 : Hp} (F : Gf G c X E) (ok0 : WOk w0 H0)
    (h1 : ckTg X.N (locB X.env.scope) tg t = true) (h2 : ckE G X.N X.env.scope e v = true) (h3 : (notTup t || notTup v || swB t v) = true) (h4 : asgB X.env.scope t v e = true) :
    PS X (.Assign [t] v pos) (TXs X E w0 H0 (evS c (.asg tg e))) := by
  have g := F.g
  have fin : swapsWithSole [t] v pos.line X.env = pure false → PS X (.Assign [t] v pos) (TXs X E w0 H0 (evS c (.asg tg e))) := fun hs =>
    c_asg ok0 (sE e g h2) (tg_ok g.calm g.nd F.may h1) hs (by
      rw [Bool.or_eq_true] at h3
      rcases h3 with h3 | h3
      · exact nostores (notTup_or h3)
      · exact sw_none h3) (by rw [each_of h1]; rfl)
  unfold asgB at h4
  split at h4
  · exact fin (noswap h4)
  · rename_i scope p hc
    obtain ⟨elt, gs, rfl⟩ := com1_of hc
    split at h4
    · rename_i y py
      cases hl : lcB X.env.scope scope y py p with
      | true =>
        rw [hl] at h4
        exact sComp2 F ok0 h4 hl h1 h2
      | false => exact fin (by rw [show swapsWithSole [.Name y py] (.ListComp elt gs scope p) pos.line X.env = swapsWith (.ListComp elt gs scope p) (some (.Name y py)) pos.line X.env from rfl, swaps_lc F.kind, hl])
    · rename_i hn
      refine fin ?_
      cases t <;> first | rfl | exact (hn _ _ rfl).elim
theorem noswapS {t v : Expr} {l : Nat} {env : PySem.Env} (h : notComp v = true) : swapsWithSole [t] v l env = pure false := noswap h
theorem noswapT {v : Expr} {e : Ex} {sc : Scope} {env : PySem.Env} {l : Nat} {es : List Expr} {k : Nat} {p : Pos} (h4 : asgB sc (.Tuple es k p) v e = true) : swapsWithSole [.Tuple es k p] v l env = pure false := by
  unfold asgB at h4
  split at h4
  · exact noswapS h4
  · rename_i s q hc
    obtain ⟨elt, gs, rfl⟩ := com1_of hc
    rfl
theorem sA {G : Tbl} {c : Calls} {X : Cx} {E : XK} {w0 : Wd} {H0 : Hp} (F : Gf G c X E) (ok0 : WOk w0 H0) {s : Sm} {a : Stmt} (h : ckA G X.N X.env.scope s a = true) : PS X a (TXs X E w0 H0 (evS c s)) := by
  have hu := F.g.hu
  cases s with
  | asg tg e =>
    dsimp only [ckA] at h
    split at h
    · rename_i t v q
      obtain ⟨p, rfl⟩ := asn1_of q
      simp only [Bool.and_eq_true] at h
      exact sAsg F ok0 h.1.1.1 h.1.1.2 h.1.2 h.2
    · cases h
  | asgS ts i e =>
    dsimp only [ckA] at h
    split at h
    · rename_i t v q
      obtain ⟨p, rfl⟩ := asn1_of q
      split at h
      · rename_i es y q2
        obtain ⟨sp, k, pt, rfl⟩ := starT_of q2
        split at h
        · rename_i x q3
          obtain ⟨px, rfl⟩ := nam1_of q3
          simp only [Bool.and_eq_true, decide_eq_true_eq] at h
          obtain ⟨⟨⟨⟨⟨h1, h2⟩, h3⟩, h4⟩, h5⟩, h6⟩ := h
          exact c_asgS ok0 F.g.calm F.g.nd F.may (sE e F.g h4) h1 h2 h3 (noswapT h6) (nostores (.inr h5))
        · cases h
      · cases h
    · cases h
  | par i j x y =>
    dsimp only [ckA] at h
    split at h
    · rename_i t v q
      obtain ⟨p, rfl⟩ := asn1_of q
      split at h
      · rename_i p' q' u v' q1 q2
        obtain ⟨k, pt, rfl⟩ := tup2_of q1
        obtain ⟨k2, pt2, rfl⟩ := tup2_of q2
        split at h
        · rename_i n n' q3 q4
          obtain ⟨px, rfl⟩ := nam1_of q3
          obtain ⟨py, rfl⟩ := nam1_of q4
          simp only [Bool.and_eq_true, decide_eq_true_eq] at h
          obtain ⟨⟨⟨⟨h1, h2⟩, h3⟩, h4⟩, h5⟩ := h
          rcases Bool.or_eq_true .. ▸ h1 with h1 | h1
          rotate_left
          · simp only [parTB, Bool.and_eq_true] at h1
            obtain ⟨⟨⟨t1, t2⟩, t3⟩, t4⟩ := h1
            exact c_parT ok0 t1 t2 (sE x F.g h4) (sE y F.g h5) (tg_ok F.g.calm F.g.nd F.may t4) (noswapS rfl) (parT_sw t3) (by rw [each_of t4]; rfl)
          obtain ⟨p1, p2, p3, p4, p5, p6⟩ := par_of F.kind h1
          exact c_par ok0 F.g.calm F.g.nd h2 h3 (fun e => p5 (by subst e; rw [h2] at h3; cases h3; rfl)) p3 p4 p1 p2 (sE x F.g h4) (sE y F.g h5) p6
        · cases h
      · cases h
    · cases h
  | seti o i e =>
    dsimp only [ckA] at h
    split at h
    · rename_i t v q
      obtain ⟨p, rfl⟩ := asn1_of q
      split at h
      · rename_i x y q2
        obtain ⟨p2, rfl⟩ := sub1_of q2
        simp only [Bool.and_eq_true] at h
        obtain ⟨⟨⟨h1, h2⟩, h3⟩, h4⟩ := h
        exact c_seti ok0 (by omega) h1 (sE o F.g h2) (sE i F.g h3) (sE e F.g h4)
      · cases h
    · cases h
  | setOwn k i e =>
    dsimp only [ckA] at h
    split at h
    · rename_i t v q
      obtain ⟨p, rfl⟩ := asn1_of q
      split at h
      · rename_i x y q2
        obtain ⟨p2, rfl⟩ := sub1_of q2
        split at h
        · rename_i n q3
          obtain ⟨p3, rfl⟩ := nam1_of q3
          simp only [Bool.and_eq_true, decide_eq_true_eq] at h
          obtain ⟨⟨⟨⟨⟨h1, h2⟩, h3⟩, h4⟩, h5⟩, h6⟩ := h
          exact c_setOwn ok0 (by omega) h4 h1 (vis_of h2) (okName_of h3).1 (okName_of h3).2 (sE i F.g h5) (sE e F.g h6)
        · cases h
      · cases h
    · cases h
  | aug i o e =>
    dsimp only [ckA] at h
    split at h
    · rename_i t op v q
      obtain ⟨p, rfl⟩ := aug1_of q
      split at h
      · rename_i x q2
        obtain ⟨p2, rfl⟩ := nam1_of q2
        simp only [Bool.and_eq_true, decide_eq_true_eq] at h
        obtain ⟨⟨⟨⟨h1, h2⟩, h3⟩, h4⟩, h5⟩ := h
        cases opB_of h2
        exact c_aug ok0 F.g.nd h3 (F.may x h4).1 (F.may x h4).2 (sE e F.g h5)
      · cases h
    · cases h
  | append k e =>
    dsimp only [ckA] at h
    split at h
    · rename_i z q
      obtain ⟨p, rfl⟩ := exp1_of q
      split at h
      · rename_i n m v ap cp q2
        cases met1_of q2
        split at h
        · rename_i n' q3
          obtain ⟨p3, rfl⟩ := nam1_of q3
          simp only [Bool.and_eq_true, decide_eq_true_eq] at h
          obtain ⟨⟨⟨⟨⟨⟨rfl, h2⟩, h3⟩, h4⟩, h5⟩, h6⟩, h7⟩ := h
          exact c_append ok0 h3 (vis_of h4) (okName_of h5).1 (okName_of h5).2 h6 h2 (sE e F.g h7)
        · cases h
      · cases h
    · cases h
  | bad =>
    show PS X a (TXs X E w0 H0 fun r m => evS c .bad r m)
    simp only [evS]
    exact c_bad
  | extend k e =>
    dsimp only [ckA] at h
    split at h
    · rename_i z q
      obtain ⟨p, rfl⟩ := exp1_of q
      split at h
      · rename_i n m v ap cp q2
        cases met1_of q2
        split at h
        · rename_i n' q3
          obtain ⟨p3, rfl⟩ := nam1_of q3
          simp only [Bool.and_eq_true, decide_eq_true_eq] at h
          obtain ⟨⟨⟨⟨⟨⟨rfl, h2⟩, h3⟩, h4⟩, h5⟩, h6⟩, h7⟩ := h
          exact c_extend ok0 h3 (vis_of h4) (okName_of h5).1 (okName_of h5).2 h6 h2 (sE e F.g h7)
        · cases h
      · cases h
    · cases h
  | asgL is e =>
    dsimp only [ckA] at h
    split at h
    · rename_i t v q
      obtain ⟨p, rfl⟩ := asn1_of q
      split at h
      · rename_i es q2
        obtain ⟨k, pt, rfl⟩ := tup1_of q2
        simp only [Bool.and_eq_true] at h
        obtain ⟨⟨⟨h1, h2⟩, h3⟩, h4⟩ := h
        exact c_asgL ok0 F.g.calm F.g.nd F.may (sE e F.g h2) h1 (noswapT h4) (nostores (.inr h3))
      · cases h
    · cases h
  | popA tg k =>
    dsimp only [ckA] at h
    split at h
    · rename_i t z q
      obtain ⟨p, rfl⟩ := asn1_of q
      split at h
      · rename_i n m ap cp q2
        cases met1_of q2
        split at h
        · rename_i n' q3
          obtain ⟨p3, rfl⟩ := nam1_of q3
          simp only [Bool.and_eq_true, decide_eq_true_eq] at h
          obtain ⟨⟨⟨⟨⟨rfl, h2⟩, h3⟩, h4⟩, h5⟩, h6⟩ := h
          exact c_popA ok0 h3 (vis_of h4) (okName_of h5).1 (okName_of h5).2 h2 (tg_ok F.g.calm F.g.nd F.may h6) (by rw [each_of h6]; rfl)
        · cases h
      · cases h
    · cases h
  | expr e =>
    dsimp only [ckA] at h
    split at h
    · rename_i v q
      obtain ⟨p, rfl⟩ := exp1_of q
      rw [Bool.and_eq_true] at h
      exact c_expr ok0 (sE e F.g h.2) (noswap h.1)
    · cases h
  | ret e =>
    dsimp only [ckA] at h
    split at h
    · rename_i v q
      obtain ⟨p, rfl⟩ := ret1_of q
      exact c_ret ok0 (sE e F.g h)
    · cases h
  | retN =>
    dsimp only [ckA] at h
    split at h
    · rename_i q
      obtain ⟨p, rfl⟩ := ret1_of q
      exact c_retN
    · cases h
  | retOwn i =>
    dsimp only [ckA] at h
    split at h
    · rename_i v q
      obtain ⟨p, rfl⟩ := ret1_of q
      split at h
      · rename_i x q2
        obtain ⟨p2, rfl⟩ := nam1_of q2
        simp only [Bool.and_eq_true, decide_eq_true_eq] at h
        exact c_retOwn h.1.1 (vis_of h.1.2) (okName_of h.2).1 (okName_of h.2).2
      · cases h
    · cases h
  | brk =>
    dsimp only [ckA] at h
    split at h
    · exact c_brk
    · cases h
  | cont =>
    dsimp only [ckA] at h
    split at h
    · exact c_cont
    · cases h
  | pass =>
    dsimp only [ckA] at h
    split at h
    · exact c_pass
    · cases h
  | _ => exact nomatch (show false = true from h)

mutual
theorem sS {G : Tbl} {c : Calls} {X : Cx} {E : XK} {w0 : Wd} {H0 : Hp} (F : Gf G c X E) (ok0 : WOk w0 H0) : ∀ (s : Sm) {a : Stmt}, ckS G X.N X.env.scope s a = true → PS X a (TXs X E w0 H0 (evS c s))
  | .ife t x y, a, h => by
    simp only [ckS] at h
    split at h
    · rename_i k u v q
      obtain ⟨p, rfl⟩ := if1_of q
      simp only [Bool.and_eq_true] at h
      exact c_ife ok0 (sT t F.g h.1.1).1 (sSs F ok0 x h.1.2) (sSs F ok0 y h.2)
    · cases h
  | .forr tg it body, a, h => by
    simp only [ckS] at h
    split at h
    · rename_i t i b q
      obtain ⟨p, rfl⟩ := for1_of q
      simp only [Bool.and_eq_true] at h
      obtain ⟨⟨⟨h1, h2⟩, h3⟩, h4⟩ := h
      exact c_for ok0 F.po F.g.calm (sI it F.g h3) (tg_ok F.g.calm F.g.nd F.may h1) (folded_of h2) (sSs F ok0 body h4)
    · cases h
  | .forS ts i it body, a, h => by
    simp only [ckS] at h
    split at h
    · rename_i t j b q
      obtain ⟨p, rfl⟩ := for1_of q
      split at h
      · rename_i es y q2
        obtain ⟨sp, k, pt, rfl⟩ := starT_of q2
        split at h
        · rename_i x q3
          obtain ⟨px, rfl⟩ := nam1_of q3
          simp only [Bool.and_eq_true, decide_eq_true_eq] at h
          obtain ⟨⟨⟨⟨⟨h1, h2⟩, h3⟩, h4⟩, h5⟩, h6⟩ := h
          exact c_forS ok0 F.po F.g.calm F.g.nd F.may h1 h2 h3 (sI it F.g h5) (folded_of h4) (sSs F ok0 body h6)
        · cases h
      · cases h
    · cases h
  | .whil t body, a, h => by
    simp only [ckS] at h
    split at h
    · rename_i k b q
      obtain ⟨p, rfl⟩ := whi1_of q
      simp only [Bool.and_eq_true] at h
      exact c_whil ok0 F.po (sT t F.g h.1).1 (sSs F ok0 body h.2)
    · cases h
  | .asg tg e, a, h => sA F ok0 (s := .asg tg e) h
  | .asgS ts i e, a, h => sA F ok0 (s := .asgS ts i e) h
  | .par i j x y, a, h => sA F ok0 (s := .par i j x y) h
  | .seti o i e, a, h => sA F ok0 (s := .seti o i e) h
  | .setOwn x i e, a, h => sA F ok0 (s := .setOwn x i e) h
  | .aug i o e, a, h => sA F ok0 (s := .aug i o e) h
  | .append x e, a, h => sA F ok0 (s := .append x e) h
  | .popA tg x, a, h => sA F ok0 (s := .popA tg x) h
  | .bad, a, h => sA F ok0 (s := .bad) h
  | .extend x e, a, h => sA F ok0 (s := .extend x e) h
  | .asgL is e, a, h => sA F ok0 (s := .asgL is e) h
  | .expr e, a, h => sA F ok0 (s := .expr e) h
  | .ret e, a, h => sA F ok0 (s := .ret e) h
  | .retN, a, h => sA F ok0 (s := .retN) h
  | .retOwn i, a, h => sA F ok0 (s := .retOwn i) h
  | .brk, a, h => sA F ok0 (s := .brk) h
  | .cont, a, h => sA F ok0 (s := .cont) h
  | .pass, a, h => sA F ok0 (s := .pass) h
  | .freeze i, a, h => sA F ok0 (s := .freeze i) h
termination_by structural x => x
theorem sSs {G : Tbl} {c : Calls} {X : Cx} {E : XK} {w0 : Wd} {H0 : Hp} (F : Gf G c X E) (ok0 : WOk w0 H0) : ∀ (s : List Sm) {a : List Stmt}, ckSs G X.N X.env.scope s a = true → PSs X a (TXs X E w0 H0 (evSs c s))
  | [], [], h => c_nil
  | [], _ :: _, h => nomatch (show false = true from h)
  | s :: ss, as, h => by
    by_cases hf : ∃ i, s = .freeze i
    · obtain ⟨i, rfl⟩ := hf
      simp only [ckSs] at h
      exact c_freeze (sSs F ok0 ss h)
    · have h2 : ∃ a as', as = a :: as' ∧ (ckS G X.N X.env.scope s a && ckSs G X.N X.env.scope ss as') = true := by
        unfold ckSs at h
        split at h
        · exact (hf ⟨_, rfl⟩).elim
        · split at h
          · exact ⟨_, _, rfl, h⟩
          · cases h
      obtain ⟨a, as', rfl, h9⟩ := h2
      rw [Bool.and_eq_true] at h9
      exact c_cons (sS F ok0 s h9.1) (sSs F ok0 ss h9.2)
termination_by structural x => x
end
end Ev
set_option Elab.async false
set_option linter.all false
set_option maxHeartbeats 4000000
namespace Ev
open PySem PySem.Spec L2

section
variable {P : Program} {wd : World} {K : PySem.W.Frag} {mg : Str → Option Value} {base : Heap}
structure DefOk (K : PySem.W.Frag) (mg : Str → Option Value) (T : Tbl) (x : Str) (f : Fn) : Prop where
  ex : ∃ (qual : Str) (params : Arguments) (body : List Stmt) (scope : Scope) (dvs : List V) (kws : List (Str × V)) (a : Addr) (fd : FuncData),
    FunD K x qual params body scope dvs kws a fd ∧ mg x = some (.ref a) ∧ FnScope f.ns f.ps scope ∧ ckSs T f.ns scope f.body body = true ∧ ∀ n ks arr, T.sig x n ks arr = true → BindOk K fd f.ps n ks arr
structure TxtOk (K : PySem.W.Frag) (mg : Str → Option Value) (G : Defs) (T : Tbl) : Prop where
  defs : ∀ x f, G x = some f → DefOk K mg T x f
  sigs : ∀ x n ks arr, T.sig x n ks arr = true → ∃ f, G x = some f
  free : ∀ x, T.free x = true → mg x = none
  con : ∀ x d, T.con x d = true → ∃ u v, mg x = some u ∧ RelV v u ∧ ∀ (w : Wd) (H : Hp), ValR K w H v (kval d)

theorem startR {N : List Str} {w : Wd} {H : Hp} {vs : List V} {xs : List Val} {f : Fn} (hN : f.ns = N) (h : Paired (ValR K w H) vs xs) : EnvR K w H (L2.start N vs) (startE f xs) := by
  have hl : vs.length = xs.length := by
    clear hN
    induction h with
    | nil => rfl
    | cons _ _ ih => simp [ih]
  have hv : ∀ (i : Nat) (x : Val), xs[i]? = some x → ∃ v, vs[i]? = some v ∧ ValR K w H v x := by
    clear hl hN
    induction h with
    | nil => intro i x e; simp at e
    | cons q _ ih =>
      intro i x e
      cases i with
      | zero => simp at e; subst e; exact ⟨_, rfl, q⟩
      | succ i => simpa using ih i x (by simpa using e)
  have noown : ∀ (i : Nat) (x : D), (startE f xs)[i]? = some (.own x) → False := fun i x e => by
    unfold startE at e
    rcases Nat.lt_or_ge i xs.length with h | h
    · rw [List.getElem?_append_left (by simpa using h), List.getElem?_map] at e
      cases q : xs[i]? <;> rw [q] at e <;> cases e
    · rw [List.getElem?_append_right (by simpa using h), List.getElem?_replicate] at e
      split at e <;> cases e
  refine ⟨?_, fun i x e => ?_, fun i x e => (noown i x e).elim, fun i j x y v e => (noown i x e).elim⟩
  · simp only [L2.start, startE, List.length_append, List.length_map, List.length_replicate, hl, hN]
  · unfold startE at e
    rcases Nat.lt_or_ge i xs.length with h1 | h1
    · rw [List.getElem?_append_left (by simpa using h1), List.getElem?_map] at e
      cases q : xs[i]? with
      | none => rw [q] at e; cases e
      | some y =>
        rw [q] at e
        cases e
        obtain ⟨v, v1, v2⟩ := hv i _ q
        refine ⟨v, ?_, v2⟩
        unfold L2.start
        rw [List.getElem?_append_left (by rw [List.length_map, hl]; exact h1), List.getElem?_map, v1]
        rfl
    · rw [List.getElem?_append_right (by simpa using h1), List.getElem?_replicate] at e
      split at e <;> cases e

theorem run_post {E : XK} {w : Wd} {H : Hp} {c : Calls} {f : Fn} {xs : List Val} {m : Store} {Q : VK} (h : Post K mg E (RT K) w H (run c f xs m) Q) :
    xs.length = f.ps.length ∧ PostS K mg E w H w H (evSs c f.body (startE f xs) m) { nx := fun _ H' => Q .non H', rt := Q } := by
  unfold run at h
  split at h
  · rename_i hl
    refine ⟨hl, ?_⟩
    cases e : evSs c f.body (startE f xs) m with
    | bad => rw [e] at h; exact h
    | exc cc fs m1 => rw [e] at h; exact h
    | ok o m1 =>
      rw [e] at h
      intro w' H' k s ok st
      cases o with
      | rt t => exact fun v q1 q2 => h v w' H' s ok st ⟨q1, q2⟩
      | nx r => exact fun σ A => h .non w' H' s ok st ⟨.non, trivial⟩
      | bk r => exact h.elim
      | ct r => exact h.elim
  · exact h.elim

theorem fns_ok {G : Defs} {T : Tbl} (Z : TxtOk K mg G T) : ∀ (n : Nat) (x : Str) (f : Fn), G x = some f → ∀ (qual : Str) (params : Arguments) (body : List Stmt) (scope : Scope) (dvs : List V) (kws : List (Str × V)) (a : Addr) (fd : FuncData),
    FunD K x qual params body scope dvs kws a fd → mg x = some (.ref a) → FnScope f.ns f.ps scope → ckSs T f.ns scope f.body body = true → FnG P wd K mg base n a fd f.ps (spF K mg (evF G n) x)
  | 0, x, f, e, qual, params, body, scope, dvs, kws, a, fd, F, hm, S, hck => by
    refine ⟨fun vs H Q E h => ?_, fun A outer s H args us vs Q E _ _ _ _ _ h => ?_⟩
    · obtain ⟨w, xs, m, _, _, _, q⟩ := h
      rw [evF_zero] at q
      exact q.elim
    · obtain ⟨w, xs, m, _, _, _, q⟩ := h
      rw [evF_zero] at q
      exact q.elim
  | n + 1, x, f, e, qual, params, body, scope, dvs, kws, a, fd, F, hm, S, hck => by
    have hrun : ∀ xs m, evF G (n + 1) x xs m = run (evF G n) f xs m := fun xs m => by
      rw [evF_succ, e]
    refine fnG_of F S (fun vs H Q E h => ?_) fun cdv A outer s H vs Q E hg hr h => ?_
    · obtain ⟨w, xs, m, ok, st, q, p⟩ := h
      rw [hrun] at p
      have hl : vs.length = xs.length := by
        clear p
        induction q with
        | nil => rfl
        | cons _ _ ih => simp [ih]
      exact hl.trans (run_post p).1
    · obtain ⟨w, xs, m, ok, st, q, p⟩ := h
      rw [hrun] at p
      obtain ⟨hl, p⟩ := run_post p
      have F0 : Gf T (evF G n) (cxG P wd K mg base f.ns qual scope a cdv A outer s H E) E := by
        refine ⟨⟨rfl, hg, ?_, S.nd, ?_, fun y k ks arr hs => ?_, Z.free, Z.con⟩, S.kind, fun y hy => ⟨?_, .inl rfl⟩, passes_of rfl⟩
        · have := hr.un
          show (A.deeper _).units + 65 < _
          omega
        · exact passes_call (takes_of rfl rfl rfl rfl) fun _ _ _ _ h => h
        · obtain ⟨f2, e2⟩ := Z.sigs y k ks arr hs
          obtain ⟨q2, p2, b2, s2, d2, k2, a2, fd2, F2, hm2, S2, c2, hb2⟩ := (Z.defs y f2 e2).ex
          exact ⟨a2, fd2, f2.ps, n, hm2, F2.kp, hr, fns_ok Z n y f2 e2 q2 p2 b2 s2 d2 k2 a2 fd2 F2 hm2 S2 c2, hb2 k ks arr hs⟩
        · have hy : locB scope y = true := hy
          unfold locB at hy
          split at hy
          · exact .inl (by assumption)
          · exact .inr (by assumption)
          · cases hy
      refine ⟨_, sSs F0 ok f.body hck, w, _, m, ⟨Step.refl _ _, ok, startR rfl q, fun i y b e1 _ => ?_⟩, st, p⟩
      exfalso
      unfold startE at e1
      rcases Nat.lt_or_ge i xs.length with h | h
      · rw [List.getElem?_append_left (by simpa using h), List.getElem?_map] at e1
        cases q : xs[i]? <;> rw [q] at e1 <;> cases e1
      · rw [List.getElem?_append_right (by simpa using h), List.getElem?_replicate] at e1
        split at e1 <;> cases e1
end
end Ev
set_option Elab.async false
set_option linter.all false
set_option maxHeartbeats 4000000
namespace Ev
open PySem PySem.Spec PyProof.Rows L2

theorem top_call {P : Program} {wd : World} {K : PySem.W.Frag} {mg mb : Str → Option Value} {k : Nat} {f p : Addr} {fd : FuncData} {nm : Str} {sp : Sp} {t : Shared} {us : List Value} {ns : List Int}
    (inK : K.In t.heap) (nsM : t.heap.Ns mainGlobals mg) (nsB : t.heap.Ns builtinsNs mb) (bb : ∀ z : Str, z ≠ "__name__" → mb z = bootBuiltins z) (lim : t.heap.NoLimit) (gn : t.gens = #[])
    (ob : t.heap.get? p = some { cls := .type "list", data := .seq us.toArray }) (ii : IntsAre us ns) (len : ns.length ≤ sizeLine) (room : Room k callerA)
    (F : ∀ base : Heap, K.In base → base.Ns mainGlobals mg → FnG P wd K mg base k f fd [nm] sp) (bnd : BindsTo t fd ⟨[.ref p], []⟩ [(nm, .ref p)])
    (hs : ∀ H : Hp, ScR K H p ns → (∀ b, Mut (H b) → False) → sp [.ref p] H (fun v _ => v = .bl true) fun _ _ _ => False) :
    codeAny (model P wd) callerA (.call (.ref f) ⟨[.ref p], []⟩) (fun r t' => r = .ok (.ret (.bool true)) ∧ OldK t.heap t'.heap ∧ t'.os = t.os ∧ AllBare t'.gens) t := by
  have rel := vals_ints ii
  have lenU := ii.length
  let so : Obj := { cls := .type "list", data := .seq us.toArray }
  obtain ⟨H, hH⟩ : ∃ H : Hp, H = fun b => if b = p ∧ K.lookup p = none then some (.frz so (.lst (ns.map V.int))) else none := ⟨_, rfl⟩
  have only : ∀ b u, H b = some u → b = p ∧ K.lookup p = none ∧ u = .frz so (.lst (ns.map V.int)) := fun b u e => by
    rw [hH] at e
    dsimp only at e
    split at e
    · rename_i hb
      cases e
      exact ⟨hb.1, hb.2, rfl⟩
    · cases e
  have isp : ∀ b, H b ≠ none → b = p := fun b e => by
    cases q : H b with
    | none => exact absurd q e
    | some u => exact (only b u q).1
  have scr : ScR K H p ns := by
    cases q : K.lookup p with
    | none => exact .inl ⟨so, by rw [hH]; exact if_pos ⟨rfl, q⟩⟩
    | some o =>
      have e := inK p o q
      rw [ob] at e
      cases e
      exact .inr ⟨_, us.toArray, _, q, rfl, rfl, rfl, by rw [List.size_toArray, lenU]; exact len, by simpa using rel⟩
  have hok : HOk P wd H t.heap := fun b u e => by
    obtain ⟨rfl, _, rfl⟩ := only b u e
    exact ⟨ob, by rw [List.length_map]; exact len, us, _, rel, ob⟩
  have keepD : ∀ {b : Addr} {o : Obj} {es : Array DictEntry} {ep : Nat}, t.heap.get? b = some o → o.data = .dict es ep → H b = none := fun {b o es ep} e d => by
    cases q : H b with
    | none => rfl
    | some u =>
      obtain ⟨rfl, _, _⟩ := only b u q
      rw [ob] at e
      cases e
      exact nomatch (show Data.seq us.toArray _ = Data.dict es ep from d)
  have nsH : ∀ {b : Addr} {g : Str → Option Value}, t.heap.Ns b g → (hidT t.heap H).Ns b g := fun {b g} ⟨o, es, ep, e, d, r⟩ => ⟨o, es, ep, hidT_get e (keepD e d), d, r⟩
  have inB : K.In (hidT t.heap H) := fun b o e => hidT_get (inK b o e) (by
    cases q : H b with
    | none => rfl
    | some u =>
      obtain ⟨rfl, z, _⟩ := only b u q
      rw [z] at e
      cases e)
  have md : Mod K mg (hidT t.heap H) := ⟨inB, nsH nsM, ⟨mb, nsH nsB, bb⟩, let ⟨g, l1, l2⟩ := lim; ⟨g, nsH l1, l2⟩⟩
  have nil : ∀ b : Addr, b ∈ ([] : List Addr) → False := fun b z => by cases z
  have env : Env0 P wd K mg (hidT t.heap H) callerA [] t H := ⟨rfl, md, fun b o e => of_hidT e, Nat.le_of_eq (hidT_size _ _), trivial, fun b z => (nil b z).elim, hok, .of_eq gn⟩
  have noMut : ∀ b, Mut (H b) → False := fun b z => by
    cases q : H b with
    | none => rw [q] at z; exact z.elim
    | some u =>
      obtain ⟨_, _, rfl⟩ := only b u q
      rw [q] at z
      exact z.elim
  refine codeAny_mono ((F _ inB (nsH nsM)).go callerA [] t H ⟨[.ref p], []⟩ [.ref p] [.ref p] _ _ rfl room env bnd (.cons rfl .nil) (hs H scr noMut)) fun r t' h => ?_
  match r, h with
  | .error e, h =>
    obtain ⟨_, _, _, _, _, _, _, _, _, _, _, _, z⟩ := h
    exact z.elim
  | .ok (.ret u), h =>
    obtain ⟨v, H', sOs, sBare, un, hok', rv, q⟩ := h
    cases (show v = .bl true from q)
    cases (show u = Value.bool true from rv)
    refine ⟨rfl, .of_keep fun b o e => ?_, sOs, sBare⟩
    cases q : H b with
    | none => exact un.keep b o e q (nil b) (nil b)
    | some u =>
      obtain ⟨rfl, _, rfl⟩ := only b u q
      obtain ⟨e2, _⟩ := hok' b _ (un.frzs b so _ q)
      rw [ob] at e
      cases e
      exact e2
  | .ok .next, h => exact False.elim h
  | .ok .brk, h => exact False.elim h
  | .ok .cont, h => exact False.elim h

def kwdAt (f : Str × Option Str) (x : Str) (K : PySem.W.Frag) : Addr := match K.lookup (He.fAd K f) with
  | some ⟨_, _, .func fd, _⟩ => (match fd.kwdefaults with
    | .ref D => (match PySem.W.nsIn K D x with
      | some (some (.ref a)) => a
      | _ => 0)
    | _ => 0)
  | _ => 0
def scB : Value → D → Bool
  | .none, .none => true
  | .bool b, .bool c => b == c
  | .int i _, .int j => decide (i = j)
  | .str x _, .str y => decide (x = y)
  | _, _ => false
def scAll : List Value → List D → Bool
  | [], [] => true
  | u :: us, d :: ds => scB u d && scAll us ds
  | _, _ => false
theorem scB_ok {K : PySem.W.Frag} {u : Value} {d : D} (h : scB u d = true) : ∃ v, RelV v u ∧ ∀ (w : Wd) (H : Hp), Den K w H v d := by
  unfold scB at h
  split at h
  · exact ⟨.non, rfl, fun _ _ => .non⟩
  · rw [beq_iff_eq] at h
    subst h
    exact ⟨.bl _, rfl, fun _ _ => .bl _⟩
  · rw [decide_eq_true_eq] at h
    subst h
    exact ⟨.int _, ⟨_, rfl⟩, fun _ _ => .int _⟩
  · rw [decide_eq_true_eq] at h
    subst h
    exact ⟨.str _, ⟨_, rfl⟩, fun _ _ => .str _⟩
  · cases h
theorem scAll_ok {K : PySem.W.Frag} : ∀ {us : List Value} {ds : List D}, scAll us ds = true → ∃ vs, Vals vs us ∧ ∀ (w : Wd) (H : Hp), Dens K w H vs ds
  | [], [], _ => ⟨[], .nil, fun _ _ => .nil⟩
  | u :: us, d :: ds, h => by
    rw [scAll, Bool.and_eq_true] at h
    obtain ⟨v, h1, h2⟩ := scB_ok (K := K) h.1
    obtain ⟨vs, h3, h4⟩ := scAll_ok h.2
    exact ⟨v :: vs, .cons h1 h3, fun w H => .cons (h2 w H) (h4 w H)⟩
def conT (K : PySem.W.Frag) (u : Value) (ds : List D) : Bool := match u with
  | .ref a => (match K.lookup a with
    | some ⟨.type c, _, .seq its _, _⟩ => decide (c = "tuple") && (decide (its.size ≤ sizeLine) && scAll its.toList ds)
    | _ => false)
  | _ => false
theorem conT_ok {K : PySem.W.Frag} {u : Value} {ds : List D} (h : conT K u ds = true) : ∃ v, RelV v u ∧ ∀ (w : Wd) (H : Hp), ValR K w H v (kval (.tuple ds)) := by
  unfold conT at h
  split at h
  · rename_i a
    split at h
    · rename_i c od its n osl q
      simp only [Bool.and_eq_true, decide_eq_true_eq] at h
      obtain ⟨h1, h2, h3⟩ := h
      obtain ⟨vs, r, hd⟩ := scAll_ok (K := K) h3
      subst h1
      exact ⟨.ref a, rfl, fun w H => ⟨a, vs, rfl, .inr ⟨_, its, n, q, rfl, rfl, h2, r⟩, hd w H⟩⟩
    · cases h
  · cases h
def glT (x : Str) (ds : List D) (K : PySem.W.Frag) : Bool := match PySem.W.nsIn K mainGlobals x with
  | some (some u) => conT K u ds
  | _ => false
def kwT (f : Str × Option Str) (x : Str) (ds : List D) (K : PySem.W.Frag) : Bool := conT K (.ref (kwdAt f x K)) ds
def dfT (f : Str × Option Str) (i : Nat) (ds : List D) (K : PySem.W.Frag) : Bool := conT K (.ref (He.dflAt f i K)) ds
theorem df_tup {K : PySem.W.Frag} {a : Addr} {z : Value} {ds : List D} (c : conT K (.ref a) ds = true) (r : RelV (.ref a) z) : ∃ v, RelV v z ∧ ∀ (w : Wd) (H : Hp), ValR K w H v (kval (.tuple ds)) := by
  cases r
  exact conT_ok c
abbrev AlX : Type := Bool × He.AlD
def obsX (fa : List He.Fa) (fn : List He.DefD) (ex : List (PySem.W.Frag → Bool)) (K : PySem.W.Frag) : AlX := (ex.all fun f => f K, He.obsD fa fn K)
def SaysX (fa : List He.Fa) (fn : List He.DefD) (ex : List (PySem.W.Frag → Bool)) (K : PySem.W.Frag) : Prop := obsX fa fn ex K = (true, He.valD fn)
def obsXG (n : Nat) (fa : List He.Fa) (fn : List He.DefD) (ex : List (PySem.W.Frag → Bool)) (g : Addr → Option Obj) : AlX := obsX fa fn ex (He.frG g (He.asD g n))
def hookX (n : Nat) (fa : List He.Fa) (fn : List He.DefD) (ex : List (PySem.W.Frag → Bool)) : PySem.W.Hook where
  α := AlX
  obs := fun s => obsXG n fa fn ex s.heap.get?
  val := fun _ => (true, He.valD fn)
  says := fun _ h => ∃ K : PySem.W.Frag, K.In h ∧ SaysX fa fn ex K
  of := fun _ _ e => ⟨_, He.frG_in, e⟩
  keeps := fun _ _ _ ⟨K, hK, c⟩ k => ⟨K, PySem.W.Frag.In.keeps hK k, c⟩
theorem obsXG_eq {n : Nat} {fa : List He.Fa} {fn : List He.DefD} {ex : List (PySem.W.Frag → Bool)} {g : Addr → Option Obj} {s : Shared} (h : ∀ a, g a = s.heap.get? a) : obsXG n fa fn ex g = (hookX n fa fn ex).obs s := by
  have e : g = s.heap.get? := funext h
  rw [e]
  rfl
section
variable {fa : List He.Fa} {fn : List He.DefD} {xs : List (PySem.W.Frag → Bool)} {K : PySem.W.Frag}
theorem SaysX.d (c : SaysX fa fn xs K) : He.SaysD fa fn K := congrArg (fun z : AlX => z.2) c
theorem SaysX.ex (c : SaysX fa fn xs K) (i : Nat) {f : PySem.W.Frag → Bool} (h : xs[i]? = some f := by rfl) : f K = true := by
  have c1 : (xs.all fun f => f K) = true := congrArg (fun z : AlX => z.1) c
  exact List.all_eq_true.mp c1 f (List.mem_of_getElem? h)
end
theorem top_walk {l : PySem.W.OpenLaw} {n k : Nat} {q : Program} {loose : List Str} {XP : (Str → Option Value) → Heap → Prop} {d : DefRec} {Sy : PySem.W.Frag → Prop} {G : Defs} {T : Tbl} {f : Fn} {nm : Str}
    (hn : l.most = some n) (hn2 : n ≤ sizeLine) (hdf : d.params.defaults = []) (hk : Room k callerA) (hG : G d.name = some f) (hps : f.ps = [nm])
    (hsig : T.sig d.name 1 [] [.inl 0] = true) (facts : ∀ (K : PySem.W.Frag) (h : Heap) (mg : Str → Option Value), K.In h → h.Ns mainGlobals mg → Sy K → TxtOk K mg G T)
    (ans : ∀ ns : List Int, ns.length ≤ n → ∃ m, evF G k d.name [.script ns] [] = .ok (.v (.d (.bool true))) m) :
    PySem.W.WalkO q loose XP (fun w h => ∃ K : PySem.W.Frag, K.In h ∧ Sy K) l.row.toRowW d [] (fun f vs => PySem.call f vs) := by
  refine Att.attach_call hn hdf fun w s₀ t mg mb fadr o pm cd doc p us ns G0 Y ho hd hcd hmg hobj hints hlen hg => ?_
  obtain ⟨K, KX, c⟩ := Y
  have Z := facts K _ mg KX G0.T.g c
  obtain ⟨qual, params, body, scope, dvs, kws, a, fd, F, hm, S, hck, hb⟩ := (Z.defs _ _ hG).ex
  have ea : a = fadr := by cases hm.symm.trans hmg; rfl
  subst ea
  have bnd : BindsTo t fd ⟨[.ref p], []⟩ [(nm, .ref p)] := by
    obtain ⟨zs, b1, b2⟩ := hb 1 [] [.inl 0] hsig t [.ref p] [] KX rfl rfl
    cases b2 with
    | cons q r =>
      cases r
      have q : some (Value.ref p) = some _ := q
      cases q
      rw [hps] at b1
      exact b1
  refine top_call KX G0.T.g G0.T.b G0.T.builtins G0.T.nolimit hg hobj hints (Nat.le_trans hlen hn2) hk (sp := spF K mg (evF G k) d.name) (fun base _ _ => hps ▸ fns_ok Z k _ _ hG qual params body scope dvs kws a fd F hm S hck) bnd fun H hS hM => ?_
  obtain ⟨m, e⟩ := ans ns hlen
  refine ⟨⟨fun _ => False, []⟩, [.script ns], [], ⟨fun _ h => h.elim, fun _ h => h.elim, fun _ h => (by cases h), .nil⟩, ⟨rfl, fun n a b e => (by simp at e)⟩, .cons ⟨p, rfl, hS⟩ .nil, ?_⟩
  rw [e]
  intro y w' H' _ _ _ q
  obtain ⟨q, _⟩ := q
  cases q
  rfl
end Ev
set_option Elab.async false
set_option linter.all false
set_option maxHeartbeats 4000000
namespace Ev
open PySem PySem.Spec PyProof.Rows L2

section
variable {K : PySem.W.Frag} {x qual : Str} {params : Arguments} {body : List Stmt} {scope : Scope} {dvs : List V} {kws : List (Str × V)} {f : Addr} {fd : FuncData} {ps ks : List Str} {n : Nat} {arr : List (Nat ⊕ D)}
abbrev ArrR (K : PySem.W.Frag) (us : List Value) : Value → Nat ⊕ D → Prop := fun z a => match a with
  | .inl i => us[i]? = some z
  | .inr d => ∃ v, RelV v z ∧ ∀ (w : Wd) (H : Hp), ValR K w H v (kval d)
theorem bindP (F : FunD K x qual params body scope [] kws f fd)
    (h : ∀ (kV doc pm : Value) (an : Option Addr) (cdv ct : Value) (us ws : List Value), us.length = n → ws.length = ks.length →
      ∃ zs, bindArgs (PySem.W.fnOf x qual params body scope .none kV doc pm an cdv ct) ⟨us, ks.zip ws⟩ = pure (ps.zip zs) ∧ Paired (ArrR K (us ++ ws)) zs arr) : BindOk K fd ps n ks arr := by
  obtain ⟨oc, od, dV, kV, doc, pm, an, cdv, ct, osl, rfl, lk, hcd, hD, hK⟩ := F.ex
  rcases hD with ⟨_, rfl⟩ | ⟨e, _⟩
  · intro s us ws X l1 l2
    obtain ⟨zs, e1, e2⟩ := h kV doc pm an cdv ct us ws l1 l2
    exact ⟨zs, .of_eq e1, e2⟩
  · exact absurd rfl e
theorem bindPK (F : FunD K x qual params body scope [] kws f fd) (ms : List (Str × V)) (hk : kws ≠ []) (hms : ∀ q ∈ ms, q ∈ kws)
    (h : ∀ (A : Addr) (doc pm : Value) (an : Option Addr) (cdv ct : Value) (us ws mv : List Value), us.length = n → ws.length = ks.length → Vals (ms.map (·.2)) mv →
      ∃ zs, KwChain A ((ms.map (·.1)).zip mv) (bindArgs (PySem.W.fnOf x qual params body scope .none (.ref A) doc pm an cdv ct) ⟨us, ks.zip ws⟩) (ps.zip zs) ∧ Paired (ArrR K (us ++ ws)) zs arr) : BindOk K fd ps n ks arr := by
  obtain ⟨oc, od, dV, kV, doc, pm, an, cdv, ct, osl, rfl, lk, hcd, hD, hK⟩ := F.ex
  rcases hD with ⟨_, rfl⟩ | ⟨e, _⟩
  · rcases hK with e | ⟨A, rfl, hq⟩
    · exact absurd e hk
    · obtain ⟨mv, _, rk, hks⟩ := kwd_vals (ms := ms) fun q hm => hq q (hms q hm)
      intro s us ws X l1 l2
      obtain ⟨zs, e1, e2⟩ := h A doc pm an cdv ct us ws mv l1 l2 rk
      exact ⟨zs, BindsTo.of_looks fun M => KwChain.looks X hks e1, e2⟩
  · exact absurd rfl e
end

abbrev Sg := Nat × List Str × List (Nat ⊕ D)
structure Ent where
  x : Str
  fn : Fn
  sigs : List Sg
mutual
def dEq : D → D → Bool
  | .none, .none => true
  | .bool b, .bool c => b == c
  | .int i, .int j => decide (i = j)
  | .str i, .str j => decide (i = j)
  | .tuple xs, .tuple ys => dEqs xs ys
  | _, _ => false
def dEqs : List D → List D → Bool
  | [], [] => true
  | x :: xs, y :: ys => dEq x y && dEqs xs ys
  | _, _ => false
end
mutual
theorem dEq_of : ∀ {x y : D}, dEq x y = true → x = y
  | .none, y, h => by cases y <;> simp_all [dEq]
  | .bool b, y, h => by cases y <;> simp_all [dEq]
  | .int b, y, h => by cases y <;> simp_all [dEq]
  | .str b, y, h => by cases y <;> simp_all [dEq]
  | .tuple xs, y, h => by
    cases y with
    | tuple ys =>
      have e : dEqs xs ys = true := by simpa [dEq] using h
      rw [dEqs_of e]
    | _ => simp [dEq] at h
  | .list _, y, h => by cases y <;> simp [dEq] at h
  | .dict _, y, h => by cases y <;> simp [dEq] at h
theorem dEqs_of : ∀ {xs ys : List D}, dEqs xs ys = true → xs = ys
  | [], [], _ => rfl
  | [], _ :: _, h => by simp [dEqs] at h
  | _ :: _, [], h => by simp [dEqs] at h
  | x :: xs, y :: ys, h => by
    rw [dEqs, Bool.and_eq_true] at h
    rw [dEq_of h.1, dEqs_of h.2]
end
def arEq : List (Nat ⊕ D) → List (Nat ⊕ D) → Bool
  | [], [] => true
  | .inl i :: r, .inl j :: s => decide (i = j) && arEq r s
  | .inr i :: r, .inr j :: s => dEq i j && arEq r s
  | _, _ => false
theorem arEq_of : ∀ {x y : List (Nat ⊕ D)}, arEq x y = true → x = y
  | [], [], _ => rfl
  | .inl i :: r, .inl j :: s, h => by
    rw [arEq, Bool.and_eq_true, decide_eq_true_eq] at h
    rw [h.1, arEq_of h.2]
  | .inr i :: r, .inr j :: s, h => by
    rw [arEq, Bool.and_eq_true] at h
    rw [dEq_of h.1, arEq_of h.2]
def sgEq (a b : Sg) : Bool := decide (a.1 = b.1) && decide (a.2.1 = b.2.1) && arEq a.2.2 b.2.2
def entOf (l : List Ent) (x : Str) : Option Ent := l.find? fun e => decide (e.x = x)
def dfs (l : List Ent) : Defs := fun x => (entOf l x).map (·.fn)
def tbl (l : List Ent) (fr : List Str) (cs : List (Str × D)) : Tbl where
  sig := fun x n ks arr => match entOf l x with
    | some e => e.sigs.any (sgEq (n, ks, arr))
    | none => false
  free := fun x => fr.any fun y => decide (y = x)
  con := fun x d => cs.any fun q => decide (q.1 = x) && dEq q.2 d
structure EntOk (K : PySem.W.Frag) (mg : Str → Option Value) (T : Tbl) (e : Ent) : Prop where
  ex : ∃ (qual : Str) (params : Arguments) (body : List Stmt) (scope : Scope) (dvs : List V) (kws : List (Str × V)) (a : Addr) (fd : FuncData),
    FunD K e.x qual params body scope dvs kws a fd ∧ mg e.x = some (.ref a) ∧ FnScope e.fn.ns e.fn.ps scope ∧ ckSs T e.fn.ns scope e.fn.body body = true ∧ ∀ q ∈ e.sigs, BindOk K fd e.fn.ps q.1 q.2.1 q.2.2
theorem txt_of {K : PySem.W.Frag} {mg : Str → Option Value} {l : List Ent} {fr : List Str} {cs : List (Str × D)} (h : ∀ e ∈ l, EntOk K mg (tbl l fr cs) e) (hf : ∀ x ∈ fr, mg x = none)
    (hc : ∀ q ∈ cs, ∃ u v, mg q.1 = some u ∧ RelV v u ∧ ∀ (w : Wd) (H : Hp), ValR K w H v (kval q.2)) : TxtOk K mg (dfs l) (tbl l fr cs) where
  defs := fun x f e => by
    obtain ⟨en, e1, rfl⟩ := Option.map_eq_some_iff.mp (show (entOf l x).map (·.fn) = some f from e)
    have hm := List.mem_of_find?_eq_some e1
    have hx := List.find?_some e1
    rw [decide_eq_true_eq] at hx
    subst hx
    obtain ⟨qual, params, body, scope, dvs, kws, a, fd, h1, h2, h3, h4, h5⟩ := (h en hm).ex
    refine ⟨qual, params, body, scope, dvs, kws, a, fd, h1, h2, h3, h4, fun n ks arr hs => ?_⟩
    have hs : (match entOf l en.x with
      | some e => e.sigs.any (sgEq (n, ks, arr))
      | none => false) = true := hs
    rw [e1] at hs
    obtain ⟨q, hq, hs⟩ := List.any_eq_true.mp hs
    simp only [sgEq, Bool.and_eq_true, decide_eq_true_eq] at hs
    obtain ⟨⟨rfl, rfl⟩, ha⟩ := hs
    rw [arEq_of ha]
    exact h5 q hq
  sigs := fun x n ks arr hs => by
    have hs : (match entOf l x with
      | some e => e.sigs.any (sgEq (n, ks, arr))
      | none => false) = true := hs
    cases e : entOf l x with
    | none => rw [e] at hs; cases hs
    | some en => exact ⟨en.fn, by show (entOf l x).map _ = _; rw [e]; rfl⟩
  free := fun x hx => by
    obtain ⟨y, hy, h2⟩ := List.any_eq_true.mp (show (fr.any fun y => decide (y = x)) = true from hx)
    rw [decide_eq_true_eq] at h2
    exact h2 ▸ hf y hy
  con := fun x d hx => by
    obtain ⟨y, hy, h2⟩ := List.any_eq_true.mp (show (cs.any fun q => decide (q.1 = x) && dEq q.2 d) = true from hx)
    rw [Bool.and_eq_true, decide_eq_true_eq] at h2
    obtain ⟨rfl, h3⟩ := h2
    exact dEq_of h3 ▸ hc y hy
end Ev
set_option Elab.async false
set_option linter.all false
set_option maxHeartbeats 4000000
namespace Ev
open PySem L2


theorem call_eq {G : Defs} {n : Nat} {x : Str} {f : Fn} {vs : List Val} {m : Store} (h : G x = some f) : evF G (n + 1) x vs m = run (evF G n) f vs m := by
  rw [evF_succ, h]

def tapB (cells : List Int) (spot rest calls : Int) : Box := .dct [(.inr "cells", .d (.list (cells.map .int))), (.inr "spot", .d (.int spot)), (.inr "rest", .d (.int rest)), (.inr "calls", .d (.int calls))]
section
variable {cells : List Int} {spot rest calls : Int} {t : Nat} {m : Store} {x : Int}
def TapAt (m : Store) (t : Nat) (n : Int) : Prop := ∃ cells spot rest calls, m[t]? = some (tapB cells spot rest calls) ∧ 0 ≤ spot ∧ 0 ≤ rest ∧ 0 ≤ calls ∧ calls ≤ n
end

structure Bd (d : D) (k w : Nat) : Prop where
  lay : d.canLay0 = true
  sho : d.showable = true
  lea : d.leavesShort 13 = true
  dep : d.depth ≤ k
  wei : d.weight ≤ w
theorem Bd.mono {d : D} {k w k' w' : Nat} (h : Bd d k w) (h1 : k ≤ k') (h2 : w ≤ w') : Bd d k' w' := ⟨h.lay, h.sho, h.lea, Nat.le_trans h.dep h1, Nat.le_trans h.wei h2⟩
theorem Bd.int {i : Int} (h : i.natAbs < 10 ^ 12) : Bd (.int i) 0 41 := by
  have l : i.natAbs.log2 < 40 := by
    rcases Nat.eq_zero_or_pos i.natAbs with z | z
    · rw [z]; decide
    · exact (Nat.log2_lt (by omega)).mpr (by have : (10 : Nat) ^ 12 < 2 ^ 40 := by decide
                                             omega)
  refine ⟨by simp [PyData.canLay0], ?_, ?_, by simp [PyData.depth], ?_⟩
  · simp only [PyData.showable, decide_eq_true_eq]; omega
  · simp only [PyData.leavesShort, decide_eq_true_eq]; exact PyData.shown_int_le h
  · simp only [PyData.weight]
    split
    · exact Nat.zero_le _
    · omega
theorem bd_all {k w : Nat} : ∀ {xs : List D}, (∀ x ∈ xs, Bd x k w) → PyData.canLayAll0 xs = true ∧ PyData.showableAll xs = true ∧ PyData.leavesShortAll 13 xs = true ∧ PyData.depthAll xs ≤ k ∧ PyData.weightAll xs ≤ xs.length * (w + 1)
  | [], _ => ⟨by simp [PyData.canLayAll0], by simp [PyData.showableAll], by simp [PyData.leavesShortAll], by simp [PyData.depthAll], by simp [PyData.weightAll]⟩
  | x :: xs, h => by
    obtain ⟨h1, h2, h3, h4, h5⟩ := bd_all (xs := xs) fun y hy => h y (List.mem_cons_of_mem _ hy)
    obtain ⟨a1, a2, a3, a4, a5⟩ := h x (List.mem_cons_self ..)
    refine ⟨by simp [PyData.canLayAll0, a1, h1], by simp [PyData.showableAll, a2, h2], by simp [PyData.leavesShortAll, a3, h3], by simp only [PyData.depthAll]; omega, ?_⟩
    simp only [PyData.weightAll, List.length_cons]
    rw [Nat.succ_mul]
    omega
theorem Bd.tup {xs : List D} {k w n : Nat} (h : ∀ x ∈ xs, Bd x k w) (hn : xs.length ≤ n) : Bd (.tuple xs) (k + 1) (n * (w + 1)) := by
  obtain ⟨h1, h2, h3, h4, h5⟩ := bd_all h
  have := Nat.mul_le_mul_right (w + 1) hn
  exact ⟨by simp [PyData.canLay0, h1], by simp [PyData.showable, h2], by simp [PyData.leavesShort, h3], by simp only [PyData.depth]; omega, by simp only [PyData.weight]; omega⟩
theorem Bd.list {xs : List D} {k w n : Nat} (h : ∀ x ∈ xs, Bd x k w) (hn : xs.length ≤ n) : Bd (.list xs) (k + 1) (n * (w + 1)) := by
  obtain ⟨h1, h2, h3, h4, h5⟩ := bd_all h
  have := Nat.mul_le_mul_right (w + 1) hn
  exact ⟨by simp [PyData.canLay0, h1], by simp [PyData.showable, h2], by simp [PyData.leavesShort, h3], by simp only [PyData.depth]; omega, by simp only [PyData.weight]; omega⟩
theorem Bd.shaped {d : D} {k w : Nat} (h : Bd d k w) (hk : k ≤ 64) : SeqAt.shaped d = true := by
  have := h.dep
  simp only [SeqAt.shaped, h.lay, Bool.true_and, decide_eq_true_eq]
  omega
theorem Bd.repr {d : D} {k w : Nat} {t : Tmp} {m : Store} (h : Bd d k w) (e : t.data? = some d) (hk : k ≤ 64 := by decide) (hw : w ≤ 2 ^ 20 := by decide) : bfnV .repr [t] m = some (.v (.d (.str d.shown))) := by
  simp only [bfnV, e, h.sho, h.shaped hk, Bool.true_and, decide_eq_true_eq]
  rw [if_pos (PyData.shown_fits (B := 13) (by decide) (by decide) h.lea (Nat.le_trans h.wei hw))]
end Ev
set_option Elab.async false
set_option linter.all false
set_option maxHeartbeats 4000000
namespace Ev
open PySem L2

abbrev XP := Str → List (Str × D) → Store → Prop
def wp {α : Type} (o : Out α) (Q : α → Store → Prop) (Xp : XP) : Prop := match o with
  | .ok a m => Q a m
  | .exc c fs m => Xp c fs m
  | .bad => False
section
variable {c : Calls} {Xp : XP} {r : Env} {m : Store}
theorem wp_bind {α β : Type} {o : Out α} {k : α → Store → Out β} {Q : β → Store → Prop} (h : wp o (fun a m => wp (k a m) Q Xp) Xp) : wp (o.bind k) Q Xp := by
  cases o <;> exact h
theorem wp_mono {α : Type} {o : Out α} {Q Q' : α → Store → Prop} (h : wp o Q Xp) (f : ∀ a m, Q a m → Q' a m) : wp o Q' Xp := by
  cases o with
  | ok a m => exact f a m h
  | exc _ _ _ => exact h
  | bad => exact h
theorem wp_give {α : Type} {o : Option α} {Q : α → Store → Prop} (h : ∃ a, o = some a ∧ Q a m) : wp (give o m) Q Xp := by
  obtain ⟨a, rfl, h⟩ := h
  exact h
theorem wp_ok {α : Type} {a : α} {Q : α → Store → Prop} (h : Q a m) : wp (.ok a m) Q Xp := h
theorem wp_out {α : Type} {o : Out α} {Q : α → Store → Prop} (h : wp o Q fun _ _ _ => False) : ∃ a m, o = .ok a m ∧ Q a m := by
  cases o with
  | ok a m => exact ⟨a, m, rfl, h⟩
  | exc _ _ _ => exact h.elim
  | bad => exact h.elim

variable {Q : Tmp → Store → Prop} {Qb : Bool → Store → Prop}
theorem w_val {i : Nat} {x : Val} (e : r[i]? = some (.val x)) (h : Q (.v x) m) : wp (evE c (.var i) r m) Q Xp := by
  simp only [evE, e]; exact h
theorem w_own {i : Nat} {x : D} (e : r[i]? = some (.own x)) (h : Q (.bor x) m) : wp (evE c (.var i) r m) Q Xp := by
  simp only [evE, e]; exact h
theorem w_const {x : D} (h : Q (.v (.d x)) m) : wp (evE c (.const x) r m) Q Xp := by
  simp only [evE]; exact h
theorem kval_int {i : Int} : kval (.int i) = .d (.int i) := rfl
theorem kval_str {i : Str} : kval (.str i) = .d (.str i) := rfl
theorem w_glob {x : Int} {y : Str} (h : Q (.v (.d (.int x))) m) : wp (evE c (.glob y (.int x)) r m) Q Xp := by
  simp only [evE, kval_int]; exact h
theorem w_globS {x : Str} {y : Str} (h : Q (.v (.d (.str x))) m) : wp (evE c (.glob y (.str x)) r m) Q Xp := by
  simp only [evE, kval_str]; exact h
theorem w_globT {xs : List D} {y : Str} (h : Q (.v (.kt xs)) m) : wp (evE c (.glob y (.tuple xs)) r m) Q Xp := by
  simp only [evE]; exact h
theorem w_dnewK (h : Q (.v (.loc m.length)) (m ++ [.dct []])) : wp (evE c (.dnew false) r m) Q Xp := by
  simp only [evE]; exact h
theorem w_dnewT (h : Q (.v (.loc m.length)) (m ++ [.dcT []])) : wp (evE c (.dnew true) r m) Q Xp := by
  simp only [evE]; exact h
theorem w_tup {es : List Ex} (h : wp (evDs c es r m) (fun xs m => xs.length ≤ sizeLine ∧ Q (.v (.d (.tuple xs))) m) Xp) : wp (evE c (.tup es) r m) Q Xp := by
  simp only [evE]
  refine wp_bind (wp_mono h fun xs m h => ?_)
  rw [if_pos h.1]
  exact h.2
theorem w_lst {es : List Ex} (h : wp (evDs c es r m) (fun xs m => xs.length ≤ sizeLine ∧ Q (.new (.list xs)) m) Xp) : wp (evE c (.lst es) r m) Q Xp := by
  simp only [evE]
  refine wp_bind (wp_mono h fun xs m h => ?_)
  rw [if_pos h.1]
  exact h.2
theorem w_box {e : Ex} (h : wp (evE c e r m) (fun t m => ∃ xs, t = .new (.list xs) ∧ Q (.v (.loc m.length)) (m ++ [.lst (xs.map .d)])) Xp) : wp (evE c (.box e) r m) Q Xp := by
  simp only [evE]
  refine wp_bind (wp_mono h fun t m h => ?_)
  obtain ⟨xs, rfl, h⟩ := h
  exact h
theorem w_dbox {ks : List Str} {es : List Ex} (h : wp (evVs c es r m) (fun xs m => (xs.length = ks.length ∧ ks.Nodup) ∧ Q (.v (.loc m.length)) (m ++ [.dct ((ks.map Sum.inr).zip xs)])) Xp) : wp (evE c (.dbox ks es) r m) Q Xp := by
  simp only [evE]
  refine wp_bind (wp_mono h fun xs m h => ?_)
  rw [if_pos h.1]
  exact h.2
theorem w_bin {o : BOp} {a b : Ex} (h : wp (evE c a r m) (fun x m => wp (evE c b r m) (fun y m => ∃ z, binV o x y = some z ∧ Q z m) Xp) Xp) : wp (evE c (.bin o a b) r m) Q Xp := by
  simp only [evE]
  exact wp_bind (wp_mono h fun x m h => wp_bind (wp_mono h fun y m h => wp_give h))
theorem w_neg {a : Ex} (h : wp (evE c a r m) (fun x m => ∃ i, getInt x = some i ∧ Q (vI (-i)) m) Xp) : wp (evE c (.neg a) r m) Q Xp := by
  simp only [evE]
  refine wp_bind (wp_mono h fun x m h => wp_give ?_)
  obtain ⟨i, e, h⟩ := h
  exact ⟨_, by rw [e]; rfl, h⟩
theorem w_cmp {o : COp} {a b : Ex} (h : wp (evE c a r m) (fun x m => wp (evE c b r m) (fun y m => ∃ z, cmpV o x y = some z ∧ Q (vB z) m) Xp) Xp) : wp (evE c (.cmp o a b) r m) Q Xp := by
  simp only [evE]
  refine wp_bind (wp_mono h fun x m h => wp_bind (wp_mono h fun y m h => wp_give ?_))
  obtain ⟨z, e, h⟩ := h
  exact ⟨_, by rw [e]; rfl, h⟩
theorem w_not {a : Ex} (h : wp (evE c a r m) (fun x m => ∃ k, x = vB k ∧ Q (vB (!k)) m) Xp) : wp (evE c (.not a) r m) Q Xp := by
  simp only [evE]
  refine wp_bind (wp_mono h fun x m h => ?_)
  obtain ⟨k, rfl, h⟩ := h
  exact h
theorem w_and {a b : Ex} (h : wp (evE c a r m) (fun x m => ∃ k, x = vB k ∧ ((k = true → wp (evE c b r m) Q Xp) ∧ (k = false → Q (vB false) m))) Xp) : wp (evE c (.and a b) r m) Q Xp := by
  simp only [evE]
  refine wp_bind (wp_mono h fun x m h => ?_)
  obtain ⟨k, rfl, h1, h2⟩ := h
  cases k with
  | true => exact h1 rfl
  | false => exact h2 rfl
theorem w_or {a b : Ex} (h : wp (evE c a r m) (fun x m => ∃ k, x = vB k ∧ ((k = true → Q (vB true) m) ∧ (k = false → wp (evE c b r m) Q Xp))) Xp) : wp (evE c (.or a b) r m) Q Xp := by
  simp only [evE]
  refine wp_bind (wp_mono h fun x m h => ?_)
  obtain ⟨k, rfl, h1, h2⟩ := h
  cases k with
  | true => exact h1 rfl
  | false => exact h2 rfl
theorem w_din {k d : Ex} (h : wp (evE c k r m) (fun x m => wp (evE c d r m) (fun y m => ∃ b, dinV x y m = some b ∧ Q (vB b) m) Xp) Xp) : wp (evE c (.din false k d) r m) Q Xp := by
  simp only [evE]
  refine wp_bind (wp_mono h fun x m h => wp_bind (wp_mono h fun y m h => ?_))
  obtain ⟨b, e, h⟩ := h
  exact wp_give ⟨vB b, by rw [e]; rfl, h⟩
theorem w_dinN {k d : Ex} (h : wp (evE c k r m) (fun x m => wp (evE c d r m) (fun y m => ∃ b, dinV x y m = some b ∧ Q (vB (!b)) m) Xp) Xp) : wp (evE c (.din true k d) r m) Q Xp := by
  simp only [evE]
  refine wp_bind (wp_mono h fun x m h => wp_bind (wp_mono h fun y m h => ?_))
  obtain ⟨b, e, h⟩ := h
  exact wp_give ⟨vB (!b), by rw [e]; rfl, h⟩
theorem w_get1 {d k : Ex} (h : wp (evE c d r m) (fun y m => isDct y m = some () ∧ wp (evE c k r m) (fun x m => ∃ o, dlook x y m = some o ∧ Q (.v (o.getD (.d .none))) m) Xp) Xp) : wp (evE c (.get1 d k) r m) Q Xp := by
  simp only [evE]
  refine wp_bind (wp_mono h fun y m h => ?_)
  refine wp_bind (wp_give ⟨(), h.1, wp_bind (wp_mono h.2 fun x m h => ?_)⟩)
  obtain ⟨o, e, h⟩ := h
  exact wp_give ⟨_, by rw [e]; rfl, h⟩
theorem w_get2 {d k f : Ex} (h : wp (evE c d r m) (fun y m => isDct y m = some () ∧ wp (evE c k r m) (fun x m => wp (evE c f r m) (fun t m => ∃ z, t.val? = some z ∧ ∃ o, dlook x y m = some o ∧ Q (.v (o.getD z)) m) Xp) Xp) Xp) : wp (evE c (.get2 d k f) r m) Q Xp := by
  simp only [evE]
  refine wp_bind (wp_mono h fun y m h => ?_)
  refine wp_bind (wp_give ⟨(), h.1, wp_bind (wp_mono h.2 fun x m h => wp_bind (wp_mono h fun t m h => ?_))⟩)
  obtain ⟨z, e1, o, e, h⟩ := h
  exact wp_bind (wp_give ⟨z, e1, wp_give ⟨_, by rw [e]; rfl, h⟩⟩)
theorem w_if {t : Te} {a b : Ex} (h : wp (evT c t r m) (fun k m => (k = true → wp (evE c a r m) Q Xp) ∧ (k = false → wp (evE c b r m) Q Xp)) Xp) : wp (evE c (.ife t a b) r m) Q Xp := by
  simp only [evE]
  refine wp_bind (wp_mono h fun k m h => ?_)
  cases k with
  | true => exact h.1 rfl
  | false => exact h.2 rfl
theorem w_idx {a i : Ex} (h : wp (evE c a r m) (fun x m => wp (evE c i r m) (fun y m => ∃ z, idxV x y m = some z ∧ Q (.v z) m) Xp) Xp) : wp (evE c (.idx a i) r m) Q Xp := by
  simp only [evE]
  refine wp_bind (wp_mono h fun x m h => wp_bind (wp_mono h fun y m h => wp_give ?_))
  obtain ⟨z, e, h⟩ := h
  exact ⟨_, by rw [e]; rfl, h⟩
theorem w_slice {a : Ex} {lo hi : Option Ex} (h : wp (evE c a r m) (fun x m => wp (evO c lo r m) (fun l m => wp (evO c hi r m) (fun u m => ∃ z, sliceV x l u = some z ∧ Q z m) Xp) Xp) Xp) : wp (evE c (.slice a lo hi) r m) Q Xp := by
  simp only [evE]
  exact wp_bind (wp_mono h fun x m h => wp_bind (wp_mono h fun y m h => wp_bind (wp_mono h fun z m h => wp_give h)))
theorem w_rev {a : Ex} (h : wp (evE c a r m) (fun x m => ∃ z, revV x = some z ∧ Q z m) Xp) : wp (evE c (.rev a) r m) Q Xp := by
  simp only [evE]
  exact wp_bind (wp_mono h fun x m h => wp_give h)
theorem w_m0 {f : MFn} {a : Ex} (h : wp (evE c a r m) (fun x m => ∃ z, mfnV f x = some z ∧ Q z m) Xp) : wp (evE c (.m0 f a) r m) Q Xp := by
  simp only [evE]
  exact wp_bind (wp_mono h fun x m h => wp_give h)
theorem w_call {f : Str} {es ws : List Ex} {ks : List Str} {arr : List (Nat ⊕ D)} (h : wp (evVs c es r m) (fun xs m => wp (evVs c ws r m) (fun ys m => ∃ zs, fill arr (xs ++ ys) = some zs ∧ wp (c f zs m) Q Xp) Xp) Xp) : wp (evE c (.call f es ks ws arr) r m) Q Xp := by
  simp only [evE]
  refine wp_bind (wp_mono h fun x m h => wp_bind (wp_mono h fun y m h => ?_))
  obtain ⟨zs, e, h⟩ := h
  exact wp_bind (wp_give ⟨zs, e, h⟩)
theorem w_bfn {f : BFn} {e : Ex} {es : List Ex} (h : wp (evE c e r m) (fun x m => wp (evTs c es r m) (fun xs m => ∃ z, bfnV f (x :: xs) m = some z ∧ Q z m) Xp) Xp) : wp (evE c (.bfn f e es) r m) Q Xp := by
  simp only [evE]
  exact wp_bind (wp_bind (wp_mono h fun x m h => wp_bind (wp_mono h fun y m h => wp_ok (wp_give h))))
theorem w_isi {ts : List String} {e : Ex} (h : wp (evE c e r m) (fun x m => ∃ z, bfnV (.isinst ts) [x] m = some z ∧ Q z m) Xp) : wp (evE c (.isi ts e) r m) Q Xp := by
  simp only [evE]
  exact wp_bind (wp_bind (wp_mono h fun x m h => wp_ok (wp_give h)))
theorem w_comp {elt : Ex} {tg : Tg} {it : It} {cond : Option Te} {own : List (Str × Nat)} (h : wp (evI c false it r m) (fun xs m => wp (compL (compF tg (wipeE r (own.map (·.2))) (evC c cond) (evE c elt)) xs m []) (fun ys m => Q (.new (.list ys)) m) Xp) Xp) :
    wp (evE c (.comp elt tg it cond own) r m) Q Xp := by
  simp only [evE]
  exact wp_bind (wp_mono h fun xs m h => wp_bind (wp_mono h fun ys m h => wp_ok h))
theorem w_comp2 {elt : Ex} {tg tg1 : Tg} {it it1 : It} {cond cond1 : Option Te} {own : List (Str × Nat)} (h : wp (evI c false it r m) (fun xs m => wp (compL2 (compG tg (wipeE r (own.map (·.2))) (evC c cond) (evI c true it1)) (fun r1 => compF tg1 (wipeE r1 (slots tg1)) (evC c cond1) (evE c elt)) xs m []) (fun ys m => Q (.new (.list ys)) m) Xp) Xp) :
    wp (evE c (.comp2 elt tg it cond tg1 it1 cond1 own) r m) Q Xp := by
  simp only [evE]
  exact wp_bind (wp_mono h fun xs m h => wp_bind (wp_mono h fun ys m h => wp_ok h))
theorem w_lrng1 {t : Bool} {a : Ex} (h : wp (evE c a r m) (fun x m => ∃ j z, getInt x = some j ∧ rngT t 0 j = some z ∧ Q z m) Xp) : wp (evE c (.lrng1 t a) r m) Q Xp := by
  simp only [evE]
  refine wp_bind (wp_mono h fun x m h => ?_)
  obtain ⟨j, z, e1, e2, h⟩ := h
  exact wp_give ⟨z, by rw [e1]; exact e2, h⟩
theorem w_lrng2 {t : Bool} {a b : Ex} (h : wp (evE c a r m) (fun x m => wp (evE c b r m) (fun y m => ∃ i j z, getInt x = some i ∧ getInt y = some j ∧ rngT t i j = some z ∧ Q z m) Xp) Xp) : wp (evE c (.lrng2 t a b) r m) Q Xp := by
  simp only [evE]
  refine wp_bind (wp_mono h fun x m h => wp_bind (wp_mono h fun y m h => ?_))
  obtain ⟨i, j, z, e1, e2, e3, h⟩ := h
  exact wp_give ⟨z, by rw [e1, e2]; exact e3, h⟩
theorem w_xm {f : XFn} {o : Ex} {es : List Ex} (h : wp (evE c o r m) (fun x m => isLst x m = some () ∧ wp (evVs c es r m) (fun ys m => ∃ z, xfnV f x ys m = some z ∧ Q (.v z.1) z.2) Xp) Xp) : wp (evE c (.xm f o es) r m) Q Xp := by
  simp only [evE]
  refine wp_bind (wp_mono h fun x m h => ?_)
  obtain ⟨e, h⟩ := h
  refine wp_bind (wp_give ⟨(), e, wp_bind (wp_mono h fun ys m h => ?_)⟩)
  obtain ⟨z, e, h⟩ := h
  exact wp_bind (wp_give ⟨z, e, h⟩)
theorem w_pm {f : PFn} {o a : Ex} (h : wp (evE c o r m) (fun x m => isSeq x = some () ∧ wp (evE c a r m) (fun y m => ∃ z, pfnV f x y = some z ∧ Q z m) Xp) Xp) : wp (evE c (.pm f o a) r m) Q Xp := by
  simp only [evE]
  refine wp_bind (wp_mono h fun x m h => ?_)
  obtain ⟨e, h⟩ := h
  exact wp_bind (wp_give ⟨(), e, wp_bind (wp_mono h fun ys m h => wp_give h)⟩)
theorem w_ddis {t : Bool} {es : List Ex} (h : wp (evVs c es r m) (fun xs m => ∃ b, ((pairUp xs).bind fun kvs => if t then dispT kvs else dispK kvs) = some b ∧ Q (.v (.loc m.length)) (m ++ [b])) Xp) : wp (evE c (.ddis t es) r m) Q Xp := by
  simp only [evE]
  refine wp_bind (wp_mono h fun xs m h => ?_)
  obtain ⟨b, e, h⟩ := h
  exact wp_bind (wp_give ⟨b, e, h⟩)
theorem w_vnil {Q : List Val → Store → Prop} (h : Q [] m) : wp (evVs c [] r m) Q Xp := h
theorem w_vcons {e : Ex} {es : List Ex} {Q : List Val → Store → Prop} (h : wp (evE c e r m) (fun t m => ∃ x, t.val? = some x ∧ wp (evVs c es r m) (fun xs m => Q (x :: xs) m) Xp) Xp) : wp (evVs c (e :: es) r m) Q Xp := by
  simp only [evVs]
  refine wp_bind (wp_mono h fun t m h => ?_)
  obtain ⟨x, e, h⟩ := h
  exact wp_bind (wp_give ⟨x, e, wp_bind (wp_mono h fun xs m h => wp_ok h)⟩)
theorem w_dnil {Q : List D → Store → Prop} (h : Q [] m) : wp (evDs c [] r m) Q Xp := h
theorem w_dcons {e : Ex} {es : List Ex} {Q : List D → Store → Prop} (h : wp (evE c e r m) (fun t m => ∃ x, toD t = some x ∧ wp (evDs c es r m) (fun xs m => Q (x :: xs) m) Xp) Xp) : wp (evDs c (e :: es) r m) Q Xp := by
  simp only [evDs]
  refine wp_bind (wp_mono h fun t m h => ?_)
  obtain ⟨x, e, h⟩ := h
  exact wp_bind (wp_give ⟨x, e, wp_bind (wp_mono h fun xs m h => wp_ok h)⟩)
theorem w_tnil {Q : List Tmp → Store → Prop} (h : Q [] m) : wp (evTs c [] r m) Q Xp := h
theorem w_tcons {e : Ex} {es : List Ex} {Q : List Tmp → Store → Prop} (h : wp (evE c e r m) (fun t m => wp (evTs c es r m) (fun xs m => Q (t :: xs) m) Xp) Xp) : wp (evTs c (e :: es) r m) Q Xp := by
  simp only [evTs]
  exact wp_bind (wp_mono h fun t m h => wp_bind (wp_mono h fun xs m h => wp_ok h))
theorem w_onone {Q : Option Int → Store → Prop} (h : Q none m) : wp (evO c none r m) Q Xp := h
theorem w_osome {e : Ex} {Q : Option Int → Store → Prop} (h : wp (evE c e r m) (fun t m => ∃ i, getInt t = some i ∧ Q (some i) m) Xp) : wp (evO c (some e) r m) Q Xp := by
  simp only [evO]
  refine wp_bind (wp_mono h fun t m h => wp_give ?_)
  obtain ⟨i, e, h⟩ := h
  exact ⟨_, by rw [e]; rfl, h⟩
theorem w_tval {e : Ex} (h : wp (evE c e r m) (fun t m => ∃ k, truth t m = some k ∧ Qb k m) Xp) : wp (evT c (.val e) r m) Qb Xp := by
  simp only [evT]
  exact wp_bind (wp_mono h fun t m h => wp_give h)
theorem w_tdin {k d : Ex} (h : wp (evE c k r m) (fun x m => wp (evE c d r m) (fun y m => ∃ b, dinV x y m = some b ∧ Qb b m) Xp) Xp) : wp (evT c (.din false k d) r m) Qb Xp := by
  simp only [evT]
  refine wp_bind (wp_mono h fun x m h => wp_bind (wp_mono h fun y m h => ?_))
  obtain ⟨b, e, h⟩ := h
  exact wp_give ⟨b, by rw [e]; rfl, h⟩
theorem w_tdinN {k d : Ex} (h : wp (evE c k r m) (fun x m => wp (evE c d r m) (fun y m => ∃ b, dinV x y m = some b ∧ Qb (!b) m) Xp) Xp) : wp (evT c (.din true k d) r m) Qb Xp := by
  simp only [evT]
  refine wp_bind (wp_mono h fun x m h => wp_bind (wp_mono h fun y m h => ?_))
  obtain ⟨b, e, h⟩ := h
  exact wp_give ⟨!b, by rw [e]; rfl, h⟩
theorem w_tcmp {o : COp} {a b : Ex} (h : wp (evE c a r m) (fun x m => wp (evE c b r m) (fun y m => ∃ z, cmpV o x y = some z ∧ Qb z m) Xp) Xp) : wp (evT c (.cmp o a b) r m) Qb Xp := by
  simp only [evT]
  exact wp_bind (wp_mono h fun x m h => wp_bind (wp_mono h fun y m h => wp_give h))
theorem w_tchain {o o' : COp} {a b z : Ex} (h : wp (evE c a r m) (fun x m => wp (evE c b r m) (fun y m => ∃ k, cmpV o x y = some k ∧ ((k = true → wp (evE c z r m) (fun u m => ∃ k, cmpV o' y u = some k ∧ Qb k m) Xp) ∧ (k = false → Qb false m))) Xp) Xp) :
    wp (evT c (.chain o o' a b z) r m) Qb Xp := by
  simp only [evT]
  refine wp_bind (wp_mono h fun x m h => wp_bind (wp_mono h fun y m h => ?_))
  obtain ⟨k, e, h1, h2⟩ := h
  refine wp_bind (wp_give ⟨k, e, ?_⟩)
  cases k with
  | true => exact wp_bind (wp_mono (h1 rfl) fun u m h => wp_give h)
  | false => exact h2 rfl
theorem w_tand {a b : Te} (h : wp (evT c a r m) (fun k m => (k = true → wp (evT c b r m) Qb Xp) ∧ (k = false → Qb false m)) Xp) : wp (evT c (.and a b) r m) Qb Xp := by
  simp only [evT]
  refine wp_bind (wp_mono h fun k m h => ?_)
  cases k with
  | true => exact h.1 rfl
  | false => exact h.2 rfl
theorem w_tor {a b : Te} (h : wp (evT c a r m) (fun k m => (k = true → Qb true m) ∧ (k = false → wp (evT c b r m) Qb Xp)) Xp) : wp (evT c (.or a b) r m) Qb Xp := by
  simp only [evT]
  refine wp_bind (wp_mono h fun k m h => ?_)
  cases k with
  | true => exact h.1 rfl
  | false => exact h.2 rfl
theorem w_tnot {a : Te} (h : wp (evT c a r m) (fun k m => Qb (!k) m) Xp) : wp (evT c (.not a) r m) Qb Xp := by
  simp only [evT]
  exact wp_bind (wp_mono h fun k m h => wp_ok h)
variable {Qi : List Val → Store → Prop} {st : Bool}
theorem w_rng1 {a : Ex} (h : wp (evE c a r m) (fun t m => ∃ i, getInt t = some i ∧ small62 i = true ∧ Qi (rngL 0 i) m) Xp) : wp (evI c st (.rng1 a) r m) Qi Xp := by
  simp only [evI]
  refine wp_bind (wp_mono h fun t m h => ?_)
  obtain ⟨i, e, s, h⟩ := h
  refine wp_bind (wp_give ⟨i, e, ?_⟩)
  rw [if_pos s]
  exact h
theorem w_rng2 {a b : Ex} (h : wp (evE c a r m) (fun t m => wp (evE c b r m) (fun u m => ∃ i j, getInt t = some i ∧ getInt u = some j ∧ (small62 i && small62 j) = true ∧ Qi (rngL i j) m) Xp) Xp) : wp (evI c st (.rng2 a b) r m) Qi Xp := by
  simp only [evI]
  refine wp_bind (wp_mono h fun t m h => wp_bind (wp_mono h fun u m h => ?_))
  obtain ⟨i, j, e1, e2, s, h⟩ := h
  refine wp_bind (wp_give ⟨i, e1, wp_bind (wp_give ⟨j, e2, ?_⟩)⟩)
  rw [if_pos s]
  exact h
theorem w_seq {a : Ex} (h : wp (evE c a r m) (fun t m => ∃ xs, t.itemsS? st = some xs ∧ Qi (xs.map .d) m) Xp) : wp (evI c st (.seq a) r m) Qi Xp := by
  simp only [evI]
  refine wp_bind (wp_mono h fun t m h => ?_)
  obtain ⟨i, e, h⟩ := h
  exact wp_bind (wp_give ⟨i, e, h⟩)
def itemsE (st : Bool) (t : Tmp) : Option (List D) := match t.dataS? st with
  | some (.list xs) => some xs
  | some (.tuple xs) => some xs
  | _ => none
theorem w_enum {a : Ex} (h : wp (evE c a r m) (fun t m => ∃ xs, itemsE st t = some xs ∧ Qi (enumL 0 xs) m) Xp) : wp (evI c st (.enum a) r m) Qi Xp := by
  simp only [evI]
  refine wp_bind (wp_mono h fun t m h => ?_)
  obtain ⟨i, e, h⟩ := h
  unfold itemsE at e
  split at e
  · rename_i xs e1
    cases e
    first
      | (rw [e1]; exact h)
      | exact h
  · rename_i xs e1
    cases e
    first
      | (rw [e1]; exact h)
      | exact h
  · cases e
theorem w_zip {a b : Ex} (h : wp (evE c a r m) (fun t m => wp (evE c b r m) (fun u m => ∃ xs ys, ((t.dataZ? st = some (.list xs) ∧ u.dataZ? st = some (.list ys)) ∨ (t.dataZ? st = some (.tuple xs) ∧ u.dataZ? st = some (.tuple ys))) ∧ Qi (zipL xs ys) m) Xp) Xp) :
    wp (evI c st (.zip false a b) r m) Qi Xp := by
  simp only [evI, zipS]
  refine wp_bind (wp_mono h fun t m h => wp_bind (wp_mono h fun u m h => ?_))
  obtain ⟨i, j, e | e, h⟩ := h
  · rw [e.1, e.2]
    exact h
  · rw [e.1, e.2]
    exact h

theorem w_zipS {a b : Ex} (h : wp (evE c a r m) (fun t m => wp (evE c b r m) (fun u m => ∃ xs ys, (t.dataZ? st).bind seqD = some xs ∧ (u.dataZ? st).bind seqD = some ys ∧ xs.length = ys.length ∧ Qi (zipL xs ys) m) Xp) Xp) :
    wp (evI c st (.zip true a b) r m) Qi Xp := by
  simp only [evI, zipS, if_true]
  refine wp_bind (wp_mono h fun t m h => wp_bind (wp_mono h fun u m h => ?_))
  obtain ⟨xs, ys, e1, e2, e3, h⟩ := h
  rw [e1, e2]
  simp only [zipT, if_pos e3]
  exact h
variable {Qs : Fl → Store → Prop} {ss : List Sm}
def Go (c : Calls) (ss : List Sm) (Qs : Fl → Store → Prop) (Xp : XP) : Fl → Store → Prop := fun o m => match o with
  | .nx r => wp (evSs c ss r m) Qs Xp
  | o => Qs o m
theorem w_nil (h : Qs (.nx r) m) : wp (evSs c [] r m) Qs Xp := h
theorem w_cons {s : Sm} (h : wp (evS c s r m) (Go c ss Qs Xp) Xp) : wp (evSs c (s :: ss) r m) Qs Xp := by
  simp only [evSs]
  refine wp_bind (wp_mono h fun o m h => ?_)
  cases o <;> exact h
theorem w_asg {tg : Tg} {e : Ex} (h : wp (evE c e r m) (fun t m => ∃ r', asgT tg t r = some r' ∧ wp (evSs c ss r' m) Qs Xp) Xp) : wp (evSs c (.asg tg e :: ss) r m) Qs Xp := by
  refine w_cons ?_
  simp only [evS]
  refine wp_bind (wp_mono h fun t m h => ?_)
  obtain ⟨r', e, h⟩ := h
  exact wp_bind (wp_give ⟨r', e, h⟩)
theorem w_asgS {ts : List Tg} {i : Nat} {e : Ex} (h : wp (evE c e r m) (fun t m => ∃ xs r', t.items? = some xs ∧ Nat.ble ts.length xs.length = true ∧ xs.length ≤ 16384 ∧ asgs ts (xs.take ts.length) r = some r' ∧ Nat.blt i r'.length = true ∧ wp (evSs c ss (r'.set i (.own (.list (xs.drop ts.length)))) m) Qs Xp) Xp) : wp (evSs c (.asgS ts i e :: ss) r m) Qs Xp := by
  refine w_cons ?_
  simp only [evS]
  refine wp_bind (wp_mono h fun t m h => ?_)
  obtain ⟨xs, r', e1, e2, e3, e4, e5, h⟩ := h
  refine wp_bind (wp_give ⟨xs, e1, ?_⟩)
  rw [if_pos ⟨Nat.le_of_ble_eq_true e2, e3⟩]
  refine wp_bind (wp_give ⟨r', e4, ?_⟩)
  rw [if_pos (show i < r'.length from Nat.le_of_ble_eq_true e5)]
  exact h
theorem w_par {i j : Nat} {a b : Ex} (h : wp (evE c a r m) (fun t m => wp (evE c b r m) (fun u m => ∃ r1 r2, asgT (.name i) t r = some r1 ∧ asgT (.name j) u r1 = some r2 ∧ wp (evSs c ss r2 m) Qs Xp) Xp) Xp) : wp (evSs c (.par i j a b :: ss) r m) Qs Xp := by
  refine w_cons ?_
  simp only [evS]
  refine wp_bind (wp_mono h fun t m h => wp_bind (wp_mono h fun u m h => ?_))
  obtain ⟨r1, r2, e1, e2, h⟩ := h
  exact wp_bind (wp_give ⟨r1, e1, wp_bind (wp_give ⟨r2, e2, h⟩)⟩)
theorem w_seti {o i e : Ex} (h : wp (evE c e r m) (fun t m => ∃ x, t.val? = some x ∧ wp (evE c o r m) (fun a m => wp (evE c i r m) (fun k m => ∃ m', setBox m a k x = some m' ∧ wp (evSs c ss r m') Qs Xp) Xp) Xp) Xp) : wp (evSs c (.seti o i e :: ss) r m) Qs Xp := by
  refine w_cons ?_
  simp only [evS]
  refine wp_bind (wp_mono h fun t m h => ?_)
  obtain ⟨x, e, h⟩ := h
  refine wp_bind (wp_give ⟨x, e, wp_bind (wp_mono h fun a m h => wp_bind (wp_mono h fun k m h => ?_))⟩)
  obtain ⟨m', e, h⟩ := h
  exact wp_bind (wp_give ⟨m', e, h⟩)
theorem w_setOwn {x : Nat} {i e : Ex} (h : ∃ xs, ownList r x = some xs ∧ wp (evE c e r m) (fun t m => ∃ y, toD t = some y ∧ wp (evE c i r m) (fun k m => ∃ k', getInt k = some k' ∧ ∃ j, ixN xs.length k' = some j ∧ wp (evSs c ss (r.set x (.own (.list (xs.set j y)))) m) Qs Xp) Xp) Xp) :
    wp (evSs c (.setOwn x i e :: ss) r m) Qs Xp := by
  refine w_cons ?_
  simp only [evS]
  obtain ⟨xs, e, h⟩ := h
  refine wp_bind (wp_give ⟨xs, e, wp_bind (wp_mono h fun t m h => ?_)⟩)
  obtain ⟨y, e, h⟩ := h
  refine wp_bind (wp_give ⟨y, e, wp_bind (wp_mono h fun k m h => ?_)⟩)
  obtain ⟨k', e, j, e2, h⟩ := h
  exact wp_bind (wp_give ⟨k', e, wp_bind (wp_give ⟨j, e2, h⟩)⟩)
theorem w_augI {i : Nat} {o : BOp} {e : Ex} (h : ∃ p, r[i]? = some (.val (.d (.int p))) ∧ wp (evE c e r m) (fun t m => ∃ q k, getInt t = some q ∧ augI o p q = some k ∧ i < r.length ∧ wp (evSs c ss (r.set i (.val (.d (.int k)))) m) Qs Xp) Xp) : wp (evSs c (.aug i o e :: ss) r m) Qs Xp := by
  refine w_cons ?_
  simp only [evS]
  obtain ⟨p, e, h⟩ := h
  refine wp_bind (w_val e (wp_bind (wp_mono h fun t m h => ?_)))
  obtain ⟨q, k, e, e2, l, h⟩ := h
  rw [show getInt (.v (.d (.int p))) = some p from rfl, e]
  dsimp only [Option.bind]
  rw [e2]
  dsimp only
  rw [if_pos l]
  exact h
theorem w_addi {i : Nat} {e : Ex} (h : ∃ p, r[i]? = some (.val (.d (.int p))) ∧ wp (evE c e r m) (fun t m => ∃ q, getInt t = some q ∧ i < r.length ∧ wp (evSs c ss (r.set i (.val (.d (.int (p + q))))) m) Qs Xp) Xp) : wp (evSs c (.aug i .add e :: ss) r m) Qs Xp := by
  obtain ⟨p, e, h⟩ := h
  exact w_augI ⟨p, e, wp_mono h fun t m ⟨q, e, l, h⟩ => ⟨q, _, e, rfl, l, h⟩⟩
theorem w_subi {i : Nat} {e : Ex} (h : ∃ p, r[i]? = some (.val (.d (.int p))) ∧ wp (evE c e r m) (fun t m => ∃ q, getInt t = some q ∧ i < r.length ∧ wp (evSs c ss (r.set i (.val (.d (.int (p - q))))) m) Qs Xp) Xp) : wp (evSs c (.aug i .sub e :: ss) r m) Qs Xp := by
  obtain ⟨p, e, h⟩ := h
  exact w_augI ⟨p, e, wp_mono h fun t m ⟨q, e, l, h⟩ => ⟨q, _, e, rfl, l, h⟩⟩
theorem w_muli {i : Nat} {e : Ex} (h : ∃ p, r[i]? = some (.val (.d (.int p))) ∧ wp (evE c e r m) (fun t m => ∃ q, getInt t = some q ∧ okMul p q = true ∧ i < r.length ∧ wp (evSs c ss (r.set i (.val (.d (.int (p * q))))) m) Qs Xp) Xp) : wp (evSs c (.aug i .mul e :: ss) r m) Qs Xp := by
  obtain ⟨p, e, h⟩ := h
  exact w_augI ⟨p, e, wp_mono h fun t m ⟨q, e, b, l, h⟩ => ⟨q, _, e, if_pos b, l, h⟩⟩
theorem w_extend {x : Nat} {e : Ex} (h : ∃ xs, ownList r x = some xs ∧ wp (evE c e r m) (fun t m => ∃ ys, t.data? = some (.list ys) ∧ xs.length + ys.length ≤ sizeLine ∧ wp (evSs c ss (r.set x (.own (.list (xs ++ ys)))) m) Qs Xp) Xp) : wp (evSs c (.extend x e :: ss) r m) Qs Xp := by
  refine w_cons ?_
  simp only [evS]
  obtain ⟨xs, e, h⟩ := h
  refine wp_bind (wp_give ⟨xs, e, wp_bind (wp_mono h fun t m h => ?_)⟩)
  obtain ⟨ys, e, l, h⟩ := h
  rw [e]
  dsimp only
  rw [if_pos l]
  exact h
theorem w_asgL {is : List Nat} {e : Ex} (h : wp (evE c e r m) (fun t m => ∃ n xs r', t = .v (.loc n) ∧ m[n]? = some (.lst xs) ∧ asgLs is xs r = some r' ∧ wp (evSs c ss r' m) Qs Xp) Xp) : wp (evSs c (.asgL is e :: ss) r m) Qs Xp := by
  refine w_cons ?_
  simp only [evS]
  refine wp_bind (wp_mono h fun t m h => ?_)
  obtain ⟨n, xs, r', rfl, e1, e2, h⟩ := h
  dsimp only
  rw [e1]
  dsimp only
  exact wp_bind (wp_give ⟨r', e2, h⟩)
theorem w_forS {ts : List Tg} {i : Nat} {it : It} {b : List Sm} (h : wp (evI c true it r m) (fun xs m => wp (forL (forFS ts i (evSs c b)) xs r m) (Go c ss Qs Xp) Xp) Xp) : wp (evSs c (.forS ts i it b :: ss) r m) Qs Xp := by
  refine w_cons ?_
  simp only [evS]
  exact wp_bind h
theorem w_append {x : Nat} {e : Ex} (h : ∃ xs, ownList r x = some xs ∧ wp (evE c e r m) (fun t m => ∃ y, toD t = some y ∧ xs.length < sizeLine ∧ wp (evSs c ss (r.set x (.own (.list (xs ++ [y])))) m) Qs Xp) Xp) : wp (evSs c (.append x e :: ss) r m) Qs Xp := by
  refine w_cons ?_
  simp only [evS]
  obtain ⟨xs, e, h⟩ := h
  refine wp_bind (wp_give ⟨xs, e, wp_bind (wp_mono h fun t m h => ?_)⟩)
  obtain ⟨y, e, l, h⟩ := h
  refine wp_bind (wp_give ⟨y, e, ?_⟩)
  rw [if_pos l]
  exact h
theorem w_popA {tg : Tg} {x : Nat} (h : ∃ xs y r', ownList r x = some xs ∧ xs.getLast? = some y ∧ asg tg (.d y) (r.set x (.own (.list xs.dropLast))) = some r' ∧ wp (evSs c ss r' m) Qs Xp) : wp (evSs c (.popA tg x :: ss) r m) Qs Xp := by
  refine w_cons ?_
  simp only [evS]
  obtain ⟨xs, y, r', e1, e2, e3, h⟩ := h
  exact wp_bind (wp_give ⟨xs, e1, wp_bind (wp_give ⟨y, e2, wp_bind (wp_give ⟨r', e3, h⟩)⟩)⟩)
theorem w_expr {e : Ex} (h : wp (evE c e r m) (fun _ m => wp (evSs c ss r m) Qs Xp) Xp) : wp (evSs c (.expr e :: ss) r m) Qs Xp := by
  refine w_cons ?_
  simp only [evS]
  exact wp_bind (wp_mono h fun t m h => h)
theorem w_ret {e : Ex} (h : wp (evE c e r m) (fun t m => (∀ d, t ≠ .bor d) ∧ Qs (.rt t) m) Xp) : wp (evSs c (.ret e :: ss) r m) Qs Xp := by
  refine w_cons ?_
  simp only [evS]
  refine wp_bind (wp_mono h fun t m h => ?_)
  cases t with
  | v x => exact h.2
  | new x => exact h.2
  | bor x => exact absurd rfl (h.1 x)
theorem w_retN (h : Qs (.rt (.v (.d .none))) m) : wp (evSs c (.retN :: ss) r m) Qs Xp := w_cons h
theorem w_retOwn {i : Nat} {x : D} (e : r[i]? = some (.own x)) (h : Qs (.rt (.new x)) m) : wp (evSs c (.retOwn i :: ss) r m) Qs Xp := by
  refine w_cons ?_
  simp only [evS, e]
  exact h
theorem w_ife {t : Te} {a b : List Sm} (h : wp (evT c t r m) (fun k m => (k = true → wp (evSs c a r m) (Go c ss Qs Xp) Xp) ∧ (k = false → wp (evSs c b r m) (Go c ss Qs Xp) Xp)) Xp) : wp (evSs c (.ife t a b :: ss) r m) Qs Xp := by
  refine w_cons ?_
  simp only [evS]
  refine wp_bind (wp_mono h fun k m h => ?_)
  cases k with
  | true => exact h.1 rfl
  | false => exact h.2 rfl
theorem w_for {tg : Tg} {it : It} {b : List Sm} (h : wp (evI c true it r m) (fun xs m => wp (forL (forF tg (evSs c b)) xs r m) (Go c ss Qs Xp) Xp) Xp) : wp (evSs c (.forr tg it b :: ss) r m) Qs Xp := by
  refine w_cons ?_
  simp only [evS]
  exact wp_bind h
theorem w_whil {t : Te} {b : List Sm} (h : wp (whilL (evT c t) (evSs c b) r m) (Go c ss Qs Xp) Xp) : wp (evSs c (.whil t b :: ss) r m) Qs Xp := by
  refine w_cons ?_
  simp only [evS]
  exact h
theorem w_brk (h : Qs (.bk r) m) : wp (evSs c (.brk :: ss) r m) Qs Xp := w_cons h
theorem w_cont (h : Qs (.ct r) m) : wp (evSs c (.cont :: ss) r m) Qs Xp := w_cons h
theorem w_pass (h : wp (evSs c ss r m) Qs Xp) : wp (evSs c (.pass :: ss) r m) Qs Xp := w_cons h
theorem w_frz {i : Nat} {x : D} (e : r[i]? = some (.own x)) (h : wp (evSs c ss (r.set i (.val (.d x))) m) Qs Xp) : wp (evSs c (.freeze i :: ss) r m) Qs Xp := by
  refine w_cons ?_
  simp only [evS, e]
  exact h
theorem w_frzN {i : Nat} {s : Slot} (e : r[i]? = some s) (n : ∀ x, s ≠ .own x) (h : wp (evSs c ss r m) Qs Xp) : wp (evSs c (.freeze i :: ss) r m) Qs Xp := by
  refine w_cons ?_
  simp only [evS, e]
  cases s with
  | own x => exact absurd rfl (n x)
  | _ => exact h
theorem go_nx (h : wp (evSs c ss r m) Qs Xp) : Go c ss Qs Xp (.nx r) m := h
theorem go_rt {t : Tmp} (h : Qs (.rt t) m) : Go c ss Qs Xp (.rt t) m := h
theorem go_bk (h : Qs (.bk r) m) : Go c ss Qs Xp (.bk r) m := h
theorem go_ct (h : Qs (.ct r) m) : Go c ss Qs Xp (.ct r) m := h
def Rt (Q : Tmp → Store → Prop) : Fl → Store → Prop := fun o m => match o with
  | .rt t => Q t m
  | .nx _ => Q (.v (.d .none)) m
  | _ => False
theorem rt_rt {t : Tmp} (h : Q t m) : Rt Q (.rt t) m := h
theorem rt_nx (h : Q (.v (.d .none)) m) : Rt Q (.nx r) m := h
theorem w_def {G : Defs} {n : Nat} {x : Str} {f : Fn} {vs : List Val} (e : G x = some f) (hl : vs.length = f.ps.length) (h : wp (evSs (evF G n) f.body (startE f vs) m) (Rt Q) Xp) : wp (evF G (n + 1) x vs m) Q Xp := by
  rw [call_eq e]
  unfold run
  rw [if_pos hl]
  refine wp_bind (wp_mono h fun o m h => ?_)
  cases o <;> exact h
end

section
variable {m : Store} {i j : Int} {P : Tmp → Prop} {Pb : Bool → Prop} {Pv : Val → Prop}
theorem o_add (h : P (.v (.d (.int (i + j))))) : ∃ z, binV .add (.v (.d (.int i))) (.v (.d (.int j))) = some z ∧ P z := ⟨_, rfl, h⟩
theorem o_sub (h : P (.v (.d (.int (i - j))))) : ∃ z, binV .sub (.v (.d (.int i))) (.v (.d (.int j))) = some z ∧ P z := ⟨_, rfl, h⟩
theorem o_mul (b : okMul i j = true) (h : P (.v (.d (.int (i * j))))) : ∃ z, binV .mul (.v (.d (.int i))) (.v (.d (.int j))) = some z ∧ P z := ⟨_, by simp only [binV, Tmp.dataX?, Tmp.data?, binI, if_pos b]; rfl, h⟩
theorem o_fdiv (b : j ≠ 0) (b2 : j.natAbs < 1073741824) (h : P (.v (.d (.int (i.fdiv j))))) : ∃ z, binV .fdiv (.v (.d (.int i))) (.v (.d (.int j))) = some z ∧ P z := ⟨_, by simp [binV, Tmp.dataX?, Tmp.data?, binI, b, b2], h⟩
theorem o_mod (b : j ≠ 0) (h : P (.v (.d (.int (i.fmod j))))) : ∃ z, binV .mod (.v (.d (.int i))) (.v (.d (.int j))) = some z ∧ P z := ⟨_, by simp [binV, Tmp.dataX?, Tmp.data?, binI, b], h⟩
theorem o_pow (b : 0 ≤ j) (b2 : j ≤ 1000000) (b3 : i.natAbs < 2 ^ 64) (h : P (.v (.d (.int (i ^ j.toNat))))) : ∃ z, binV .pow (.v (.d (.int i))) (.v (.d (.int j))) = some z ∧ P z := ⟨_, by
  have b3' : i.natAbs < 18446744073709551616 := b3
  simp [binV, Tmp.dataX?, Tmp.data?, binI, b, b2, b3'], h⟩
theorem o_gt (h : Pb (decide (j < i))) : ∃ z, cmpV .gt (.v (.d (.int i))) (.v (.d (.int j))) = some z ∧ Pb z := ⟨_, rfl, h⟩
theorem o_lt (h : Pb (decide (i < j))) : ∃ z, cmpV .lt (.v (.d (.int i))) (.v (.d (.int j))) = some z ∧ Pb z := ⟨_, rfl, h⟩
theorem o_le (h : Pb (decide (i ≤ j))) : ∃ z, cmpV .le (.v (.d (.int i))) (.v (.d (.int j))) = some z ∧ Pb z := ⟨_, rfl, h⟩
theorem o_ge (h : Pb (decide (j ≤ i))) : ∃ z, cmpV .ge (.v (.d (.int i))) (.v (.d (.int j))) = some z ∧ Pb z := ⟨_, rfl, h⟩
theorem eqv_int : PyData.eqv (.int i) (.int j) = decide (i = j) := by simp only [PyData.eqv]; by_cases h : i = j <;> simp [h]
theorem shaped_int : SeqAt.shaped (.int i) = true := by simp [SeqAt.shaped, PyData.canLay0, PyData.depth]
theorem o_eqI (h : Pb (decide (i = j))) : ∃ z, cmpV .eq (.v (.d (.int i))) (.v (.d (.int j))) = some z ∧ Pb z := ⟨_, by simp only [cmpV, Tmp.dataX?, Tmp.data?, eqD, shaped_int, eqv_int]; rfl, h⟩
theorem o_neI (h : Pb (!decide (i = j))) : ∃ z, cmpV .ne (.v (.d (.int i))) (.v (.d (.int j))) = some z ∧ Pb z := ⟨_, by simp only [cmpV, Tmp.dataX?, Tmp.data?, eqD, shaped_int, eqv_int]; rfl, h⟩
theorem o_lenL {xs : List D} (h : P (.v (.d (.int (xs.length : Nat))))) : ∃ z, bfnV .len [.v (.d (.list xs))] m = some z ∧ P z := ⟨_, rfl, h⟩
theorem o_lenT {xs : List D} (h : P (.v (.d (.int (xs.length : Nat))))) : ∃ z, bfnV .len [.v (.d (.tuple xs))] m = some z ∧ P z := ⟨_, rfl, h⟩
theorem o_lenB {xs : List D} (h : P (.v (.d (.int (xs.length : Nat))))) : ∃ z, bfnV .len [.bor (.list xs)] m = some z ∧ P z := ⟨_, rfl, h⟩
theorem o_lenN {xs : List D} (h : P (.v (.d (.int (xs.length : Nat))))) : ∃ z, bfnV .len [.new (.list xs)] m = some z ∧ P z := ⟨_, rfl, h⟩
theorem o_ixL {xs : List D} {x : D} (e : L2.atI xs j = some x) (h : Pv (.d x)) : ∃ z, idxV (.v (.d (.list xs))) (.v (.d (.int j))) m = some z ∧ Pv z := ⟨_, by simp only [idxV, Tmp.dataX?, Tmp.data?, e]; rfl, h⟩
theorem o_ixT {xs : List D} {x : D} (e : L2.atI xs j = some x) (h : Pv (.d x)) : ∃ z, idxV (.v (.d (.tuple xs))) (.v (.d (.int j))) m = some z ∧ Pv z := ⟨_, by simp only [idxV, Tmp.dataX?, Tmp.data?, e]; rfl, h⟩
theorem o_ixB {xs : List D} {x : D} (e : L2.atI xs j = some x) (h : Pv (.d x)) : ∃ z, idxV (.bor (.list xs)) (.v (.d (.int j))) m = some z ∧ Pv z := ⟨_, by simp only [idxV, Tmp.dataX?, Tmp.data?, e]; rfl, h⟩
theorem o_ixN {xs : List D} {x : D} (e : L2.atI xs j = some x) (h : Pv (.d x)) : ∃ z, idxV (.new (.list xs)) (.v (.d (.int j))) m = some z ∧ Pv z := ⟨_, by simp only [idxV, Tmp.dataX?, Tmp.data?, e]; rfl, h⟩
end
end Ev
set_option Elab.async false
set_option linter.all false
set_option maxHeartbeats 4000000
namespace Ev
open PySem L2
theorem a_v {i : Nat} {x : Val} {r : Env} {K : Env → Prop} (h : Nat.blt i r.length = true) (k : K (r.set i (.val x))) : ∃ r', asgT (.name i) (.v x) r = some r' ∧ K r' := ⟨_, by simp only [asgT, asg]; rw [if_pos (Nat.blt_eq.mp h)], k⟩
theorem a_n {i : Nat} {x : D} {r : Env} {K : Env → Prop} (h : Nat.blt i r.length = true) (k : K (r.set i (.own x))) : ∃ r', asgT (.name i) (.new x) r = some r' ∧ K r' := ⟨_, by simp only [asgT]; rw [if_pos (Nat.blt_eq.mp h)], k⟩

theorem a_t2 {i j : Nat} {x y : D} {r : Env} {K : Env → Prop} (h : Nat.blt i r.length = true) (h2 : Nat.blt j r.length = true) (k : K ((r.set i (.val (.d x))).set j (.val (.d y)))) : ∃ r', asgT (.tup [.name i, .name j]) (.v (.d (.tuple [x, y]))) r = some r' ∧ K r' := ⟨_, by
  simp only [asgT, asg, asgs]
  rw [if_pos (Nat.blt_eq.mp h)]
  show (asg (.name j) _ _).bind _ = _
  simp only [asg, List.length_set]
  rw [if_pos (Nat.blt_eq.mp h2)]
  rfl, k⟩
theorem w_val' {Q : Tmp → Store → Prop} {Xp : XP} {c : Calls} {r : Env} {m : Store} {i : Nat} (h : ∃ x, r[i]? = some (.val x) ∧ Q (.v x) m) : wp (evE c (.var i) r m) Q Xp := let ⟨_, e, h⟩ := h; w_val e h
theorem w_own' {Q : Tmp → Store → Prop} {Xp : XP} {c : Calls} {r : Env} {m : Store} {i : Nat} (h : ∃ x, r[i]? = some (.own x) ∧ Q (.bor x) m) : wp (evE c (.var i) r m) Q Xp := let ⟨_, e, h⟩ := h; w_own e h
theorem w_retOwn' {c : Calls} {r : Env} {m : Store} {ss : List Sm} {Qs : Fl → Store → Prop} {Xp : XP} {i : Nat} (h : ∃ x, r[i]? = some (.own x) ∧ Qs (.rt (.new x)) m) : wp (evSs c (.retOwn i :: ss) r m) Qs Xp := let ⟨_, e, h⟩ := h; w_retOwn e h
theorem w_frz' {c : Calls} {r : Env} {m : Store} {ss : List Sm} {Qs : Fl → Store → Prop} {Xp : XP} {i : Nat} (h : ∃ x, r[i]? = some (.own x) ∧ wp (evSs c ss (r.set i (.val (.d x))) m) Qs Xp) : wp (evSs c (.freeze i :: ss) r m) Qs Xp := let ⟨_, e, h⟩ := h; w_frz e h
theorem o_mulA {i j : Int} {P : Tmp → Prop} (b : -18446744073709551616 < i ∧ i < 18446744073709551616) (h : P (.v (.d (.int (i * j))))) : ∃ z, binV .mul (.v (.d (.int i))) (.v (.d (.int j))) = some z ∧ P z :=
  o_mul (by simp only [okMul, Bool.or_eq_true, Bool.and_eq_true, decide_eq_true_eq]; exact .inl ⟨by omega, by omega⟩) h
theorem o_mulB {i j : Int} {P : Tmp → Prop} (b : -18446744073709551616 < j ∧ j < 18446744073709551616) (h : P (.v (.d (.int (i * j))))) : ∃ z, binV .mul (.v (.d (.int i))) (.v (.d (.int j))) = some z ∧ P z :=
  o_mul (by simp only [okMul, Bool.or_eq_true, Bool.and_eq_true, decide_eq_true_eq]; exact .inr ⟨by omega, by omega⟩) h
theorem o_modP {i j : Int} {P : Tmp → Prop} (b : 0 < j) (h : P (.v (.d (.int (i % j))))) : ∃ z, binV .mod (.v (.d (.int i))) (.v (.d (.int j))) = some z ∧ P z :=
  o_mod (by omega) (by rw [Int.fmod_eq_emod_of_nonneg i (by omega)]; exact h)
theorem o_fdivP {i j : Int} {P : Tmp → Prop} (b : 0 < j) (b2 : j < 1073741824) (h : P (.v (.d (.int (i / j))))) : ∃ z, binV .fdiv (.v (.d (.int i))) (.v (.d (.int j))) = some z ∧ P z :=
  o_fdiv (by omega) (by omega) (by rw [Int.fdiv_eq_ediv_of_nonneg i (by omega)]; exact h)
theorem o_powP {i j : Int} {P : Tmp → Prop} (b : 0 ≤ j ∧ j ≤ 1000000) (b3 : -18446744073709551616 < i ∧ i < 18446744073709551616) (h : P (.v (.d (.int (i ^ j.toNat))))) : ∃ z, binV .pow (.v (.d (.int i))) (.v (.d (.int j))) = some z ∧ P z :=
  o_pow b.1 b.2 (show i.natAbs < 18446744073709551616 by omega) h
theorem c_dec {p : Prop} [Decidable p] {A B : Prop} (a : p → A) (b : ¬ p → B) : (decide p = true → A) ∧ (decide p = false → B) := ⟨fun h => a (of_decide_eq_true h), fun h => b (of_decide_eq_false h)⟩
theorem c_ndec {p : Prop} [Decidable p] {A B : Prop} (a : ¬ p → A) (b : p → B) : ((!decide p) = true → A) ∧ ((!decide p) = false → B) := ⟨fun h => a (by simpa using h), fun h => b (by simpa using h)⟩
theorem c_t {A B : Prop} (a : A) : (true = true → A) ∧ (true = false → B) := ⟨fun _ => a, fun h => nomatch h⟩
theorem c_f {A B : Prop} (b : B) : (false = true → A) ∧ (false = false → B) := ⟨fun h => (nomatch h), fun _ => b⟩
theorem g_int {i : Int} {A : Int → Prop} (h : A i) : ∃ k, getInt (.v (.d (.int i))) = some k ∧ A k := ⟨i, rfl, h⟩
theorem v_v {x : Val} {A : Val → Prop} (h : A x) : ∃ k, (Tmp.v x).val? = some k ∧ A k := ⟨x, rfl, h⟩
theorem v_n {x : D} {A : Val → Prop} (h : A (.d x)) : ∃ k, (Tmp.new x).val? = some k ∧ A k := ⟨_, rfl, h⟩
theorem d_v {x : D} {A : D → Prop} (h : A x) : ∃ k, toD (.v (.d x)) = some k ∧ A k := ⟨x, rfl, h⟩
theorem d_n {x : D} {A : D → Prop} (h : A x) : ∃ k, toD (.new x) = some k ∧ A k := ⟨_, rfl, h⟩
theorem r_v {x : Val} {A : Prop} (h : A) : (∀ d, Tmp.v x ≠ .bor d) ∧ A := ⟨(fun _ h => nomatch h), h⟩
theorem r_n {x : D} {A : Prop} (h : A) : (∀ d, Tmp.new x ≠ .bor d) ∧ A := ⟨(fun _ h => nomatch h), h⟩
theorem w_run {Q : Tmp → Store → Prop} {Xp : XP} {G : Defs} {n : Nat} {x : Str} {f : Fn} {vs : List Val} {m : Store} (e : G x = some f) (hl : vs.length = f.ps.length)
    (h : wp (evSs (evF G n) f.body (vs.map .val ++ List.replicate (f.ns.length - vs.length) .no) m) (Rt Q) Xp) : wp (evF G (n + 1) x vs m) Q Xp := w_def e hl h
theorem tap_get {cells : List Int} {spot rest calls : Int} {t : Nat} {m : Store} (e : m[t]? = some (tapB cells spot rest calls)) {P : Val → Prop} :
    (P (.d (.list (cells.map .int))) → ∃ z, idxV (.v (.loc t)) (.v (.d (.str "cells"))) m = some z ∧ P z) ∧ (P (.d (.int spot)) → ∃ z, idxV (.v (.loc t)) (.v (.d (.str "spot"))) m = some z ∧ P z) ∧
    (P (.d (.int rest)) → ∃ z, idxV (.v (.loc t)) (.v (.d (.str "rest"))) m = some z ∧ P z) ∧ (P (.d (.int calls)) → ∃ z, idxV (.v (.loc t)) (.v (.d (.str "calls"))) m = some z ∧ P z) := by
  have k : ∀ (s : Str) (v : Val), lookKV (κ := L2.Key) (α := Val) [(.inr "cells", .d (.list (cells.map .int))), (.inr "spot", .d (.int spot)), (.inr "rest", .d (.int rest)), (.inr "calls", .d (.int calls))] (.inr s) = some v → idxV (.v (.loc t)) (.v (.d (.str s))) m = some v := fun s v h => by
    simp only [idxV, Tmp.dataX?, Tmp.data?, e, tapB]; exact h
  exact ⟨fun h => ⟨_, k _ _ rfl, h⟩, fun h => ⟨_, k _ _ rfl, h⟩, fun h => ⟨_, k _ _ rfl, h⟩, fun h => ⟨_, k _ _ rfl, h⟩⟩
theorem tap_put {cells : List Int} {spot rest calls x : Int} {t : Nat} {m : Store} (e : m[t]? = some (tapB cells spot rest calls)) {P : Store → Prop} :
    (P (m.set t (tapB cells x rest calls)) → ∃ m', setBox m (.v (.loc t)) (.v (.d (.str "spot"))) (.d (.int x)) = some m' ∧ P m') ∧
    (P (m.set t (tapB cells spot x calls)) → ∃ m', setBox m (.v (.loc t)) (.v (.d (.str "rest"))) (.d (.int x)) = some m' ∧ P m') ∧ (P (m.set t (tapB cells spot rest x)) → ∃ m', setBox m (.v (.loc t)) (.v (.d (.str "calls"))) (.d (.int x)) = some m' ∧ P m') := by
  have k : ∀ (s : Str) (v : Val) (b : List (L2.Key × Val)), putKV [(.inr "cells", .d (.list (cells.map .int))), (.inr "spot", .d (.int spot)), (.inr "rest", .d (.int rest)), (.inr "calls", .d (.int calls))] (Sum.inr s : L2.Key) v = b → setBox m (.v (.loc t)) (.v (.d (.str s))) v = some (m.set t (.dct b)) := fun s v b h => by
    simp only [setBox, Tmp.dataX?, Tmp.data?, e, tapB]
    rw [h]; exact if_pos (show (4 : Nat) < sizeLine by decide)
  exact ⟨fun h => ⟨_, k _ _ _ rfl, h⟩, fun h => ⟨_, k _ _ _ rfl, h⟩, fun h => ⟨_, k _ _ _ rfl, h⟩⟩

end Ev
set_option Elab.async false
set_option linter.all false
set_option maxHeartbeats 4000000
namespace Ev
open PySem L2
section
variable {c : Calls} {Xp : XP} {m : Store}
def Lp (I : Env → Store → Prop) (Qs : Fl → Store → Prop) : Fl → Store → Prop := fun o m => match o with
  | .nx r => I r m
  | .ct r => I r m
  | .bk r => Qs (.nx r) m
  | .rt t => Qs (.rt t) m
theorem lp_nx {I : Env → Store → Prop} {Qs : Fl → Store → Prop} {r : Env} (h : I r m) : Lp I Qs (.nx r) m := h
theorem lp_ct {I : Env → Store → Prop} {Qs : Fl → Store → Prop} {r : Env} (h : I r m) : Lp I Qs (.ct r) m := h
theorem lp_bk {I : Env → Store → Prop} {Qs : Fl → Store → Prop} {r : Env} (h : Qs (.nx r) m) : Lp I Qs (.bk r) m := h
theorem lp_rt {I : Env → Store → Prop} {Qs : Fl → Store → Prop} {t : Tmp} (h : Qs (.rt t) m) : Lp I Qs (.rt t) m := h
theorem w_forL {f : Val → Env → Store → Out Fl} {Qs : Fl → Store → Prop} (I : Nat → Env → Store → Prop) : ∀ (xs : List Val) (r : Env) (m : Store),
    (∀ i x r m, xs[i]? = some x → I i r m → wp (f x r m) (Lp (I (i + 1)) Qs) Xp) → I 0 r m → (∀ r' m', I xs.length r' m' → Qs (.nx r') m') → wp (forL f xs r m) Qs Xp
  | [], r, m, _, h0, k => k r m h0
  | x :: xs, r, m, hs, h0, k => by
    unfold forL
    refine wp_bind (wp_mono (hs 0 x r m rfl h0) fun o m' h => ?_)
    have next : ∀ r', I 1 r' m' → wp (forL f xs r' m') Qs Xp := fun r' h' => w_forL (fun i => I (i + 1)) xs r' m' (fun i y r m e hi => hs (i + 1) y r m (by simpa using e) hi) h' fun r2 m2 h2 => k r2 m2 h2
    cases o with
    | nx r' => exact next r' h
    | ct r' => exact next r' h
    | bk r' => exact h
    | rt t => exact h
theorem w_forF {tg : Tg} {b : List Sm} {x : Val} {r : Env} {Q : Fl → Store → Prop} (h : ∃ r', asg tg x r = some r' ∧ wp (evSs c b r' m) Q Xp) : wp (forF tg (evSs c b) x r m) Q Xp := by
  obtain ⟨r', e, h⟩ := h
  unfold forF
  rw [e]
  exact h
theorem f_v {i : Nat} {x : Val} {r : Env} {K : Env → Prop} (h : Nat.blt i r.length = true) (k : K (r.set i (.val x))) : ∃ r', asg (.name i) x r = some r' ∧ K r' := ⟨_, by simp only [asg]; rw [if_pos (Nat.blt_eq.mp h)], k⟩
theorem f_t2 {i j : Nat} {x y : D} {r : Env} {K : Env → Prop} (h : Nat.blt i r.length = true) (h2 : Nat.blt j r.length = true) (k : K ((r.set i (.val (.d x))).set j (.val (.d y)))) : ∃ r', asg (.tup [.name i, .name j]) (.d (.tuple [x, y])) r = some r' ∧ K r' := a_t2 h h2 k
def Cp (I : Nat → List D → Store → Prop) (i : Nat) (acc : List D) : Option D → Store → Prop := fun o m => match o with
  | some y => I (i + 1) (acc ++ [y]) m
  | none => I (i + 1) acc m
theorem cp_some {I : Nat → List D → Store → Prop} {i : Nat} {acc : List D} {y : D} (h : I (i + 1) (acc ++ [y]) m) : Cp I i acc (some y) m := h
theorem cp_none {I : Nat → List D → Store → Prop} {i : Nat} {acc : List D} (h : I (i + 1) acc m) : Cp I i acc none m := h
theorem w_compA {f : Val → Store → Out (Option D)} {Q : List D → Store → Prop} (I : Nat → List D → Store → Prop) : ∀ (xs : List Val) (k : Nat) (acc : List D) (m : Store),
    (∀ i x acc m, xs[i]? = some x → I (k + i) acc m → wp (f x m) (Cp I (k + i) acc) fun _ _ _ => False) → acc.length + xs.length ≤ sizeLine → I k acc m → (∀ ys m', I (k + xs.length) ys m' → Q ys m') → wp (compL f xs m acc) Q Xp
  | [], k, acc, m, _, _, h0, q => q acc m h0
  | x :: xs, k, acc, m, hs, hl, h0, q => by
    rw [List.length_cons] at hl
    obtain ⟨o, m', e, h⟩ := wp_out (hs 0 x acc m rfl h0)
    have next : ∀ acc', acc'.length + xs.length ≤ sizeLine → I (k + 1) acc' m' → wp (compL f xs m' acc') Q Xp := fun acc' hl' h' => w_compA I xs (k + 1) acc' m' (fun i y acc m e hi => by
      have := hs (i + 1) y acc m (by simpa using e) (by rw [show k + (i + 1) = k + 1 + i by omega]; exact hi)
      rwa [show k + (i + 1) = k + 1 + i by omega] at this) hl' h' fun ys m2 h2 => q ys m2 (by rw [List.length_cons, show k + (xs.length + 1) = k + 1 + xs.length by omega]; exact h2)
    unfold compL
    rw [e]
    cases o with
    | none => exact next acc (by omega) h
    | some y =>
      dsimp only
      rw [if_pos (by omega)]
      exact next (acc ++ [y]) (by rw [List.length_append]; simp; omega) h
theorem w_compL {f : Val → Store → Out (Option D)} {Q : List D → Store → Prop} (I : Nat → List D → Store → Prop) {xs : List Val} {m : Store}
    (hs : ∀ i x acc m, xs[i]? = some x → I i acc m → wp (f x m) (Cp I i acc) fun _ _ _ => False) (hl : xs.length ≤ sizeLine) (h0 : I 0 [] m) (q : ∀ ys m', I xs.length ys m' → Q ys m') : wp (compL f xs m []) Q Xp :=
  w_compA I xs 0 [] m (fun i x acc m e h => by rw [Nat.zero_add] at h ⊢; exact hs i x acc m e h) (by simpa using hl) h0 fun ys m' h => q ys m' (by rw [Nat.zero_add] at h; exact h)
theorem w_compF0 {tgt : Tg} {e : Ex} {r0 : Env} {x : Val} {Q : Option D → Store → Prop} (h : ∃ r', asg tgt x r0 = some r' ∧ wp (evE c e r' m) (fun t m => ∃ d, toD t = some d ∧ Q (some d) m) Xp) : wp (compF tgt r0 (evC c none) (evE c e) x m) Q Xp := by
  obtain ⟨r', e1, h⟩ := h
  unfold compF
  rw [e1]
  refine wp_bind (wp_bind (wp_mono h fun t m h => wp_give ?_))
  obtain ⟨d, e2, h⟩ := h
  exact ⟨_, by rw [e2]; rfl, h⟩
theorem w_compF {tgt : Tg} {e : Ex} {t : Te} {r0 : Env} {x : Val} {Q : Option D → Store → Prop} (h : ∃ r', asg tgt x r0 = some r' ∧ wp (evT c t r' m) (fun k m => (k = true → wp (evE c e r' m) (fun t m => ∃ d, toD t = some d ∧ Q (some d) m) Xp) ∧ (k = false → Q none m)) Xp) :
    wp (compF tgt r0 (evC c (some t)) (evE c e) x m) Q Xp := by
  obtain ⟨r', e1, h⟩ := h
  unfold compF
  rw [e1]
  refine wp_bind (wp_mono h fun k m h => ?_)
  cases k with
  | true =>
    refine wp_bind (wp_mono (h.1 rfl) fun t m h => wp_give ?_)
    obtain ⟨d, e2, h⟩ := h
    exact ⟨_, by rw [e2]; rfl, h⟩
  | false => exact h.2 rfl
theorem rngL_len (lo hi : Int) : (rngL lo hi).length = (hi - lo).toNat := by simp [rngL]
theorem rngL_at {lo hi : Int} {i : Nat} {x : Val} (e : (rngL lo hi)[i]? = some x) : x = .d (.int (lo + i)) ∧ lo + i < hi := by
  have hl : i < (rngL lo hi).length := (List.getElem?_eq_some_iff.mp e).1
  rw [rngL_len] at hl
  unfold rngL at e
  rw [List.getElem?_map, List.getElem?_range hl] at e
  cases e
  exact ⟨rfl, by omega⟩
end
end Ev
set_option Elab.async false
set_option linter.all false
set_option maxHeartbeats 4000000
namespace Ev
open PySem L2
theorem sz_ok {α : Type} {xs : List α} {A : Prop} (h : Nat.ble xs.length 16777216 = true) (a : A) : xs.length ≤ sizeLine ∧ A := ⟨Nat.le_of_ble_eq_true h, a⟩
theorem ap_ok {α : Type} {xs : List α} {A : Prop} (h : xs.length < 16777216) (a : A) : xs.length < sizeLine ∧ A := ⟨h, a⟩
theorem g_rng {i : Int} {A : Int → Prop} (h : -4611686018427387904 ≤ i ∧ i < 4611686018427387904) (a : A i) : ∃ k, getInt (.v (.d (.int i))) = some k ∧ small62 k = true ∧ A k :=
  ⟨i, rfl, by simp only [small62, Bool.and_eq_true, decide_eq_true_eq]; exact ⟨by omega, by omega⟩, a⟩
theorem g_rng2 {i j : Int} {A : Int → Int → Prop} (h : (-4611686018427387904 ≤ i ∧ i < 4611686018427387904) ∧ -4611686018427387904 ≤ j ∧ j < 4611686018427387904) (a : A i j) : ∃ k l, getInt (.v (.d (.int i))) = some k ∧ getInt (.v (.d (.int j))) = some l ∧ (small62 k && small62 l) = true ∧ A k l :=
  ⟨i, j, rfl, rfl, by simp only [small62, Bool.and_eq_true, decide_eq_true_eq]; exact ⟨⟨by omega, by omega⟩, by omega, by omega⟩, a⟩
section
variable {xs : List D} {st : Bool} {m : Store} {A : List D → Prop} {P : Tmp → Prop}
theorem i_vl (h : A xs) : ∃ ys, (Tmp.v (.d (.list xs))).itemsS? st = some ys ∧ A ys := ⟨xs, by cases st <;> rfl, h⟩
theorem i_vt (h : A xs) : ∃ ys, (Tmp.v (.d (.tuple xs))).itemsS? st = some ys ∧ A ys := ⟨xs, by cases st <;> rfl, h⟩
theorem i_n (h : A xs) : ∃ ys, (Tmp.new (.list xs)).itemsS? st = some ys ∧ A ys := ⟨xs, by cases st <;> rfl, h⟩
theorem i_b (h : A xs) : ∃ ys, (Tmp.bor (.list xs)).itemsS? false = some ys ∧ A ys := ⟨xs, rfl, h⟩
theorem o_revVL (h : P (.new (.list xs.reverse))) : ∃ z, revV (.v (.d (.list xs))) = some z ∧ P z := ⟨_, rfl, h⟩
theorem o_revVT (h : P (.v (.d (.tuple xs.reverse)))) : ∃ z, revV (.v (.d (.tuple xs))) = some z ∧ P z := ⟨_, rfl, h⟩
theorem o_revN (h : P (.new (.list xs.reverse))) : ∃ z, revV (.new (.list xs)) = some z ∧ P z := ⟨_, rfl, h⟩
theorem o_revB (h : P (.new (.list xs.reverse))) : ∃ z, revV (.bor (.list xs)) = some z ∧ P z := ⟨_, rfl, h⟩
theorem o_tupVL (h : P (.v (.d (.tuple xs)))) : ∃ z, bfnV .tupleOf [.v (.d (.list xs))] m = some z ∧ P z := ⟨_, rfl, h⟩
theorem o_tupVT (h : P (.v (.d (.tuple xs)))) : ∃ z, bfnV .tupleOf [.v (.d (.tuple xs))] m = some z ∧ P z := ⟨_, rfl, h⟩
theorem o_tupN (h : P (.v (.d (.tuple xs)))) : ∃ z, bfnV .tupleOf [.new (.list xs)] m = some z ∧ P z := ⟨_, rfl, h⟩
theorem o_tupB (h : P (.v (.d (.tuple xs)))) : ∃ z, bfnV .tupleOf [.bor (.list xs)] m = some z ∧ P z := ⟨_, rfl, h⟩
theorem o_lstVL (h : P (.new (.list xs))) : ∃ z, bfnV .listOf [.v (.d (.list xs))] m = some z ∧ P z := ⟨_, rfl, h⟩
theorem o_lstVT (h : P (.new (.list xs))) : ∃ z, bfnV .listOf [.v (.d (.tuple xs))] m = some z ∧ P z := ⟨_, rfl, h⟩
theorem o_lstN (h : P (.new (.list xs))) : ∃ z, bfnV .listOf [.new (.list xs)] m = some z ∧ P z := ⟨_, rfl, h⟩
theorem o_lstB (h : P (.new (.list xs))) : ∃ z, bfnV .listOf [.bor (.list xs)] m = some z ∧ P z := ⟨_, rfl, h⟩
end
theorem o_strEq {x y : Str} {A : Bool → Prop} (h : A (decide (x = y))) : ∃ z, cmpV .eq (.v (.d (.str x))) (.v (.d (.str y))) = some z ∧ A z := ⟨_, rfl, h⟩
theorem o_strNe {x y : Str} {A : Bool → Prop} (h : A (!decide (x = y))) : ∃ z, cmpV .ne (.v (.d (.str x))) (.v (.d (.str y))) = some z ∧ A z := ⟨_, rfl, h⟩
theorem fillI {arr : List (Nat ⊕ D)} {xs : List Val} {K : List Val → Prop} (h : ∃ zs, fill arr xs = some zs ∧ K zs) : ∃ zs, fill arr xs = some zs ∧ K zs := h
theorem ownI {r : Env} {i : Nat} {K : List D → Prop} (h : ∃ zs, ownList r i = some zs ∧ K zs) : ∃ zs, ownList r i = some zs ∧ K zs := h
theorem addiI {r : Env} {i : Nat} {K : Int → Prop} (h : ∃ p, r[i]? = some (.val (.d (.int p))) ∧ K p) : ∃ p, r[i]? = some (.val (.d (.int p))) ∧ K p := h
section
variable {c : Calls} {Xp : XP} {r : Env} {m : Store} {Q : Tmp → Store → Prop}
theorem w_neg' {a : Ex} (h : wp (evE c a r m) (fun x m => ∃ i, getInt x = some i ∧ Q (.v (.d (.int (-i)))) m) Xp) : wp (evE c (.neg a) r m) Q Xp := w_neg h
theorem w_cmp' {o : COp} {a b : Ex} (h : wp (evE c a r m) (fun x m => wp (evE c b r m) (fun y m => ∃ z, cmpV o x y = some z ∧ Q (.v (.d (.bool z))) m) Xp) Xp) : wp (evE c (.cmp o a b) r m) Q Xp := w_cmp h
theorem w_not' {a : Ex} (h : wp (evE c a r m) (fun x m => ∃ k, x = .v (.d (.bool k)) ∧ Q (.v (.d (.bool (!k)))) m) Xp) : wp (evE c (.not a) r m) Q Xp := w_not h
theorem w_and' {a b : Ex} (h : wp (evE c a r m) (fun x m => ∃ k, x = .v (.d (.bool k)) ∧ ((k = true → wp (evE c b r m) Q Xp) ∧ (k = false → Q (.v (.d (.bool false))) m))) Xp) : wp (evE c (.and a b) r m) Q Xp := w_and h
theorem w_or' {a b : Ex} (h : wp (evE c a r m) (fun x m => ∃ k, x = .v (.d (.bool k)) ∧ ((k = true → Q (.v (.d (.bool true))) m) ∧ (k = false → wp (evE c b r m) Q Xp))) Xp) : wp (evE c (.or a b) r m) Q Xp := w_or h
theorem b_ok' {k : Bool} {A : Bool → Prop} (h : A k) : ∃ k', Tmp.v (.d (.bool k)) = .v (.d (.bool k')) ∧ A k' := ⟨k, rfl, h⟩
theorem zipI {t u : Tmp} {st : Bool} {A : List D → List D → Prop} (h : ∃ xs ys, ((t.dataZ? st = some (.list xs) ∧ u.dataZ? st = some (.list ys)) ∨ (t.dataZ? st = some (.tuple xs) ∧ u.dataZ? st = some (.tuple ys))) ∧ A xs ys) :
    ∃ xs ys, ((t.dataZ? st = some (.list xs) ∧ u.dataZ? st = some (.list ys)) ∨ (t.dataZ? st = some (.tuple xs) ∧ u.dataZ? st = some (.tuple ys))) ∧ A xs ys := h
theorem o_ixTc {x : D} {xs : List D} {j : Int} {Pv : Val → Prop} (h : ∃ z, L2.atI (x :: xs) j = some z ∧ Pv (.d z)) : ∃ z, idxV (.v (.d (.tuple (x :: xs)))) (.v (.d (.int j))) m = some z ∧ Pv z := let ⟨_, e, h⟩ := h; o_ixT e h
theorem o_ixLc {x : D} {xs : List D} {j : Int} {Pv : Val → Prop} (h : ∃ z, L2.atI (x :: xs) j = some z ∧ Pv (.d z)) : ∃ z, idxV (.v (.d (.list (x :: xs)))) (.v (.d (.int j))) m = some z ∧ Pv z := let ⟨_, e, h⟩ := h; o_ixL e h
theorem o_ixNc {x : D} {xs : List D} {j : Int} {Pv : Val → Prop} (h : ∃ z, L2.atI (x :: xs) j = some z ∧ Pv (.d z)) : ∃ z, idxV (.new (.list (x :: xs))) (.v (.d (.int j))) m = some z ∧ Pv z := let ⟨_, e, h⟩ := h; o_ixN e h
end
end Ev
set_option Elab.async false
set_option linter.all false
set_option maxHeartbeats 4000000
namespace Ev
open PySem L2
local macro_rules | `(tactic| walk_at "ev1") => `(tactic| first
  | with_reducible refine w_asg ?_ | with_reducible refine w_ife ?_ | with_reducible refine w_ret ?_ | with_reducible refine w_seti ?_ | with_reducible refine w_append ?_ | with_reducible refine w_for ?_
  | with_reducible refine w_nil ?_ | with_reducible refine w_par ?_ | with_reducible refine w_setOwn ?_ | with_reducible refine w_addi ?_ | with_reducible refine w_subi ?_ | with_reducible refine w_popA ?_ | with_reducible refine w_expr ?_
  | with_reducible refine w_retN ?_ | with_reducible refine w_brk ?_ | with_reducible refine w_cont ?_ | with_reducible refine w_pass ?_ | with_reducible refine w_whil ?_
  | ((with_reducible refine w_val' ?_); (refine ⟨_, rfl, ?_⟩)) | ((with_reducible refine w_own' ?_); (refine ⟨_, rfl, ?_⟩)) | with_reducible refine w_const ?_ | with_reducible refine w_glob ?_ | with_reducible refine w_tup ?_ | with_reducible refine w_lst ?_ | with_reducible refine w_box ?_
  | with_reducible refine w_dbox ?_ | with_reducible refine w_bin ?_ | with_reducible refine w_neg' ?_ | with_reducible refine w_cmp' ?_ | with_reducible refine w_not' ?_ | with_reducible refine w_and' ?_ | with_reducible refine w_or' ?_ | with_reducible refine w_if ?_
  | with_reducible refine w_idx ?_ | with_reducible refine w_slice ?_ | with_reducible refine w_rev ?_ | with_reducible refine w_call ?_ | with_reducible refine w_bfn ?_ | with_reducible refine w_isi ?_ | with_reducible refine w_comp ?_
  | with_reducible refine w_vnil ?_ | with_reducible refine w_vcons ?_ | with_reducible refine w_dnil ?_ | with_reducible refine w_dcons ?_ | with_reducible refine w_tnil ?_ | with_reducible refine w_tcons ?_ | with_reducible refine w_onone ?_ | with_reducible refine w_osome ?_
  | with_reducible refine w_tval ?_ | with_reducible refine w_tcmp ?_ | with_reducible refine w_tchain ?_ | with_reducible refine w_tand ?_ | with_reducible refine w_tor ?_ | with_reducible refine w_tnot ?_
  | with_reducible refine w_rng1 ?_ | with_reducible refine w_rng2 ?_ | with_reducible refine w_seq ?_ | with_reducible refine w_enum ?_ | with_reducible refine w_zip ?_
  | ((with_reducible refine w_retOwn' ?_); (refine ⟨_, rfl, ?_⟩)) | ((with_reducible refine w_frz' ?_); (refine ⟨_, rfl, ?_⟩); dsimp only [List.set_cons_zero, List.set_cons_succ])
  | with_reducible refine go_nx ?_ | with_reducible refine go_rt ?_ | with_reducible refine go_bk ?_ | with_reducible refine go_ct ?_ | with_reducible refine rt_rt ?_ | with_reducible refine rt_nx ?_
  | ((with_reducible refine a_v ?_ ?_); (rfl); dsimp only [List.set_cons_zero, List.set_cons_succ]) | ((with_reducible refine a_n ?_ ?_); (rfl); dsimp only [List.set_cons_zero, List.set_cons_succ])
  | ((with_reducible refine a_t2 ?_ ?_ ?_); (rfl); (rfl); dsimp only [List.set_cons_zero, List.set_cons_succ])
  | ((with_reducible refine f_v ?_ ?_); (rfl); dsimp only [List.set_cons_zero, List.set_cons_succ]) | ((with_reducible refine f_t2 ?_ ?_ ?_); (rfl); (rfl); dsimp only [List.set_cons_zero, List.set_cons_succ])
  | with_reducible refine lp_nx ?_ | with_reducible refine lp_ct ?_ | with_reducible refine lp_bk ?_ | with_reducible refine lp_rt ?_ | with_reducible refine cp_some ?_ | with_reducible refine cp_none ?_ | with_reducible refine w_forF ?_ | with_reducible refine w_compF0 ?_ | with_reducible refine w_compF ?_
  | with_reducible refine o_add ?_ | with_reducible refine o_sub ?_ | with_reducible refine o_gt ?_ | with_reducible refine o_lt ?_ | with_reducible refine o_le ?_ | with_reducible refine o_ge ?_ | with_reducible refine o_eqI ?_ | with_reducible refine o_neI ?_
  | with_reducible refine o_lenL ?_ | with_reducible refine o_lenT ?_ | with_reducible refine o_lenB ?_ | with_reducible refine o_lenN ?_
  | ((with_reducible refine o_modP ?_ ?_); (omega)) | ((with_reducible refine o_fdivP ?_ ?_ ?_); (omega); (omega)) | ((with_reducible refine o_powP ?_ ?_ ?_); (omega); (omega))
  | ((with_reducible refine o_mulA ?_ ?_); (omega)) | ((with_reducible refine o_mulB ?_ ?_); (omega))
  | ((with_reducible refine sz_ok ?_ ?_); (rfl)) | ((with_reducible refine ap_ok ?_ ?_); (first | omega | (simp only [List.length_map, List.length_append, List.length_cons, List.length_nil]; omega))) | ((with_reducible refine g_rng ?_ ?_); (omega)) | ((with_reducible refine g_rng2 ?_ ?_); (omega)) | with_reducible refine i_vl ?_ | with_reducible refine i_vt ?_ | with_reducible refine i_n ?_ | with_reducible refine i_b ?_
  | with_reducible refine o_strEq ?_ | with_reducible refine o_strNe ?_ | with_reducible refine o_revVL ?_ | with_reducible refine o_revVT ?_ | with_reducible refine o_revN ?_ | with_reducible refine o_revB ?_ | with_reducible refine o_tupVL ?_ | with_reducible refine o_tupVT ?_ | with_reducible refine o_tupN ?_ | with_reducible refine o_tupB ?_ | with_reducible refine o_lstVL ?_ | with_reducible refine o_lstVT ?_ | with_reducible refine o_lstN ?_ | with_reducible refine o_lstB ?_
  | ((with_reducible refine zipI ?_); (first | refine ⟨_, _, .inl ⟨rfl, rfl⟩, ?_⟩ | refine ⟨_, _, .inr ⟨rfl, rfl⟩, ?_⟩)) | ((with_reducible refine o_ixTc ?_); (refine ⟨_, rfl, ?_⟩)) | ((with_reducible refine o_ixLc ?_); (refine ⟨_, rfl, ?_⟩)) | ((with_reducible refine o_ixNc ?_); (refine ⟨_, rfl, ?_⟩)) | ((with_reducible refine fillI ?_); (refine ⟨_, rfl, ?_⟩)) | ((with_reducible refine ownI ?_); (refine ⟨_, rfl, ?_⟩)) | ((with_reducible refine addiI ?_); (refine ⟨_, rfl, ?_⟩))
  | with_reducible refine b_ok' ?_ | with_reducible refine g_int ?_ | with_reducible refine v_v ?_ | with_reducible refine v_n ?_ | with_reducible refine d_v ?_ | with_reducible refine d_n ?_ | with_reducible refine r_v ?_ | with_reducible refine r_n ?_ | with_reducible refine c_t ?_ | with_reducible refine c_f ?_
  | dsimp only [List.set_cons_zero, List.set_cons_succ])
local macro_rules | `(tactic| walk_at "ev") => `(tactic| repeat walk_at "ev1")
local macro_rules | `(tactic| walk_at "evs") => `(tactic| repeat' (first | walk_at "ev1" | with_reducible refine c_dec (fun _ => ?_) (fun _ => ?_) | with_reducible refine c_ndec (fun _ => ?_) (fun _ => ?_)))
local macro_rules | `(tactic| walk_at "ev0") => `(tactic| simp only [List.map_cons, List.map_nil, List.length_cons, List.length_nil, List.cons_append, List.nil_append, Nat.reduceAdd, Nat.reduceSub, List.replicate])


def takeFn : Fn := ⟨["tap", "amount"], ["tap", "amount", "calls", "figure", "spot", "cells", "cell", "once"], [
  .asg (.name 2) (.bin .add (.idx (.var 0) (.const (.str "calls"))) (.const (.int 1))),
  .seti (.var 0) (.const (.str "calls")) (.var 2),
  .ife (.cmp .gt (.idx (.var 0) (.const (.str "rest"))) (.const (.int 0)))
  [.asg (.name 3) (.bin .mod (.idx (.var 0) (.const (.str "rest"))) (.var 1)),
  .seti (.var 0) (.const (.str "rest")) (.bin .fdiv (.idx (.var 0) (.const (.str "rest"))) (.var 1)),
  .ret (.var 3)]
  [],
  .asg (.name 4) (.idx (.var 0) (.const (.str "spot"))),
  .seti (.var 0) (.const (.str "spot")) (.bin .add (.var 4) (.const (.int 1))),
  .asg (.name 5) (.idx (.var 0) (.const (.str "cells"))),
  .asg (.name 6) (.ife (.cmp .gt (.bfn .len (.var 5) []) (.const (.int 0))) (.idx (.var 5) (.bin .mod (.var 4) (.bfn .len (.var 5) []))) (.const (.int 5))),
  .ife (.and (.cmp .lt (.var 4) (.bfn .len (.var 5) [])) (.cmp .ge (.var 6) (.bin .pow (.const (.int 10)) (.const (.int 18)))))
  [.seti (.var 0) (.const (.str "rest")) (.bin .fdiv (.var 6) (.var 1)),
  .ret (.bin .mod (.var 6) (.var 1))]
  [],
  .asg (.name 7) (.bin .mod (.bin .pow (.bin .add (.bin .add (.bin .mod (.var 6) (.const (.int 2147483629))) (.bin .mul (.const (.int 6007)) (.var 2))) (.const (.int 11))) (.const (.int 5))) (.const (.int 2147483647))),
  .ret (.bin .mod (.bin .fdiv (.bin .mod (.bin .pow (.bin .add (.var 7) (.bin .mul (.bin .mul (.const (.int 4099)) (.var 2)) (.var 2))) (.const (.int 5))) (.const (.int 2147483587))) (.const (.int 32))) (.var 1))]⟩


theorem at_mod (cells : List Int) (a : Int) (h : (0 : Int) < ((cells.map PyData.int).length : Nat)) : ∃ x, L2.atI (cells.map PyData.int) (a % ((cells.map PyData.int).length : Nat)) = some (.int x) := by
  have h1 := Int.emod_nonneg a (Int.ne_of_gt h)
  have h2 := Int.emod_lt_of_pos a h
  obtain ⟨j, hj⟩ := Int.eq_ofNat_of_zero_le h1
  rw [hj] at h2 ⊢
  have hl : j < cells.length := by rw [List.length_map] at h2; omega
  exact ⟨cells[j], atI_nat (by simp [hl])⟩
theorem take_ok {G : Defs} {n : Nat} {cells : List Int} {a b d amount : Int} {t : Nat} {m : Store} (e : m[t]? = some (tapB cells a b d)) (hG : G "_law_take" = some takeFn)
    (ha : 0 ≤ a) (hb : 0 ≤ b) (hd : 0 ≤ d) (hd2 : d < 9000000) (h1 : 0 < amount) (h2 : amount < 1000000000) :
    wp (evF G (n + 1) "_law_take" [.loc t, .d (.int amount)] m) (fun x m' => ∃ i a' b', x = .v (.d (.int i)) ∧ 0 ≤ i ∧ i < amount ∧ m' = m.set t (tapB cells a' b' (d + 1)) ∧ 0 ≤ a' ∧ 0 ≤ b') (fun _ _ _ => False) := by
  have ht : t < m.length := (List.getElem?_eq_some_iff.mp e).1
  have hm : ∀ x, 0 ≤ x % amount ∧ x % amount < amount := fun x => ⟨Int.emod_nonneg x (by omega), Int.emod_lt_of_pos x h1⟩
  have h18 : (10 : Int) ^ Int.toNat 18 = 1000000000000000000 := by decide
  have hq : 0 ≤ 4099 * (d + 1) * (d + 1) ∧ 4099 * (d + 1) * (d + 1) ≤ 4099 * 9000000 * 9000000 :=
    ⟨Int.mul_nonneg (by omega) (by omega), Int.mul_le_mul (by omega) (by omega) (by omega) (by decide)⟩
  refine w_run hG rfl ?_
  simp only [takeFn]
  walk_at "ev0"
  walk_at "ev"
  refine (tap_get e).2.2.2 ?_
  walk_at "ev"
  refine (tap_put e).2.2 ?_
  have e1 : (m.set t (tapB cells a b (d + 1)))[t]? = some (tapB cells a b (d + 1)) := List.getElem?_set_self ht
  walk_at "ev"
  refine (tap_get e1).2.2.1 ?_
  walk_at "evs"
  · refine (tap_get e1).2.2.1 ?_
    walk_at "ev"
    refine (tap_get e1).2.2.1 ?_
    walk_at "ev"
    refine (tap_put e1).2.1 ?_
    rw [List.set_set]
    walk_at "ev"
    exact ⟨_, _, _, rfl, (hm _).1, (hm _).2, rfl, ha, Int.ediv_nonneg hb (by omega)⟩
  · refine (tap_get e1).2.1 ?_
    walk_at "ev"
    refine (tap_put e1).1 ?_
    rw [List.set_set]
    have e2 : (m.set t (tapB cells (a + 1) b (d + 1)))[t]? = some (tapB cells (a + 1) b (d + 1)) := List.getElem?_set_self ht
    walk_at "ev"
    refine (tap_get e2).1 ?_
    walk_at "ev"
    refine c_dec (fun hl => ?_) (fun hl => ?_)
    · obtain ⟨x, hx⟩ := at_mod cells a hl
      walk_at "ev"
      refine o_ixL hx ?_
      walk_at "evs"
      · refine (tap_put e2).2.1 ?_
        rw [List.set_set]
        walk_at "ev"
        exact ⟨_, _, _, rfl, (hm _).1, (hm _).2, rfl, by omega, Int.ediv_nonneg (by omega) (by omega)⟩
      · exact ⟨_, _, _, rfl, (hm _).1, (hm _).2, rfl, by omega, hb⟩
      · exact ⟨_, _, _, rfl, (hm _).1, (hm _).2, rfl, by omega, hb⟩
    · walk_at "evs"
      · exfalso
        omega
      · exact ⟨_, _, _, rfl, (hm _).1, (hm _).2, rfl, by omega, hb⟩
      · exact ⟨_, _, _, rfl, (hm _).1, (hm _).2, rfl, by omega, hb⟩

def tapFn : Fn := ⟨["script"], ["script"], [
  .ret (.dbox ["cells", "spot", "rest", "calls"] [(.bfn .listOf (.slice (.var 0) none (some (.const (.int 63)))) []), (.const (.int 0)), (.const (.int 0)), (.const (.int 0))])]⟩
def T1 (m : Store) (d : Int) : Prop := ∃ cells a b c, m = [tapB cells a b c] ∧ 0 ≤ a ∧ 0 ≤ b ∧ 0 ≤ c ∧ c ≤ d
theorem T1.mono {m : Store} {d d' : Int} (h : T1 m d) (l : d ≤ d') : T1 m d' := by
  obtain ⟨cells, a, b, c, e, h1, h2, h3, h4⟩ := h
  exact ⟨cells, a, b, c, e, h1, h2, h3, by omega⟩
theorem take1 {G : Defs} {n : Nat} {d amount : Int} {m : Store} (hG : G "_law_take" = some takeFn) (h : T1 m d) (hd : d < 9000000) (h1 : 0 < amount) (h2 : amount < 1000000000) :
    wp (evF G (n + 1) "_law_take" [.loc 0, .d (.int amount)] m) (fun x m' => ∃ i, x = .v (.d (.int i)) ∧ 0 ≤ i ∧ i < amount ∧ T1 m' (d + 1)) (fun _ _ _ => False) := by
  obtain ⟨cells, a, b, c, rfl, g1, g2, g3, g4⟩ := h
  refine wp_mono (take_ok (t := 0) rfl hG g1 g2 g3 (by omega) h1 h2) fun x m' q => ?_
  obtain ⟨i, a', b', rfl, q1, q2, rfl, q3, q4⟩ := q
  exact ⟨i, rfl, q1, q2, cells, a', b', c + 1, rfl, q3, q4, by omega, by omega⟩
end Ev
set_option Elab.async false
set_option linter.all false
set_option maxHeartbeats 4000000
namespace Ev
open PySem L2

mutual
def sd : D → Bool
  | .none => true
  | .bool _ => true
  | .int i => decide (i.natAbs < 10 ^ 60)
  | .str x => PyData.strOk x
  | .list xs => sdAll xs
  | .tuple xs => sdAll xs
  | .dict _ => false
def sdAll : List D → Bool
  | [] => true
  | x :: xs => sd x && sdAll xs
end
mutual
def nod : D → Nat
  | .str x => 1 + x.cps.size
  | .list xs => 1 + nodAll xs
  | .tuple xs => 1 + nodAll xs
  | _ => 1
def nodAll : List D → Nat
  | [] => 0
  | x :: xs => nod x + nodAll xs
end
theorem nodAll_append (xs ys : List D) : nodAll (xs ++ ys) = nodAll xs + nodAll ys := by
  induction xs with
  | nil => simp [nodAll]
  | cons x xs ih => simp only [List.cons_append, nodAll, ih]; omega
theorem nodAll_take (xs : List D) (n : Nat) : nodAll (xs.take n) + nodAll (xs.drop n) = nodAll xs := by
  rw [← nodAll_append, List.take_append_drop]
theorem nodAll_mem {xs : List D} {x : D} (h : x ∈ xs) : nod x ≤ nodAll xs := by
  induction xs with
  | nil => cases h
  | cons y ys ih =>
    rcases List.mem_cons.mp h with rfl | h
    · simp only [nodAll]; omega
    · have := ih h; simp only [nodAll]; omega
theorem nod_pos : ∀ d : D, 1 ≤ nod d
  | .none => by simp [nod]
  | .bool _ => by simp [nod]
  | .int _ => by simp [nod]
  | .str _ => by simp [nod]
  | .list _ => by simp [nod]
  | .tuple _ => by simp [nod]
  | .dict _ => by simp [nod]
theorem nodAll_len (xs : List D) : xs.length ≤ nodAll xs := by
  induction xs with
  | nil => exact Nat.le_refl _
  | cons x xs ih => have := nod_pos x; simp only [nodAll, List.length_cons]; omega
theorem sdAll_iff {xs : List D} : sdAll xs = true ↔ ∀ x ∈ xs, sd x = true := by
  induction xs with
  | nil => simp [sdAll]
  | cons x xs ih => simp [sdAll, ih]
mutual
theorem sd_lay : ∀ d : D, sd d = true → d.canLay0 = true ∧ d.showable = true
  | .none, _ => ⟨by simp [PyData.canLay0], by simp [PyData.showable]⟩
  | .bool _, _ => ⟨by simp [PyData.canLay0], by simp [PyData.showable]⟩
  | .int i, h => ⟨by simp [PyData.canLay0], by
      have h : i.natAbs < 10 ^ 60 := by simpa [sd] using h
      have l : i.natAbs.log2 < 200 := by
        rcases Nat.eq_zero_or_pos i.natAbs with z | z
        · rw [z]; decide
        · exact (Nat.log2_lt (by omega)).mpr (Nat.lt_trans h (by decide))
      simp only [PyData.showable, decide_eq_true_eq]; omega⟩
  | .str x, h => ⟨by simpa [PyData.canLay0, sd] using h, by simp [PyData.showable]⟩
  | .list xs, h => by
    obtain ⟨a, b⟩ := sd_layAll xs (by simpa [sd] using h)
    exact ⟨by simpa [PyData.canLay0] using a, by simpa [PyData.showable] using b⟩
  | .tuple xs, h => by
    obtain ⟨a, b⟩ := sd_layAll xs (by simpa [sd] using h)
    exact ⟨by simpa [PyData.canLay0] using a, by simpa [PyData.showable] using b⟩
  | .dict _, h => by simp [sd] at h
theorem sd_layAll : ∀ xs : List D, sdAll xs = true → PyData.canLayAll0 xs = true ∧ PyData.showableAll xs = true
  | [], _ => ⟨by simp [PyData.canLayAll0], by simp [PyData.showableAll]⟩
  | x :: xs, h => by
    have h : sd x = true ∧ sdAll xs = true := by simpa [sdAll] using h
    obtain ⟨a, b⟩ := sd_lay x h.1
    obtain ⟨c, d⟩ := sd_layAll xs h.2
    exact ⟨by simp [PyData.canLayAll0, a, c], by simp [PyData.showableAll, b, d]⟩
end
mutual
theorem sd_shown : ∀ d : D, sd d = true → d.shown.length + 2 ≤ 70 * nod d
  | .none, _ => by
    have e : (PyData.shown .none).length = 4 := rfl
    simp only [nod]; omega
  | .bool b, _ => by
    have e : (PyData.shown (.bool b)).length ≤ 5 := by cases b <;> decide
    simp only [nod]; omega
  | .int i, h => by
    have h : i.natAbs < 10 ^ 60 := by simpa [sd] using h
    have e : (PyData.shown (.int i)).length ≤ 61 := by
      have e := int_text_length_le10 (k := 60) (by decide) h
      show (Str.ofString (toString i)).length ≤ 61
      rw [ofString_length]; exact e
    simp only [nod]; omega
  | .str x, h => by
    have h : PyData.strOk x = true := by simpa [sd] using h
    have hx : ∀ c ∈ x.cps.toList, c < 16 ^ 8 := fun c hc => by
      have := Array.all_eq_true'.mp h c (by simpa using hc)
      have := of_decide_eq_true this
      omega
    have e := StrLaws.reprText_len x hx
    have e2 : x.length = x.cps.size := rfl
    simp only [PyData.shown, nod]
    omega
  | .list xs, h => by
    have h1 := sd_shownAll xs (by simpa [sd] using h)
    have h2 := listText_len_le (PyData.shownAll xs)
    have h3 := PyData.shownAll_length xs
    simp only [PyData.shown, nod]
    omega
  | .tuple xs, h => by
    have h1 := sd_shownAll xs (by simpa [sd] using h)
    have h2 := tupleText_len_le (PyData.shownAll xs)
    have h3 := PyData.shownAll_length xs
    simp only [PyData.shown, nod]
    omega
  | .dict _, h => by simp [sd] at h
theorem sd_shownAll : ∀ xs : List D, sdAll xs = true → ((PyData.shownAll xs).map (·.length)).sum + 2 * xs.length ≤ 70 * nodAll xs
  | [], _ => by simp [PyData.shownAll, nodAll]
  | x :: xs, h => by
    have h : sd x = true ∧ sdAll xs = true := by simpa [sdAll] using h
    have a := sd_shown x h.1
    have b := sd_shownAll xs h.2
    simp only [PyData.shownAll, nodAll, List.map_cons, List.sum_cons, List.length_cons]
    omega
end
structure SD (d : D) (k n : Nat) : Prop where
  s : sd d = true
  dep : d.depth ≤ k
  nod : nod d ≤ n
theorem SD.mono {d : D} {k n k' n' : Nat} (h : SD d k n) (h1 : k ≤ k') (h2 : n ≤ n') : SD d k' n' := ⟨h.s, Nat.le_trans h.dep h1, Nat.le_trans h.nod h2⟩
theorem SD.shaped {d : D} {k n : Nat} (h : SD d k n) (hk : k ≤ 64) : SeqAt.shaped d = true := by
  have := h.dep
  simp only [SeqAt.shaped, (sd_lay d h.s).1, Bool.true_and, decide_eq_true_eq]
  omega
theorem SD.repr {d : D} {k n : Nat} {m : Store} {t : Tmp} (h : SD d k n) (e : t.data? = some d) (hk : k ≤ 64) (hn : n ≤ 230000) : bfnV .repr [t] m = some (.v (.d (.str d.shown))) := by
  have a := sd_shown d h.s
  have b := h.nod
  simp only [bfnV, e, (sd_lay d h.s).2, h.shaped hk, Bool.true_and, decide_eq_true_eq]
  have hz : d.shown.length ≤ sizeLine := by
    show d.shown.length ≤ 16777216
    omega
  rw [if_pos hz]
theorem SD.eq {x y : D} {k n k' n' : Nat} (h : SD x k n) (h' : SD y k' n') (hk : k ≤ 64) (hk' : k' ≤ 64) : eqD x y = some (PyData.eqv x y) := by
  unfold eqD
  split
  · simp only [PyData.eqv]; rfl
  · rw [h.shaped hk, h'.shaped hk']; rfl
theorem SD.tup {xs : List D} {k n : Nat} (h : ∀ x ∈ xs, sd x = true ∧ x.depth ≤ k) (hn : nodAll xs ≤ n) : SD (.tuple xs) (k + 1) (n + 1) := by
  refine ⟨by simp only [sd]; exact sdAll_iff.mpr fun x hx => (h x hx).1, ?_, by simp only [Ev.nod]; omega⟩
  have : ∀ ys : List D, (∀ x ∈ ys, x.depth ≤ k) → PyData.depthAll ys ≤ k := fun ys => by
    induction ys with
    | nil => intro _; simp [PyData.depthAll]
    | cons y ys ih => intro h; have a := h y (List.mem_cons_self ..); have b := ih fun x hx => h x (List.mem_cons_of_mem _ hx); simp only [PyData.depthAll]; omega
  have := this xs fun x hx => (h x hx).2
  simp only [PyData.depth]
  omega
theorem SD.list {xs : List D} {k n : Nat} (h : ∀ x ∈ xs, sd x = true ∧ x.depth ≤ k) (hn : nodAll xs ≤ n) : SD (.list xs) (k + 1) (n + 1) := by
  obtain ⟨a, b, c⟩ := SD.tup h hn
  exact ⟨by simpa [sd] using a, by simpa [PyData.depth] using b, by simpa [Ev.nod] using c⟩
theorem dep_mem {xs : List D} {x : D} {k : Nat} (h : PyData.depthAll xs ≤ k) (hx : x ∈ xs) : x.depth ≤ k := by
  induction xs with
  | nil => cases hx
  | cons y ys ih =>
    simp only [PyData.depthAll] at h
    rcases List.mem_cons.mp hx with rfl | hx
    · omega
    · exact ih (by omega) hx
theorem SD.items {xs : List D} {k n : Nat} (h : SD (.tuple xs) k n) : (∀ x ∈ xs, sd x = true ∧ x.depth + 1 ≤ k) ∧ nodAll xs + 1 ≤ n := by
  obtain ⟨a, b, c⟩ := h
  simp only [PyData.depth] at b
  simp only [Ev.nod] at c
  exact ⟨fun x hx => ⟨sdAll_iff.mp (by simpa [sd] using a) x hx, by have := dep_mem (Nat.le_refl _) hx; omega⟩, by omega⟩
end Ev
set_option Elab.async false
set_option linter.all false
set_option maxHeartbeats 4000000
namespace Ev
open PySem L2
local macro_rules | `(tactic| walk_at "ev1") => `(tactic| first
  | with_reducible refine w_asg ?_ | with_reducible refine w_ife ?_ | with_reducible refine w_ret ?_ | with_reducible refine w_seti ?_ | with_reducible refine w_append ?_ | with_reducible refine w_for ?_
  | with_reducible refine w_nil ?_ | with_reducible refine w_par ?_ | with_reducible refine w_setOwn ?_ | with_reducible refine w_addi ?_ | with_reducible refine w_subi ?_ | with_reducible refine w_popA ?_ | with_reducible refine w_expr ?_
  | with_reducible refine w_retN ?_ | with_reducible refine w_brk ?_ | with_reducible refine w_cont ?_ | with_reducible refine w_pass ?_ | with_reducible refine w_whil ?_
  | ((with_reducible refine w_val' ?_); (refine ⟨_, rfl, ?_⟩)) | ((with_reducible refine w_own' ?_); (refine ⟨_, rfl, ?_⟩)) | with_reducible refine w_const ?_ | with_reducible refine w_glob ?_ | with_reducible refine w_tup ?_ | with_reducible refine w_lst ?_ | with_reducible refine w_box ?_
  | with_reducible refine w_dbox ?_ | with_reducible refine w_bin ?_ | with_reducible refine w_neg' ?_ | with_reducible refine w_cmp' ?_ | with_reducible refine w_not' ?_ | with_reducible refine w_and' ?_ | with_reducible refine w_or' ?_ | with_reducible refine w_if ?_
  | with_reducible refine w_idx ?_ | with_reducible refine w_slice ?_ | with_reducible refine w_rev ?_ | with_reducible refine w_call ?_ | with_reducible refine w_bfn ?_ | with_reducible refine w_isi ?_ | with_reducible refine w_comp ?_
  | with_reducible refine w_vnil ?_ | with_reducible refine w_vcons ?_ | with_reducible refine w_dnil ?_ | with_reducible refine w_dcons ?_ | with_reducible refine w_tnil ?_ | with_reducible refine w_tcons ?_ | with_reducible refine w_onone ?_ | with_reducible refine w_osome ?_
  | with_reducible refine w_tval ?_ | with_reducible refine w_tcmp ?_ | with_reducible refine w_tchain ?_ | with_reducible refine w_tand ?_ | with_reducible refine w_tor ?_ | with_reducible refine w_tnot ?_
  | with_reducible refine w_rng1 ?_ | with_reducible refine w_rng2 ?_ | with_reducible refine w_seq ?_ | with_reducible refine w_enum ?_ | with_reducible refine w_zip ?_
  | ((with_reducible refine w_retOwn' ?_); (refine ⟨_, rfl, ?_⟩)) | ((with_reducible refine w_frz' ?_); (refine ⟨_, rfl, ?_⟩); dsimp only [List.set_cons_zero, List.set_cons_succ])
  | with_reducible refine go_nx ?_ | with_reducible refine go_rt ?_ | with_reducible refine go_bk ?_ | with_reducible refine go_ct ?_ | with_reducible refine rt_rt ?_ | with_reducible refine rt_nx ?_
  | ((with_reducible refine a_v ?_ ?_); (rfl); dsimp only [List.set_cons_zero, List.set_cons_succ]) | ((with_reducible refine a_n ?_ ?_); (rfl); dsimp only [List.set_cons_zero, List.set_cons_succ])
  | ((with_reducible refine a_t2 ?_ ?_ ?_); (rfl); (rfl); dsimp only [List.set_cons_zero, List.set_cons_succ])
  | ((with_reducible refine f_v ?_ ?_); (rfl); dsimp only [List.set_cons_zero, List.set_cons_succ]) | ((with_reducible refine f_t2 ?_ ?_ ?_); (rfl); (rfl); dsimp only [List.set_cons_zero, List.set_cons_succ])
  | with_reducible refine lp_nx ?_ | with_reducible refine lp_ct ?_ | with_reducible refine lp_bk ?_ | with_reducible refine lp_rt ?_ | with_reducible refine cp_some ?_ | with_reducible refine cp_none ?_ | with_reducible refine w_forF ?_ | with_reducible refine w_compF0 ?_ | with_reducible refine w_compF ?_
  | with_reducible refine o_add ?_ | with_reducible refine o_sub ?_ | with_reducible refine o_gt ?_ | with_reducible refine o_lt ?_ | with_reducible refine o_le ?_ | with_reducible refine o_ge ?_ | with_reducible refine o_eqI ?_ | with_reducible refine o_neI ?_
  | with_reducible refine o_lenL ?_ | with_reducible refine o_lenT ?_ | with_reducible refine o_lenB ?_ | with_reducible refine o_lenN ?_
  | ((with_reducible refine o_modP ?_ ?_); (omega)) | ((with_reducible refine o_fdivP ?_ ?_ ?_); (omega); (omega)) | ((with_reducible refine o_powP ?_ ?_ ?_); (omega); (omega))
  | ((with_reducible refine o_mulA ?_ ?_); (omega)) | ((with_reducible refine o_mulB ?_ ?_); (omega))
  | ((with_reducible refine sz_ok ?_ ?_); (rfl)) | ((with_reducible refine ap_ok ?_ ?_); (first | omega | (simp only [List.length_map, List.length_append, List.length_cons, List.length_nil]; omega))) | ((with_reducible refine g_rng ?_ ?_); (omega)) | ((with_reducible refine g_rng2 ?_ ?_); (omega)) | with_reducible refine i_vl ?_ | with_reducible refine i_vt ?_ | with_reducible refine i_n ?_ | with_reducible refine i_b ?_
  | with_reducible refine o_strEq ?_ | with_reducible refine o_strNe ?_ | with_reducible refine o_revVL ?_ | with_reducible refine o_revVT ?_ | with_reducible refine o_revN ?_ | with_reducible refine o_revB ?_ | with_reducible refine o_tupVL ?_ | with_reducible refine o_tupVT ?_ | with_reducible refine o_tupN ?_ | with_reducible refine o_tupB ?_ | with_reducible refine o_lstVL ?_ | with_reducible refine o_lstVT ?_ | with_reducible refine o_lstN ?_ | with_reducible refine o_lstB ?_
  | ((with_reducible refine zipI ?_); (first | refine ⟨_, _, .inl ⟨rfl, rfl⟩, ?_⟩ | refine ⟨_, _, .inr ⟨rfl, rfl⟩, ?_⟩)) | ((with_reducible refine o_ixTc ?_); (refine ⟨_, rfl, ?_⟩)) | ((with_reducible refine o_ixLc ?_); (refine ⟨_, rfl, ?_⟩)) | ((with_reducible refine o_ixNc ?_); (refine ⟨_, rfl, ?_⟩)) | ((with_reducible refine fillI ?_); (refine ⟨_, rfl, ?_⟩)) | ((with_reducible refine ownI ?_); (refine ⟨_, rfl, ?_⟩)) | ((with_reducible refine addiI ?_); (refine ⟨_, rfl, ?_⟩))
  | with_reducible refine b_ok' ?_ | with_reducible refine g_int ?_ | with_reducible refine v_v ?_ | with_reducible refine v_n ?_ | with_reducible refine d_v ?_ | with_reducible refine d_n ?_ | with_reducible refine r_v ?_ | with_reducible refine r_n ?_ | with_reducible refine c_t ?_ | with_reducible refine c_f ?_
  | dsimp only [List.set_cons_zero, List.set_cons_succ])
local macro_rules | `(tactic| walk_at "ev") => `(tactic| repeat walk_at "ev1")
local macro_rules | `(tactic| walk_at "evs") => `(tactic| repeat' (first | walk_at "ev1" | with_reducible refine c_dec (fun _ => ?_) (fun _ => ?_) | with_reducible refine c_ndec (fun _ => ?_) (fun _ => ?_)))
local macro_rules | `(tactic| walk_at "ev0") => `(tactic| simp only [List.map_cons, List.map_nil, List.length_cons, List.length_nil, List.cons_append, List.nil_append, Nat.reduceAdd, Nat.reduceSub, List.replicate])


def fdB (cells : List Int) (a b c : Int) : Box := .lst [.d (.list (cells.map .int)), .d (.int a), .d (.int b), .d (.int c)]
def DT (m : Store) (d : Int) (tl : Store) : Prop := ∃ cells a b c, m = fdB cells a b c :: tl ∧ 0 ≤ a ∧ 0 ≤ b ∧ 0 ≤ c ∧ c ≤ d
theorem DT.mono {m tl : Store} {d d' : Int} (h : DT m d tl) (l : d ≤ d') : DT m d' tl := by
  obtain ⟨cells, a, b, c, e, h1, h2, h3, h4⟩ := h
  exact ⟨cells, a, b, c, e, h1, h2, h3, by omega⟩
theorem DT.push {m tl : Store} {d : Int} (h : DT m d tl) (b : List Box) : DT (m ++ b) d (tl ++ b) := by
  obtain ⟨cells, x, y, z, e, h1⟩ := h
  exact ⟨cells, x, y, z, by rw [e]; rfl, h1⟩
theorem DT.len {m tl : Store} {d : Int} (h : DT m d tl) : m.length = tl.length + 1 := by
  obtain ⟨cells, x, y, z, e, h1⟩ := h
  rw [e]; rfl
theorem DT.at_ {m tl : Store} {d : Int} (h : DT m d tl) (i : Nat) : m[i + 1]? = tl[i]? := by
  obtain ⟨cells, x, y, z, e, h1⟩ := h
  rw [e]; rfl
theorem DT.set {m tl : Store} {d : Int} (h : DT m d tl) (i : Nat) (b : Box) : DT (m.set (i + 1) b) d (tl.set i b) := by
  obtain ⟨cells, x, y, z, e, h1⟩ := h
  exact ⟨cells, x, y, z, by rw [e]; rfl, h1⟩
def D1 (m : Store) (d : Int) : Prop := ∃ tl, DT m d tl
theorem D1.mono {m : Store} {d d' : Int} (h : D1 m d) (l : d ≤ d') : D1 m d' := let ⟨tl, h⟩ := h; ⟨tl, h.mono l⟩
theorem D1.push {m : Store} {d : Int} (h : D1 m d) (b : List Box) : D1 (m ++ b) d := let ⟨tl, h⟩ := h; ⟨_, h.push b⟩
theorem fd_get {tl : Store} {cells : List Int} {a b c : Int} {P : Val → Prop} :
    (P (.d (.list (cells.map .int))) → ∃ z, idxV (.v (.loc 0)) (.v (.d (.int 0))) (fdB cells a b c :: tl) = some z ∧ P z) ∧ (P (.d (.int a)) → ∃ z, idxV (.v (.loc 0)) (.v (.d (.int 1))) (fdB cells a b c :: tl) = some z ∧ P z) ∧
    (P (.d (.int b)) → ∃ z, idxV (.v (.loc 0)) (.v (.d (.int 2))) (fdB cells a b c :: tl) = some z ∧ P z) ∧ (P (.d (.int c)) → ∃ z, idxV (.v (.loc 0)) (.v (.d (.int 3))) (fdB cells a b c :: tl) = some z ∧ P z) :=
  ⟨fun h => ⟨_, rfl, h⟩, fun h => ⟨_, rfl, h⟩, fun h => ⟨_, rfl, h⟩, fun h => ⟨_, rfl, h⟩⟩
theorem fd_put {tl : Store} {cells : List Int} {a b c x : Int} {P : Store → Prop} :
    (P (fdB cells x b c :: tl) → ∃ m', setBox (fdB cells a b c :: tl) (.v (.loc 0)) (.v (.d (.int 1))) (.d (.int x)) = some m' ∧ P m') ∧
    (P (fdB cells a x c :: tl) → ∃ m', setBox (fdB cells a b c :: tl) (.v (.loc 0)) (.v (.d (.int 2))) (.d (.int x)) = some m' ∧ P m') ∧ (P (fdB cells a b x :: tl) → ∃ m', setBox (fdB cells a b c :: tl) (.v (.loc 0)) (.v (.d (.int 3))) (.d (.int x)) = some m' ∧ P m') :=
  ⟨fun h => ⟨_, rfl, h⟩, fun h => ⟨_, rfl, h⟩, fun h => ⟨_, rfl, h⟩⟩
local macro_rules | `(tactic| walk_at "ev1") => `(tactic| first
  | with_reducible refine fd_get.1 ?_ | with_reducible refine fd_get.2.1 ?_ | with_reducible refine fd_get.2.2.1 ?_ | with_reducible refine fd_get.2.2.2 ?_
  | with_reducible refine fd_put.1 ?_ | with_reducible refine fd_put.2.1 ?_ | with_reducible refine fd_put.2.2 ?_)
def drawFn : Fn := ⟨["feed", "many"], ["feed", "many", "found", "at", "cell", "mixed"], [
  .seti (.var 0) (.const (.int 3)) (.bin .add (.idx (.var 0) (.const (.int 3))) (.const (.int 1))),
  .ife (.cmp .gt (.idx (.var 0) (.const (.int 2))) (.const (.int 0)))
  [.asg (.name 2) (.bin .mod (.idx (.var 0) (.const (.int 2))) (.var 1)),
  .seti (.var 0) (.const (.int 2)) (.bin .fdiv (.idx (.var 0) (.const (.int 2))) (.var 1)),
  .ret (.var 2)]
  [],
  .asg (.name 3) (.idx (.var 0) (.const (.int 1))),
  .seti (.var 0) (.const (.int 1)) (.bin .add (.var 3) (.const (.int 1))),
  .asg (.name 4) (.ife (.cmp .gt (.bfn .len (.idx (.var 0) (.const (.int 0))) []) (.const (.int 0))) (.idx (.idx (.var 0) (.const (.int 0))) (.bin .mod (.var 3) (.bfn .len (.idx (.var 0) (.const (.int 0))) []))) (.const (.int 9))),
  .ife (.and (.cmp .ge (.var 4) (.bin .pow (.const (.int 10)) (.const (.int 18)))) (.cmp .lt (.var 3) (.bfn .len (.idx (.var 0) (.const (.int 0))) [])))
  [.seti (.var 0) (.const (.int 2)) (.bin .fdiv (.var 4) (.var 1)),
  .ret (.bin .mod (.var 4) (.var 1))]
  [],
  .asg (.name 5) (.bin .mod (.bin .pow (.bin .add (.bin .add (.bin .mod (.var 4) (.const (.int 2147483629))) (.bin .mul (.const (.int 100003)) (.idx (.var 0) (.const (.int 3))))) (.const (.int 53))) (.const (.int 5))) (.const (.int 2147483647))),
  .ret (.bin .mod (.bin .fdiv (.bin .mod (.bin .pow (.bin .add (.var 5) (.bin .mul (.bin .mul (.const (.int 57119)) (.idx (.var 0) (.const (.int 3)))) (.idx (.var 0) (.const (.int 3))))) (.const (.int 5))) (.const (.int 2147483587))) (.const (.int 64))) (.var 1))]⟩
theorem draw_okT {G : Defs} {n : Nat} {d many : Int} {m tl : Store} (hG : G "_law_draw" = some drawFn) (h : DT m d tl) (hd : d < 9000000) (h1 : 0 < many) (h2 : many < 1000000000) :
    wp (evF G (n + 1) "_law_draw" [.loc 0, .d (.int many)] m) (fun x m' => ∃ i, x = .v (.d (.int i)) ∧ 0 ≤ i ∧ i < many ∧ DT m' (d + 1) tl) (fun _ _ _ => False) := by
  obtain ⟨cells, a, b, c, rfl, ha, hb, hc, hcd⟩ := h
  have hm : ∀ x, 0 ≤ x % many ∧ x % many < many := fun x => ⟨Int.emod_nonneg x (by omega), Int.emod_lt_of_pos x h1⟩
  have h18 : (10 : Int) ^ Int.toNat 18 = 1000000000000000000 := by decide
  have hq : 0 ≤ 57119 * (c + 1) * (c + 1) ∧ 57119 * (c + 1) * (c + 1) ≤ 57119 * 9000000 * 9000000 :=
    ⟨Int.mul_nonneg (by omega) (by omega), Int.mul_le_mul (by omega) (by omega) (by omega) (by decide)⟩
  have fin : ∀ x a' b', 0 ≤ a' → 0 ≤ b' → ∃ i, Tmp.v (.d (.int (x % many))) = .v (.d (.int i)) ∧ 0 ≤ i ∧ i < many ∧ DT (fdB cells a' b' (c + 1) :: tl) (d + 1) tl := fun x a' b' h3 h4 =>
    ⟨_, rfl, (hm x).1, (hm x).2, cells, a', b', c + 1, rfl, h3, h4, by omega, by omega⟩
  refine w_run hG rfl ?_
  simp only [drawFn]
  walk_at "ev0"
  walk_at "ev"
  walk_at "evs"
  any_goals (exact fin _ _ _ (by omega) (by first | omega | exact Int.ediv_nonneg (by omega) (by omega)))
  rename_i hl
  obtain ⟨x, hx⟩ := at_mod cells a hl
  refine o_ixL hx ?_
  walk_at "evs"
  all_goals (exact fin _ _ _ (by omega) (by first | omega | exact Int.ediv_nonneg (by omega) (by omega)))
theorem draw_ok {G : Defs} {n : Nat} {d many : Int} {m : Store} (hG : G "_law_draw" = some drawFn) (h : D1 m d) (hd : d < 9000000) (h1 : 0 < many) (h2 : many < 1000000000) :
    wp (evF G (n + 1) "_law_draw" [.loc 0, .d (.int many)] m) (fun x m' => ∃ i, x = .v (.d (.int i)) ∧ 0 ≤ i ∧ i < many ∧ D1 m' (d + 1)) (fun _ _ _ => False) := by
  obtain ⟨tl, h⟩ := h
  refine wp_mono (draw_okT hG h hd h1 h2) fun x m' q => ?_
  obtain ⟨i, e, a, b, g⟩ := q
  exact ⟨i, e, a, b, tl, g⟩
def feedFn : Fn := ⟨["script"], ["script"], [
  .ret (.box (.lst [(.slice (.var 0) none (some (.const (.int 63)))), (.const (.int 0)), (.const (.int 0)), (.const (.int 0))]))]⟩
theorem feed_ok {G : Defs} {n : Nat} {ns : List Int} (hG : G "_law_feed" = some feedFn) : wp (evF G (n + 1) "_law_feed" [.script ns] []) (fun x m => x = .v (.loc 0) ∧ DT m 0 []) (fun _ _ _ => False) := by
  refine w_run hG rfl ?_
  simp only [feedFn]
  walk_at "ev0"
  walk_at "ev"
  refine ⟨_, rfl, ?_⟩
  walk_at "ev"
  refine ⟨_, rfl, ?_⟩
  walk_at "ev"
  exact ⟨rfl, cut ns none (some 63), 0, 0, 0, rfl, by decide⟩
theorem o_isi {ts : List String} {d : D} {m : Store} {P : Tmp → Prop} (h : P (.v (.d (.bool (ts.any (isTy d)))))) : ∃ z, bfnV (.isinst ts) [.v (.d d)] m = some z ∧ P z := ⟨_, rfl, h⟩
end Ev
set_option Elab.async false
set_option linter.all false
set_option maxHeartbeats 4000000
namespace Ev
open PySem L2
theorem isi_int_n  : (["int"].any (isTy .none)) = false := by simp [isTy, tyOf]
theorem isi_int_b (b : Bool) : (["int"].any (isTy (.bool b))) = true := by simp [isTy, tyOf]
theorem isi_int_i (i : Int) : (["int"].any (isTy (.int i))) = true := by simp [isTy, tyOf]
theorem isi_int_s (s : Str) : (["int"].any (isTy (.str s))) = false := by simp [isTy, tyOf]
theorem isi_int_l (xs : List D) : (["int"].any (isTy (.list xs))) = false := by simp [isTy, tyOf]
theorem isi_int_t (xs : List D) : (["int"].any (isTy (.tuple xs))) = false := by simp [isTy, tyOf]
theorem isi_int_d (kvs : List (D × D)) : (["int"].any (isTy (.dict kvs))) = false := by simp [isTy, tyOf]
theorem isi_bool_n  : (["bool"].any (isTy .none)) = false := by simp [isTy, tyOf]
theorem isi_bool_b (b : Bool) : (["bool"].any (isTy (.bool b))) = true := by simp [isTy, tyOf]
theorem isi_bool_i (i : Int) : (["bool"].any (isTy (.int i))) = false := by simp [isTy, tyOf]
theorem isi_bool_s (s : Str) : (["bool"].any (isTy (.str s))) = false := by simp [isTy, tyOf]
theorem isi_bool_l (xs : List D) : (["bool"].any (isTy (.list xs))) = false := by simp [isTy, tyOf]
theorem isi_bool_t (xs : List D) : (["bool"].any (isTy (.tuple xs))) = false := by simp [isTy, tyOf]
theorem isi_bool_d (kvs : List (D × D)) : (["bool"].any (isTy (.dict kvs))) = false := by simp [isTy, tyOf]
theorem isi_tuple_n  : (["tuple"].any (isTy .none)) = false := by simp [isTy, tyOf]
theorem isi_tuple_b (b : Bool) : (["tuple"].any (isTy (.bool b))) = false := by simp [isTy, tyOf]
theorem isi_tuple_i (i : Int) : (["tuple"].any (isTy (.int i))) = false := by simp [isTy, tyOf]
theorem isi_tuple_s (s : Str) : (["tuple"].any (isTy (.str s))) = false := by simp [isTy, tyOf]
theorem isi_tuple_l (xs : List D) : (["tuple"].any (isTy (.list xs))) = false := by simp [isTy, tyOf]
theorem isi_tuple_t (xs : List D) : (["tuple"].any (isTy (.tuple xs))) = true := by simp [isTy, tyOf]
theorem isi_tuple_d (kvs : List (D × D)) : (["tuple"].any (isTy (.dict kvs))) = false := by simp [isTy, tyOf]
theorem isi_str_n  : (["str"].any (isTy .none)) = false := by simp [isTy, tyOf]
theorem isi_str_b (b : Bool) : (["str"].any (isTy (.bool b))) = false := by simp [isTy, tyOf]
theorem isi_str_i (i : Int) : (["str"].any (isTy (.int i))) = false := by simp [isTy, tyOf]
theorem isi_str_s (s : Str) : (["str"].any (isTy (.str s))) = true := by simp [isTy, tyOf]
theorem isi_str_l (xs : List D) : (["str"].any (isTy (.list xs))) = false := by simp [isTy, tyOf]
theorem isi_str_t (xs : List D) : (["str"].any (isTy (.tuple xs))) = false := by simp [isTy, tyOf]
theorem isi_str_d (kvs : List (D × D)) : (["str"].any (isTy (.dict kvs))) = false := by simp [isTy, tyOf]
theorem isi_list_n  : (["list"].any (isTy .none)) = false := by simp [isTy, tyOf]
theorem isi_list_b (b : Bool) : (["list"].any (isTy (.bool b))) = false := by simp [isTy, tyOf]
theorem isi_list_i (i : Int) : (["list"].any (isTy (.int i))) = false := by simp [isTy, tyOf]
theorem isi_list_s (s : Str) : (["list"].any (isTy (.str s))) = false := by simp [isTy, tyOf]
theorem isi_list_l (xs : List D) : (["list"].any (isTy (.list xs))) = true := by simp [isTy, tyOf]
theorem isi_list_t (xs : List D) : (["list"].any (isTy (.tuple xs))) = false := by simp [isTy, tyOf]
theorem isi_list_d (kvs : List (D × D)) : (["list"].any (isTy (.dict kvs))) = false := by simp [isTy, tyOf]
theorem isi_dict_n  : (["dict"].any (isTy .none)) = false := by simp [isTy, tyOf]
theorem isi_dict_b (b : Bool) : (["dict"].any (isTy (.bool b))) = false := by simp [isTy, tyOf]
theorem isi_dict_i (i : Int) : (["dict"].any (isTy (.int i))) = false := by simp [isTy, tyOf]
theorem isi_dict_s (s : Str) : (["dict"].any (isTy (.str s))) = false := by simp [isTy, tyOf]
theorem isi_dict_l (xs : List D) : (["dict"].any (isTy (.list xs))) = false := by simp [isTy, tyOf]
theorem isi_dict_t (xs : List D) : (["dict"].any (isTy (.tuple xs))) = false := by simp [isTy, tyOf]
theorem isi_dict_d (kvs : List (D × D)) : (["dict"].any (isTy (.dict kvs))) = true := by simp [isTy, tyOf]
section
variable {xs : List D} {A : Bool → Prop}
end
theorem w_chain {c : Calls} {Xp : XP} {r : Env} {m : Store} {Q : Tmp → Store → Prop} {o o' : COp} {a b z : Ex} (h : wp (evE c a r m) (fun x m => wp (evE c b r m) (fun y m => ∃ k, cmpV o x y = some k ∧ ((k = true → wp (evE c z r m) (fun u m => ∃ k, cmpV o' y u = some k ∧ Q (.v (.d (.bool k))) m) Xp) ∧ (k = false → Q (.v (.d (.bool false))) m))) Xp) Xp) :
    wp (evE c (.chain o o' a b z) r m) Q Xp := by
  simp only [evE]
  refine wp_bind (wp_mono h fun x m h => wp_bind (wp_mono h fun y m h => ?_))
  obtain ⟨k, e, h1, h2⟩ := h
  refine wp_bind (wp_give ⟨k, e, ?_⟩)
  cases k with
  | true =>
    refine wp_bind (wp_mono (h1 rfl) fun u m h => wp_give ?_)
    obtain ⟨k, e, h⟩ := h
    exact ⟨_, by rw [e]; rfl, h⟩
  | false => exact h2 rfl
theorem c_nt {A B : Prop} (b : B) : ((!true) = true → A) ∧ ((!true) = false → B) := c_f b
theorem c_nf {A B : Prop} (a : A) : ((!false) = true → A) ∧ ((!false) = false → B) := c_t a
section
variable {m : Store} {A : Bool → Prop}
theorem tr_b {b : Bool} (h : A b) : ∃ k, truth (.v (.d (.bool b))) m = some k ∧ A k := ⟨_, rfl, h⟩
theorem tr_i {i : Int} (h : A (i != 0)) : ∃ k, truth (.v (.d (.int i))) m = some k ∧ A k := ⟨_, rfl, h⟩
theorem tr_t {xs : List D} (h : A (!xs.isEmpty)) : ∃ k, truth (.v (.d (.tuple xs))) m = some k ∧ A k := ⟨_, rfl, h⟩
theorem tr_l {xs : List D} (h : A (!xs.isEmpty)) : ∃ k, truth (.v (.d (.list xs))) m = some k ∧ A k := ⟨_, rfl, h⟩
theorem tr_lb {xs : List D} (h : A (!xs.isEmpty)) : ∃ k, truth (.bor (.list xs)) m = some k ∧ A k := ⟨_, rfl, h⟩
end
theorem oi_int_n  {m : Store} {P : Tmp → Prop} (h : P (.v (.d (.bool false)))) : ∃ z, bfnV (.isinst ["int"]) [.v (.d .none)] m = some z ∧ P z := o_isi (by rw [isi_int_n]; exact h)
theorem oi_int_b {b : Bool} {m : Store} {P : Tmp → Prop} (h : P (.v (.d (.bool true)))) : ∃ z, bfnV (.isinst ["int"]) [.v (.d (.bool b))] m = some z ∧ P z := o_isi (by rw [isi_int_b]; exact h)
theorem oi_int_i {i : Int} {m : Store} {P : Tmp → Prop} (h : P (.v (.d (.bool true)))) : ∃ z, bfnV (.isinst ["int"]) [.v (.d (.int i))] m = some z ∧ P z := o_isi (by rw [isi_int_i]; exact h)
theorem oi_int_s {s : Str} {m : Store} {P : Tmp → Prop} (h : P (.v (.d (.bool false)))) : ∃ z, bfnV (.isinst ["int"]) [.v (.d (.str s))] m = some z ∧ P z := o_isi (by rw [isi_int_s]; exact h)
theorem oi_int_l {xs : List D} {m : Store} {P : Tmp → Prop} (h : P (.v (.d (.bool false)))) : ∃ z, bfnV (.isinst ["int"]) [.v (.d (.list xs))] m = some z ∧ P z := o_isi (by rw [isi_int_l]; exact h)
theorem oi_int_t {xs : List D} {m : Store} {P : Tmp → Prop} (h : P (.v (.d (.bool false)))) : ∃ z, bfnV (.isinst ["int"]) [.v (.d (.tuple xs))] m = some z ∧ P z := o_isi (by rw [isi_int_t]; exact h)
theorem oi_int_d {kvs : List (D × D)} {m : Store} {P : Tmp → Prop} (h : P (.v (.d (.bool false)))) : ∃ z, bfnV (.isinst ["int"]) [.v (.d (.dict kvs))] m = some z ∧ P z := o_isi (by rw [isi_int_d]; exact h)
theorem oi_bool_n  {m : Store} {P : Tmp → Prop} (h : P (.v (.d (.bool false)))) : ∃ z, bfnV (.isinst ["bool"]) [.v (.d .none)] m = some z ∧ P z := o_isi (by rw [isi_bool_n]; exact h)
theorem oi_bool_b {b : Bool} {m : Store} {P : Tmp → Prop} (h : P (.v (.d (.bool true)))) : ∃ z, bfnV (.isinst ["bool"]) [.v (.d (.bool b))] m = some z ∧ P z := o_isi (by rw [isi_bool_b]; exact h)
theorem oi_bool_i {i : Int} {m : Store} {P : Tmp → Prop} (h : P (.v (.d (.bool false)))) : ∃ z, bfnV (.isinst ["bool"]) [.v (.d (.int i))] m = some z ∧ P z := o_isi (by rw [isi_bool_i]; exact h)
theorem oi_bool_s {s : Str} {m : Store} {P : Tmp → Prop} (h : P (.v (.d (.bool false)))) : ∃ z, bfnV (.isinst ["bool"]) [.v (.d (.str s))] m = some z ∧ P z := o_isi (by rw [isi_bool_s]; exact h)
theorem oi_bool_l {xs : List D} {m : Store} {P : Tmp → Prop} (h : P (.v (.d (.bool false)))) : ∃ z, bfnV (.isinst ["bool"]) [.v (.d (.list xs))] m = some z ∧ P z := o_isi (by rw [isi_bool_l]; exact h)
theorem oi_bool_t {xs : List D} {m : Store} {P : Tmp → Prop} (h : P (.v (.d (.bool false)))) : ∃ z, bfnV (.isinst ["bool"]) [.v (.d (.tuple xs))] m = some z ∧ P z := o_isi (by rw [isi_bool_t]; exact h)
theorem oi_bool_d {kvs : List (D × D)} {m : Store} {P : Tmp → Prop} (h : P (.v (.d (.bool false)))) : ∃ z, bfnV (.isinst ["bool"]) [.v (.d (.dict kvs))] m = some z ∧ P z := o_isi (by rw [isi_bool_d]; exact h)
theorem oi_tuple_n  {m : Store} {P : Tmp → Prop} (h : P (.v (.d (.bool false)))) : ∃ z, bfnV (.isinst ["tuple"]) [.v (.d .none)] m = some z ∧ P z := o_isi (by rw [isi_tuple_n]; exact h)
theorem oi_tuple_b {b : Bool} {m : Store} {P : Tmp → Prop} (h : P (.v (.d (.bool false)))) : ∃ z, bfnV (.isinst ["tuple"]) [.v (.d (.bool b))] m = some z ∧ P z := o_isi (by rw [isi_tuple_b]; exact h)
theorem oi_tuple_i {i : Int} {m : Store} {P : Tmp → Prop} (h : P (.v (.d (.bool false)))) : ∃ z, bfnV (.isinst ["tuple"]) [.v (.d (.int i))] m = some z ∧ P z := o_isi (by rw [isi_tuple_i]; exact h)
theorem oi_tuple_s {s : Str} {m : Store} {P : Tmp → Prop} (h : P (.v (.d (.bool false)))) : ∃ z, bfnV (.isinst ["tuple"]) [.v (.d (.str s))] m = some z ∧ P z := o_isi (by rw [isi_tuple_s]; exact h)
theorem oi_tuple_l {xs : List D} {m : Store} {P : Tmp → Prop} (h : P (.v (.d (.bool false)))) : ∃ z, bfnV (.isinst ["tuple"]) [.v (.d (.list xs))] m = some z ∧ P z := o_isi (by rw [isi_tuple_l]; exact h)
theorem oi_tuple_t {xs : List D} {m : Store} {P : Tmp → Prop} (h : P (.v (.d (.bool true)))) : ∃ z, bfnV (.isinst ["tuple"]) [.v (.d (.tuple xs))] m = some z ∧ P z := o_isi (by rw [isi_tuple_t]; exact h)
theorem oi_tuple_d {kvs : List (D × D)} {m : Store} {P : Tmp → Prop} (h : P (.v (.d (.bool false)))) : ∃ z, bfnV (.isinst ["tuple"]) [.v (.d (.dict kvs))] m = some z ∧ P z := o_isi (by rw [isi_tuple_d]; exact h)
theorem oi_str_n  {m : Store} {P : Tmp → Prop} (h : P (.v (.d (.bool false)))) : ∃ z, bfnV (.isinst ["str"]) [.v (.d .none)] m = some z ∧ P z := o_isi (by rw [isi_str_n]; exact h)
theorem oi_str_b {b : Bool} {m : Store} {P : Tmp → Prop} (h : P (.v (.d (.bool false)))) : ∃ z, bfnV (.isinst ["str"]) [.v (.d (.bool b))] m = some z ∧ P z := o_isi (by rw [isi_str_b]; exact h)
theorem oi_str_i {i : Int} {m : Store} {P : Tmp → Prop} (h : P (.v (.d (.bool false)))) : ∃ z, bfnV (.isinst ["str"]) [.v (.d (.int i))] m = some z ∧ P z := o_isi (by rw [isi_str_i]; exact h)
theorem oi_str_s {s : Str} {m : Store} {P : Tmp → Prop} (h : P (.v (.d (.bool true)))) : ∃ z, bfnV (.isinst ["str"]) [.v (.d (.str s))] m = some z ∧ P z := o_isi (by rw [isi_str_s]; exact h)
theorem oi_str_l {xs : List D} {m : Store} {P : Tmp → Prop} (h : P (.v (.d (.bool false)))) : ∃ z, bfnV (.isinst ["str"]) [.v (.d (.list xs))] m = some z ∧ P z := o_isi (by rw [isi_str_l]; exact h)
theorem oi_str_t {xs : List D} {m : Store} {P : Tmp → Prop} (h : P (.v (.d (.bool false)))) : ∃ z, bfnV (.isinst ["str"]) [.v (.d (.tuple xs))] m = some z ∧ P z := o_isi (by rw [isi_str_t]; exact h)
theorem oi_str_d {kvs : List (D × D)} {m : Store} {P : Tmp → Prop} (h : P (.v (.d (.bool false)))) : ∃ z, bfnV (.isinst ["str"]) [.v (.d (.dict kvs))] m = some z ∧ P z := o_isi (by rw [isi_str_d]; exact h)
theorem oi_list_n  {m : Store} {P : Tmp → Prop} (h : P (.v (.d (.bool false)))) : ∃ z, bfnV (.isinst ["list"]) [.v (.d .none)] m = some z ∧ P z := o_isi (by rw [isi_list_n]; exact h)
theorem oi_list_b {b : Bool} {m : Store} {P : Tmp → Prop} (h : P (.v (.d (.bool false)))) : ∃ z, bfnV (.isinst ["list"]) [.v (.d (.bool b))] m = some z ∧ P z := o_isi (by rw [isi_list_b]; exact h)
theorem oi_list_i {i : Int} {m : Store} {P : Tmp → Prop} (h : P (.v (.d (.bool false)))) : ∃ z, bfnV (.isinst ["list"]) [.v (.d (.int i))] m = some z ∧ P z := o_isi (by rw [isi_list_i]; exact h)
theorem oi_list_s {s : Str} {m : Store} {P : Tmp → Prop} (h : P (.v (.d (.bool false)))) : ∃ z, bfnV (.isinst ["list"]) [.v (.d (.str s))] m = some z ∧ P z := o_isi (by rw [isi_list_s]; exact h)
theorem oi_list_l {xs : List D} {m : Store} {P : Tmp → Prop} (h : P (.v (.d (.bool true)))) : ∃ z, bfnV (.isinst ["list"]) [.v (.d (.list xs))] m = some z ∧ P z := o_isi (by rw [isi_list_l]; exact h)
theorem oi_list_t {xs : List D} {m : Store} {P : Tmp → Prop} (h : P (.v (.d (.bool false)))) : ∃ z, bfnV (.isinst ["list"]) [.v (.d (.tuple xs))] m = some z ∧ P z := o_isi (by rw [isi_list_t]; exact h)
theorem oi_list_d {kvs : List (D × D)} {m : Store} {P : Tmp → Prop} (h : P (.v (.d (.bool false)))) : ∃ z, bfnV (.isinst ["list"]) [.v (.d (.dict kvs))] m = some z ∧ P z := o_isi (by rw [isi_list_d]; exact h)
theorem oi_dict_n  {m : Store} {P : Tmp → Prop} (h : P (.v (.d (.bool false)))) : ∃ z, bfnV (.isinst ["dict"]) [.v (.d .none)] m = some z ∧ P z := o_isi (by rw [isi_dict_n]; exact h)
theorem oi_dict_b {b : Bool} {m : Store} {P : Tmp → Prop} (h : P (.v (.d (.bool false)))) : ∃ z, bfnV (.isinst ["dict"]) [.v (.d (.bool b))] m = some z ∧ P z := o_isi (by rw [isi_dict_b]; exact h)
theorem oi_dict_i {i : Int} {m : Store} {P : Tmp → Prop} (h : P (.v (.d (.bool false)))) : ∃ z, bfnV (.isinst ["dict"]) [.v (.d (.int i))] m = some z ∧ P z := o_isi (by rw [isi_dict_i]; exact h)
theorem oi_dict_s {s : Str} {m : Store} {P : Tmp → Prop} (h : P (.v (.d (.bool false)))) : ∃ z, bfnV (.isinst ["dict"]) [.v (.d (.str s))] m = some z ∧ P z := o_isi (by rw [isi_dict_s]; exact h)
theorem oi_dict_l {xs : List D} {m : Store} {P : Tmp → Prop} (h : P (.v (.d (.bool false)))) : ∃ z, bfnV (.isinst ["dict"]) [.v (.d (.list xs))] m = some z ∧ P z := o_isi (by rw [isi_dict_l]; exact h)
theorem oi_dict_t {xs : List D} {m : Store} {P : Tmp → Prop} (h : P (.v (.d (.bool false)))) : ∃ z, bfnV (.isinst ["dict"]) [.v (.d (.tuple xs))] m = some z ∧ P z := o_isi (by rw [isi_dict_t]; exact h)
theorem oi_dict_d {kvs : List (D × D)} {m : Store} {P : Tmp → Prop} (h : P (.v (.d (.bool true)))) : ∃ z, bfnV (.isinst ["dict"]) [.v (.d (.dict kvs))] m = some z ∧ P z := o_isi (by rw [isi_dict_d]; exact h)
theorem c_decT {p : Prop} [Decidable p] {A B : Prop} (h : p) (a : A) : (decide p = true → A) ∧ (decide p = false → B) := c_dec (fun _ => a) (fun z => absurd h z)
theorem c_decF {p : Prop} [Decidable p] {A B : Prop} (h : ¬ p) (b : B) : (decide p = true → A) ∧ (decide p = false → B) := c_dec (fun z => absurd z h) (fun _ => b)
theorem c_ndecT {p : Prop} [Decidable p] {A B : Prop} (h : ¬ p) (a : A) : ((!decide p) = true → A) ∧ ((!decide p) = false → B) := c_ndec (fun _ => a) (fun z => absurd z h)
theorem c_ndecF {p : Prop} [Decidable p] {A B : Prop} (h : p) (b : B) : ((!decide p) = true → A) ∧ ((!decide p) = false → B) := c_ndec (fun z => absurd h z) (fun _ => b)
theorem c_asT {k : Bool} {A B : Prop} (h : k = true) (a : A) : (k = true → A) ∧ (k = false → B) := ⟨fun _ => a, fun z => by rw [h] at z; cases z⟩
theorem c_asF {k : Bool} {A B : Prop} (h : k = false) (b : B) : (k = true → A) ∧ (k = false → B) := ⟨fun z => by rw [h] at z; (cases z), fun _ => b⟩
theorem c_nasT {k : Bool} {A B : Prop} (h : k = false) (a : A) : ((!k) = true → A) ∧ ((!k) = false → B) := ⟨fun _ => a, fun z => by rw [h] at z; cases z⟩
theorem c_nasF {k : Bool} {A B : Prop} (h : k = true) (b : B) : ((!k) = true → A) ∧ ((!k) = false → B) := ⟨fun z => by rw [h] at z; (cases z), fun _ => b⟩
theorem c_t1 {A B : Prop} (a : A) : (True → A) ∧ (true = false → B) := ⟨fun _ => a, fun h => nomatch h⟩
theorem c_f1 {A B : Prop} (b : B) : (false = true → A) ∧ (True → B) := ⟨fun h => (nomatch h), fun _ => b⟩
theorem at0 {x : D} {xs : List D} : L2.atI (x :: xs) 0 = some x := atI_nat (j := 0) rfl
theorem at1 {x y : D} {xs : List D} : L2.atI (x :: y :: xs) 1 = some y := atI_nat (j := 1) rfl
theorem at2 {x y z : D} {xs : List D} : L2.atI (x :: y :: z :: xs) 2 = some z := atI_nat (j := 2) rfl
theorem at3 {x y z u : D} {xs : List D} : L2.atI (x :: y :: z :: u :: xs) 3 = some u := atI_nat (j := 3) rfl
section
variable {m : Store} {x y z u : D} {xs : List D} {P : Val → Prop}
theorem o_ix0T (h : P (.d x)) : ∃ w, idxV (.v (.d (.tuple (x :: xs)))) (.v (.d (.int 0))) m = some w ∧ P w := o_ixT at0 h
theorem o_ix0L (h : P (.d x)) : ∃ w, idxV (.v (.d (.list (x :: xs)))) (.v (.d (.int 0))) m = some w ∧ P w := o_ixL at0 h
theorem o_ix0B (h : P (.d x)) : ∃ w, idxV (.bor (.list (x :: xs))) (.v (.d (.int 0))) m = some w ∧ P w := o_ixB at0 h
theorem o_ix0N (h : P (.d x)) : ∃ w, idxV (.new (.list (x :: xs))) (.v (.d (.int 0))) m = some w ∧ P w := o_ixN at0 h
theorem o_ix1T (h : P (.d y)) : ∃ w, idxV (.v (.d (.tuple (x :: y :: xs)))) (.v (.d (.int 1))) m = some w ∧ P w := o_ixT at1 h
theorem o_ix1L (h : P (.d y)) : ∃ w, idxV (.v (.d (.list (x :: y :: xs)))) (.v (.d (.int 1))) m = some w ∧ P w := o_ixL at1 h
theorem o_ix1B (h : P (.d y)) : ∃ w, idxV (.bor (.list (x :: y :: xs))) (.v (.d (.int 1))) m = some w ∧ P w := o_ixB at1 h
theorem o_ix1N (h : P (.d y)) : ∃ w, idxV (.new (.list (x :: y :: xs))) (.v (.d (.int 1))) m = some w ∧ P w := o_ixN at1 h
theorem o_ix2T (h : P (.d z)) : ∃ w, idxV (.v (.d (.tuple (x :: y :: z :: xs)))) (.v (.d (.int 2))) m = some w ∧ P w := o_ixT at2 h
theorem o_ix2L (h : P (.d z)) : ∃ w, idxV (.v (.d (.list (x :: y :: z :: xs)))) (.v (.d (.int 2))) m = some w ∧ P w := o_ixL at2 h
theorem o_ix2B (h : P (.d z)) : ∃ w, idxV (.bor (.list (x :: y :: z :: xs))) (.v (.d (.int 2))) m = some w ∧ P w := o_ixB at2 h
theorem o_ix2N (h : P (.d z)) : ∃ w, idxV (.new (.list (x :: y :: z :: xs))) (.v (.d (.int 2))) m = some w ∧ P w := o_ixN at2 h
theorem o_ix3T (h : P (.d u)) : ∃ w, idxV (.v (.d (.tuple (x :: y :: z :: u :: xs)))) (.v (.d (.int 3))) m = some w ∧ P w := o_ixT at3 h
theorem o_ix3L (h : P (.d u)) : ∃ w, idxV (.v (.d (.list (x :: y :: z :: u :: xs)))) (.v (.d (.int 3))) m = some w ∧ P w := o_ixL at3 h
theorem o_ix3B (h : P (.d u)) : ∃ w, idxV (.bor (.list (x :: y :: z :: u :: xs))) (.v (.d (.int 3))) m = some w ∧ P w := o_ixB at3 h
theorem o_ix3N (h : P (.d u)) : ∃ w, idxV (.new (.list (x :: y :: z :: u :: xs))) (.v (.d (.int 3))) m = some w ∧ P w := o_ixN at3 h
end
theorem w_frzV {c : Calls} {Xp : XP} {r : Env} {m : Store} {ss : List Sm} {Qs : Fl → Store → Prop} {i : Nat} (h : ∃ x, r[i]? = some (.val x) ∧ wp (evSs c ss r m) Qs Xp) : wp (evSs c (.freeze i :: ss) r m) Qs Xp := by
  obtain ⟨x, e, h⟩ := h
  exact w_frzN e (fun _ z => nomatch z) h
theorem a_tupI {ts : List Tg} {xs : List D} {r : Env} {K : Env → Prop} (h : ∃ r', asgT (.tup ts) (.v (.d (.tuple xs))) r = some r' ∧ K r') : ∃ r', asgT (.tup ts) (.v (.d (.tuple xs))) r = some r' ∧ K r' := h
theorem f_tupI {ts : List Tg} {xs : List D} {r : Env} {K : Env → Prop} (h : ∃ r', asg (.tup ts) (.d (.tuple xs)) r = some r' ∧ K r') : ∃ r', asg (.tup ts) (.d (.tuple xs)) r = some r' ∧ K r' := h
theorem o_reprS {d : D} {m : Store} {P : Tmp → Prop} {k n : Nat} (h : SD d k n) (hk : k ≤ 64) (hn : n ≤ 230000) (a : P (.v (.d (.str d.shown)))) : ∃ z, bfnV .repr [.v (.d d)] m = some z ∧ P z := ⟨_, SD.repr h rfl hk hn, a⟩
theorem bools_map (bs : List Bool) : bools (bs.map .bool) = some bs := by
  induction bs with
  | nil => rfl
  | cons b bs ih => simp [bools, ih]
theorem o_allB {bs : List Bool} {m : Store} {P : Tmp → Prop} (h : P (.v (.d (.bool (bs.all id))))) : ∃ z, bfnV .all [.new (.list (bs.map .bool))] m = some z ∧ P z := ⟨_, by simp only [bfnV, Tmp.dataX?, Tmp.data?, bools_map]; rfl, h⟩
theorem o_anyB {bs : List Bool} {m : Store} {P : Tmp → Prop} (h : P (.v (.d (.bool (bs.any id))))) : ∃ z, bfnV .any [.new (.list (bs.map .bool))] m = some z ∧ P z := ⟨_, by simp only [bfnV, Tmp.dataX?, Tmp.data?, bools_map]; rfl, h⟩
theorem o_allM {xs : List D} {f : D → Bool} {m : Store} {P : Tmp → Prop} (h : P (.v (.d (.bool (xs.all f))))) : ∃ z, bfnV .all [.new (.list (xs.map fun x => .bool (f x)))] m = some z ∧ P z := by
  have e : xs.map (fun x => PyData.bool (f x)) = (xs.map f).map .bool := by simp
  rw [e]
  exact o_allB (by simpa using h)
theorem o_anyM {xs : List D} {f : D → Bool} {m : Store} {P : Tmp → Prop} (h : P (.v (.d (.bool (xs.any f))))) : ∃ z, bfnV .any [.new (.list (xs.map fun x => .bool (f x)))] m = some z ∧ P z := by
  have e : xs.map (fun x => PyData.bool (f x)) = (xs.map f).map .bool := by simp
  rw [e]
  exact o_anyB (by simpa using h)
theorem w_compP {c : Calls} {Xp : XP} {tg : Tg} {e : Ex} {r0 : Env} {m : Store} {Q : List D → Store → Prop} {ds : List D} (g : D → D)
    (hs : ∀ d ∈ ds, ∃ r', asg tg (.d d) r0 = some r' ∧ wp (evE c e r' m) (fun t m' => toD t = some (g d) ∧ m' = m) fun _ _ _ => False) (hl : ds.length ≤ sizeLine) (q : Q (ds.map g) m) :
    wp (compL (compF tg r0 (evC c none) (evE c e)) (ds.map .d) m []) Q Xp := by
  refine w_compL (fun i acc m' => m' = m ∧ acc = (ds.take i).map g) (fun i x acc m' e1 hi => ?_) (by rw [List.length_map]; exact hl) ⟨rfl, by simp⟩ fun ys m' hi => ?_
  · obtain ⟨rfl, rfl⟩ := hi
    rw [List.getElem?_map] at e1
    obtain ⟨d, e2, rfl⟩ := Option.map_eq_some_iff.mp e1
    obtain ⟨r', a1, a2⟩ := hs d (List.mem_of_getElem? e2)
    refine w_compF0 ⟨r', a1, wp_mono a2 fun t m2 h => ?_⟩
    obtain ⟨h, rfl⟩ := h
    refine ⟨_, h, cp_some ⟨rfl, ?_⟩⟩
    rw [List.take_succ, e2, List.map_append]
    rfl
  · obtain ⟨rfl, rfl⟩ := hi
    rw [List.length_map, List.take_length]
    exact q
theorem w_compT {c : Calls} {Xp : XP} {tg : Tg} {e : Ex} {t : Te} {r0 : Env} {m : Store} {Q : List D → Store → Prop} {ds : List D} (p : D → Bool) (g : D → D)
    (hs : ∀ d ∈ ds, ∃ r', asg tg (.d d) r0 = some r' ∧ wp (evT c t r' m) (fun k m' => k = p d ∧ m' = m) (fun _ _ _ => False) ∧ (p d = true → wp (evE c e r' m) (fun t m' => toD t = some (g d) ∧ m' = m) fun _ _ _ => False)) (hl : ds.length ≤ sizeLine) (q : Q ((ds.filter p).map g) m) :
    wp (compL (compF tg r0 (evC c (some t)) (evE c e)) (ds.map .d) m []) Q Xp := by
  refine w_compL (fun i acc m' => m' = m ∧ acc = ((ds.take i).filter p).map g) (fun i x acc m' e1 hi => ?_) (by rw [List.length_map]; exact hl) ⟨rfl, by simp⟩ fun ys m' hi => ?_
  · obtain ⟨rfl, rfl⟩ := hi
    rw [List.getElem?_map] at e1
    obtain ⟨d, e2, rfl⟩ := Option.map_eq_some_iff.mp e1
    obtain ⟨r', a1, a2, a3⟩ := hs d (List.mem_of_getElem? e2)
    refine w_compF ⟨r', a1, wp_mono a2 fun k m2 h => ?_⟩
    obtain ⟨rfl, rfl⟩ := h
    refine ⟨fun hp => wp_mono (a3 hp) fun t m2 h => ?_, fun hp => cp_none ⟨rfl, ?_⟩⟩
    · obtain ⟨h, rfl⟩ := h
      refine ⟨_, h, cp_some ⟨rfl, ?_⟩⟩
      rw [List.take_succ, e2, List.filter_append, List.map_append]
      simp [hp]
    · rw [List.take_succ, e2, List.filter_append]
      simp [hp]
  · obtain ⟨rfl, rfl⟩ := hi
    rw [List.length_map, List.take_length]
    exact q
end Ev
set_option Elab.async false
set_option linter.all false
set_option maxHeartbeats 4000000
namespace Ev
open PySem L2
local macro_rules | `(tactic| walk_at "ev1") => `(tactic| first
  | with_reducible refine w_asg ?_ | with_reducible refine w_ife ?_ | with_reducible refine w_ret ?_ | with_reducible refine w_seti ?_ | with_reducible refine w_append ?_ | with_reducible refine w_for ?_
  | with_reducible refine w_nil ?_ | with_reducible refine w_par ?_ | with_reducible refine w_setOwn ?_ | with_reducible refine w_addi ?_ | with_reducible refine w_subi ?_ | with_reducible refine w_popA ?_ | with_reducible refine w_expr ?_
  | with_reducible refine w_retN ?_ | with_reducible refine w_brk ?_ | with_reducible refine w_cont ?_ | with_reducible refine w_pass ?_ | with_reducible refine w_whil ?_
  | ((with_reducible refine w_val' ?_); (refine ⟨_, rfl, ?_⟩)) | ((with_reducible refine w_own' ?_); (refine ⟨_, rfl, ?_⟩)) | with_reducible refine w_const ?_ | with_reducible refine w_glob ?_ | with_reducible refine w_tup ?_ | with_reducible refine w_lst ?_ | with_reducible refine w_box ?_
  | with_reducible refine w_dbox ?_ | with_reducible refine w_bin ?_ | with_reducible refine w_neg' ?_ | with_reducible refine w_cmp' ?_ | with_reducible refine w_not' ?_ | with_reducible refine w_and' ?_ | with_reducible refine w_or' ?_ | with_reducible refine w_if ?_
  | with_reducible refine w_idx ?_ | with_reducible refine w_slice ?_ | with_reducible refine w_rev ?_ | with_reducible refine w_call ?_ | with_reducible refine w_bfn ?_ | with_reducible refine w_isi ?_ | with_reducible refine w_comp ?_
  | with_reducible refine w_vnil ?_ | with_reducible refine w_vcons ?_ | with_reducible refine w_dnil ?_ | with_reducible refine w_dcons ?_ | with_reducible refine w_tnil ?_ | with_reducible refine w_tcons ?_ | with_reducible refine w_onone ?_ | with_reducible refine w_osome ?_
  | with_reducible refine w_tval ?_ | with_reducible refine w_tcmp ?_ | with_reducible refine w_tchain ?_ | with_reducible refine w_tand ?_ | with_reducible refine w_tor ?_ | with_reducible refine w_tnot ?_
  | with_reducible refine w_rng1 ?_ | with_reducible refine w_rng2 ?_ | with_reducible refine w_seq ?_ | with_reducible refine w_enum ?_ | with_reducible refine w_zip ?_
  | ((with_reducible refine w_retOwn' ?_); (refine ⟨_, rfl, ?_⟩)) | ((with_reducible refine w_frz' ?_); (refine ⟨_, rfl, ?_⟩); dsimp only [List.set_cons_zero, List.set_cons_succ])
  | with_reducible refine go_nx ?_ | with_reducible refine go_rt ?_ | with_reducible refine go_bk ?_ | with_reducible refine go_ct ?_ | with_reducible refine rt_rt ?_ | with_reducible refine rt_nx ?_
  | ((with_reducible refine a_v ?_ ?_); (rfl); dsimp only [List.set_cons_zero, List.set_cons_succ]) | ((with_reducible refine a_n ?_ ?_); (rfl); dsimp only [List.set_cons_zero, List.set_cons_succ])
  | ((with_reducible refine a_t2 ?_ ?_ ?_); (rfl); (rfl); dsimp only [List.set_cons_zero, List.set_cons_succ])
  | ((with_reducible refine f_v ?_ ?_); (rfl); dsimp only [List.set_cons_zero, List.set_cons_succ]) | ((with_reducible refine f_t2 ?_ ?_ ?_); (rfl); (rfl); dsimp only [List.set_cons_zero, List.set_cons_succ])
  | with_reducible refine lp_nx ?_ | with_reducible refine lp_ct ?_ | with_reducible refine lp_bk ?_ | with_reducible refine lp_rt ?_ | with_reducible refine cp_some ?_ | with_reducible refine cp_none ?_ | with_reducible refine w_forF ?_ | with_reducible refine w_compF0 ?_ | with_reducible refine w_compF ?_
  | with_reducible refine o_add ?_ | with_reducible refine o_sub ?_ | with_reducible refine o_gt ?_ | with_reducible refine o_lt ?_ | with_reducible refine o_le ?_ | with_reducible refine o_ge ?_ | with_reducible refine o_eqI ?_ | with_reducible refine o_neI ?_
  | with_reducible refine o_lenL ?_ | with_reducible refine o_lenT ?_ | with_reducible refine o_lenB ?_ | with_reducible refine o_lenN ?_
  | ((with_reducible refine o_modP ?_ ?_); (omega)) | ((with_reducible refine o_fdivP ?_ ?_ ?_); (omega); (omega)) | ((with_reducible refine o_powP ?_ ?_ ?_); (omega); (omega))
  | ((with_reducible refine o_mulA ?_ ?_); (omega)) | ((with_reducible refine o_mulB ?_ ?_); (omega))
  | ((with_reducible refine sz_ok ?_ ?_); (rfl)) | ((with_reducible refine ap_ok ?_ ?_); (first | omega | (simp only [List.length_map, List.length_append, List.length_cons, List.length_nil]; omega))) | ((with_reducible refine g_rng ?_ ?_); (omega)) | ((with_reducible refine g_rng2 ?_ ?_); (omega)) | with_reducible refine i_vl ?_ | with_reducible refine i_vt ?_ | with_reducible refine i_n ?_ | with_reducible refine i_b ?_
  | with_reducible refine o_strEq ?_ | with_reducible refine o_strNe ?_ | with_reducible refine o_revVL ?_ | with_reducible refine o_revVT ?_ | with_reducible refine o_revN ?_ | with_reducible refine o_revB ?_ | with_reducible refine o_tupVL ?_ | with_reducible refine o_tupVT ?_ | with_reducible refine o_tupN ?_ | with_reducible refine o_tupB ?_ | with_reducible refine o_lstVL ?_ | with_reducible refine o_lstVT ?_ | with_reducible refine o_lstN ?_ | with_reducible refine o_lstB ?_
  | ((with_reducible refine zipI ?_); (first | refine ⟨_, _, .inl ⟨rfl, rfl⟩, ?_⟩ | refine ⟨_, _, .inr ⟨rfl, rfl⟩, ?_⟩)) | ((with_reducible refine o_ixTc ?_); (refine ⟨_, rfl, ?_⟩)) | ((with_reducible refine o_ixLc ?_); (refine ⟨_, rfl, ?_⟩)) | ((with_reducible refine o_ixNc ?_); (refine ⟨_, rfl, ?_⟩)) | ((with_reducible refine fillI ?_); (refine ⟨_, rfl, ?_⟩)) | ((with_reducible refine ownI ?_); (refine ⟨_, rfl, ?_⟩)) | ((with_reducible refine addiI ?_); (refine ⟨_, rfl, ?_⟩))
  | with_reducible refine b_ok' ?_ | with_reducible refine g_int ?_ | with_reducible refine v_v ?_ | with_reducible refine v_n ?_ | with_reducible refine d_v ?_ | with_reducible refine d_n ?_ | with_reducible refine r_v ?_ | with_reducible refine r_n ?_ | with_reducible refine c_t ?_ | with_reducible refine c_f ?_
  | with_reducible refine oi_int_n ?_ | with_reducible refine oi_int_b ?_ | with_reducible refine oi_int_i ?_ | with_reducible refine oi_int_s ?_ | with_reducible refine oi_int_l ?_ | with_reducible refine oi_int_t ?_ | with_reducible refine oi_int_d ?_ | with_reducible refine oi_bool_n ?_ | with_reducible refine oi_bool_b ?_ | with_reducible refine oi_bool_i ?_ | with_reducible refine oi_bool_s ?_ | with_reducible refine oi_bool_l ?_ | with_reducible refine oi_bool_t ?_ | with_reducible refine oi_bool_d ?_ | with_reducible refine oi_tuple_n ?_ | with_reducible refine oi_tuple_b ?_ | with_reducible refine oi_tuple_i ?_ | with_reducible refine oi_tuple_s ?_ | with_reducible refine oi_tuple_l ?_ | with_reducible refine oi_tuple_t ?_ | with_reducible refine oi_tuple_d ?_ | with_reducible refine oi_str_n ?_ | with_reducible refine oi_str_b ?_ | with_reducible refine oi_str_i ?_ | with_reducible refine oi_str_s ?_ | with_reducible refine oi_str_l ?_ | with_reducible refine oi_str_t ?_ | with_reducible refine oi_str_d ?_ | with_reducible refine oi_list_n ?_ | with_reducible refine oi_list_b ?_ | with_reducible refine oi_list_i ?_ | with_reducible refine oi_list_s ?_ | with_reducible refine oi_list_l ?_ | with_reducible refine oi_list_t ?_ | with_reducible refine oi_list_d ?_ | with_reducible refine oi_dict_n ?_ | with_reducible refine oi_dict_b ?_ | with_reducible refine oi_dict_i ?_ | with_reducible refine oi_dict_s ?_ | with_reducible refine oi_dict_l ?_ | with_reducible refine oi_dict_t ?_ | with_reducible refine oi_dict_d ?_
  | with_reducible refine o_ix0T ?_ | with_reducible refine o_ix0L ?_ | with_reducible refine o_ix0B ?_ | with_reducible refine o_ix0N ?_ | with_reducible refine o_ix1T ?_ | with_reducible refine o_ix1L ?_ | with_reducible refine o_ix1B ?_ | with_reducible refine o_ix1N ?_ | with_reducible refine o_ix2T ?_ | with_reducible refine o_ix2L ?_ | with_reducible refine o_ix2B ?_ | with_reducible refine o_ix2N ?_ | with_reducible refine o_ix3T ?_ | with_reducible refine o_ix3L ?_ | with_reducible refine o_ix3B ?_ | with_reducible refine o_ix3N ?_
  | with_reducible refine c_t1 ?_ | with_reducible refine c_f1 ?_ | with_reducible refine tr_b ?_ | with_reducible refine tr_i ?_ | with_reducible refine tr_t ?_ | with_reducible refine tr_l ?_ | with_reducible refine tr_lb ?_ | with_reducible refine c_nt ?_ | with_reducible refine c_nf ?_ | with_reducible refine w_chain ?_ | with_reducible refine o_allB ?_ | with_reducible refine o_anyB ?_ | with_reducible refine o_allM ?_ | with_reducible refine o_anyM ?_
  | ((with_reducible refine c_asT ?_ ?_); (with_reducible assumption)) | ((with_reducible refine c_asF ?_ ?_); (with_reducible assumption)) | ((with_reducible refine c_nasT ?_ ?_); (with_reducible assumption)) | ((with_reducible refine c_nasF ?_ ?_); (with_reducible assumption))
  | ((with_reducible refine c_decT ?_ ?_); (first | omega | (simp only [List.length_cons, List.length_nil, List.length_map, List.length_append, rngL_len]; omega)))
  | ((with_reducible refine c_decF ?_ ?_); (first | omega | (simp only [List.length_cons, List.length_nil, List.length_map, List.length_append, rngL_len]; omega)))
  | ((with_reducible refine c_ndecT ?_ ?_); (first | omega | (simp only [List.length_cons, List.length_nil, List.length_map, List.length_append, rngL_len]; omega)))
  | ((with_reducible refine c_ndecF ?_ ?_); (first | omega | (simp only [List.length_cons, List.length_nil, List.length_map, List.length_append, rngL_len]; omega)))
  | ((with_reducible show wp (compL (compF _ (wipeE _ _) _ _) _ _ _) _ _); simp only [wipeE, List.map_cons, List.map_nil, List.set_cons_zero, List.set_cons_succ])
  | dsimp only [List.set_cons_zero, List.set_cons_succ])
local macro_rules | `(tactic| walk_at "ev") => `(tactic| repeat walk_at "ev1")
local macro_rules | `(tactic| walk_at "evs") => `(tactic| repeat' (first | walk_at "ev1" | with_reducible refine c_dec (fun _ => ?_) (fun _ => ?_) | with_reducible refine c_ndec (fun _ => ?_) (fun _ => ?_)))
local macro_rules | `(tactic| walk_at "ev0") => `(tactic| simp only [List.map_cons, List.map_nil, List.length_cons, List.length_nil, List.cons_append, List.nil_append, Nat.reduceAdd, Nat.reduceSub, List.replicate])


theorem wp_any {α : Type} {o : Out α} {Q : α → Store → Prop} {Xp : XP} (h : wp o Q fun _ _ _ => False) : wp o Q Xp := by
  cases o with
  | ok a m => exact h
  | exc _ _ _ => exact h.elim
  | bad => exact h.elim
section
variable {G : Defs} {n : Nat} {m : Store} {Q : Tmp → Store → Prop} {Xp : XP} {d : Int}
theorem dr {many : Int} (hG : G "_law_draw" = some drawFn) (g : D1 m d) (hd : d < 9000000) (h1 : 0 < many) (h2 : many < 1000000000) (h : ∀ i m', 0 ≤ i → i < many → D1 m' (d + 1) → Q (.v (.d (.int i))) m') :
    wp (evF G (n + 1) "_law_draw" [.loc 0, .d (.int many)] m) Q Xp := by
  refine wp_mono (wp_any (draw_ok hG g hd h1 h2)) fun x m' q => ?_
  obtain ⟨i, rfl, h3, h4, h5⟩ := q
  exact h i m' h3 h4 h5
theorem drT {tl : Store} {many : Int} (hG : G "_law_draw" = some drawFn) (g : DT m d tl) (hd : d < 9000000) (h1 : 0 < many) (h2 : many < 1000000000) (h : ∀ i m', 0 ≤ i → i < many → DT m' (d + 1) tl → Q (.v (.d (.int i))) m') :
    wp (evF G (n + 1) "_law_draw" [.loc 0, .d (.int many)] m) Q Xp := by
  refine wp_mono (wp_any (draw_okT hG g hd h1 h2)) fun x m' q => ?_
  obtain ⟨i, rfl, h3, h4, h5⟩ := q
  exact h i m' h3 h4 h5
theorem rngL_map (lo hi : Int) : rngL lo hi = ((List.range (hi - lo).toNat).map fun i : Nat => PyData.int (lo + (i : Nat))).map .d := by
  simp [rngL]
theorem w_compDr {f : Val → Store → Out (Option D)} {Q : List D → Store → Prop} (lo hi b s d : Int) (g : D1 m d)
    (hs : ∀ i m' d', lo ≤ i → i < hi → D1 m' d' → d ≤ d' → d' ≤ d + s * (i - lo) → wp (f (.d (.int i)) m') (fun o m2 => ∃ j, o = some (.int j) ∧ 0 ≤ j ∧ j < b ∧ D1 m2 (d' + s)) fun _ _ _ => False) (h0 : 0 ≤ s) (hl : hi - lo ≤ 10000000)
    (q : ∀ (ps : List Int) m', ps.length = (hi - lo).toNat → (∀ p ∈ ps, 0 ≤ p ∧ p < b) → D1 m' (d + s * ((hi - lo).toNat : Int)) → Q (ps.map .int) m') : wp (compL f (rngL lo hi) m []) Q Xp := by
  refine w_compL (fun i acc m' => ∃ ps : List Int, ps.length = i ∧ acc = ps.map .int ∧ (∀ p ∈ ps, 0 ≤ p ∧ p < b) ∧ D1 m' (d + s * (i : Int))) (fun i x acc m' e hi => ?_) (by rw [rngL_len, show sizeLine = 16777216 from rfl]; omega) ⟨[], rfl, rfl, by simp, by simpa using g⟩ fun ys m' hi => ?_
  · obtain ⟨rfl, hx⟩ := rngL_at e
    obtain ⟨ps, rfl, rfl, hp, g1⟩ := hi
    have e1 : lo + (ps.length : Int) - lo = ps.length := by omega
    have h1 : 0 ≤ s * (ps.length : Int) := Int.mul_nonneg h0 (by omega)
    refine wp_mono (hs (lo + ps.length) m' _ (by omega) hx g1 (by omega) (by rw [e1]; omega)) fun o m2 h => ?_
    obtain ⟨j, rfl, j1, j2, g2⟩ := h
    refine cp_some ⟨ps ++ [j], by simp, by simp, fun p hp2 => ?_, g2.mono (by rw [show ((ps.length + 1 : Nat) : Int) = (ps.length : Int) + 1 by omega, Int.mul_add]; omega)⟩
    rcases List.mem_append.mp hp2 with h | h
    · exact hp p h
    · rw [List.mem_singleton] at h
      subst h
      exact ⟨j1, j2⟩
  · obtain ⟨ps, hl, rfl, hp, g1⟩ := hi
    rw [rngL_len] at hl g1
    exact q ps m' hl hp g1
end

theorem tupcat_ok {xs ys : List D} {P : Tmp → Prop} (hl : xs.length + ys.length ≤ sizeLine) (h : P (.v (.d (.tuple (xs ++ ys))))) : ∃ z, binV .add (.v (.d (.tuple xs))) (.v (.d (.tuple ys))) = some z ∧ P z := ⟨_, by simp only [binV, Tmp.dataX?, Tmp.data?]; rw [if_pos hl], h⟩
namespace MG
def x0_law_machine : Ex := (.call "_law_draw" [(.var 0), (.var 1)] [] [] [.inl 0, .inl 1])
def x1_law_machine : Ex := (.idx (.var 4) (.bin .fdiv (.var 5) (.const (.int 2))))
def c2_law_machine : Te := (.cmp .eq (.idx (.var 4) (.var 8)) (.idx (.var 4) (.var 5)))
def x3_law_machine : Ex := (.var 8)
def b4_law_machine : List Sm := [
  .asg (.name 9) (.bin .add (.var 9) (.tup [(.call "_law_draw" [(.var 0), (.ife (.val (.var 10)) (.bin .add (.var 5) (.const (.int 1))) (.var 3))] [] [] [.inl 0, .inl 1])]))]
def b5_law_machine : List Sm := [
  .asg (.name 7) (.comp x3_law_machine (.name 8) (.rng1 (.var 3)) (some c2_law_machine) [("j", 8)]),
  .freeze 7,
  .asg (.name 9) (.tup [(.idx (.var 7) (.call "_law_draw" [(.var 0), (.bfn .len (.var 7) [])] [] [] [.inl 0, .inl 1]))]),
  .asg (.name 10) (.cmp .eq (.call "_law_draw" [(.var 0), (.const (.int 3))] [] [] [.inl 0, .inl 1]) (.const (.int 0))),
  .forr (.name 8) (.rng1 (.bin .sub (.var 2) (.const (.int 1)))) b4_law_machine,
  .append 6 (.tup [(.idx (.var 4) (.var 5)), (.var 9)])]
def f__law_machine : Fn := ⟨["feed", "base", "turn", "many"], ["feed", "base", "turn", "many", "pieces", "k", "states", "same", "j", "moves", "near"], [
  .asg (.name 4) (.comp x0_law_machine (.name 5) (.rng1 (.var 3)) none [("k", 5)]),
  .freeze 4,
  .ife (.cmp .eq (.call "_law_draw" [(.var 0), (.const (.int 4))] [] [] [.inl 0, .inl 1]) (.const (.int 0)))
  [.asg (.name 4) (.comp x1_law_machine (.name 5) (.rng1 (.var 3)) none [("k", 5)]),
  .freeze 4]
  [],
  .asg (.name 6) (.lst []),
  .forr (.name 5) (.rng1 (.var 3)) b5_law_machine,
  .ret (.tup [(.var 1), (.var 2), (.bfn .tupleOf (.var 6) [])])]⟩
def f__law_some : Fn := ⟨["feed", "most"], ["feed", "most", "base", "turn"], [
  .par 2 3 (.idx (.lst [(.const (.int 2)), (.const (.int 2)), (.const (.int 3)), (.bin .add (.const (.int 1)) (.call "_law_draw" [(.var 0), (.const (.int 5))] [] [] [.inl 0, .inl 1]))]) (.call "_law_draw" [(.var 0), (.const (.int 4))] [] [] [.inl 0, .inl 1])) (.bin .add (.const (.int 2)) (.call "_law_draw" [(.var 0), (.const (.int 3))] [] [] [.inl 0, .inl 1])),
  .ret (.call "_law_machine" [(.var 0), (.var 2), (.var 3), (.bin .add (.const (.int 1)) (.call "_law_draw" [(.var 0), (.var 1)] [] [] [.inl 0, .inl 1]))] [] [] [.inl 0, .inl 1, .inl 2, .inl 3])]⟩
def f__law_same : Fn := ⟨["found", "due"], ["found", "due"], [
  .ret (.cmp .eq (.bfn .repr (.var 0) []) (.bfn .repr (.var 1) []))]⟩

end MG
def stD (s : Int × List Int) : D := .tuple [.int s.1, .tuple (s.2.map .int)]
def mD (base turn : Int) (st : List (Int × List Int)) : D := .tuple [.int base, .int turn, .tuple (st.map stD)]
def sameF (ps : List Int) (q : Int) : D → Bool
  | .int j => decide (ps[j.toNat]? = some q)
  | _ => false
structure MOk (base turn : Int) (st : List (Int × List Int)) : Prop where
  ok : ∀ s ∈ st, 0 ≤ s.1 ∧ s.1 < base ∧ (s.2.length : Int) = turn ∧ ∀ j ∈ s.2, 0 ≤ j ∧ j < st.length
  same : ∀ s ∈ st, ∃ j rest, s.2 = j :: rest ∧ (st[j.toNat]?.map (·.1)) = some s.1
section
variable {G : Defs} {n : Nat} {m : Store} {Q : Tmp → Store → Prop} {Xp : XP} {d base turn many : Int}

theorem machine_gen (hG : G "_law_draw" = some drawFn) (hG2 : G "_law_machine" = some MG.f__law_machine) (g : D1 m d) (hd : d < 8000000) (b1 : 1 ≤ base) (b2 : base ≤ 100000) (t1 : 1 ≤ turn) (t2 : turn ≤ 10) (m1 : 1 ≤ many) (m2 : many ≤ 1000)
    (h : ∀ st m', (st.length : Int) = many → MOk base turn st → D1 m' (d + 20 * many + 20) → Q (.v (.d (mD base turn st))) m') : wp (evF G (n + 2) "_law_machine" [.loc 0, .d (.int base), .d (.int turn), .d (.int many)] m) Q Xp := by
  refine w_run (f := MG.f__law_machine) hG2 rfl ?_
  simp only [MG.f__law_machine]
  walk_at "ev0"
  walk_at "ev"
  refine w_compDr 0 many base 1 d g (fun i m' d' i1 i2 g1 g2 g3 => ?_) (by decide) (by omega) fun ps m1 l1 h1 g1 => ?_
  · walk_at "ev"
    simp only [MG.x0_law_machine]
    walk_at "ev"
    refine dr hG g1 (by omega) (by omega) (by omega) fun i m' h1 h2 g => ?_
    walk_at "ev"
    exact ⟨_, rfl, h1, h2, g⟩
  walk_at "ev"
  refine dr hG g1 (by omega) (by omega) (by omega) fun i m2 i1 i2 g2 => ?_
  have key : ∀ (ps : List Int) m3, (ps.length : Int) = many → (∀ p ∈ ps, 0 ≤ p ∧ p < base) → D1 m3 (d + many + 1) → wp (forL (forF (.name 5) (evSs (evF G (n + 1)) MG.b5_law_machine)) (rngL 0 many)
      [.val (.loc 0), .val (.d (.int base)), .val (.d (.int turn)), .val (.d (.int many)), .val (.d (.list (ps.map .int))), .no, .own (.list []), .no, .no, .no, .no] m3) (Go (evF G (n + 1)) [.ret (.tup [(.var 1), (.var 2), (.bfn .tupleOf (.var 6) [])])] (Rt Q) Xp) Xp := fun ps m3 l1 h1 g1 => by
    have pn : ∀ a : Int, 0 ≤ a → a < many → ∃ p, ps[a.toNat]? = some p ∧ 0 ≤ p ∧ p < base := fun a a1 a2 => by
      have hl : a.toNat < ps.length := by omega
      exact ⟨ps[a.toNat], List.getElem?_eq_getElem hl, h1 _ (List.getElem_mem hl)⟩
    have pa : ∀ (a : Int) p, 0 ≤ a → ps[a.toNat]? = some p → L2.atI (ps.map PyData.int) a = some (.int p) := fun a p a1 e => by
      obtain ⟨j, rfl⟩ := Int.eq_ofNat_of_zero_le a1
      exact atI_nat (by rw [List.getElem?_map]; simp at e; simp [e])
    refine w_forL (fun i r m' => ∃ (st : List (Int × List Int)) (a b c e f : Slot), st.length = i ∧ r = [.val (.loc 0), .val (.d (.int base)), .val (.d (.int turn)), .val (.d (.int many)), .val (.d (.list (ps.map .int))), a, .own (.list (st.map stD)), b, c, e, f] ∧
      (∀ (i : Nat) s, st[i]? = some s → ps[i]? = some s.1 ∧ (s.2.length : Int) = turn ∧ (∀ j ∈ s.2, 0 ≤ j ∧ j < many) ∧ ∃ j rest, s.2 = j :: rest ∧ ps[j.toNat]? = some s.1) ∧ D1 m' (d + many + 1 + (turn + 5) * (i : Int))) _ _ _ (fun i x r m' e hi => ?_) ⟨[], _, _, _, _, _, rfl, rfl, by simp, g1.mono (by omega)⟩ fun r m' hi => ?_
    · obtain ⟨rfl, hx⟩ := rngL_at e
      obtain ⟨st, a, b, c, e', f, rfl, rfl, hst, g2⟩ := hi
      have hq : (turn + 5) * (st.length : Int) ≤ 15 * 1000 := Int.mul_le_mul (by omega) (by omega) (by omega) (by omega)
      obtain ⟨q, q0, q1, q2⟩ := pn (0 + st.length) (by omega) hx
      walk_at "ev"
      simp only [MG.b5_law_machine]
      walk_at "ev"
      rw [rngL_map]
      refine w_compT (sameF ps q) (fun d => d) (fun d hd => ?_) ?_ ?_
      · obtain ⟨j, hj, rfl⟩ := List.mem_map.mp hd
        have hj2 := List.mem_range.mp hj
        obtain ⟨p, p0, p1, p2⟩ := pn (0 + j) (by omega) (by omega)
        walk_at "ev"
        refine ⟨?_, fun _ => ?_⟩
        · simp only [MG.c2_law_machine]
          walk_at "ev"
          refine o_ixL (pa _ _ (by omega) p0) ?_
          walk_at "ev"
          refine o_ixL (pa _ _ (by omega) q0) ?_
          walk_at "ev"
          exact ⟨by simp only [sameF, p0, Option.some.injEq], rfl⟩
        · simp only [MG.x3_law_machine]
          walk_at "ev"
          exact ⟨rfl, rfl⟩
      · rw [List.length_map, List.length_range, show sizeLine = 16777216 from rfl]
        omega
      · rw [List.map_id']
        obtain ⟨sm, hsm⟩ : ∃ sm : List D, sm = List.filter (sameF ps q) ((List.range (many - 0).toNat).map fun i : Nat => PyData.int (0 + (i : Nat))) := ⟨_, rfl⟩
        have smem : ∀ x ∈ sm, ∃ j, x = .int j ∧ 0 ≤ j ∧ j < many ∧ ps[j.toNat]? = some q := fun x hx => by
          rw [hsm] at hx
          obtain ⟨h1, h2⟩ := List.mem_filter.mp hx
          obtain ⟨j, hj, rfl⟩ := List.mem_map.mp h1
          have hj2 := List.mem_range.mp hj
          exact ⟨_, rfl, by omega, by omega, of_decide_eq_true h2⟩
        have sne : 0 < sm.length := by
          refine List.length_pos_of_mem (a := .int (0 + st.length)) ?_
          rw [hsm]
          refine List.mem_filter.mpr ⟨List.mem_map.mpr ⟨st.length, List.mem_range.mpr (by omega), rfl⟩, by simpa [sameF] using q0⟩
        have sle : sm.length ≤ 1000 := by
          rw [hsm]
          refine Nat.le_trans (List.length_filter_le _ _) ?_
          rw [List.length_map, List.length_range]
          omega
        rw [← hsm]
        walk_at "ev"
        refine dr hG g2 (by omega) (by omega) (by omega) fun i m4 i1 i2 g3 => ?_
        have hi : i.toNat < sm.length := by omega
        obtain ⟨j, ej, j1, j2, j3⟩ := smem _ (List.getElem_mem hi)
        have ei : L2.atI sm i = some (.int j) := by
          obtain ⟨i', rfl⟩ := Int.eq_ofNat_of_zero_le i1
          exact atI_nat (by rw [← ej]; simpa using List.getElem?_eq_getElem hi)
        walk_at "ev"
        refine o_ixL ei ?_
        walk_at "ev"
        refine dr hG g3 (by omega) (by omega) (by omega) fun nr m5 _ _ g4 => ?_
        walk_at "ev"
        refine w_forL (fun i r m' => ∃ (ms : List Int) (a : Slot), ms.length = i ∧ r = [.val (.loc 0), .val (.d (.int base)), .val (.d (.int turn)), .val (.d (.int many)), .val (.d (.list (ps.map .int))), .val (.d (.int (0 + st.length))), .own (.list (st.map stD)), .val (.d (.list sm)), a, .val (.d (.tuple ((j :: ms).map .int))), .val (.d (.bool (decide (nr = 0))))] ∧
          (∀ k ∈ ms, 0 ≤ k ∧ k < many) ∧ D1 m' (d + many + 1 + (turn + 5) * (st.length : Int) + 2 + i)) _ _ _ (fun i x r m' e hi => ?_) ⟨[], _, rfl, rfl, by simp, g4.mono (by omega)⟩ fun r m' hi => ?_
        · obtain ⟨rfl, hx2⟩ := rngL_at e
          obtain ⟨ms, a, rfl, rfl, hms, g5⟩ := hi
          walk_at "ev"
          simp only [MG.b4_law_machine]
          walk_at "ev"
          have fin : ∀ v, 0 ≤ v → v < many → ∀ k ∈ ms ++ [v], 0 ≤ k ∧ k < many := fun v v1 v2 k hk => by
            rcases List.mem_append.mp hk with h | h
            · exact hms k h
            · rw [List.mem_singleton] at h
              subst h
              exact ⟨v1, v2⟩
          refine c_dec (fun _ => ?_) (fun _ => ?_)
          · walk_at "ev"
            refine dr hG g5 (by omega) (by omega) (by omega) fun v m6 v1 v2 g6 => ?_
            walk_at "ev"
            refine tupcat_ok ?_ ?_
            · simp only [List.length_map, List.length_cons, List.length_nil]
              exact Nat.le_trans (show _ ≤ 1000 by omega) (by decide)
            walk_at "ev"
            exact ⟨ms ++ [v], _, by simp, by rw [← List.cons_append, List.map_append]; rfl, fin v v1 (by omega), g6.mono (by push_cast; omega)⟩
          · walk_at "ev"
            refine dr hG g5 (by omega) (by omega) (by omega) fun v m6 v1 v2 g6 => ?_
            walk_at "ev"
            refine tupcat_ok ?_ ?_
            · simp only [List.length_map, List.length_cons, List.length_nil]
              exact Nat.le_trans (show _ ≤ 1000 by omega) (by decide)
            walk_at "ev"
            exact ⟨ms ++ [v], _, by simp, by rw [← List.cons_append, List.map_append]; rfl, fin v v1 (by omega), g6.mono (by push_cast; omega)⟩
        · obtain ⟨ms, a, hl, rfl, hms, g5⟩ := hi
          rw [rngL_len] at hl g5
          walk_at "ev"
          refine o_ixL (pa _ _ (by omega) q0) ?_
          walk_at "ev"
          refine ⟨st ++ [(q, j :: ms)], _, _, _, _, _, by simp, by rw [List.map_append]; rfl, fun i s e => ?_, g5.mono (by rw [show ((st.length + 1 : Nat) : Int) = (st.length : Int) + 1 by omega, Int.mul_add]; omega)⟩
          rcases Nat.lt_or_ge i st.length with hi | hi
          · rw [List.getElem?_append_left hi] at e
            exact hst i s e
          · rw [List.getElem?_append_right hi] at e
            have : i = st.length := by
              rcases Nat.eq_or_lt_of_le hi with h | h
              · exact h.symm
              · rw [List.getElem?_eq_none (by simp; omega)] at e
                cases e
            subst this
            simp at e
            subst e
            refine ⟨by simpa using q0, by simp only [List.length_cons]; omega, fun k hk => ?_, j, ms, rfl, j3⟩
            rcases List.mem_cons.mp hk with rfl | hk
            · exact ⟨j1, j2⟩
            · exact hms k hk
    · obtain ⟨st, a, b, c, e', f, hl, rfl, hst, g2⟩ := hi
      rw [rngL_len] at hl g2
      have hq : (turn + 5) * ((many - 0).toNat : Int) = turn * many + 5 * many := by rw [show ((many - 0).toNat : Int) = many by omega, Int.add_mul]
      have hq2 : turn * many ≤ 10 * many := Int.mul_le_mul_of_nonneg_right t2 (by omega)
      walk_at "ev"
      refine h st _ (by omega) ⟨fun s hs => ?_, fun s hs => ?_⟩ (g2.mono (by omega))
      · obtain ⟨i, e⟩ := List.mem_iff_getElem?.mp hs
        obtain ⟨e1, e2, e3, e4⟩ := hst i s e
        obtain ⟨h2, h3⟩ := h1 _ (List.mem_of_getElem? e1)
        exact ⟨h2, h3, e2, fun j hj => by have := e3 j hj; omega⟩
      · obtain ⟨i, e⟩ := List.mem_iff_getElem?.mp hs
        obtain ⟨e1, e2, e3, j, rest, e4, e5⟩ := hst i s e
        refine ⟨j, rest, e4, ?_⟩
        have hj := e3 j (by rw [e4]; simp)
        have hl2 : j.toNat < st.length := by omega
        obtain ⟨e6, _⟩ := hst j.toNat st[j.toNat] (List.getElem?_eq_getElem hl2)
        rw [List.getElem?_eq_getElem hl2, Option.map_some]
        rw [e5] at e6
        exact e6.symm
  walk_at "ev"
  refine c_dec (fun _ => ?_) (fun _ => ?_)
  · walk_at "ev"
    refine w_compDr 0 many base 0 (d + many + 1) (g2.mono (by omega)) (fun i m' d' i1 i2 g1 g2 g3 => ?_) (by decide) (by omega) fun ps' m4 l2 h2 g4 => ?_
    · walk_at "ev"
      simp only [MG.x1_law_machine]
      walk_at "ev"
      have hl : (i / 2).toNat < ps.length := by omega
      have ea : L2.atI (ps.map PyData.int) (i / 2) = some (.int ps[(i / 2).toNat]) := by
        obtain ⟨j, hj⟩ := Int.eq_ofNat_of_zero_le (show 0 ≤ i / 2 by omega)
        simp only [hj] at hl ⊢
        exact atI_nat (by simp at hl; simp [hl])
      refine o_ixL ea ?_
      walk_at "ev"
      exact ⟨_, rfl, (h1 _ (List.getElem_mem hl)).1, (h1 _ (List.getElem_mem hl)).2, g1.mono (by omega)⟩
    · walk_at "ev"
      exact key ps' m4 (by omega) h2 (g4.mono (by omega))
  · walk_at "ev"
    exact key ps m2 (by omega) h1 (g2.mono (by omega))
theorem some_gen {most : Int} (hG : G "_law_draw" = some drawFn) (hG2 : G "_law_machine" = some MG.f__law_machine) (hG3 : G "_law_some" = some MG.f__law_some) (g : D1 m d) (hd : d < 7000000) (m1 : 1 ≤ most) (m2 : most ≤ 1000)
    (h : ∀ base turn st m', 1 ≤ base → base ≤ 5 → 2 ≤ turn → turn ≤ 4 → 1 ≤ st.length → (st.length : Int) ≤ most → MOk base turn st → D1 m' (d + 20 * most + 30) → Q (.v (.d (mD base turn st))) m') : wp (evF G (n + 3) "_law_some" [.loc 0, .d (.int most)] m) Q Xp := by
  refine w_run (f := MG.f__law_some) hG3 rfl ?_
  simp only [MG.f__law_some]
  walk_at "ev0"
  walk_at "ev"
  refine dr hG g (by omega) (by omega) (by omega) fun b m2 b1 b2 g2 => ?_
  walk_at "ev"
  refine dr hG g2 (by omega) (by omega) (by omega) fun z m3 z1 z2 g3 => ?_
  have hb : ∃ base, L2.atI [PyData.int 2, PyData.int 2, PyData.int 3, PyData.int (1 + b)] z = some (.int base) ∧ 1 ≤ base ∧ base ≤ 5 := by
    rcases (by omega : z = 0 ∨ z = 1 ∨ z = 2 ∨ z = 3) with rfl | rfl | rfl | rfl
    · exact ⟨_, rfl, by omega, by omega⟩
    · exact ⟨_, rfl, by omega, by omega⟩
    · exact ⟨_, rfl, by omega, by omega⟩
    · exact ⟨_, rfl, by omega, by omega⟩
  obtain ⟨base, hb, b3, b4⟩ := hb
  refine o_ixN hb ?_
  walk_at "ev"
  refine dr hG g3 (by omega) (by omega) (by omega) fun t m4 t1 t2 g4 => ?_
  walk_at "ev"
  refine ⟨_, _, rfl, rfl, ?_⟩
  walk_at "ev"
  refine dr hG g4 (by omega) (by omega) (by omega) fun y m5 y1 y2 g5 => ?_
  walk_at "ev"
  refine machine_gen hG hG2 g5 (by omega) (by omega) (by omega) (by omega) (by omega) (by omega) (by omega) fun st m6 l1 ok g6 => ?_
  walk_at "ev"
  exact h base (2 + t) st m6 b3 b4 (by omega) (by omega) (by omega) (by omega) ok (g6.mono (by omega))
theorem same_ok {x y : D} {k l : Nat} (hG : G "_law_same" = some MG.f__law_same) (hx : SD x k l) (hk : k ≤ 64) (hl : l ≤ 230000) (hy : y = x) (h : Q (.v (.d (.bool true))) m) : wp (evF G (n + 1) "_law_same" [.d x, .d y] m) Q Xp := by
  subst hy
  refine w_run (f := MG.f__law_same) hG rfl ?_
  simp only [MG.f__law_same]
  walk_at "ev0"
  walk_at "ev"
  refine o_reprS hx hk hl ?_
  walk_at "ev"
  refine o_reprS hx hk hl ?_
  walk_at "ev"
  simpa using h
end
theorem sd_int {i : Int} {k : Nat} (h : i.natAbs < 10 ^ 60) : SD (.int i) k 1 := ⟨by simpa [sd] using h, by simp [PyData.depth], by simp [nod]⟩
theorem nodAll_le {xs : List D} {w : Nat} (h : ∀ x ∈ xs, nod x ≤ w) : nodAll xs ≤ xs.length * w := by
  induction xs with
  | nil => simp [nodAll]
  | cons x xs ih =>
    have a := h x (List.mem_cons_self ..)
    have b := ih fun y hy => h y (List.mem_cons_of_mem _ hy)
    simp only [nodAll, List.length_cons, Nat.succ_mul]
    omega
theorem SD.tupW {xs : List D} {k w n : Nat} (h : ∀ x ∈ xs, SD x k w) (hn : xs.length ≤ n) : SD (.tuple xs) (k + 1) (n * w + 1) :=
  .tup (fun x hx => ⟨(h x hx).s, (h x hx).dep⟩) (Nat.le_trans (nodAll_le fun x hx => (h x hx).nod) (Nat.mul_le_mul_right _ hn))
theorem SD.listW {xs : List D} {k w n : Nat} (h : ∀ x ∈ xs, SD x k w) (hn : xs.length ≤ n) : SD (.list xs) (k + 1) (n * w + 1) :=
  .list (fun x hx => ⟨(h x hx).s, (h x hx).dep⟩) (Nat.le_trans (nodAll_le fun x hx => (h x hx).nod) (Nat.mul_le_mul_right _ hn))
theorem SD.t0 {k n : Nat} : SD (.tuple []) (k + 1) (n + 1) := .tup (fun _ h => nomatch h) (Nat.zero_le _)
theorem SD.tcons {x : D} {xs : List D} {k n n' : Nat} (h : SD x k n) (t : SD (.tuple xs) (k + 1) n') : SD (.tuple (x :: xs)) (k + 1) (n' + n) := by
  obtain ⟨a, b⟩ := t.items
  refine ⟨by simp only [sd, sdAll, Bool.and_eq_true]; exact ⟨h.s, sdAll_iff.mpr fun y hy => (a y hy).1⟩, ?_, ?_⟩
  · have := t.dep
    have := h.dep
    simp only [PyData.depth, PyData.depthAll] at *
    omega
  · have := h.nod
    simp only [Ev.nod, nodAll]
    omega
theorem sd_ints {ps : List Int} {n : Nat} (h : ∀ p ∈ ps, p.natAbs < 10 ^ 60) (hn : ps.length ≤ n) : SD (.tuple (ps.map .int)) 1 (n + 1) := by
  have := SD.tupW (xs := ps.map .int) (k := 0) (w := 1) (n := n) (fun x hx => by
    obtain ⟨p, hp, rfl⟩ := List.mem_map.mp hx
    exact sd_int (h p hp)) (by rw [List.length_map]; exact hn)
  simpa using this
theorem sd_m {base turn : Int} {st : List (Int × List Int)} (h : MOk base turn st) (hb : base ≤ 100000) (hb0 : 0 ≤ base) (ht : turn ≤ 10) (ht0 : 0 ≤ turn) (hl : st.length ≤ 1000) : SD (mD base turn st) 4 14100 := by
  have s : ∀ x ∈ st.map stD, SD x 2 14 := fun x hx => by
    obtain ⟨s, hs, rfl⟩ := List.mem_map.mp hx
    obtain ⟨h1, h2, h3, h4⟩ := h.ok s hs
    have z : (100000 : Nat) < 10 ^ 60 := by decide
    exact (SD.tcons (sd_int (by omega)) (.tcons ((sd_ints (n := 10) (fun p hp => by have := h4 p hp; omega) (by omega))) (.t0 (n := 0)))).mono (by decide) (by decide)
  have z : (100000 : Nat) < 10 ^ 60 := by decide
  exact (SD.tcons (sd_int (by omega)) (.tcons (sd_int (by omega)) (.tcons (SD.tupW (n := 1000) s (by rw [List.length_map]; exact hl)) (.t0 (n := 0))))).mono (by decide) (by decide)
end Ev
set_option Elab.async false
set_option linter.all false
set_option maxHeartbeats 4000000
namespace Ev
open PySem L2
mutual
def ib (B : Nat) : D → Bool
  | .int i => decide (i.natAbs ≤ B)
  | .list xs => ibAll B xs
  | .tuple xs => ibAll B xs
  | .str x => x.cps.toList.all fun c => decide (c < 128)
  | _ => true
def ibAll (B : Nat) : List D → Bool
  | [] => true
  | x :: xs => ib B x && ibAll B xs
end
theorem ibAll_iff {B : Nat} {xs : List D} : ibAll B xs = true ↔ ∀ x ∈ xs, ib B x = true := by
  induction xs with
  | nil => simp [ibAll]
  | cons x xs ih => simp [ibAll, ih]
mutual
theorem ib_mono {B C : Nat} (h : B ≤ C) : ∀ d : D, ib B d = true → ib C d = true
  | .int i, e => by simp only [ib, decide_eq_true_eq] at *; omega
  | .list xs, e => by simp only [ib] at *; exact ibAll_mono h xs e
  | .tuple xs, e => by simp only [ib] at *; exact ibAll_mono h xs e
  | .none, _ => rfl
  | .bool _, _ => rfl
  | .str _, e => by simpa only [ib] using e
  | .dict _, _ => rfl
theorem ibAll_mono {B C : Nat} (h : B ≤ C) : ∀ xs : List D, ibAll B xs = true → ibAll C xs = true
  | [], _ => rfl
  | x :: xs, e => by
    simp only [ibAll, Bool.and_eq_true] at *
    exact ⟨ib_mono h x e.1, ibAll_mono h xs e.2⟩
end
structure SB (d : D) (k n B : Nat) : Prop where
  sd : SD d k n
  ib : ib B d = true
structure TB (xs : List D) (k n B : Nat) : Prop where
  el : ∀ x ∈ xs, Ev.sd x = true ∧ x.depth ≤ k ∧ Ev.ib B x = true
  nod : nodAll xs ≤ n
theorem SB.mono {d : D} {k n B k' n' B' : Nat} (h : SB d k n B) (h1 : k ≤ k' := by omega) (h2 : n ≤ n' := by omega) (h3 : B ≤ B' := by omega) : SB d k' n' B' := ⟨h.sd.mono h1 h2, ib_mono h3 _ h.ib⟩
theorem TB.mono {xs : List D} {k n B k' n' B' : Nat} (h : TB xs k n B) (h1 : k ≤ k' := by omega) (h2 : n ≤ n' := by omega) (h3 : B ≤ B' := by omega) : TB xs k' n' B' :=
  ⟨fun x hx => let ⟨a, b, c⟩ := h.el x hx; ⟨a, Nat.le_trans b h1, ib_mono h3 _ c⟩, Nat.le_trans h.nod h2⟩
theorem TB.tup {xs : List D} {k n B : Nat} (h : TB xs k n B) : SB (.tuple xs) (k + 1) (n + 1) B :=
  ⟨.tup (fun x hx => let ⟨a, b, _⟩ := h.el x hx; ⟨a, b⟩) h.nod, by simp only [Ev.ib]; exact ibAll_iff.mpr fun x hx => (h.el x hx).2.2⟩
theorem TB.list {xs : List D} {k n B : Nat} (h : TB xs k n B) : SB (.list xs) (k + 1) (n + 1) B :=
  ⟨.list (fun x hx => let ⟨a, b, _⟩ := h.el x hx; ⟨a, b⟩) h.nod, by simp only [Ev.ib]; exact ibAll_iff.mpr fun x hx => (h.el x hx).2.2⟩
theorem SB.items {xs : List D} {k n B : Nat} (h : SB (.tuple xs) (k + 1) (n + 1) B) : TB xs k n B := by
  obtain ⟨a, b⟩ := h.sd.items
  have c := h.ib
  simp only [Ev.ib] at c
  exact ⟨fun x hx => ⟨(a x hx).1, by have := (a x hx).2; omega, ibAll_iff.mp c x hx⟩, by omega⟩
theorem SB.pos {xs : List D} {k n B : Nat} (h : SB (.tuple xs) k n B) : ∃ k' n', k = k' + 1 ∧ n = n' + 1 := by
  have a := h.sd.dep
  have b := h.sd.nod
  simp only [PyData.depth] at a
  simp only [Ev.nod] at b
  exact ⟨k - 1, n - 1, by omega, by omega⟩
theorem TB.nil {k n B : Nat} : TB [] k n B := ⟨fun _ h => (nomatch h), Nat.zero_le _⟩
theorem TB.cons {x : D} {xs : List D} {k n n' B : Nat} (h : SB x k n B) (t : TB xs k n' B) : TB (x :: xs) k (n + n') B :=
  ⟨fun y hy => by
    rcases List.mem_cons.mp hy with rfl | hy
    · exact ⟨h.sd.s, h.sd.dep, h.ib⟩
    · exact t.el y hy, by have := h.sd.nod; have := t.nod; simp only [nodAll]; omega⟩
theorem TB.append {xs ys : List D} {k n n' B : Nat} (h : TB xs k n B) (t : TB ys k n' B) : TB (xs ++ ys) k (n + n') B :=
  ⟨fun y hy => by
    rcases List.mem_append.mp hy with hy | hy
    · exact h.el y hy
    · exact t.el y hy, by have := h.nod; have := t.nod; rw [nodAll_append]; omega⟩
theorem TB.mem {xs : List D} {x : D} {k n B : Nat} (h : TB xs k n B) (hx : x ∈ xs) : SB x k n B :=
  let ⟨a, b, c⟩ := h.el x hx; ⟨⟨a, b, Nat.le_trans (nodAll_mem hx) h.nod⟩, c⟩
theorem TB.len {xs : List D} {k n B : Nat} (h : TB xs k n B) : xs.length ≤ n := Nat.le_trans (nodAll_len xs) h.nod
theorem TB.rev {xs : List D} {k n B : Nat} (h : TB xs k n B) : TB xs.reverse k n B :=
  ⟨fun x hx => h.el x (List.mem_reverse.mp hx), by
    have : ∀ ys : List D, nodAll ys.reverse = nodAll ys := fun ys => by
      induction ys with
      | nil => rfl
      | cons y ys ih => rw [List.reverse_cons, nodAll_append, ih]; simp only [nodAll]; omega
    rw [this]; exact h.nod⟩
theorem TB.take {xs : List D} {k n B : Nat} (h : TB xs k n B) (i : Nat) : TB (xs.take i) k n B :=
  ⟨fun x hx => h.el x (List.mem_of_mem_take hx), by have := nodAll_take xs i; have := h.nod; omega⟩
theorem TB.drop {xs : List D} {k n B : Nat} (h : TB xs k n B) (i : Nat) : TB (xs.drop i) k n B :=
  ⟨fun x hx => h.el x (List.mem_of_mem_drop hx), by have := nodAll_take xs i; have := h.nod; omega⟩
theorem TB.cut {xs : List D} {k n B : Nat} (h : TB xs k n B) (lo hi : Option Int) : TB (cut xs lo hi) k n B := (h.drop _).take _
def asc (x : Str) : Prop := ∀ c ∈ x.cps.toList, c < 128
theorem sb_str {x : Str} {k n B : Nat} (h : asc x) (hn : 1 + x.cps.size ≤ n) : SB (.str x) k n B :=
  ⟨⟨by
    simp only [sd, PyData.strOk]
    rw [Array.all_eq_true']
    intro c hc
    have := h c (by simpa using hc)
    simp; omega, by simp [PyData.depth], by simpa [nod] using hn⟩, by simp only [ib, List.all_eq_true, decide_eq_true_eq]; exact h⟩
theorem SB.asc {x : Str} {k n B : Nat} (h : SB (.str x) k n B) : Ev.asc x ∧ 1 + x.cps.size ≤ n := by
  have a := h.ib
  have b := h.sd.nod
  simp only [Ev.ib, List.all_eq_true, decide_eq_true_eq] at a
  simp only [Ev.nod] at b
  exact ⟨a, b⟩
theorem SB.shaped {d : D} {k n B : Nat} (h : SB d k n B) (hk : k ≤ 64) : SeqAt.shaped d = true := h.sd.shaped hk
section
variable {xs : List D} {lo hi : Option Int} {P : Tmp → Prop}
theorem o_slT (h : P (.v (.d (.tuple (cut xs lo hi))))) : ∃ z, sliceV (.v (.d (.tuple xs))) lo hi = some z ∧ P z := ⟨_, rfl, h⟩
theorem o_slL (h : P (.new (.list (cut xs lo hi)))) : ∃ z, sliceV (.v (.d (.list xs))) lo hi = some z ∧ P z := ⟨_, rfl, h⟩
theorem o_slB (h : P (.new (.list (cut xs lo hi)))) : ∃ z, sliceV (.bor (.list xs)) lo hi = some z ∧ P z := ⟨_, rfl, h⟩
theorem o_slN (h : P (.new (.list (cut xs lo hi)))) : ∃ z, sliceV (.new (.list xs)) lo hi = some z ∧ P z := ⟨_, rfl, h⟩
theorem o_slS {ns : List Int} (h : P (.new (.list ((cut ns lo hi).map .int)))) : ∃ z, sliceV (.v (.script ns)) lo hi = some z ∧ P z := ⟨_, rfl, h⟩
end
section
variable {xs ys : List D} {P : Tmp → Prop}
end
theorem sIx_nat {n d : Nat} {i : Int} (h1 : 0 ≤ i) (h2 : i ≤ n) : HT.sIx n d (some i) = i.toNat := by
  show (if i < 0 then (i + (n : Int)).toNat else min i.toNat n) = i.toNat
  rw [if_neg (by omega)]
  omega
theorem cut_hi {α : Type} {xs : List α} {i : Int} (h1 : 0 ≤ i) (h2 : i ≤ xs.length) : cut xs none (some i) = xs.take i.toNat := by
  unfold cut
  rw [sIx_nat h1 h2]
  simp [HT.sIx]
theorem TB.exact {xs : List D} {k n B : Nat} (h : TB xs k n B) : TB xs k (nodAll xs) B := ⟨h.el, Nat.le_refl _⟩
theorem SB.exact {x : D} {k n B : Nat} (h : SB x k n B) : SB x k (Ev.nod x) B := ⟨⟨h.sd.s, h.sd.dep, Nat.le_refl _⟩, h.ib⟩
theorem TB.all {xs : List D} {k w B n : Nat} (h : ∀ x ∈ xs, SB x k w B) (hn : xs.length ≤ n) : TB xs k (n * w) B :=
  ⟨fun x hx => let a := h x hx; ⟨a.sd.s, a.sd.dep, a.ib⟩, Nat.le_trans (nodAll_le fun x hx => (h x hx).sd.nod) (Nat.mul_le_mul_right _ hn)⟩
end Ev
set_option Elab.async false
set_option linter.all false
set_option maxHeartbeats 4000000
namespace Ev
open PySem L2
section
variable {m : Store} {P : Tmp → Prop} {A : Bool → Prop} {x y : Str} {i j k : Int} {b : Bool} {xs : List D} {st : Bool}
theorem o_intI (h : P (.v (.d (.int i)))) : ∃ z, bfnV .intOf [.v (.d (.int i))] m = some z ∧ P z := ⟨_, rfl, h⟩
theorem o_intB (h : P (.v (.d (.int (if b then 1 else 0))))) : ∃ z, bfnV .intOf [.v (.d (.bool b))] m = some z ∧ P z := ⟨_, rfl, h⟩
theorem o_strB (h : P (.v (.d (.str (PyData.shown (.bool b)))))) : ∃ z, bfnV .strOf [.v (.d (.bool b))] m = some z ∧ P z := ⟨_, rfl, h⟩
theorem o_strS (h : P (.v (.d (.str x)))) : ∃ z, bfnV .strOf [.v (.d (.str x))] m = some z ∧ P z := ⟨_, rfl, h⟩
theorem o_inSg {c : Nat} {z : Str} (a : A (decide (c ∈ z.cps.toList))) : ∃ k, cmpV .inn (.v (.d (.str ⟨#[c]⟩))) (.v (.d (.str z))) = some k ∧ A k := ⟨_, rfl, a⟩
theorem o_ninSg {c : Nat} {z : Str} (a : A (!decide (c ∈ z.cps.toList))) : ∃ k, cmpV .notin (.v (.d (.str ⟨#[c]⟩))) (.v (.d (.str z))) = some k ∧ A k := ⟨_, rfl, a⟩
theorem i_vs {B : List D → Prop} (h : B (signs x)) : ∃ ys, (Tmp.v (.d (.str x))).itemsS? st = some ys ∧ B ys := ⟨signs x, by cases st <;> rfl, h⟩
theorem o_addBI (h : P (.v (.d (.int ((if b then 1 else 0) + j))))) : ∃ z, binV .add (.v (.d (.bool b))) (.v (.d (.int j))) = some z ∧ P z := ⟨_, rfl, h⟩
theorem o_addS (hz : x.length + y.length ≤ 16777216) (h : P (.v (.d (.str (x ++ y))))) : ∃ z, binV .add (.v (.d (.str x))) (.v (.d (.str y))) = some z ∧ P z := ⟨_, by simp only [binV, Tmp.dataX?, Tmp.data?]; exact if_pos hz, h⟩
theorem shaped_bool : SeqAt.shaped (.bool b) = true := by simp [SeqAt.shaped, PyData.canLay0, PyData.depth]
theorem o_eqBI (a : A ((if b then 1 else 0) == j)) : ∃ k, cmpV .eq (.v (.d (.bool b))) (.v (.d (.int j))) = some k ∧ A k := ⟨_, by
  simp only [cmpV, Tmp.dataX?, Tmp.data?, eqD, shaped_int, shaped_bool, PyData.eqv]; rfl, a⟩
end
def strG (n : Nat) : D → Bool
  | .str z => (z.cps.toList.all fun c => decide (c < 128)) && decide (z.cps.size ≤ n)
  | _ => false
end Ev
set_option Elab.async false
set_option linter.all false
set_option maxHeartbeats 4000000
namespace Ev
open PySem L2
local macro_rules | `(tactic| walk_at "ev1") => `(tactic| first
  | with_reducible refine Ev.w_asg ?_ | with_reducible refine Ev.w_asgS ?_ | with_reducible refine Ev.w_ife ?_ | with_reducible refine Ev.w_ret ?_ | with_reducible refine Ev.w_seti ?_ | with_reducible refine Ev.w_append ?_ | with_reducible refine Ev.w_for ?_
  | with_reducible refine Ev.w_nil ?_ | with_reducible refine Ev.w_par ?_ | with_reducible refine Ev.w_setOwn ?_ | with_reducible refine Ev.w_addi ?_ | with_reducible refine Ev.w_subi ?_ | with_reducible refine Ev.w_popA ?_ | with_reducible refine Ev.w_expr ?_
  | with_reducible refine Ev.w_retN ?_ | with_reducible refine Ev.w_brk ?_ | with_reducible refine Ev.w_cont ?_ | with_reducible refine Ev.w_pass ?_ | with_reducible refine Ev.w_whil ?_
  | ((with_reducible refine Ev.w_val' ?_); (refine ⟨_, rfl, ?_⟩)) | ((with_reducible refine Ev.w_own' ?_); (refine ⟨_, rfl, ?_⟩)) | with_reducible refine Ev.w_const ?_ | with_reducible refine Ev.w_glob ?_ | with_reducible refine Ev.w_globS ?_ | with_reducible refine Ev.w_globT ?_ | with_reducible refine Ev.w_tup ?_ | with_reducible refine Ev.w_lst ?_ | with_reducible refine Ev.w_box ?_
  | with_reducible refine Ev.w_dbox ?_ | with_reducible refine Ev.w_bin ?_ | with_reducible refine Ev.w_neg' ?_ | with_reducible refine Ev.w_cmp' ?_ | with_reducible refine Ev.w_not' ?_ | with_reducible refine Ev.w_and' ?_ | with_reducible refine Ev.w_or' ?_ | with_reducible refine Ev.w_if ?_
  | with_reducible refine Ev.w_get1 ?_ | with_reducible refine Ev.w_get2 ?_ | with_reducible refine Ev.w_din ?_ | with_reducible refine Ev.w_dinN ?_ | with_reducible refine Ev.w_tdin ?_ | with_reducible refine Ev.w_tdinN ?_ | with_reducible refine Ev.w_dnewK ?_ | with_reducible refine Ev.w_dnewT ?_
  | with_reducible refine Ev.w_idx ?_ | with_reducible refine Ev.w_slice ?_ | with_reducible refine Ev.w_rev ?_ | with_reducible refine Ev.w_call ?_ | with_reducible refine Ev.w_bfn ?_ | with_reducible refine Ev.w_isi ?_ | with_reducible refine Ev.w_comp ?_
  | with_reducible refine Ev.w_vnil ?_ | with_reducible refine Ev.w_vcons ?_ | with_reducible refine Ev.w_dnil ?_ | with_reducible refine Ev.w_dcons ?_ | with_reducible refine Ev.w_tnil ?_ | with_reducible refine Ev.w_tcons ?_ | with_reducible refine Ev.w_onone ?_ | with_reducible refine Ev.w_osome ?_
  | with_reducible refine Ev.w_tval ?_ | with_reducible refine Ev.w_tcmp ?_ | with_reducible refine Ev.w_tchain ?_ | with_reducible refine Ev.w_tand ?_ | with_reducible refine Ev.w_tor ?_ | with_reducible refine Ev.w_tnot ?_
  | with_reducible refine Ev.w_rng1 ?_ | with_reducible refine Ev.w_rng2 ?_ | with_reducible refine Ev.w_seq ?_ | with_reducible refine Ev.w_enum ?_ | with_reducible refine Ev.w_zip ?_
  | ((with_reducible refine Ev.w_retOwn' ?_); (refine ⟨_, rfl, ?_⟩)) | ((with_reducible refine Ev.w_frz' ?_); (refine ⟨_, rfl, ?_⟩); dsimp only [List.set_cons_zero, List.set_cons_succ])
  | with_reducible refine Ev.go_nx ?_ | with_reducible refine Ev.go_rt ?_ | with_reducible refine Ev.go_bk ?_ | with_reducible refine Ev.go_ct ?_ | with_reducible refine Ev.rt_rt ?_ | with_reducible refine Ev.rt_nx ?_
  | ((with_reducible refine Ev.a_v ?_ ?_); (rfl); dsimp only [List.set_cons_zero, List.set_cons_succ]) | ((with_reducible refine Ev.a_n ?_ ?_); (rfl); dsimp only [List.set_cons_zero, List.set_cons_succ])
  | ((with_reducible refine Ev.a_t2 ?_ ?_ ?_); (rfl); (rfl); dsimp only [List.set_cons_zero, List.set_cons_succ])
  | ((with_reducible refine Ev.f_v ?_ ?_); (rfl); dsimp only [List.set_cons_zero, List.set_cons_succ]) | ((with_reducible refine Ev.f_t2 ?_ ?_ ?_); (rfl); (rfl); dsimp only [List.set_cons_zero, List.set_cons_succ])
  | with_reducible refine Ev.lp_nx ?_ | with_reducible refine Ev.lp_ct ?_ | with_reducible refine Ev.lp_bk ?_ | with_reducible refine Ev.lp_rt ?_ | with_reducible refine Ev.cp_some ?_ | with_reducible refine Ev.cp_none ?_ | with_reducible refine Ev.w_forF ?_ | with_reducible refine Ev.w_compF0 ?_ | with_reducible refine Ev.w_compF ?_
  | with_reducible refine Ev.o_add ?_ | with_reducible refine Ev.o_sub ?_ | with_reducible refine Ev.o_gt ?_ | with_reducible refine Ev.o_lt ?_ | with_reducible refine Ev.o_le ?_ | with_reducible refine Ev.o_ge ?_ | with_reducible refine Ev.o_eqI ?_ | with_reducible refine Ev.o_neI ?_
  | with_reducible refine Ev.o_lenL ?_ | with_reducible refine Ev.o_lenT ?_ | with_reducible refine Ev.o_lenB ?_ | with_reducible refine Ev.o_lenN ?_
  | ((with_reducible refine Ev.o_modP ?_ ?_); (omega)) | ((with_reducible refine Ev.o_fdivP ?_ ?_ ?_); (omega); (omega)) | ((with_reducible refine Ev.o_powP ?_ ?_ ?_); (omega); (omega))
  | ((with_reducible refine Ev.o_mulA ?_ ?_); (omega)) | ((with_reducible refine Ev.o_mulB ?_ ?_); (omega))
  | ((with_reducible refine Ev.sz_ok ?_ ?_); (rfl)) | ((with_reducible refine Ev.ap_ok ?_ ?_); (first | omega | (simp only [List.length_map, List.length_append, List.length_cons, List.length_nil]; omega))) | ((with_reducible refine Ev.g_rng ?_ ?_); (omega)) | ((with_reducible refine Ev.g_rng2 ?_ ?_); (omega)) | with_reducible refine Ev.i_vl ?_ | with_reducible refine Ev.i_vt ?_ | with_reducible refine Ev.i_n ?_ | with_reducible refine Ev.i_b ?_
  | with_reducible refine Ev.o_strEq ?_ | with_reducible refine Ev.o_strNe ?_ | with_reducible refine Ev.o_revVL ?_ | with_reducible refine Ev.o_revVT ?_ | with_reducible refine Ev.o_revN ?_ | with_reducible refine Ev.o_revB ?_ | with_reducible refine Ev.o_tupVL ?_ | with_reducible refine Ev.o_tupVT ?_ | with_reducible refine Ev.o_tupN ?_ | with_reducible refine Ev.o_tupB ?_ | with_reducible refine Ev.o_lstVL ?_ | with_reducible refine Ev.o_lstVT ?_ | with_reducible refine Ev.o_lstN ?_ | with_reducible refine Ev.o_lstB ?_
  | ((with_reducible refine Ev.zipI ?_); (first | refine ⟨_, _, .inl ⟨rfl, rfl⟩, ?_⟩ | refine ⟨_, _, .inr ⟨rfl, rfl⟩, ?_⟩)) | ((with_reducible refine Ev.o_ixTc ?_); (refine ⟨_, rfl, ?_⟩)) | ((with_reducible refine Ev.o_ixLc ?_); (refine ⟨_, rfl, ?_⟩)) | ((with_reducible refine Ev.o_ixNc ?_); (refine ⟨_, rfl, ?_⟩)) | ((with_reducible refine Ev.fillI ?_); (refine ⟨_, rfl, ?_⟩)) | ((with_reducible refine Ev.ownI ?_); (refine ⟨_, rfl, ?_⟩)) | ((with_reducible refine Ev.addiI ?_); (refine ⟨_, rfl, ?_⟩))
  | with_reducible refine Ev.b_ok' ?_ | with_reducible refine Ev.g_int ?_ | with_reducible refine Ev.v_v ?_ | with_reducible refine Ev.v_n ?_ | with_reducible refine Ev.d_v ?_ | with_reducible refine Ev.d_n ?_ | with_reducible refine Ev.r_v ?_ | with_reducible refine Ev.r_n ?_ | with_reducible refine Ev.c_t ?_ | with_reducible refine Ev.c_f ?_
  | with_reducible refine Ev.oi_int_n ?_ | with_reducible refine Ev.oi_int_b ?_ | with_reducible refine Ev.oi_int_i ?_ | with_reducible refine Ev.oi_int_s ?_ | with_reducible refine Ev.oi_int_l ?_ | with_reducible refine Ev.oi_int_t ?_ | with_reducible refine Ev.oi_int_d ?_ | with_reducible refine Ev.oi_bool_n ?_ | with_reducible refine Ev.oi_bool_b ?_ | with_reducible refine Ev.oi_bool_i ?_ | with_reducible refine Ev.oi_bool_s ?_ | with_reducible refine Ev.oi_bool_l ?_ | with_reducible refine Ev.oi_bool_t ?_ | with_reducible refine Ev.oi_bool_d ?_ | with_reducible refine Ev.oi_tuple_n ?_ | with_reducible refine Ev.oi_tuple_b ?_ | with_reducible refine Ev.oi_tuple_i ?_ | with_reducible refine Ev.oi_tuple_s ?_ | with_reducible refine Ev.oi_tuple_l ?_ | with_reducible refine Ev.oi_tuple_t ?_ | with_reducible refine Ev.oi_tuple_d ?_ | with_reducible refine Ev.oi_str_n ?_ | with_reducible refine Ev.oi_str_b ?_ | with_reducible refine Ev.oi_str_i ?_ | with_reducible refine Ev.oi_str_s ?_ | with_reducible refine Ev.oi_str_l ?_ | with_reducible refine Ev.oi_str_t ?_ | with_reducible refine Ev.oi_str_d ?_ | with_reducible refine Ev.oi_list_n ?_ | with_reducible refine Ev.oi_list_b ?_ | with_reducible refine Ev.oi_list_i ?_ | with_reducible refine Ev.oi_list_s ?_ | with_reducible refine Ev.oi_list_l ?_ | with_reducible refine Ev.oi_list_t ?_ | with_reducible refine Ev.oi_list_d ?_ | with_reducible refine Ev.oi_dict_n ?_ | with_reducible refine Ev.oi_dict_b ?_ | with_reducible refine Ev.oi_dict_i ?_ | with_reducible refine Ev.oi_dict_s ?_ | with_reducible refine Ev.oi_dict_l ?_ | with_reducible refine Ev.oi_dict_t ?_ | with_reducible refine Ev.oi_dict_d ?_
  | with_reducible refine Ev.o_ix0T ?_ | with_reducible refine Ev.o_ix0L ?_ | with_reducible refine Ev.o_ix0B ?_ | with_reducible refine Ev.o_ix0N ?_ | with_reducible refine Ev.o_ix1T ?_ | with_reducible refine Ev.o_ix1L ?_ | with_reducible refine Ev.o_ix1B ?_ | with_reducible refine Ev.o_ix1N ?_ | with_reducible refine Ev.o_ix2T ?_ | with_reducible refine Ev.o_ix2L ?_ | with_reducible refine Ev.o_ix2B ?_ | with_reducible refine Ev.o_ix2N ?_ | with_reducible refine Ev.o_ix3T ?_ | with_reducible refine Ev.o_ix3L ?_ | with_reducible refine Ev.o_ix3B ?_ | with_reducible refine Ev.o_ix3N ?_
  | with_reducible refine Ev.w_m0 ?_ | with_reducible refine Ev.o_intI ?_ | with_reducible refine Ev.o_intB ?_ | with_reducible refine Ev.o_strB ?_ | with_reducible refine Ev.o_strS ?_ | with_reducible refine Ev.o_inSg ?_ | with_reducible refine Ev.o_ninSg ?_ | with_reducible refine Ev.i_vs ?_ | with_reducible refine Ev.o_addBI ?_ | with_reducible refine Ev.o_eqBI ?_
  | ((with_reducible refine Ev.a_tupI ?_); (refine ⟨_, rfl, ?_⟩)) | ((with_reducible refine Ev.f_tupI ?_); (refine ⟨_, rfl, ?_⟩)) | ((with_reducible refine Ev.w_frzV ?_); (refine ⟨_, rfl, ?_⟩)) | with_reducible refine Ev.o_slT ?_ | with_reducible refine Ev.o_slL ?_ | with_reducible refine Ev.o_slB ?_ | with_reducible refine Ev.o_slN ?_ | with_reducible refine Ev.o_slS ?_
  | with_reducible refine Ev.c_t1 ?_ | with_reducible refine Ev.c_f1 ?_ | with_reducible refine Ev.tr_b ?_ | with_reducible refine Ev.tr_i ?_ | with_reducible refine Ev.tr_t ?_ | with_reducible refine Ev.tr_l ?_ | with_reducible refine Ev.tr_lb ?_ | with_reducible refine Ev.c_nt ?_ | with_reducible refine Ev.c_nf ?_ | with_reducible refine Ev.w_chain ?_ | with_reducible refine Ev.o_allB ?_ | with_reducible refine Ev.o_anyB ?_ | with_reducible refine Ev.o_allM ?_ | with_reducible refine Ev.o_anyM ?_
  | ((with_reducible refine Ev.c_asT ?_ ?_); (with_reducible assumption)) | ((with_reducible refine Ev.c_asF ?_ ?_); (with_reducible assumption)) | ((with_reducible refine Ev.c_nasT ?_ ?_); (with_reducible assumption)) | ((with_reducible refine Ev.c_nasF ?_ ?_); (with_reducible assumption))
  | ((with_reducible refine Ev.c_decT ?_ ?_); (first | omega | (simp only [List.length_cons, List.length_nil, List.length_map, List.length_append, rngL_len]; omega)))
  | ((with_reducible refine Ev.c_decF ?_ ?_); (first | omega | (simp only [List.length_cons, List.length_nil, List.length_map, List.length_append, rngL_len]; omega)))
  | ((with_reducible refine Ev.c_ndecT ?_ ?_); (first | omega | (simp only [List.length_cons, List.length_nil, List.length_map, List.length_append, rngL_len]; omega)))
  | ((with_reducible refine Ev.c_ndecF ?_ ?_); (first | omega | (simp only [List.length_cons, List.length_nil, List.length_map, List.length_append, rngL_len]; omega)))
  | ((with_reducible show wp (compL (compF _ (wipeE _ _) _ _) _ _ _) _ _); simp only [wipeE, List.map_cons, List.map_nil, List.set_cons_zero, List.set_cons_succ])
  | dsimp only [List.set_cons_zero, List.set_cons_succ])
local macro_rules | `(tactic| walk_at "ex1") => `(tactic| first
  | with_reducible refine Ev.w_asg ?_ | with_reducible refine Ev.w_asgS ?_ | with_reducible refine Ev.w_ife ?_ | with_reducible refine Ev.w_ret ?_ | with_reducible refine Ev.w_seti ?_ | with_reducible refine Ev.w_append ?_ | with_reducible refine Ev.w_for ?_
  | with_reducible refine Ev.w_nil ?_ | with_reducible refine Ev.w_par ?_ | with_reducible refine Ev.w_setOwn ?_ | with_reducible refine Ev.w_addi ?_ | with_reducible refine Ev.w_subi ?_ | with_reducible refine Ev.w_popA ?_ | with_reducible refine Ev.w_expr ?_
  | with_reducible refine Ev.w_retN ?_ | with_reducible refine Ev.w_brk ?_ | with_reducible refine Ev.w_cont ?_ | with_reducible refine Ev.w_pass ?_ | with_reducible refine Ev.w_whil ?_
  | ((with_reducible refine Ev.w_val' ?_); (refine ⟨_, rfl, ?_⟩)) | ((with_reducible refine Ev.w_own' ?_); (refine ⟨_, rfl, ?_⟩)) | with_reducible refine Ev.w_const ?_ | with_reducible refine Ev.w_glob ?_ | with_reducible refine Ev.w_globS ?_ | with_reducible refine Ev.w_globT ?_ | with_reducible refine Ev.w_tup ?_ | with_reducible refine Ev.w_lst ?_ | with_reducible refine Ev.w_box ?_
  | with_reducible refine Ev.w_dbox ?_ | with_reducible refine Ev.w_bin ?_ | with_reducible refine Ev.w_neg' ?_ | with_reducible refine Ev.w_cmp' ?_ | with_reducible refine Ev.w_not' ?_ | with_reducible refine Ev.w_and' ?_ | with_reducible refine Ev.w_or' ?_ | with_reducible refine Ev.w_if ?_
  | with_reducible refine Ev.w_get1 ?_ | with_reducible refine Ev.w_get2 ?_ | with_reducible refine Ev.w_din ?_ | with_reducible refine Ev.w_dinN ?_ | with_reducible refine Ev.w_tdin ?_ | with_reducible refine Ev.w_tdinN ?_ | with_reducible refine Ev.w_dnewK ?_ | with_reducible refine Ev.w_dnewT ?_
  | with_reducible refine Ev.w_idx ?_ | with_reducible refine Ev.w_slice ?_ | with_reducible refine Ev.w_rev ?_ | with_reducible refine Ev.w_call ?_ | with_reducible refine Ev.w_bfn ?_ | with_reducible refine Ev.w_isi ?_ | with_reducible refine Ev.w_comp ?_
  | with_reducible refine Ev.w_vnil ?_ | with_reducible refine Ev.w_vcons ?_ | with_reducible refine Ev.w_dnil ?_ | with_reducible refine Ev.w_dcons ?_ | with_reducible refine Ev.w_tnil ?_ | with_reducible refine Ev.w_tcons ?_ | with_reducible refine Ev.w_onone ?_ | with_reducible refine Ev.w_osome ?_
  | with_reducible refine Ev.w_tval ?_ | with_reducible refine Ev.w_tcmp ?_ | with_reducible refine Ev.w_tchain ?_ | with_reducible refine Ev.w_tand ?_ | with_reducible refine Ev.w_tor ?_ | with_reducible refine Ev.w_tnot ?_
  | with_reducible refine Ev.w_rng1 ?_ | with_reducible refine Ev.w_rng2 ?_ | with_reducible refine Ev.w_seq ?_ | with_reducible refine Ev.w_enum ?_ | with_reducible refine Ev.w_zip ?_
  | ((with_reducible refine Ev.w_retOwn' ?_); (refine ⟨_, rfl, ?_⟩)) | ((with_reducible refine Ev.w_frz' ?_); (refine ⟨_, rfl, ?_⟩); dsimp only [List.set_cons_zero, List.set_cons_succ])
  | with_reducible refine Ev.go_rt ?_ | with_reducible refine Ev.go_bk ?_ | with_reducible refine Ev.go_ct ?_ | with_reducible refine Ev.rt_rt ?_ | with_reducible refine Ev.rt_nx ?_
  | ((with_reducible refine Ev.a_v ?_ ?_); (rfl); dsimp only [List.set_cons_zero, List.set_cons_succ]) | ((with_reducible refine Ev.a_n ?_ ?_); (rfl); dsimp only [List.set_cons_zero, List.set_cons_succ])
  | ((with_reducible refine Ev.a_t2 ?_ ?_ ?_); (rfl); (rfl); dsimp only [List.set_cons_zero, List.set_cons_succ])
  | ((with_reducible refine Ev.f_v ?_ ?_); (rfl); dsimp only [List.set_cons_zero, List.set_cons_succ]) | ((with_reducible refine Ev.f_t2 ?_ ?_ ?_); (rfl); (rfl); dsimp only [List.set_cons_zero, List.set_cons_succ])
  | with_reducible refine Ev.lp_nx ?_ | with_reducible refine Ev.lp_ct ?_ | with_reducible refine Ev.lp_bk ?_ | with_reducible refine Ev.lp_rt ?_ | with_reducible refine Ev.cp_some ?_ | with_reducible refine Ev.cp_none ?_ | with_reducible refine Ev.w_forF ?_ | with_reducible refine Ev.w_compF0 ?_ | with_reducible refine Ev.w_compF ?_
  | with_reducible refine Ev.o_add ?_ | with_reducible refine Ev.o_sub ?_ | with_reducible refine Ev.o_gt ?_ | with_reducible refine Ev.o_lt ?_ | with_reducible refine Ev.o_le ?_ | with_reducible refine Ev.o_ge ?_ | with_reducible refine Ev.o_eqI ?_ | with_reducible refine Ev.o_neI ?_
  | with_reducible refine Ev.o_lenL ?_ | with_reducible refine Ev.o_lenT ?_ | with_reducible refine Ev.o_lenB ?_ | with_reducible refine Ev.o_lenN ?_
  | ((with_reducible refine Ev.o_modP ?_ ?_); (omega)) | ((with_reducible refine Ev.o_fdivP ?_ ?_ ?_); (omega); (omega)) | ((with_reducible refine Ev.o_powP ?_ ?_ ?_); (omega); (omega))
  | ((with_reducible refine Ev.o_mulA ?_ ?_); (omega)) | ((with_reducible refine Ev.o_mulB ?_ ?_); (omega))
  | ((with_reducible refine Ev.sz_ok ?_ ?_); (rfl)) | ((with_reducible refine Ev.ap_ok ?_ ?_); (first | omega | (simp only [List.length_map, List.length_append, List.length_cons, List.length_nil]; omega))) | ((with_reducible refine Ev.g_rng ?_ ?_); (omega)) | ((with_reducible refine Ev.g_rng2 ?_ ?_); (omega)) | with_reducible refine Ev.i_vl ?_ | with_reducible refine Ev.i_vt ?_ | with_reducible refine Ev.i_n ?_ | with_reducible refine Ev.i_b ?_
  | with_reducible refine Ev.o_strEq ?_ | with_reducible refine Ev.o_strNe ?_ | with_reducible refine Ev.o_revVL ?_ | with_reducible refine Ev.o_revVT ?_ | with_reducible refine Ev.o_revN ?_ | with_reducible refine Ev.o_revB ?_ | with_reducible refine Ev.o_tupVL ?_ | with_reducible refine Ev.o_tupVT ?_ | with_reducible refine Ev.o_tupN ?_ | with_reducible refine Ev.o_tupB ?_ | with_reducible refine Ev.o_lstVL ?_ | with_reducible refine Ev.o_lstVT ?_ | with_reducible refine Ev.o_lstN ?_ | with_reducible refine Ev.o_lstB ?_
  | ((with_reducible refine Ev.zipI ?_); (first | refine ⟨_, _, .inl ⟨rfl, rfl⟩, ?_⟩ | refine ⟨_, _, .inr ⟨rfl, rfl⟩, ?_⟩)) | ((with_reducible refine Ev.o_ixTc ?_); (refine ⟨_, rfl, ?_⟩)) | ((with_reducible refine Ev.o_ixLc ?_); (refine ⟨_, rfl, ?_⟩)) | ((with_reducible refine Ev.o_ixNc ?_); (refine ⟨_, rfl, ?_⟩)) | ((with_reducible refine Ev.fillI ?_); (refine ⟨_, rfl, ?_⟩)) | ((with_reducible refine Ev.ownI ?_); (refine ⟨_, rfl, ?_⟩)) | ((with_reducible refine Ev.addiI ?_); (refine ⟨_, rfl, ?_⟩))
  | with_reducible refine Ev.b_ok' ?_ | with_reducible refine Ev.g_int ?_ | with_reducible refine Ev.v_v ?_ | with_reducible refine Ev.v_n ?_ | with_reducible refine Ev.d_v ?_ | with_reducible refine Ev.d_n ?_ | with_reducible refine Ev.r_v ?_ | with_reducible refine Ev.r_n ?_ | with_reducible refine Ev.c_t ?_ | with_reducible refine Ev.c_f ?_
  | with_reducible refine Ev.oi_int_n ?_ | with_reducible refine Ev.oi_int_b ?_ | with_reducible refine Ev.oi_int_i ?_ | with_reducible refine Ev.oi_int_s ?_ | with_reducible refine Ev.oi_int_l ?_ | with_reducible refine Ev.oi_int_t ?_ | with_reducible refine Ev.oi_int_d ?_ | with_reducible refine Ev.oi_bool_n ?_ | with_reducible refine Ev.oi_bool_b ?_ | with_reducible refine Ev.oi_bool_i ?_ | with_reducible refine Ev.oi_bool_s ?_ | with_reducible refine Ev.oi_bool_l ?_ | with_reducible refine Ev.oi_bool_t ?_ | with_reducible refine Ev.oi_bool_d ?_ | with_reducible refine Ev.oi_tuple_n ?_ | with_reducible refine Ev.oi_tuple_b ?_ | with_reducible refine Ev.oi_tuple_i ?_ | with_reducible refine Ev.oi_tuple_s ?_ | with_reducible refine Ev.oi_tuple_l ?_ | with_reducible refine Ev.oi_tuple_t ?_ | with_reducible refine Ev.oi_tuple_d ?_ | with_reducible refine Ev.oi_str_n ?_ | with_reducible refine Ev.oi_str_b ?_ | with_reducible refine Ev.oi_str_i ?_ | with_reducible refine Ev.oi_str_s ?_ | with_reducible refine Ev.oi_str_l ?_ | with_reducible refine Ev.oi_str_t ?_ | with_reducible refine Ev.oi_str_d ?_ | with_reducible refine Ev.oi_list_n ?_ | with_reducible refine Ev.oi_list_b ?_ | with_reducible refine Ev.oi_list_i ?_ | with_reducible refine Ev.oi_list_s ?_ | with_reducible refine Ev.oi_list_l ?_ | with_reducible refine Ev.oi_list_t ?_ | with_reducible refine Ev.oi_list_d ?_ | with_reducible refine Ev.oi_dict_n ?_ | with_reducible refine Ev.oi_dict_b ?_ | with_reducible refine Ev.oi_dict_i ?_ | with_reducible refine Ev.oi_dict_s ?_ | with_reducible refine Ev.oi_dict_l ?_ | with_reducible refine Ev.oi_dict_t ?_ | with_reducible refine Ev.oi_dict_d ?_
  | with_reducible refine Ev.o_ix0T ?_ | with_reducible refine Ev.o_ix0L ?_ | with_reducible refine Ev.o_ix0B ?_ | with_reducible refine Ev.o_ix0N ?_ | with_reducible refine Ev.o_ix1T ?_ | with_reducible refine Ev.o_ix1L ?_ | with_reducible refine Ev.o_ix1B ?_ | with_reducible refine Ev.o_ix1N ?_ | with_reducible refine Ev.o_ix2T ?_ | with_reducible refine Ev.o_ix2L ?_ | with_reducible refine Ev.o_ix2B ?_ | with_reducible refine Ev.o_ix2N ?_ | with_reducible refine Ev.o_ix3T ?_ | with_reducible refine Ev.o_ix3L ?_ | with_reducible refine Ev.o_ix3B ?_ | with_reducible refine Ev.o_ix3N ?_
  | with_reducible refine Ev.w_m0 ?_ | with_reducible refine Ev.o_intI ?_ | with_reducible refine Ev.o_intB ?_ | with_reducible refine Ev.o_strB ?_ | with_reducible refine Ev.o_strS ?_ | with_reducible refine Ev.o_inSg ?_ | with_reducible refine Ev.o_ninSg ?_ | with_reducible refine Ev.i_vs ?_ | with_reducible refine Ev.o_addBI ?_ | with_reducible refine Ev.o_eqBI ?_
  | ((with_reducible refine Ev.a_tupI ?_); (refine ⟨_, rfl, ?_⟩)) | ((with_reducible refine Ev.f_tupI ?_); (refine ⟨_, rfl, ?_⟩)) | ((with_reducible refine Ev.w_frzV ?_); (refine ⟨_, rfl, ?_⟩)) | with_reducible refine Ev.o_slT ?_ | with_reducible refine Ev.o_slL ?_ | with_reducible refine Ev.o_slB ?_ | with_reducible refine Ev.o_slN ?_ | with_reducible refine Ev.o_slS ?_
  | with_reducible refine Ev.c_t1 ?_ | with_reducible refine Ev.c_f1 ?_ | with_reducible refine Ev.tr_b ?_ | with_reducible refine Ev.tr_i ?_ | with_reducible refine Ev.tr_t ?_ | with_reducible refine Ev.tr_l ?_ | with_reducible refine Ev.tr_lb ?_ | with_reducible refine Ev.c_nt ?_ | with_reducible refine Ev.c_nf ?_ | with_reducible refine Ev.w_chain ?_ | with_reducible refine Ev.o_allB ?_ | with_reducible refine Ev.o_anyB ?_ | with_reducible refine Ev.o_allM ?_ | with_reducible refine Ev.o_anyM ?_
  | ((with_reducible refine Ev.c_asT ?_ ?_); (with_reducible assumption)) | ((with_reducible refine Ev.c_asF ?_ ?_); (with_reducible assumption)) | ((with_reducible refine Ev.c_nasT ?_ ?_); (with_reducible assumption)) | ((with_reducible refine Ev.c_nasF ?_ ?_); (with_reducible assumption))
  | ((with_reducible refine Ev.c_decT ?_ ?_); (first | omega | (simp only [List.length_cons, List.length_nil, List.length_map, List.length_append, rngL_len]; omega)))
  | ((with_reducible refine Ev.c_decF ?_ ?_); (first | omega | (simp only [List.length_cons, List.length_nil, List.length_map, List.length_append, rngL_len]; omega)))
  | ((with_reducible refine Ev.c_ndecT ?_ ?_); (first | omega | (simp only [List.length_cons, List.length_nil, List.length_map, List.length_append, rngL_len]; omega)))
  | ((with_reducible refine Ev.c_ndecF ?_ ?_); (first | omega | (simp only [List.length_cons, List.length_nil, List.length_map, List.length_append, rngL_len]; omega)))
  | ((with_reducible show wp (compL (compF _ (wipeE _ _) _ _) _ _ _) _ _); simp only [wipeE, List.map_cons, List.map_nil, List.set_cons_zero, List.set_cons_succ])
  | dsimp only [List.set_cons_zero, List.set_cons_succ])
local macro_rules | `(tactic| walk_at "ex") => `(tactic| repeat walk_at "ex1")
local macro_rules | `(tactic| walk_at "ev") => `(tactic| repeat walk_at "ev1")
local macro_rules | `(tactic| walk_at "evs") => `(tactic| repeat' (first | walk_at "ev1" | with_reducible refine c_dec (fun _ => ?_) (fun _ => ?_) | with_reducible refine c_ndec (fun _ => ?_) (fun _ => ?_)))
local macro_rules | `(tactic| walk_at "ev0") => `(tactic| simp only [List.map_cons, List.map_nil, List.length_cons, List.length_nil, List.cons_append, List.nil_append, Nat.reduceAdd, Nat.reduceSub, List.replicate])


namespace KG
def x0_law_table : Ex := (.call "_law_take" [(.var 0), (.var 1)] [] [] [.inl 0, .inl 1])
def f__law_table : Fn := ⟨["tap", "base"], ["tap", "base", "k"], [
  .ret (.bfn .tupleOf (.comp x0_law_table (.name 2) (.rng1 (.var 1)) none [("k", 2)]) [])]⟩
def x0_law_turner : Ex := (.tup [(.call "_law_take" [(.var 0), (.var 1)] [] [] [.inl 0, .inl 1]), (.call "_law_take" [(.var 0), (.var 2)] [] [] [.inl 0, .inl 1])])
def b1_law_turner : List Sm := [
  .append 3 (.bfn .tupleOf (.comp x0_law_turner (.name 5) (.rng1 (.var 1)) none [("j", 5)]) [])]
def f__law_turner : Fn := ⟨["tap", "base"], ["tap", "base", "amount", "found", "k", "j"], [
  .asg (.name 2) (.bin .add (.const (.int 1)) (.call "_law_take" [(.var 0), (.const (.int 4))] [] [] [.inl 0, .inl 1])),
  .asg (.name 3) (.lst []),
  .forr (.name 4) (.rng1 (.var 2)) b1_law_turner,
  .ret (.bfn .tupleOf (.var 3) [])]⟩
def f__law_odd : Fn := ⟨["tap"], ["tap", "some"], [
  .asg (.name 1) (.lst [(.const .none), (.const (.bool true)), (.const (.bool false)), (.const (.int 0)), (.const (.int 1)), (.neg (.const (.int 1))), (.bin .pow (.const (.int 10)) (.const (.int 50))), (.const (.str "")), (.const (.str "a")), (.const (.str "A")), (.const (.str "abcdefghi")), (.tup []), (.lst []), (.tup [(.const (.str "a"))]), (.lst [(.const (.str "a"))]), (.tup [(.const (.str "a")), (.const (.bool true))])]),
  .freeze 1,
  .ret (.idx (.var 1) (.call "_law_take" [(.var 0), (.const (.int 16))] [] [] [.inl 0, .inl 1]))]⟩
def f__law_bend : Fn := ⟨["tap", "thing", "deep"], ["tap", "thing", "deep", "at", "way"], [
  .ife (.and (.val (.isi ["tuple"] (.var 1))) (.and (.cmp .ne (.var 1) (.tup [])) (.and (.cmp .gt (.var 2) (.const (.int 0))) (.cmp .gt (.call "_law_take" [(.var 0), (.const (.int 3))] [] [] [.inl 0, .inl 1]) (.const (.int 0))))))
  [.asg (.name 3) (.call "_law_take" [(.var 0), (.bfn .len (.var 1) [])] [] [] [.inl 0, .inl 1]),
  .ret (.bin .add (.bin .add (.slice (.var 1) none (some (.var 3))) (.tup [(.call "_law_bend" [(.var 0), (.idx (.var 1) (.var 3)), (.bin .sub (.var 2) (.const (.int 1)))] [] [] [.inl 0, .inl 1, .inl 2])])) (.slice (.var 1) (some (.bin .add (.var 3) (.const (.int 1)))) none))]
  [],
  .asg (.name 4) (.call "_law_take" [(.var 0), (.const (.int 7))] [] [] [.inl 0, .inl 1]),
  .ife (.val (.isi ["tuple"] (.var 1)))
  [.asg (.name 3) (.call "_law_take" [(.var 0), (.bin .add (.bfn .len (.var 1) []) (.const (.int 1)))] [] [] [.inl 0, .inl 1]),
  .ife (.cmp .eq (.var 4) (.const (.int 3)))
  [.ret (.bin .add (.bin .add (.slice (.var 1) none (some (.var 3))) (.tup [(.call "_law_odd" [(.var 0)] [] [] [.inl 0])])) (.slice (.var 1) (some (.var 3)) none))]
  [],
  .ife (.cmp .lt (.var 4) (.const (.int 5)))
  [.ret (.idx (.lst [(.bfn .listOf (.var 1) []), (.bin .add (.slice (.var 1) none (some (.var 3))) (.slice (.var 1) (some (.bin .add (.var 3) (.const (.int 1)))) none)), (.bin .add (.bin .add (.slice (.var 1) none (some (.var 3))) (.slice (.var 1) (some (.var 3)) (some (.bin .add (.var 3) (.const (.int 1)))))) (.slice (.var 1) (some (.var 3)) none)), (.tup []), (.rev (.var 1))]) (.var 4))]
  [],
  .ret (.call "_law_odd" [(.var 0)] [] [] [.inl 0])]
  [],
  .ife (.and (.val (.isi ["int"] (.var 1))) (.cmp .lt (.var 4) (.const (.int 4))))
  [.ret (.idx (.lst [(.bin .add (.var 1) (.const (.int 1))), (.cmp .eq (.var 1) (.const (.int 0))), (.bfn .intOf (.var 1) []), (.bfn .strOf (.var 1) [])]) (.var 4))]
  [],
  .ife (.and (.val (.isi ["str"] (.var 1))) (.cmp .lt (.var 4) (.const (.int 3))))
  [.ret (.idx (.lst [(.bin .add (.var 1) (.const (.str "a"))), (.slice (.var 1) (some (.const (.int 1))) none), (.m0 .upper (.var 1))]) (.var 4))]
  [],
  .ret (.call "_law_odd" [(.var 0)] [] [] [.inl 0])]⟩

end KG
section
variable {G : Defs} {n : Nat} {m : Store} {Q : Tmp → Store → Prop} {Xp : XP} {d : Int}
theorem tk {many : Int} (hG : G "_law_take" = some takeFn) (g : T1 m d) (hd : d < 9000000) (h1 : 0 < many) (h2 : many < 1000000000) (h : ∀ i m', 0 ≤ i → i < many → T1 m' (d + 1) → Q (.v (.d (.int i))) m') :
    wp (evF G (n + 1) "_law_take" [.loc 0, .d (.int many)] m) Q Xp := by
  refine wp_mono (wp_any (take1 hG g hd h1 h2)) fun x m' q => ?_
  obtain ⟨i, rfl, h3, h4, h5⟩ := q
  exact h i m' h3 h4 h5
def TabD (base : Int) (x : D) : Prop := ∃ ps : List D, x = .tuple ps ∧ (ps.length : Int) = base ∧ ∀ p ∈ ps, ∃ i, p = .int i ∧ 0 ≤ i ∧ i < base
def StD (base many : Int) (x : D) : Prop := ∃ ps : List D, x = .tuple ps ∧ (ps.length : Int) = base ∧ ∀ p ∈ ps, ∃ i j, p = .tuple [.int i, .int j] ∧ 0 ≤ i ∧ i < base ∧ 0 ≤ j ∧ j < many
def TurD (base : Int) (x : D) : Prop := ∃ ss : List D, x = .tuple ss ∧ 1 ≤ ss.length ∧ ss.length ≤ 4 ∧ ∀ s ∈ ss, StD base ss.length s
def oddL : List D := [.none, .bool true, .bool false, .int 0, .int 1, .int (-1), .int (10 ^ Int.toNat 50), .str "", .str "a", .str "A", .str "abcdefghi", .tuple [], .list [], .tuple [.str "a"], .list [.str "a"], .tuple [.str "a", .bool true]]
end
end Ev
set_option Elab.async false
set_option linter.all false
set_option maxHeartbeats 4000000
namespace Ev
open PySem L2
theorem whilN_up {t : Env → Store → Out Bool} {f : Env → Store → Out Fl} : ∀ (n : Nat) (r : Env) (m : Store) (o : Out Fl), whilN t f n r m = some o → whilN t f (n + 1) r m = some o
  | 0, _, _, _, e => by cases e
  | n + 1, r, m, o, e => by
    rw [whilN] at e ⊢
    cases et : t r m with
    | exc cc fs m1 => rw [et] at e; exact e
    | bad => rw [et] at e; exact e
    | ok k m1 =>
      rw [et] at e
      dsimp only at e ⊢
      cases k with
      | false => exact e
      | true =>
        rw [if_pos rfl] at e ⊢
        cases ef : f r m1 with
        | exc cc fs m2 => rw [ef] at e; exact e
        | bad => rw [ef] at e; exact e
        | ok fl m2 =>
          rw [ef] at e
          cases fl with
          | nx r2 => exact whilN_up n r2 m2 o e
          | ct r2 => exact whilN_up n r2 m2 o e
          | bk r2 => exact e
          | rt x => exact e
theorem whilN_le {t : Env → Store → Out Bool} {f : Env → Store → Out Fl} {n k : Nat} {r : Env} {m : Store} {o : Out Fl} (h : whilN t f n r m = some o) : whilN t f (n + k) r m = some o := by
  induction k with
  | zero => exact h
  | succ k ih => exact whilN_up _ _ _ _ ih
theorem whilL_is {t : Env → Store → Out Bool} {f : Env → Store → Out Fl} {n : Nat} {r : Env} {m : Store} {o : Out Fl} (h : whilN t f n r m = some o) : whilL t f r m = o := by
  have hx : ∃ n, (whilN t f n r m).isSome := ⟨n, by rw [h]; rfl⟩
  unfold whilL
  rw [dif_pos hx]
  have h2 := Classical.choose_spec hx
  obtain ⟨o2, e2⟩ := Option.isSome_iff_exists.mp h2
  rw [e2]
  have a := whilN_le (k := Classical.choose hx) h
  have b := whilN_le (k := n) e2
  rw [Nat.add_comm] at b
  rw [a] at b
  cases b
  rfl
section
variable {Xp : XP} {Qs : Fl → Store → Prop}
def Wl (I : Nat → Env → Store → Prop) (n : Nat) (Qs : Fl → Store → Prop) : Fl → Store → Prop := fun o m => match o with
  | .nx r => ∃ k, k < n ∧ I k r m
  | .ct r => ∃ k, k < n ∧ I k r m
  | .bk r => Qs (.nx r) m
  | .rt t => Qs (.rt t) m
theorem w_whilL {t : Env → Store → Out Bool} {f : Env → Store → Out Fl} (I : Nat → Env → Store → Prop)
    (hs : ∀ n r m, I n r m → wp (t r m) (fun k m => (k = true → wp (f r m) (Wl I n Qs) Xp) ∧ (k = false → Qs (.nx r) m)) Xp) {n : Nat} {r : Env} {m : Store} (h0 : I n r m) : wp (whilL t f r m) Qs Xp := by
  have key : ∀ (n : Nat) (r : Env) (m : Store), I n r m → ∃ N o, whilN t f N r m = some o ∧ wp o Qs Xp := by
    intro n
    induction n using Nat.strongRecOn with
    | _ n ih =>
      intro r m h
      have h1 := hs n r m h
      cases et : t r m with
      | bad => rw [et] at h1; exact h1.elim
      | exc cc fs m1 =>
        rw [et] at h1
        exact ⟨1, .exc cc fs m1, by rw [whilN, et], h1⟩
      | ok k m1 =>
        rw [et] at h1
        cases k with
        | false => exact ⟨1, .ok (.nx r) m1, by rw [whilN, et]; rfl, h1.2 rfl⟩
        | true =>
          have h2 := h1.1 rfl
          cases ef : f r m1 with
          | bad => rw [ef] at h2; exact h2.elim
          | exc cc fs m2 =>
            rw [ef] at h2
            exact ⟨1, .exc cc fs m2, by rw [whilN, et]; dsimp only; rw [if_pos rfl, ef], h2⟩
          | ok fl m2 =>
            rw [ef] at h2
            cases fl with
            | nx r2 =>
              obtain ⟨k, hk, hi⟩ := h2
              obtain ⟨N, o, e, q⟩ := ih k hk r2 m2 hi
              exact ⟨N + 1, o, by rw [whilN, et]; dsimp only; rw [if_pos rfl, ef]; exact e, q⟩
            | ct r2 =>
              obtain ⟨k, hk, hi⟩ := h2
              obtain ⟨N, o, e, q⟩ := ih k hk r2 m2 hi
              exact ⟨N + 1, o, by rw [whilN, et]; dsimp only; rw [if_pos rfl, ef]; exact e, q⟩
            | bk r2 => exact ⟨1, _, by rw [whilN, et]; dsimp only; rw [if_pos rfl, ef], h2⟩
            | rt x => exact ⟨1, _, by rw [whilN, et]; dsimp only; rw [if_pos rfl, ef], h2⟩
  obtain ⟨N, o, e, q⟩ := key n r m h0
  rw [whilL_is e]
  exact q
theorem wl_bk {I : Nat → Env → Store → Prop} {n : Nat} {r : Env} {m : Store} (h : Qs (.nx r) m) : Wl I n Qs (.bk r) m := h
theorem wl_rt {I : Nat → Env → Store → Prop} {n : Nat} {t : Tmp} {m : Store} (h : Qs (.rt t) m) : Wl I n Qs (.rt t) m := h
end
section
variable {m : Store} {st : Bool} {xs : List D} {A : List D → Prop} {Q : Tmp → Prop}
theorem e_vl (h : A xs) : ∃ ys, itemsE st (.v (.d (.list xs))) = some ys ∧ A ys := ⟨xs, by cases st <;> rfl, h⟩
theorem e_vt (h : A xs) : ∃ ys, itemsE st (.v (.d (.tuple xs))) = some ys ∧ A ys := ⟨xs, by cases st <;> rfl, h⟩
theorem e_n (h : A xs) : ∃ ys, itemsE st (.new (.list xs)) = some ys ∧ A ys := ⟨xs, by cases st <;> rfl, h⟩
theorem e_b (h : A xs) : ∃ ys, itemsE false (.bor (.list xs)) = some ys ∧ A ys := ⟨xs, rfl, h⟩
def rgD (i j : Int) : List D := (List.range (j - i).toNat).map fun k => .int (i + (k : Nat))
theorem rng_ok {i j : Int} (b : -1000000 ≤ i ∧ i ≤ 1000000 ∧ j ≤ 1000000 ∧ -1000000 ≤ j) : (small62 i && small62 j && decide ((j - i).toNat ≤ 16777216)) = true := by
  simp only [small62, Bool.and_eq_true, decide_eq_true_eq]
  omega
theorem o_lr1 {j : Int} (b : -1000000 ≤ j ∧ j ≤ 1000000) (h : Q (.new (.list (rgD 0 j)))) : ∃ k z, getInt (.v (.d (.int j))) = some k ∧ rngT false 0 k = some z ∧ Q z :=
  ⟨j, _, rfl, by unfold rngT; rw [if_pos (rng_ok ⟨by omega, by omega, b.2, b.1⟩), if_neg (by simp)]; rfl, h⟩
theorem o_lr1T {j : Int} (b : -1000000 ≤ j ∧ j ≤ 1000000) (h : Q (.v (.d (.tuple (rgD 0 j))))) : ∃ k z, getInt (.v (.d (.int j))) = some k ∧ rngT true 0 k = some z ∧ Q z :=
  ⟨j, _, rfl, by unfold rngT; rw [if_pos (rng_ok ⟨by omega, by omega, b.2, b.1⟩), if_pos rfl]; rfl, h⟩
theorem o_lr2 {i j : Int} (b : (-1000000 ≤ i ∧ i ≤ 1000000) ∧ -1000000 ≤ j ∧ j ≤ 1000000) (h : Q (.new (.list (rgD i j)))) : ∃ l k z, getInt (.v (.d (.int i))) = some l ∧ getInt (.v (.d (.int j))) = some k ∧ rngT false l k = some z ∧ Q z :=
  ⟨i, j, _, rfl, rfl, by unfold rngT; rw [if_pos (rng_ok ⟨b.1.1, b.1.2, b.2.2, b.2.1⟩), if_neg (by simp)]; rfl, h⟩
theorem sq_vl {B : Prop} (h : B) : isSeq (.v (.d (.list xs))) = some () ∧ B := ⟨rfl, h⟩
theorem sq_n {B : Prop} (h : B) : isSeq (.new (.list xs)) = some () ∧ B := ⟨rfl, h⟩
theorem sq_b {B : Prop} (h : B) : isSeq (.bor (.list xs)) = some () ∧ B := ⟨rfl, h⟩
theorem il_ok {n : Nat} {ys : List Val} {B : Prop} (e : m[n]? = some (.lst ys)) (h : B) : isLst (.v (.loc n)) m = some () ∧ B := ⟨by simp only [isLst, e], h⟩
theorem o_lenBx {n : Nat} {ys : List Val} (e : m[n]? = some (.lst ys)) (h : Q (.v (.d (.int (ys.length : Nat))))) : ∃ z, bfnV .len [.v (.loc n)] m = some z ∧ Q z := ⟨_, by simp only [bfnV, e]; rfl, h⟩
theorem o_popAt {n : Nat} {ys : List Val} {i : Int} {x : Val} {Qp : Val × Store → Prop} (e : m[n]? = some (.lst ys)) (h0 : 0 ≤ i) (h1 : i ≤ 1000000) (hx : ys[i.toNat]? = some x) (h : Qp (x, m.set n (.lst (ys.eraseIdx i.toNat)))) :
    ∃ z, xfnV .popAt (.v (.loc n)) [.d (.int i)] m = some z ∧ Qp z := by
  have hl : i.toNat < ys.length := (List.getElem?_eq_some_iff.mp hx).1
  refine ⟨_, ?_, h⟩
  simp only [xfnV, e]
  rw [if_pos (by rw [Bool.and_eq_true, decide_eq_true_eq, decide_eq_true_eq]; omega)]
  have : L2.ixN ys.length i = some i.toNat := by
    unfold L2.ixN
    rw [if_pos h0, if_pos (by omega)]
  rw [this]
  simp only [Option.bind, hx, Option.map]
end
theorem parI {i j : Nat} {t u : Tmp} {r : Env} {K : Env → Prop} (h : ∃ r1 r2, asgT (.name i) t r = some r1 ∧ asgT (.name j) u r1 = some r2 ∧ K r2) : ∃ r1 r2, asgT (.name i) t r = some r1 ∧ asgT (.name j) u r1 = some r2 ∧ K r2 := h
end Ev
set_option Elab.async false
set_option linter.all false
set_option maxHeartbeats 4000000
namespace Ev
open PySem L2
local macro_rules | `(tactic| walk_at "ev1") => `(tactic| first
  | with_reducible refine Ev.w_asg ?_ | with_reducible refine Ev.w_asgS ?_ | with_reducible refine Ev.w_ife ?_ | with_reducible refine Ev.w_ret ?_ | with_reducible refine Ev.w_seti ?_ | with_reducible refine Ev.w_append ?_ | with_reducible refine Ev.w_for ?_
  | with_reducible refine Ev.w_nil ?_ | with_reducible refine Ev.w_par ?_ | with_reducible refine Ev.w_setOwn ?_ | with_reducible refine Ev.w_addi ?_ | with_reducible refine Ev.w_subi ?_ | with_reducible refine Ev.w_popA ?_ | with_reducible refine Ev.w_expr ?_
  | with_reducible refine Ev.w_retN ?_ | with_reducible refine Ev.w_brk ?_ | with_reducible refine Ev.w_cont ?_ | with_reducible refine Ev.w_pass ?_ | with_reducible refine Ev.w_whil ?_
  | ((with_reducible refine Ev.w_val' ?_); (refine ⟨_, rfl, ?_⟩)) | ((with_reducible refine Ev.w_own' ?_); (refine ⟨_, rfl, ?_⟩)) | with_reducible refine Ev.w_const ?_ | with_reducible refine Ev.w_glob ?_ | with_reducible refine Ev.w_globS ?_ | with_reducible refine Ev.w_globT ?_ | with_reducible refine Ev.w_tup ?_ | with_reducible refine Ev.w_lst ?_ | with_reducible refine Ev.w_box ?_
  | with_reducible refine Ev.w_dbox ?_ | with_reducible refine Ev.w_bin ?_ | with_reducible refine Ev.w_neg' ?_ | with_reducible refine Ev.w_cmp' ?_ | with_reducible refine Ev.w_not' ?_ | with_reducible refine Ev.w_and' ?_ | with_reducible refine Ev.w_or' ?_ | with_reducible refine Ev.w_if ?_
  | with_reducible refine Ev.w_get1 ?_ | with_reducible refine Ev.w_get2 ?_ | with_reducible refine Ev.w_din ?_ | with_reducible refine Ev.w_dinN ?_ | with_reducible refine Ev.w_tdin ?_ | with_reducible refine Ev.w_tdinN ?_ | with_reducible refine Ev.w_dnewK ?_ | with_reducible refine Ev.w_dnewT ?_
  | with_reducible refine Ev.w_idx ?_ | with_reducible refine Ev.w_slice ?_ | with_reducible refine Ev.w_rev ?_ | with_reducible refine Ev.w_call ?_ | with_reducible refine Ev.w_bfn ?_ | with_reducible refine Ev.w_isi ?_ | with_reducible refine Ev.w_comp ?_
  | with_reducible refine Ev.w_vnil ?_ | with_reducible refine Ev.w_vcons ?_ | with_reducible refine Ev.w_dnil ?_ | with_reducible refine Ev.w_dcons ?_ | with_reducible refine Ev.w_tnil ?_ | with_reducible refine Ev.w_tcons ?_ | with_reducible refine Ev.w_onone ?_ | with_reducible refine Ev.w_osome ?_
  | with_reducible refine Ev.w_tval ?_ | with_reducible refine Ev.w_tcmp ?_ | with_reducible refine Ev.w_tchain ?_ | with_reducible refine Ev.w_tand ?_ | with_reducible refine Ev.w_tor ?_ | with_reducible refine Ev.w_tnot ?_
  | with_reducible refine Ev.w_comp2 ?_ | with_reducible refine Ev.w_lrng1 ?_ | with_reducible refine Ev.w_lrng2 ?_ | with_reducible refine Ev.w_xm ?_ | with_reducible refine Ev.w_pm ?_ | with_reducible refine Ev.w_ddis ?_
  | with_reducible refine Ev.w_muli ?_ | with_reducible refine Ev.w_extend ?_ | with_reducible refine Ev.w_asgL ?_ | with_reducible refine Ev.w_forS ?_ | with_reducible refine Ev.wl_rt ?_ | with_reducible refine Ev.wl_bk ?_
  | with_reducible refine Ev.e_vl ?_ | with_reducible refine Ev.e_vt ?_ | with_reducible refine Ev.e_n ?_ | with_reducible refine Ev.e_b ?_ | with_reducible refine Ev.sq_vl ?_ | with_reducible refine Ev.sq_n ?_ | with_reducible refine Ev.sq_b ?_
  | ((with_reducible refine Ev.parI ?_); (refine ⟨_, _, rfl, rfl, ?_⟩); dsimp only [List.set_cons_zero, List.set_cons_succ]) | ((with_reducible refine Ev.o_lr1 ?_ ?_); (omega)) | ((with_reducible refine Ev.o_lr1T ?_ ?_); (omega)) | ((with_reducible refine Ev.o_lr2 ?_ ?_); (omega))
  | with_reducible refine Ev.w_rng1 ?_ | with_reducible refine Ev.w_rng2 ?_ | with_reducible refine Ev.w_seq ?_ | with_reducible refine Ev.w_enum ?_ | with_reducible refine Ev.w_zip ?_ | with_reducible refine Ev.w_zipS ?_
  | ((with_reducible refine Ev.w_retOwn' ?_); (refine ⟨_, rfl, ?_⟩)) | ((with_reducible refine Ev.w_frz' ?_); (refine ⟨_, rfl, ?_⟩); dsimp only [List.set_cons_zero, List.set_cons_succ])
  | with_reducible refine Ev.go_nx ?_ | with_reducible refine Ev.go_rt ?_ | with_reducible refine Ev.go_bk ?_ | with_reducible refine Ev.go_ct ?_ | with_reducible refine Ev.rt_rt ?_ | with_reducible refine Ev.rt_nx ?_
  | ((with_reducible refine Ev.a_v ?_ ?_); (rfl); dsimp only [List.set_cons_zero, List.set_cons_succ]) | ((with_reducible refine Ev.a_n ?_ ?_); (rfl); dsimp only [List.set_cons_zero, List.set_cons_succ])
  | ((with_reducible refine Ev.a_t2 ?_ ?_ ?_); (rfl); (rfl); dsimp only [List.set_cons_zero, List.set_cons_succ])
  | ((with_reducible refine Ev.f_v ?_ ?_); (rfl); dsimp only [List.set_cons_zero, List.set_cons_succ]) | ((with_reducible refine Ev.f_t2 ?_ ?_ ?_); (rfl); (rfl); dsimp only [List.set_cons_zero, List.set_cons_succ])
  | with_reducible refine Ev.lp_nx ?_ | with_reducible refine Ev.lp_ct ?_ | with_reducible refine Ev.lp_bk ?_ | with_reducible refine Ev.lp_rt ?_ | with_reducible refine Ev.cp_some ?_ | with_reducible refine Ev.cp_none ?_ | with_reducible refine Ev.w_forF ?_ | with_reducible refine Ev.w_compF0 ?_ | with_reducible refine Ev.w_compF ?_
  | with_reducible refine Ev.o_add ?_ | with_reducible refine Ev.o_sub ?_ | with_reducible refine Ev.o_gt ?_ | with_reducible refine Ev.o_lt ?_ | with_reducible refine Ev.o_le ?_ | with_reducible refine Ev.o_ge ?_ | with_reducible refine Ev.o_eqI ?_ | with_reducible refine Ev.o_neI ?_
  | with_reducible refine Ev.o_lenL ?_ | with_reducible refine Ev.o_lenT ?_ | with_reducible refine Ev.o_lenB ?_ | with_reducible refine Ev.o_lenN ?_
  | ((with_reducible refine Ev.o_modP ?_ ?_); (omega)) | ((with_reducible refine Ev.o_fdivP ?_ ?_ ?_); (omega); (omega)) | ((with_reducible refine Ev.o_powP ?_ ?_ ?_); (omega); (omega))
  | ((with_reducible refine Ev.o_mulA ?_ ?_); (omega)) | ((with_reducible refine Ev.o_mulB ?_ ?_); (omega))
  | ((with_reducible refine Ev.sz_ok ?_ ?_); (rfl)) | ((with_reducible refine Ev.ap_ok ?_ ?_); (first | omega | (simp only [List.length_map, List.length_append, List.length_cons, List.length_nil]; omega))) | ((with_reducible refine Ev.g_rng ?_ ?_); (omega)) | ((with_reducible refine Ev.g_rng2 ?_ ?_); (omega)) | with_reducible refine Ev.i_vl ?_ | with_reducible refine Ev.i_vt ?_ | with_reducible refine Ev.i_n ?_ | with_reducible refine Ev.i_b ?_
  | with_reducible refine Ev.o_strEq ?_ | with_reducible refine Ev.o_strNe ?_ | with_reducible refine Ev.o_revVL ?_ | with_reducible refine Ev.o_revVT ?_ | with_reducible refine Ev.o_revN ?_ | with_reducible refine Ev.o_revB ?_ | with_reducible refine Ev.o_tupVL ?_ | with_reducible refine Ev.o_tupVT ?_ | with_reducible refine Ev.o_tupN ?_ | with_reducible refine Ev.o_tupB ?_ | with_reducible refine Ev.o_lstVL ?_ | with_reducible refine Ev.o_lstVT ?_ | with_reducible refine Ev.o_lstN ?_ | with_reducible refine Ev.o_lstB ?_
  | ((with_reducible refine Ev.zipI ?_); (first | refine ⟨_, _, .inl ⟨rfl, rfl⟩, ?_⟩ | refine ⟨_, _, .inr ⟨rfl, rfl⟩, ?_⟩)) | ((with_reducible refine Ev.o_ixTc ?_); (refine ⟨_, rfl, ?_⟩)) | ((with_reducible refine Ev.o_ixLc ?_); (refine ⟨_, rfl, ?_⟩)) | ((with_reducible refine Ev.o_ixNc ?_); (refine ⟨_, rfl, ?_⟩)) | ((with_reducible refine Ev.fillI ?_); (refine ⟨_, rfl, ?_⟩)) | ((with_reducible refine Ev.ownI ?_); (refine ⟨_, rfl, ?_⟩)) | ((with_reducible refine Ev.addiI ?_); (refine ⟨_, rfl, ?_⟩))
  | with_reducible refine Ev.b_ok' ?_ | with_reducible refine Ev.g_int ?_ | with_reducible refine Ev.v_v ?_ | with_reducible refine Ev.v_n ?_ | with_reducible refine Ev.d_v ?_ | with_reducible refine Ev.d_n ?_ | with_reducible refine Ev.r_v ?_ | with_reducible refine Ev.r_n ?_ | with_reducible refine Ev.c_t ?_ | with_reducible refine Ev.c_f ?_
  | with_reducible refine Ev.oi_int_n ?_ | with_reducible refine Ev.oi_int_b ?_ | with_reducible refine Ev.oi_int_i ?_ | with_reducible refine Ev.oi_int_s ?_ | with_reducible refine Ev.oi_int_l ?_ | with_reducible refine Ev.oi_int_t ?_ | with_reducible refine Ev.oi_int_d ?_ | with_reducible refine Ev.oi_bool_n ?_ | with_reducible refine Ev.oi_bool_b ?_ | with_reducible refine Ev.oi_bool_i ?_ | with_reducible refine Ev.oi_bool_s ?_ | with_reducible refine Ev.oi_bool_l ?_ | with_reducible refine Ev.oi_bool_t ?_ | with_reducible refine Ev.oi_bool_d ?_ | with_reducible refine Ev.oi_tuple_n ?_ | with_reducible refine Ev.oi_tuple_b ?_ | with_reducible refine Ev.oi_tuple_i ?_ | with_reducible refine Ev.oi_tuple_s ?_ | with_reducible refine Ev.oi_tuple_l ?_ | with_reducible refine Ev.oi_tuple_t ?_ | with_reducible refine Ev.oi_tuple_d ?_ | with_reducible refine Ev.oi_str_n ?_ | with_reducible refine Ev.oi_str_b ?_ | with_reducible refine Ev.oi_str_i ?_ | with_reducible refine Ev.oi_str_s ?_ | with_reducible refine Ev.oi_str_l ?_ | with_reducible refine Ev.oi_str_t ?_ | with_reducible refine Ev.oi_str_d ?_ | with_reducible refine Ev.oi_list_n ?_ | with_reducible refine Ev.oi_list_b ?_ | with_reducible refine Ev.oi_list_i ?_ | with_reducible refine Ev.oi_list_s ?_ | with_reducible refine Ev.oi_list_l ?_ | with_reducible refine Ev.oi_list_t ?_ | with_reducible refine Ev.oi_list_d ?_ | with_reducible refine Ev.oi_dict_n ?_ | with_reducible refine Ev.oi_dict_b ?_ | with_reducible refine Ev.oi_dict_i ?_ | with_reducible refine Ev.oi_dict_s ?_ | with_reducible refine Ev.oi_dict_l ?_ | with_reducible refine Ev.oi_dict_t ?_ | with_reducible refine Ev.oi_dict_d ?_
  | with_reducible refine Ev.o_ix0T ?_ | with_reducible refine Ev.o_ix0L ?_ | with_reducible refine Ev.o_ix0B ?_ | with_reducible refine Ev.o_ix0N ?_ | with_reducible refine Ev.o_ix1T ?_ | with_reducible refine Ev.o_ix1L ?_ | with_reducible refine Ev.o_ix1B ?_ | with_reducible refine Ev.o_ix1N ?_ | with_reducible refine Ev.o_ix2T ?_ | with_reducible refine Ev.o_ix2L ?_ | with_reducible refine Ev.o_ix2B ?_ | with_reducible refine Ev.o_ix2N ?_ | with_reducible refine Ev.o_ix3T ?_ | with_reducible refine Ev.o_ix3L ?_ | with_reducible refine Ev.o_ix3B ?_ | with_reducible refine Ev.o_ix3N ?_
  | with_reducible refine Ev.w_m0 ?_ | with_reducible refine Ev.o_intI ?_ | with_reducible refine Ev.o_intB ?_ | with_reducible refine Ev.o_strB ?_ | with_reducible refine Ev.o_strS ?_ | with_reducible refine Ev.o_inSg ?_ | with_reducible refine Ev.o_ninSg ?_ | with_reducible refine Ev.i_vs ?_ | with_reducible refine Ev.o_addBI ?_ | with_reducible refine Ev.o_eqBI ?_
  | ((with_reducible refine Ev.a_tupI ?_); (refine ⟨_, rfl, ?_⟩)) | ((with_reducible refine Ev.f_tupI ?_); (refine ⟨_, rfl, ?_⟩)) | ((with_reducible refine Ev.w_frzV ?_); (refine ⟨_, rfl, ?_⟩)) | with_reducible refine Ev.o_slT ?_ | with_reducible refine Ev.o_slL ?_ | with_reducible refine Ev.o_slB ?_ | with_reducible refine Ev.o_slN ?_ | with_reducible refine Ev.o_slS ?_
  | with_reducible refine Ev.c_t1 ?_ | with_reducible refine Ev.c_f1 ?_ | with_reducible refine Ev.tr_b ?_ | with_reducible refine Ev.tr_i ?_ | with_reducible refine Ev.tr_t ?_ | with_reducible refine Ev.tr_l ?_ | with_reducible refine Ev.tr_lb ?_ | with_reducible refine Ev.c_nt ?_ | with_reducible refine Ev.c_nf ?_ | with_reducible refine Ev.w_chain ?_ | with_reducible refine Ev.o_allB ?_ | with_reducible refine Ev.o_anyB ?_ | with_reducible refine Ev.o_allM ?_ | with_reducible refine Ev.o_anyM ?_
  | ((with_reducible refine Ev.c_asT ?_ ?_); (with_reducible assumption)) | ((with_reducible refine Ev.c_asF ?_ ?_); (with_reducible assumption)) | ((with_reducible refine Ev.c_nasT ?_ ?_); (with_reducible assumption)) | ((with_reducible refine Ev.c_nasF ?_ ?_); (with_reducible assumption))
  | ((with_reducible refine Ev.c_decT ?_ ?_); (first | omega | (simp only [List.length_cons, List.length_nil, List.length_map, List.length_append, rngL_len]; omega)))
  | ((with_reducible refine Ev.c_decF ?_ ?_); (first | omega | (simp only [List.length_cons, List.length_nil, List.length_map, List.length_append, rngL_len]; omega)))
  | ((with_reducible refine Ev.c_ndecT ?_ ?_); (first | omega | (simp only [List.length_cons, List.length_nil, List.length_map, List.length_append, rngL_len]; omega)))
  | ((with_reducible refine Ev.c_ndecF ?_ ?_); (first | omega | (simp only [List.length_cons, List.length_nil, List.length_map, List.length_append, rngL_len]; omega)))
  | ((with_reducible show wp (compL (compF _ (wipeE _ _) _ _) _ _ _) _ _); simp only [wipeE, List.map_cons, List.map_nil, List.set_cons_zero, List.set_cons_succ])
  | dsimp only [List.set_cons_zero, List.set_cons_succ])
local macro_rules | `(tactic| walk_at "ex1") => `(tactic| first
  | with_reducible refine Ev.w_asg ?_ | with_reducible refine Ev.w_asgS ?_ | with_reducible refine Ev.w_ife ?_ | with_reducible refine Ev.w_ret ?_ | with_reducible refine Ev.w_seti ?_ | with_reducible refine Ev.w_append ?_ | with_reducible refine Ev.w_for ?_
  | with_reducible refine Ev.w_nil ?_ | with_reducible refine Ev.w_par ?_ | with_reducible refine Ev.w_setOwn ?_ | with_reducible refine Ev.w_addi ?_ | with_reducible refine Ev.w_subi ?_ | with_reducible refine Ev.w_popA ?_ | with_reducible refine Ev.w_expr ?_
  | with_reducible refine Ev.w_retN ?_ | with_reducible refine Ev.w_brk ?_ | with_reducible refine Ev.w_cont ?_ | with_reducible refine Ev.w_pass ?_ | with_reducible refine Ev.w_whil ?_
  | ((with_reducible refine Ev.w_val' ?_); (refine ⟨_, rfl, ?_⟩)) | ((with_reducible refine Ev.w_own' ?_); (refine ⟨_, rfl, ?_⟩)) | with_reducible refine Ev.w_const ?_ | with_reducible refine Ev.w_glob ?_ | with_reducible refine Ev.w_globS ?_ | with_reducible refine Ev.w_globT ?_ | with_reducible refine Ev.w_tup ?_ | with_reducible refine Ev.w_lst ?_ | with_reducible refine Ev.w_box ?_
  | with_reducible refine Ev.w_dbox ?_ | with_reducible refine Ev.w_bin ?_ | with_reducible refine Ev.w_neg' ?_ | with_reducible refine Ev.w_cmp' ?_ | with_reducible refine Ev.w_not' ?_ | with_reducible refine Ev.w_and' ?_ | with_reducible refine Ev.w_or' ?_ | with_reducible refine Ev.w_if ?_
  | with_reducible refine Ev.w_get1 ?_ | with_reducible refine Ev.w_get2 ?_ | with_reducible refine Ev.w_din ?_ | with_reducible refine Ev.w_dinN ?_ | with_reducible refine Ev.w_tdin ?_ | with_reducible refine Ev.w_tdinN ?_ | with_reducible refine Ev.w_dnewK ?_ | with_reducible refine Ev.w_dnewT ?_
  | with_reducible refine Ev.w_idx ?_ | with_reducible refine Ev.w_slice ?_ | with_reducible refine Ev.w_rev ?_ | with_reducible refine Ev.w_call ?_ | with_reducible refine Ev.w_bfn ?_ | with_reducible refine Ev.w_isi ?_ | with_reducible refine Ev.w_comp ?_
  | with_reducible refine Ev.w_vnil ?_ | with_reducible refine Ev.w_vcons ?_ | with_reducible refine Ev.w_dnil ?_ | with_reducible refine Ev.w_dcons ?_ | with_reducible refine Ev.w_tnil ?_ | with_reducible refine Ev.w_tcons ?_ | with_reducible refine Ev.w_onone ?_ | with_reducible refine Ev.w_osome ?_
  | with_reducible refine Ev.w_tval ?_ | with_reducible refine Ev.w_tcmp ?_ | with_reducible refine Ev.w_tchain ?_ | with_reducible refine Ev.w_tand ?_ | with_reducible refine Ev.w_tor ?_ | with_reducible refine Ev.w_tnot ?_
  | with_reducible refine Ev.w_comp2 ?_ | with_reducible refine Ev.w_lrng1 ?_ | with_reducible refine Ev.w_lrng2 ?_ | with_reducible refine Ev.w_xm ?_ | with_reducible refine Ev.w_pm ?_ | with_reducible refine Ev.w_ddis ?_
  | with_reducible refine Ev.w_muli ?_ | with_reducible refine Ev.w_extend ?_ | with_reducible refine Ev.w_asgL ?_ | with_reducible refine Ev.w_forS ?_ | with_reducible refine Ev.wl_rt ?_ | with_reducible refine Ev.wl_bk ?_
  | with_reducible refine Ev.e_vl ?_ | with_reducible refine Ev.e_vt ?_ | with_reducible refine Ev.e_n ?_ | with_reducible refine Ev.e_b ?_ | with_reducible refine Ev.sq_vl ?_ | with_reducible refine Ev.sq_n ?_ | with_reducible refine Ev.sq_b ?_
  | ((with_reducible refine Ev.parI ?_); (refine ⟨_, _, rfl, rfl, ?_⟩); dsimp only [List.set_cons_zero, List.set_cons_succ]) | ((with_reducible refine Ev.o_lr1 ?_ ?_); (omega)) | ((with_reducible refine Ev.o_lr1T ?_ ?_); (omega)) | ((with_reducible refine Ev.o_lr2 ?_ ?_); (omega))
  | with_reducible refine Ev.w_rng1 ?_ | with_reducible refine Ev.w_rng2 ?_ | with_reducible refine Ev.w_seq ?_ | with_reducible refine Ev.w_enum ?_ | with_reducible refine Ev.w_zip ?_ | with_reducible refine Ev.w_zipS ?_
  | ((with_reducible refine Ev.w_retOwn' ?_); (refine ⟨_, rfl, ?_⟩)) | ((with_reducible refine Ev.w_frz' ?_); (refine ⟨_, rfl, ?_⟩); dsimp only [List.set_cons_zero, List.set_cons_succ])
  | with_reducible refine Ev.go_rt ?_ | with_reducible refine Ev.go_bk ?_ | with_reducible refine Ev.go_ct ?_ | with_reducible refine Ev.rt_rt ?_ | with_reducible refine Ev.rt_nx ?_
  | ((with_reducible refine Ev.a_v ?_ ?_); (rfl); dsimp only [List.set_cons_zero, List.set_cons_succ]) | ((with_reducible refine Ev.a_n ?_ ?_); (rfl); dsimp only [List.set_cons_zero, List.set_cons_succ])
  | ((with_reducible refine Ev.a_t2 ?_ ?_ ?_); (rfl); (rfl); dsimp only [List.set_cons_zero, List.set_cons_succ])
  | ((with_reducible refine Ev.f_v ?_ ?_); (rfl); dsimp only [List.set_cons_zero, List.set_cons_succ]) | ((with_reducible refine Ev.f_t2 ?_ ?_ ?_); (rfl); (rfl); dsimp only [List.set_cons_zero, List.set_cons_succ])
  | with_reducible refine Ev.lp_nx ?_ | with_reducible refine Ev.lp_ct ?_ | with_reducible refine Ev.lp_bk ?_ | with_reducible refine Ev.lp_rt ?_ | with_reducible refine Ev.cp_some ?_ | with_reducible refine Ev.cp_none ?_ | with_reducible refine Ev.w_forF ?_ | with_reducible refine Ev.w_compF0 ?_ | with_reducible refine Ev.w_compF ?_
  | with_reducible refine Ev.o_add ?_ | with_reducible refine Ev.o_sub ?_ | with_reducible refine Ev.o_gt ?_ | with_reducible refine Ev.o_lt ?_ | with_reducible refine Ev.o_le ?_ | with_reducible refine Ev.o_ge ?_ | with_reducible refine Ev.o_eqI ?_ | with_reducible refine Ev.o_neI ?_
  | with_reducible refine Ev.o_lenL ?_ | with_reducible refine Ev.o_lenT ?_ | with_reducible refine Ev.o_lenB ?_ | with_reducible refine Ev.o_lenN ?_
  | ((with_reducible refine Ev.o_modP ?_ ?_); (omega)) | ((with_reducible refine Ev.o_fdivP ?_ ?_ ?_); (omega); (omega)) | ((with_reducible refine Ev.o_powP ?_ ?_ ?_); (omega); (omega))
  | ((with_reducible refine Ev.o_mulA ?_ ?_); (omega)) | ((with_reducible refine Ev.o_mulB ?_ ?_); (omega))
  | ((with_reducible refine Ev.sz_ok ?_ ?_); (rfl)) | ((with_reducible refine Ev.ap_ok ?_ ?_); (first | omega | (simp only [List.length_map, List.length_append, List.length_cons, List.length_nil]; omega))) | ((with_reducible refine Ev.g_rng ?_ ?_); (omega)) | ((with_reducible refine Ev.g_rng2 ?_ ?_); (omega)) | with_reducible refine Ev.i_vl ?_ | with_reducible refine Ev.i_vt ?_ | with_reducible refine Ev.i_n ?_ | with_reducible refine Ev.i_b ?_
  | with_reducible refine Ev.o_strEq ?_ | with_reducible refine Ev.o_strNe ?_ | with_reducible refine Ev.o_revVL ?_ | with_reducible refine Ev.o_revVT ?_ | with_reducible refine Ev.o_revN ?_ | with_reducible refine Ev.o_revB ?_ | with_reducible refine Ev.o_tupVL ?_ | with_reducible refine Ev.o_tupVT ?_ | with_reducible refine Ev.o_tupN ?_ | with_reducible refine Ev.o_tupB ?_ | with_reducible refine Ev.o_lstVL ?_ | with_reducible refine Ev.o_lstVT ?_ | with_reducible refine Ev.o_lstN ?_ | with_reducible refine Ev.o_lstB ?_
  | ((with_reducible refine Ev.zipI ?_); (first | refine ⟨_, _, .inl ⟨rfl, rfl⟩, ?_⟩ | refine ⟨_, _, .inr ⟨rfl, rfl⟩, ?_⟩)) | ((with_reducible refine Ev.o_ixTc ?_); (refine ⟨_, rfl, ?_⟩)) | ((with_reducible refine Ev.o_ixLc ?_); (refine ⟨_, rfl, ?_⟩)) | ((with_reducible refine Ev.o_ixNc ?_); (refine ⟨_, rfl, ?_⟩)) | ((with_reducible refine Ev.fillI ?_); (refine ⟨_, rfl, ?_⟩)) | ((with_reducible refine Ev.ownI ?_); (refine ⟨_, rfl, ?_⟩)) | ((with_reducible refine Ev.addiI ?_); (refine ⟨_, rfl, ?_⟩))
  | with_reducible refine Ev.b_ok' ?_ | with_reducible refine Ev.g_int ?_ | with_reducible refine Ev.v_v ?_ | with_reducible refine Ev.v_n ?_ | with_reducible refine Ev.d_v ?_ | with_reducible refine Ev.d_n ?_ | with_reducible refine Ev.r_v ?_ | with_reducible refine Ev.r_n ?_ | with_reducible refine Ev.c_t ?_ | with_reducible refine Ev.c_f ?_
  | with_reducible refine Ev.oi_int_n ?_ | with_reducible refine Ev.oi_int_b ?_ | with_reducible refine Ev.oi_int_i ?_ | with_reducible refine Ev.oi_int_s ?_ | with_reducible refine Ev.oi_int_l ?_ | with_reducible refine Ev.oi_int_t ?_ | with_reducible refine Ev.oi_int_d ?_ | with_reducible refine Ev.oi_bool_n ?_ | with_reducible refine Ev.oi_bool_b ?_ | with_reducible refine Ev.oi_bool_i ?_ | with_reducible refine Ev.oi_bool_s ?_ | with_reducible refine Ev.oi_bool_l ?_ | with_reducible refine Ev.oi_bool_t ?_ | with_reducible refine Ev.oi_bool_d ?_ | with_reducible refine Ev.oi_tuple_n ?_ | with_reducible refine Ev.oi_tuple_b ?_ | with_reducible refine Ev.oi_tuple_i ?_ | with_reducible refine Ev.oi_tuple_s ?_ | with_reducible refine Ev.oi_tuple_l ?_ | with_reducible refine Ev.oi_tuple_t ?_ | with_reducible refine Ev.oi_tuple_d ?_ | with_reducible refine Ev.oi_str_n ?_ | with_reducible refine Ev.oi_str_b ?_ | with_reducible refine Ev.oi_str_i ?_ | with_reducible refine Ev.oi_str_s ?_ | with_reducible refine Ev.oi_str_l ?_ | with_reducible refine Ev.oi_str_t ?_ | with_reducible refine Ev.oi_str_d ?_ | with_reducible refine Ev.oi_list_n ?_ | with_reducible refine Ev.oi_list_b ?_ | with_reducible refine Ev.oi_list_i ?_ | with_reducible refine Ev.oi_list_s ?_ | with_reducible refine Ev.oi_list_l ?_ | with_reducible refine Ev.oi_list_t ?_ | with_reducible refine Ev.oi_list_d ?_ | with_reducible refine Ev.oi_dict_n ?_ | with_reducible refine Ev.oi_dict_b ?_ | with_reducible refine Ev.oi_dict_i ?_ | with_reducible refine Ev.oi_dict_s ?_ | with_reducible refine Ev.oi_dict_l ?_ | with_reducible refine Ev.oi_dict_t ?_ | with_reducible refine Ev.oi_dict_d ?_
  | with_reducible refine Ev.o_ix0T ?_ | with_reducible refine Ev.o_ix0L ?_ | with_reducible refine Ev.o_ix0B ?_ | with_reducible refine Ev.o_ix0N ?_ | with_reducible refine Ev.o_ix1T ?_ | with_reducible refine Ev.o_ix1L ?_ | with_reducible refine Ev.o_ix1B ?_ | with_reducible refine Ev.o_ix1N ?_ | with_reducible refine Ev.o_ix2T ?_ | with_reducible refine Ev.o_ix2L ?_ | with_reducible refine Ev.o_ix2B ?_ | with_reducible refine Ev.o_ix2N ?_ | with_reducible refine Ev.o_ix3T ?_ | with_reducible refine Ev.o_ix3L ?_ | with_reducible refine Ev.o_ix3B ?_ | with_reducible refine Ev.o_ix3N ?_
  | with_reducible refine Ev.w_m0 ?_ | with_reducible refine Ev.o_intI ?_ | with_reducible refine Ev.o_intB ?_ | with_reducible refine Ev.o_strB ?_ | with_reducible refine Ev.o_strS ?_ | with_reducible refine Ev.o_inSg ?_ | with_reducible refine Ev.o_ninSg ?_ | with_reducible refine Ev.i_vs ?_ | with_reducible refine Ev.o_addBI ?_ | with_reducible refine Ev.o_eqBI ?_
  | ((with_reducible refine Ev.a_tupI ?_); (refine ⟨_, rfl, ?_⟩)) | ((with_reducible refine Ev.f_tupI ?_); (refine ⟨_, rfl, ?_⟩)) | ((with_reducible refine Ev.w_frzV ?_); (refine ⟨_, rfl, ?_⟩)) | with_reducible refine Ev.o_slT ?_ | with_reducible refine Ev.o_slL ?_ | with_reducible refine Ev.o_slB ?_ | with_reducible refine Ev.o_slN ?_ | with_reducible refine Ev.o_slS ?_
  | with_reducible refine Ev.c_t1 ?_ | with_reducible refine Ev.c_f1 ?_ | with_reducible refine Ev.tr_b ?_ | with_reducible refine Ev.tr_i ?_ | with_reducible refine Ev.tr_t ?_ | with_reducible refine Ev.tr_l ?_ | with_reducible refine Ev.tr_lb ?_ | with_reducible refine Ev.c_nt ?_ | with_reducible refine Ev.c_nf ?_ | with_reducible refine Ev.w_chain ?_ | with_reducible refine Ev.o_allB ?_ | with_reducible refine Ev.o_anyB ?_ | with_reducible refine Ev.o_allM ?_ | with_reducible refine Ev.o_anyM ?_
  | ((with_reducible refine Ev.c_asT ?_ ?_); (with_reducible assumption)) | ((with_reducible refine Ev.c_asF ?_ ?_); (with_reducible assumption)) | ((with_reducible refine Ev.c_nasT ?_ ?_); (with_reducible assumption)) | ((with_reducible refine Ev.c_nasF ?_ ?_); (with_reducible assumption))
  | ((with_reducible refine Ev.c_decT ?_ ?_); (first | omega | (simp only [List.length_cons, List.length_nil, List.length_map, List.length_append, rngL_len]; omega)))
  | ((with_reducible refine Ev.c_decF ?_ ?_); (first | omega | (simp only [List.length_cons, List.length_nil, List.length_map, List.length_append, rngL_len]; omega)))
  | ((with_reducible refine Ev.c_ndecT ?_ ?_); (first | omega | (simp only [List.length_cons, List.length_nil, List.length_map, List.length_append, rngL_len]; omega)))
  | ((with_reducible refine Ev.c_ndecF ?_ ?_); (first | omega | (simp only [List.length_cons, List.length_nil, List.length_map, List.length_append, rngL_len]; omega)))
  | ((with_reducible show wp (compL (compF _ (wipeE _ _) _ _) _ _ _) _ _); simp only [wipeE, List.map_cons, List.map_nil, List.set_cons_zero, List.set_cons_succ])
  | dsimp only [List.set_cons_zero, List.set_cons_succ])
local macro_rules | `(tactic| walk_at "ex") => `(tactic| repeat walk_at "ex1")
local macro_rules | `(tactic| walk_at "ev") => `(tactic| repeat walk_at "ev1")
local macro_rules | `(tactic| walk_at "evs") => `(tactic| repeat' (first | walk_at "ev1" | with_reducible refine c_dec (fun _ => ?_) (fun _ => ?_) | with_reducible refine c_ndec (fun _ => ?_) (fun _ => ?_)))
local macro_rules | `(tactic| walk_at "ev0") => `(tactic| simp only [List.map_cons, List.map_nil, List.length_cons, List.length_nil, List.cons_append, List.nil_append, Nat.reduceAdd, Nat.reduceSub, List.replicate])


local macro_rules | `(tactic| walk_at "ev1") => `(tactic| first
  | with_reducible refine fd_get.1 ?_ | with_reducible refine fd_get.2.1 ?_ | with_reducible refine fd_get.2.2.1 ?_ | with_reducible refine fd_get.2.2.2 ?_
  | with_reducible refine fd_put.1 ?_ | with_reducible refine fd_put.2.1 ?_ | with_reducible refine fd_put.2.2 ?_)
def draw19 : Fn := ⟨["feed", "many"], ["feed", "many", "cells", "at", "rest", "turn", "cell", "mixed"], [
  .asgL [2, 3, 4, 5] (.var 0),
  .seti (.var 0) (.const (.int 3)) (.bin .add (.var 5) (.const (.int 1))),
  .ife (.cmp .gt (.var 4) (.const (.int 0)))
  [.seti (.var 0) (.const (.int 2)) (.bin .fdiv (.var 4) (.var 1)),
  .ret (.bin .mod (.var 4) (.var 1))]
  [],
  .seti (.var 0) (.const (.int 1)) (.bin .add (.var 3) (.const (.int 1))),
  .asg (.name 6) (.ife (.cmp .gt (.bfn .len (.var 2) []) (.const (.int 0))) (.idx (.var 2) (.bin .mod (.var 3) (.bfn .len (.var 2) []))) (.const (.int 11))),
  .ife (.and (.cmp .ge (.var 6) (.bin .pow (.const (.int 10)) (.const (.int 18)))) (.cmp .lt (.var 3) (.bfn .len (.var 2) [])))
  [.seti (.var 0) (.const (.int 2)) (.bin .fdiv (.var 6) (.var 1)),
  .ret (.bin .mod (.var 6) (.var 1))]
  [],
  .asg (.name 7) (.bin .mod (.bin .pow (.bin .add (.bin .add (.bin .mod (.var 6) (.const (.int 2147483629))) (.bin .mul (.const (.int 6151)) (.var 5))) (.const (.int 389))) (.const (.int 5))) (.const (.int 2147483647))),
  .asg (.name 7) (.bin .mod (.bin .pow (.bin .add (.bin .add (.var 7) (.bin .mul (.const (.int 24593)) (.var 5))) (.const (.int 53))) (.const (.int 5))) (.const (.int 2147483587))),
  .ret (.bin .mod (.bin .fdiv (.var 7) (.const (.int 64))) (.var 1))]⟩
section
variable {G : Defs} {n : Nat} {m : Store} {Q : Tmp → Store → Prop} {Xp : XP} {d : Int}
end
end Ev
set_option Elab.async false
set_option linter.all false
set_option maxHeartbeats 4000000
namespace Ev
open PySem L2
theorem w_compM {α : Type} {c : Calls} {Xp : XP} {tg : Tg} {e : Ex} {r0 : Ev.Env} {m : Store} {Q : List D → Store → Prop} {ws : List α} (f g : α → D)
    (hs : ∀ w ∈ ws, ∃ r', asg tg (.d (f w)) r0 = some r' ∧ wp (evE c e r' m) (fun t m' => toD t = some (g w) ∧ m' = m) fun _ _ _ => False) (hl : ws.length ≤ sizeLine) (q : Q (ws.map g) m) :
    wp (compL (compF tg r0 (evC c none) (evE c e)) ((ws.map f).map .d) m []) Q Xp := by
  refine w_compL (fun i acc m' => m' = m ∧ acc = (ws.take i).map g) (fun i x acc m' e1 hi => ?_) (by simpa using hl) ⟨rfl, by simp⟩ fun ys m' hi => ?_
  · obtain ⟨rfl, rfl⟩ := hi
    rw [List.map_map, List.getElem?_map] at e1
    obtain ⟨d, e2, rfl⟩ := Option.map_eq_some_iff.mp e1
    obtain ⟨r', a1, a2⟩ := hs d (List.mem_of_getElem? e2)
    refine w_compF0 ⟨r', a1, wp_mono a2 fun t m2 h => ?_⟩
    obtain ⟨h, rfl⟩ := h
    refine ⟨_, h, cp_some ⟨rfl, ?_⟩⟩
    rw [List.take_succ, e2, List.map_append]
    rfl
  · obtain ⟨rfl, rfl⟩ := hi
    rw [List.length_map, List.length_map, List.take_length]
    exact q
theorem w_compMT {α : Type} {c : Calls} {Xp : XP} {tg : Tg} {e : Ex} {t : Te} {r0 : Ev.Env} {m : Store} {Q : List D → Store → Prop} {ws : List α} (p : α → Bool) (f g : α → D)
    (hs : ∀ w ∈ ws, ∃ r', asg tg (.d (f w)) r0 = some r' ∧ wp (evT c t r' m) (fun k m' => k = p w ∧ m' = m) (fun _ _ _ => False) ∧ (p w = true → wp (evE c e r' m) (fun t m' => toD t = some (g w) ∧ m' = m) fun _ _ _ => False)) (hl : ws.length ≤ sizeLine) (q : Q ((ws.filter p).map g) m) :
    wp (compL (compF tg r0 (evC c (some t)) (evE c e)) ((ws.map f).map .d) m []) Q Xp := by
  refine w_compL (fun i acc m' => m' = m ∧ acc = ((ws.take i).filter p).map g) (fun i x acc m' e1 hi => ?_) (by simpa using hl) ⟨rfl, by simp⟩ fun ys m' hi => ?_
  · obtain ⟨rfl, rfl⟩ := hi
    rw [List.map_map, List.getElem?_map] at e1
    obtain ⟨d, e2, rfl⟩ := Option.map_eq_some_iff.mp e1
    obtain ⟨r', a1, a2, a3⟩ := hs d (List.mem_of_getElem? e2)
    refine w_compF ⟨r', a1, wp_mono a2 fun k m2 h => ?_⟩
    obtain ⟨rfl, rfl⟩ := h
    refine ⟨fun hp => wp_mono (a3 hp) fun t m2 h => ?_, fun hp => cp_none ⟨rfl, ?_⟩⟩
    · obtain ⟨h, rfl⟩ := h
      refine ⟨_, h, cp_some ⟨rfl, ?_⟩⟩
      rw [List.take_succ, e2, List.filter_append, List.map_append]
      simp [hp]
    · rw [List.take_succ, e2, List.filter_append]
      simp [hp]
  · obtain ⟨rfl, rfl⟩ := hi
    rw [List.length_map, List.length_map, List.take_length]
    exact q
theorem zipL_map {α β : Type} {f : α → D} {g : β → D} : ∀ {xs : List α} {ys : List β}, zipL (xs.map f) (ys.map g) = ((xs.zip ys).map fun p => .tuple [f p.1, g p.2]).map .d
  | [], _ => rfl
  | _ :: _, [] => rfl
  | x :: xs, y :: ys => by
    rw [List.map_cons, List.map_cons, List.zip_cons_cons, List.map_cons, List.map_cons, zipL, zipL_map]
def Tv (xs : List D) (v : Val) : Prop := v = .d (.tuple xs) ∨ v = .kt xs
section
variable {m : Store} {A : Bool → Prop} {P : Tmp → Prop} {xs : List D} {v : Val}
theorem o_notinTv {x : D} (hv : Tv xs v) (h1 : SeqAt.shaped x = true) (h2 : xs.all SeqAt.shaped = true) (a : A (!xs.any fun y => PyData.eqv y x)) : ∃ z, cmpV .notin (.v (.d x)) (.v v) = some z ∧ A z := by
  refine ⟨_, ?_, a⟩
  rcases hv with rfl | rfl <;> simp only [cmpV, Tmp.data?, Tmp.items?, inD, h1, h2, Bool.and_self, if_true, Option.map]
theorem strsD_map : ∀ {ss : List Str}, strsD (ss.map .str) = some ss
  | [] => rfl
  | s :: ss => by
    rw [List.map_cons, strsD, strsD_map]
    rfl
theorem o_sortS {t : Tmp} {ss : List Str} (e : t.data? = some (.list (ss.map .str))) (h : ss.length < 64) (q : ∀ ys : List Str, ys.Perm ss → P (.new (.list (ys.map .str)))) : ∃ z, bfnV .sorted [t] m = some z ∧ P z := by
  cases ss with
  | nil => exact ⟨_, by simp [bfnV, e, sortD, intsD], q [] (.refl _)⟩
  | cons s ss =>
    refine ⟨_, ?_, q ((s :: ss).mergeSort leS) (List.mergeSort_perm _ _)⟩
    simp only [bfnV, e]
    rw [show sortD ((s :: ss).map .str) = some (((s :: ss).mergeSort leS).map .str) by
      have e2 : strsD ((s :: ss).map .str) = some (s :: ss) := strsD_map
      unfold sortD
      rw [show intsD ((s :: ss).map .str) = none from rfl]
      dsimp only
      rw [e2]
      exact if_pos h]
    rfl
theorem o_sortR {t : Tmp} {x : D} {ds : List D} (e : t.data? = some (.list (x :: ds))) (h : rowsB (x :: ds) = true) (q : P (.new (.list (sortRows (x :: ds))))) : ∃ z, bfnV .sorted [t] m = some z ∧ P z := by
  refine ⟨_, ?_, q⟩
  have hx : ∃ y r, x = .tuple (y :: r) := by
    have h1 := List.all_eq_true.mp h x (List.mem_cons_self ..)
    rw [Bool.and_eq_true] at h1
    obtain ⟨a, b, _, _, e1, _⟩ := rowB_of (List.all_eq_true.mp h1.2 x (List.mem_cons_self ..))
    exact ⟨a, b, e1⟩
  obtain ⟨y, r, rfl⟩ := hx
  simp only [bfnV, e]
  rw [show sortD (.tuple (y :: r) :: ds) = some (sortRows (.tuple (y :: r) :: ds)) by
    unfold sortD
    rw [show intsD (.tuple (y :: r) :: ds) = none from rfl]
    dsimp only
    rw [show strsD (.tuple (y :: r) :: ds) = none from rfl]
    exact if_pos h]
  rfl
end
theorem sdc {s : Str} {n : Nat} (h1 : sd (.str s) = true) (h2 : Nat.ble (nod (.str s)) n = true) : ∀ {k : Nat}, SD (.str s) k n := fun {k} => ⟨h1, by simp [PyData.depth], Nat.le_of_ble_eq_true h2⟩
mutual
theorem alike_self : ∀ d : D, sd d = true → PySem.W.alike d d = true
  | .none, _ => rfl
  | .bool _, _ => rfl
  | .int _, _ => rfl
  | .str _, _ => rfl
  | .list xs, h => by
    simp only [PySem.W.alike]
    exact alikeAll_self xs (by simpa [sd] using h)
  | .tuple xs, h => by
    simp only [PySem.W.alike]
    exact alikeAll_self xs (by simpa [sd] using h)
  | .dict _, h => by simp [sd] at h
theorem alikeAll_self : ∀ xs : List D, sdAll xs = true → PySem.W.alikeAll xs xs = true
  | [], _ => rfl
  | x :: xs, h => by
    rw [sdAll, Bool.and_eq_true] at h
    rw [PySem.W.alikeAll, alike_self x h.1, alikeAll_self xs h.2]
    rfl
end
theorem rowOk_self : ∀ xs : List D, sdAll xs = true → rowOk xs xs = true
  | [], _ => rfl
  | x :: xs, h => by
    rw [sdAll, Bool.and_eq_true] at h
    rw [rowOk, alike_self x h.1, rowOk_self xs h.2]
    simp
theorem sortRows_id {ds : List D} (h : ds.Pairwise fun a b => PySem.W.dataLt b a = false) : sortRows ds = ds := by
  unfold sortRows
  rw [PySem.W.dataLe_eq]
  refine List.mergeSort_of_pairwise (h.imp fun {a b} e => ?_)
  show (!PySem.W.dataLt b a) = true
  rw [e]
  rfl
theorem dataLt_str1 {a b : Str} {xs ys : List D} (h : a ≠ b) : PySem.W.dataLt (.tuple (.str a :: xs)) (.tuple (.str b :: ys)) = decide (a.cps.toList < b.cps.toList) := by
  rw [PySem.W.dataLt_tuple, PySem.W.dataLt_all_no rfl (by simp [PyData.eqv, h]), PySem.W.dataLt_str]
section
variable {c : Calls} {e : Ex} {t : Te} {ss : List Sm} {r : Env} {m : Store} {Xp : XP} {α : Type} {o : Out α}
theorem gdE {Q : Tmp → Store → Prop} (h : wp (evE c e r m) Q Xp) : wp (evE c e r m) Q Xp := h
theorem gdS {Q : Fl → Store → Prop} (h : wp (evSs c ss r m) Q Xp) : wp (evSs c ss r m) Q Xp := h
theorem gdT {Q : Bool → Store → Prop} (h : wp (evT c t r m) Q Xp) : wp (evT c t r m) Q Xp := h
theorem gdW {Q : α → Store → Prop} (h : wp o Q Xp) : wp o Q Xp := h
theorem gdX {β : Type} {P : β → Prop} (h : ∃ x, P x) : ∃ x, P x := h
theorem gdA {A B : Prop} (h : A ∧ B) : A ∧ B := h
theorem gdBin {f : BOp} {x y : Tmp} {P : Tmp → Prop} (h : ∃ z, binV f x y = some z ∧ P z) : ∃ z, binV f x y = some z ∧ P z := h
theorem gdCmp {f : COp} {x y : Tmp} {P : Bool → Prop} (h : ∃ z, cmpV f x y = some z ∧ P z) : ∃ z, cmpV f x y = some z ∧ P z := h
theorem gdIdx {x y : Tmp} {P : Val → Prop} (h : ∃ z, idxV x y m = some z ∧ P z) : ∃ z, idxV x y m = some z ∧ P z := h
theorem gdIsi {ts : List String} {xs : List Tmp} {P : Tmp → Prop} (h : ∃ z, bfnV (.isinst ts) xs m = some z ∧ P z) : ∃ z, bfnV (.isinst ts) xs m = some z ∧ P z := h
theorem gdBfn {f : BFn} {xs : List Tmp} {P : Tmp → Prop} (h : ∃ z, bfnV f xs m = some z ∧ P z) : ∃ z, bfnV f xs m = some z ∧ P z := h
end
end Ev
set_option Elab.async false
set_option linter.all false
set_option maxRecDepth 100000
set_option maxHeartbeats 0
namespace Law
open PySem PySem.Spec PyProof.Rows L2 Ev
def b0_state_names : List Sm := [
  .asg (.name 6) (.bin .add (.bin .add (.const (.str "s")) (.var 4)) (.var 5)),
  .append 3 (.var 6),
  .ife (.and (.cmp .notin (.var 6) (.var 1)) (.cmp .lt (.bfn .len (.var 2) []) (.var 0)))
[.append 2 (.var 6)]
[]]
def b1_state_names : List Sm := [
  .forr (.name 5) (.seq (.glob "LETTERS" (.str "abcdefghijklmnopqrstuvwxyz"))) b0_state_names]
def c2_state_names : Te := (.cmp .notin (.var 6) (.var 1))
def x3_state_names : Ex := (.var 6)
def b4_state_names : List Sm := [
  .bad,
  .asg (.name 2) (.bin .add (.var 2) (.slice (.comp x3_state_names (.name 6) (.seq (.var 3)) (some c2_state_names) [("word", 6)]) none (some (.bin .sub (.var 0) (.bfn .len (.var 2) [])))))]
def f_state_names : Fn := ⟨["many", "names"], ["many", "names", "found", "words", "one", "other", "word", "letter"], [
  .par 2 3 (.lst []) (.lst []),
  .forr (.name 4) (.seq (.glob "LETTERS" (.str "abcdefghijklmnopqrstuvwxyz"))) b1_state_names,
  .whil (.cmp .lt (.bfn .len (.var 2) []) (.var 0)) b4_state_names,
  .retOwn 2]⟩
def x0_state_term : Ex := (.tup [(.const (.str "name")), (.idx (.var 2) (.var 3))])
def f_state_term : Fn := ⟨["piece", "moves", "words"], ["piece", "moves", "words", "move"], [
  .ret (.tup [(.const (.str "put")), (.var 0), (.tup [(.const (.str "rest")), (.tup [(.const (.str "zip")), (.bfn .tupleOf (.comp x0_state_term (.name 3) (.seq (.var 1)) none [("move", 3)]) [])])])])]⟩
def x0_rules_of : Ex := (.tup [(.var 7), (.call "state_term" [(.var 8), (.var 9), (.var 5)] [] [] [.inl 0, .inl 1, .inl 2])])
def f_rules_of : Fn := ⟨["machine", "names"], ["machine", "names", "base", "turn", "states", "words", "rows", "word", "piece", "moves"], [
  .asg (.tup [(.name 2), (.name 3), (.name 4)]) (.var 0),
  .asg (.name 5) (.call "state_names" [(.bfn .len (.var 4) []), (.var 1)] [] [] [.inl 0, .inl 1]),
  .freeze 5,
  .asg (.name 6) (.comp x0_rules_of (.tup [(.name 7), (.tup [(.name 8), (.name 9)])]) (.zip true (.var 5) (.var 4)) none [("word", 7), ("piece", 8), ("moves", 9)]),
  .freeze 6,
  .ret (.tup [(.var 2), (.bfn .tupleOf (.bfn .sorted (.var 6) []) [])])]⟩
def f__law_feed : Fn := ⟨["script"], ["script"], [
  .ret (.box (.lst [(.slice (.var 0) none (some (.const (.int 63)))), (.const (.int 0)), (.const (.int 0)), (.const (.int 0))]))]⟩
def f__law_draw : Fn := ⟨["feed", "many"], ["feed", "many", "found", "at", "cell", "mixed"], [
  .seti (.var 0) (.const (.int 3)) (.bin .add (.idx (.var 0) (.const (.int 3))) (.const (.int 1))),
  .ife (.cmp .gt (.idx (.var 0) (.const (.int 2))) (.const (.int 0)))
  [.asg (.name 2) (.bin .mod (.idx (.var 0) (.const (.int 2))) (.var 1)),
  .seti (.var 0) (.const (.int 2)) (.bin .fdiv (.idx (.var 0) (.const (.int 2))) (.var 1)),
  .ret (.var 2)]
  [],
  .asg (.name 3) (.idx (.var 0) (.const (.int 1))),
  .seti (.var 0) (.const (.int 1)) (.bin .add (.var 3) (.const (.int 1))),
  .asg (.name 4) (.ife (.cmp .gt (.bfn .len (.idx (.var 0) (.const (.int 0))) []) (.const (.int 0))) (.idx (.idx (.var 0) (.const (.int 0))) (.bin .mod (.var 3) (.bfn .len (.idx (.var 0) (.const (.int 0))) []))) (.const (.int 9))),
  .ife (.and (.cmp .ge (.var 4) (.bin .pow (.const (.int 10)) (.const (.int 18)))) (.cmp .lt (.var 3) (.bfn .len (.idx (.var 0) (.const (.int 0))) [])))
  [.seti (.var 0) (.const (.int 2)) (.bin .fdiv (.var 4) (.var 1)),
  .ret (.bin .mod (.var 4) (.var 1))]
  [],
  .asg (.name 5) (.bin .mod (.bin .pow (.bin .add (.bin .add (.bin .mod (.var 4) (.const (.int 2147483629))) (.bin .mul (.const (.int 100003)) (.idx (.var 0) (.const (.int 3))))) (.const (.int 53))) (.const (.int 5))) (.const (.int 2147483647))),
  .ret (.bin .mod (.bin .fdiv (.bin .mod (.bin .pow (.bin .add (.var 5) (.bin .mul (.bin .mul (.const (.int 57119)) (.idx (.var 0) (.const (.int 3)))) (.idx (.var 0) (.const (.int 3))))) (.const (.int 5))) (.const (.int 2147483587))) (.const (.int 64))) (.var 1))]⟩
def f__law_same : Fn := ⟨["found", "due"], ["found", "due"], [
  .ret (.cmp .eq (.bfn .repr (.var 0) []) (.bfn .repr (.var 1) []))]⟩
def x0_law_machine : Ex := (.call "_law_draw" [(.var 0), (.var 1)] [] [] [.inl 0, .inl 1])
def x1_law_machine : Ex := (.idx (.var 4) (.bin .fdiv (.var 5) (.const (.int 2))))
def c2_law_machine : Te := (.cmp .eq (.idx (.var 4) (.var 8)) (.idx (.var 4) (.var 5)))
def x3_law_machine : Ex := (.var 8)
def b4_law_machine : List Sm := [
  .asg (.name 9) (.bin .add (.var 9) (.tup [(.call "_law_draw" [(.var 0), (.ife (.val (.var 10)) (.bin .add (.var 5) (.const (.int 1))) (.var 3))] [] [] [.inl 0, .inl 1])]))]
def b5_law_machine : List Sm := [
  .asg (.name 7) (.comp x3_law_machine (.name 8) (.rng1 (.var 3)) (some c2_law_machine) [("j", 8)]),
  .freeze 7,
  .asg (.name 9) (.tup [(.idx (.var 7) (.call "_law_draw" [(.var 0), (.bfn .len (.var 7) [])] [] [] [.inl 0, .inl 1]))]),
  .asg (.name 10) (.cmp .eq (.call "_law_draw" [(.var 0), (.const (.int 3))] [] [] [.inl 0, .inl 1]) (.const (.int 0))),
  .forr (.name 8) (.rng1 (.bin .sub (.var 2) (.const (.int 1)))) b4_law_machine,
  .append 6 (.tup [(.idx (.var 4) (.var 5)), (.var 9)])]
def f__law_machine : Fn := ⟨["feed", "base", "turn", "many"], ["feed", "base", "turn", "many", "pieces", "k", "states", "same", "j", "moves", "near"], [
  .asg (.name 4) (.comp x0_law_machine (.name 5) (.rng1 (.var 3)) none [("k", 5)]),
  .freeze 4,
  .ife (.cmp .eq (.call "_law_draw" [(.var 0), (.const (.int 4))] [] [] [.inl 0, .inl 1]) (.const (.int 0)))
  [.asg (.name 4) (.comp x1_law_machine (.name 5) (.rng1 (.var 3)) none [("k", 5)]),
  .freeze 4]
  [],
  .asg (.name 6) (.lst []),
  .forr (.name 5) (.rng1 (.var 3)) b5_law_machine,
  .ret (.tup [(.var 1), (.var 2), (.bfn .tupleOf (.var 6) [])])]⟩
def f__law_some : Fn := ⟨["feed", "most"], ["feed", "most", "base", "turn"], [
  .par 2 3 (.idx (.lst [(.const (.int 2)), (.const (.int 2)), (.const (.int 3)), (.bin .add (.const (.int 1)) (.call "_law_draw" [(.var 0), (.const (.int 5))] [] [] [.inl 0, .inl 1]))]) (.call "_law_draw" [(.var 0), (.const (.int 4))] [] [] [.inl 0, .inl 1])) (.bin .add (.const (.int 2)) (.call "_law_draw" [(.var 0), (.const (.int 3))] [] [] [.inl 0, .inl 1])),
  .ret (.call "_law_machine" [(.var 0), (.var 2), (.var 3), (.bin .add (.const (.int 1)) (.call "_law_draw" [(.var 0), (.var 1)] [] [] [.inl 0, .inl 1]))] [] [] [.inl 0, .inl 1, .inl 2, .inl 3])]⟩
def c0_law_words : Te := (.cmp .notin (.bin .add (.bin .add (.const (.str "s")) (.var 4)) (.var 5)) (.var 1))
def x1_law_words : Ex := (.bin .add (.bin .add (.const (.str "s")) (.var 4)) (.var 5))
def b2_law_words : List Sm := [
  .extend 3 (.comp x1_law_words (.name 5) (.seq (.var 2)) (some c0_law_words) [("other", 5)])]
def f__law_words : Fn := ⟨["many", "taken"], ["many", "taken", "letters", "found", "one", "other"], [
  .par 2 3 (.const (.str "abcdefghijklmnopqrstuvwxyz")) (.lst []),
  .forr (.name 4) (.seq (.var 2)) b2_law_words,
  .ret (.slice (.var 3) none (some (.var 0)))]⟩
def x0_law_due : Ex := (.tup [(.const (.str "name")), (.idx (.var 2) (.var 8))])
def b1_law_due : List Sm := [
  .asg (.tup [(.name 5), (.name 6)]) (.idx (.idx (.var 0) (.const (.int 2))) (.var 4)),
  .asg (.name 7) (.bfn .tupleOf (.comp x0_law_due (.name 8) (.seq (.var 6)) none [("move", 8)]) []),
  .append 3 (.tup [(.idx (.var 2) (.var 4)), (.tup [(.const (.str "put")), (.var 5), (.tup [(.const (.str "rest")), (.tup [(.const (.str "zip")), (.var 7)])])])])]
def f__law_due : Fn := ⟨["machine", "taken"], ["machine", "taken", "words", "rows", "k", "piece", "moves", "parts", "move"], [
  .par 2 3 (.call "_law_words" [(.bfn .len (.idx (.var 0) (.const (.int 2))) []), (.var 1)] [] [] [.inl 0, .inl 1]) (.lst []),
  .freeze 2,
  .forr (.name 4) (.rng1 (.bfn .len (.var 2) [])) b1_law_due,
  .ret (.tup [(.idx (.var 0) (.const (.int 0))), (.bfn .tupleOf (.var 3) [])])]⟩
def x0_law : Ex := (.xm .popAt (.var 4) [(.call "_law_draw" [(.var 1), (.bfn .len (.var 4) [])] [] [] [.inl 0, .inl 1])])
def b1_law : List Sm := [
  .asg (.name 3) (.call "_law_some" [(.var 1), (.const (.int 12))] [] [] [.inl 0, .inl 1]),
  .ife (.cmp .eq (.call "_law_draw" [(.var 1), (.const (.int 4))] [] [] [.inl 0, .inl 1]) (.const (.int 0)))
[.asg (.name 3) (.call "_law_machine" [(.var 1), (.const (.int 2)), (.const (.int 2)), (.idx (.lst [(.const (.int 30)), (.const (.int 100))]) (.call "_law_draw" [(.var 1), (.const (.int 2))] [] [] [.inl 0, .inl 1]))] [] [] [.inl 0, .inl 1, .inl 2, .inl 3])]
[],
  .asg (.name 4) (.box (.lst [(.const (.str "saa")), (.const (.str "sab")), (.const (.str "sad")), (.const (.str "saz")), (.const (.str "sba")), (.const (.str "a")), (.const (.str "b")), (.const (.str "szz")), (.const (.str "saaa")), (.const (.str "sbc"))])),
  .asg (.name 5) (.bfn .tupleOf (.bfn .sorted (.comp x0_law (.name 6) (.rng1 (.call "_law_draw" [(.var 1), (.const (.int 8))] [] [] [.inl 0, .inl 1])) none [("k", 6)]) []) []),
  .asg (.name 7) (.bfn .repr (.tup [(.var 3), (.var 5)]) []),
  .ife (.not (.val (.call "_law_same" [(.call "rules_of" [(.var 3)] ["names"] [(.var 5)] [.inl 0, .inl 1]), (.call "_law_due" [(.var 3), (.var 5)] [] [] [.inl 0, .inl 1])] [] [] [.inl 0, .inl 1])))
[.ret (.const (.bool false))]
[],
  .ife (.not (.val (.call "_law_same" [(.lst [(.call "rules_of" [(.var 3)] [] [] [.inl 0, .inr (.tuple [])]), (.call "rules_of" [(.var 3)] ["names"] [(.tup [])] [.inl 0, .inl 1])]), (.bin .mul (.lst [(.call "_law_due" [(.var 3), (.tup [])] [] [] [.inl 0, .inl 1])]) (.const (.int 2)))] [] [] [.inl 0, .inl 1])))
[.ret (.const (.bool false))]
[],
  .ife (.cmp .ne (.bfn .repr (.tup [(.var 3), (.var 5)]) []) (.var 7))
[.ret (.const (.bool false))]
[]]
def f_law : Fn := ⟨["script"], ["script", "feed", "lap", "machine", "pool", "taken", "k", "kept"], [
  .asg (.name 1) (.call "_law_feed" [(.var 0)] [] [] [.inl 0]),
  .freeze 1,
  .forr (.name 2) (.rng1 (.const (.int 2))) b1_law,
  .ret (.const (.bool true))]⟩
abbrev e0 : Ent := ⟨"state_names", f_state_names, [(2, [], [.inl 0, .inl 1])]⟩
abbrev e1 : Ent := ⟨"state_term", f_state_term, [(3, [], [.inl 0, .inl 1, .inl 2])]⟩
abbrev e2 : Ent := ⟨"rules_of", f_rules_of, [(1, ["names"], [.inl 0, .inl 1]), (1, [], [.inl 0, .inr (.tuple [])])]⟩
abbrev e3 : Ent := ⟨"_law_feed", f__law_feed, [(1, [], [.inl 0])]⟩
abbrev e4 : Ent := ⟨"_law_draw", f__law_draw, [(2, [], [.inl 0, .inl 1])]⟩
abbrev e5 : Ent := ⟨"_law_same", f__law_same, [(2, [], [.inl 0, .inl 1])]⟩
abbrev e6 : Ent := ⟨"_law_machine", f__law_machine, [(4, [], [.inl 0, .inl 1, .inl 2, .inl 3])]⟩
abbrev e7 : Ent := ⟨"_law_some", f__law_some, [(2, [], [.inl 0, .inl 1])]⟩
abbrev e8 : Ent := ⟨"_law_words", f__law_words, [(2, [], [.inl 0, .inl 1])]⟩
abbrev e9 : Ent := ⟨"_law_due", f__law_due, [(2, [], [.inl 0, .inl 1])]⟩
abbrev e10 : Ent := ⟨"law", f_law, [(1, [], [.inl 0])]⟩
abbrev ents : List Ent := [e0, e1, e2, e3, e4, e5, e6, e7, e8, e9, e10]
abbrev frees : List Str := ["len", "tuple", "zip", "sorted", "repr", "range"]
abbrev cons : List (Str × D) := [("LETTERS", (.str "abcdefghijklmnopqrstuvwxyz"))]
local macro_rules | `(tactic| walk_at "ev1") => `(tactic| first
  | ((with_reducible refine Ev.gdE ?_); first
    | ((with_reducible refine Ev.w_val' ?_); (refine ⟨_, rfl, ?_⟩))
    | with_reducible refine Ev.w_const ?_
    | with_reducible refine Ev.w_idx ?_
    | with_reducible refine Ev.w_tup ?_
    | with_reducible refine Ev.w_bin ?_
    | with_reducible refine Ev.w_cmp' ?_
    | with_reducible refine Ev.w_call ?_
    | with_reducible refine Ev.w_bfn ?_
    | ((with_reducible refine Ev.w_own' ?_); (refine ⟨_, rfl, ?_⟩))
    | with_reducible refine Ev.w_lst ?_
    | with_reducible refine Ev.w_comp ?_
    | with_reducible refine Ev.w_not' ?_
    | with_reducible refine Ev.w_and' ?_
    | with_reducible refine Ev.w_or' ?_
    | with_reducible refine Ev.w_glob ?_
    | with_reducible refine Ev.w_globS ?_
    | with_reducible refine Ev.w_globT ?_
    | with_reducible refine Ev.w_box ?_
    | with_reducible refine Ev.w_dbox ?_
    | with_reducible refine Ev.w_neg' ?_
    | with_reducible refine Ev.w_if ?_
    | with_reducible refine Ev.w_get1 ?_
    | with_reducible refine Ev.w_get2 ?_
    | with_reducible refine Ev.w_din ?_
    | with_reducible refine Ev.w_dinN ?_
    | with_reducible refine Ev.w_dnewK ?_
    | with_reducible refine Ev.w_dnewT ?_
    | with_reducible refine Ev.w_slice ?_
    | with_reducible refine Ev.w_rev ?_
    | with_reducible refine Ev.w_isi ?_
    | with_reducible refine Ev.w_comp2 ?_
    | with_reducible refine Ev.w_lrng1 ?_
    | with_reducible refine Ev.w_lrng2 ?_
    | with_reducible refine Ev.w_xm ?_
    | with_reducible refine Ev.w_pm ?_
    | with_reducible refine Ev.w_ddis ?_
    | with_reducible refine Ev.w_m0 ?_
    | with_reducible refine Ev.w_chain ?_)
  | ((with_reducible refine Ev.gdS ?_); first
    | with_reducible refine Ev.w_asg ?_
    | ((with_reducible refine Ev.w_frzV ?_); (refine ⟨_, rfl, ?_⟩))
    | ((with_reducible refine Ev.w_frz' ?_); (refine ⟨_, rfl, ?_⟩); dsimp only [List.set_cons_zero, List.set_cons_succ])
    | with_reducible refine Ev.w_ife ?_
    | with_reducible refine Ev.w_ret ?_
    | with_reducible refine Ev.w_par ?_
    | with_reducible refine Ev.w_append ?_
    | with_reducible refine Ev.w_for ?_
    | with_reducible refine Ev.w_nil ?_
    | with_reducible refine Ev.w_asgS ?_
    | with_reducible refine Ev.w_seti ?_
    | with_reducible refine Ev.w_setOwn ?_
    | with_reducible refine Ev.w_addi ?_
    | with_reducible refine Ev.w_subi ?_
    | with_reducible refine Ev.w_popA ?_
    | with_reducible refine Ev.w_expr ?_
    | with_reducible refine Ev.w_retN ?_
    | with_reducible refine Ev.w_brk ?_
    | with_reducible refine Ev.w_cont ?_
    | with_reducible refine Ev.w_pass ?_
    | with_reducible refine Ev.w_whil ?_
    | with_reducible refine Ev.w_muli ?_
    | with_reducible refine Ev.w_extend ?_
    | with_reducible refine Ev.w_asgL ?_
    | with_reducible refine Ev.w_forS ?_
    | ((with_reducible refine Ev.w_retOwn' ?_); (refine ⟨_, rfl, ?_⟩)))
  | ((with_reducible refine Ev.gdX ?_); first
    | ((with_reducible refine Ev.gdBin ?_); first
    | with_reducible refine Ev.o_add ?_
    | with_reducible refine Ev.o_sub ?_
    | ((with_reducible refine Ev.o_modP ?_ ?_); (omega))
    | ((with_reducible refine Ev.o_fdivP ?_ ?_ ?_); (omega); (omega))
    | ((with_reducible refine Ev.o_powP ?_ ?_ ?_); (omega); (omega))
    | ((with_reducible refine Ev.o_mulA ?_ ?_); (omega))
    | ((with_reducible refine Ev.o_mulB ?_ ?_); (omega))
    | with_reducible refine Ev.o_addBI ?_)
    | ((with_reducible refine Ev.gdCmp ?_); first
    | with_reducible refine Ev.o_gt ?_
    | with_reducible refine Ev.o_lt ?_
    | with_reducible refine Ev.o_le ?_
    | with_reducible refine Ev.o_ge ?_
    | with_reducible refine Ev.o_eqI ?_
    | with_reducible refine Ev.o_neI ?_
    | with_reducible refine Ev.o_strEq ?_
    | with_reducible refine Ev.o_strNe ?_
    | with_reducible refine Ev.o_inSg ?_
    | with_reducible refine Ev.o_ninSg ?_
    | with_reducible refine Ev.o_eqBI ?_)
    | ((with_reducible refine Ev.gdIdx ?_); first
    | ((with_reducible refine Ev.o_ixTc ?_); (refine ⟨_, rfl, ?_⟩))
    | ((with_reducible refine Ev.o_ixLc ?_); (refine ⟨_, rfl, ?_⟩))
    | ((with_reducible refine Ev.o_ixNc ?_); (refine ⟨_, rfl, ?_⟩))
    | with_reducible refine Ev.o_ix0T ?_
    | with_reducible refine Ev.o_ix0L ?_
    | with_reducible refine Ev.o_ix0B ?_
    | with_reducible refine Ev.o_ix0N ?_
    | with_reducible refine Ev.o_ix1T ?_
    | with_reducible refine Ev.o_ix1L ?_
    | with_reducible refine Ev.o_ix1B ?_
    | with_reducible refine Ev.o_ix1N ?_
    | with_reducible refine Ev.o_ix2T ?_
    | with_reducible refine Ev.o_ix2L ?_
    | with_reducible refine Ev.o_ix2B ?_
    | with_reducible refine Ev.o_ix2N ?_
    | with_reducible refine Ev.o_ix3T ?_
    | with_reducible refine Ev.o_ix3L ?_
    | with_reducible refine Ev.o_ix3B ?_
    | with_reducible refine Ev.o_ix3N ?_)
    | ((with_reducible refine Ev.gdIsi ?_); first
    | with_reducible refine Ev.oi_int_n ?_
    | with_reducible refine Ev.oi_int_b ?_
    | with_reducible refine Ev.oi_int_i ?_
    | with_reducible refine Ev.oi_int_s ?_
    | with_reducible refine Ev.oi_int_l ?_
    | with_reducible refine Ev.oi_int_t ?_
    | with_reducible refine Ev.oi_int_d ?_
    | with_reducible refine Ev.oi_bool_n ?_
    | with_reducible refine Ev.oi_bool_b ?_
    | with_reducible refine Ev.oi_bool_i ?_
    | with_reducible refine Ev.oi_bool_s ?_
    | with_reducible refine Ev.oi_bool_l ?_
    | with_reducible refine Ev.oi_bool_t ?_
    | with_reducible refine Ev.oi_bool_d ?_
    | with_reducible refine Ev.oi_tuple_n ?_
    | with_reducible refine Ev.oi_tuple_b ?_
    | with_reducible refine Ev.oi_tuple_i ?_
    | with_reducible refine Ev.oi_tuple_s ?_
    | with_reducible refine Ev.oi_tuple_l ?_
    | with_reducible refine Ev.oi_tuple_t ?_
    | with_reducible refine Ev.oi_tuple_d ?_
    | with_reducible refine Ev.oi_str_n ?_
    | with_reducible refine Ev.oi_str_b ?_
    | with_reducible refine Ev.oi_str_i ?_
    | with_reducible refine Ev.oi_str_s ?_
    | with_reducible refine Ev.oi_str_l ?_
    | with_reducible refine Ev.oi_str_t ?_
    | with_reducible refine Ev.oi_str_d ?_
    | with_reducible refine Ev.oi_list_n ?_
    | with_reducible refine Ev.oi_list_b ?_
    | with_reducible refine Ev.oi_list_i ?_
    | with_reducible refine Ev.oi_list_s ?_
    | with_reducible refine Ev.oi_list_l ?_
    | with_reducible refine Ev.oi_list_t ?_
    | with_reducible refine Ev.oi_list_d ?_
    | with_reducible refine Ev.oi_dict_n ?_
    | with_reducible refine Ev.oi_dict_b ?_
    | with_reducible refine Ev.oi_dict_i ?_
    | with_reducible refine Ev.oi_dict_s ?_
    | with_reducible refine Ev.oi_dict_l ?_
    | with_reducible refine Ev.oi_dict_t ?_
    | with_reducible refine Ev.oi_dict_d ?_)
    | ((with_reducible refine Ev.gdBfn ?_); first
    | with_reducible refine Ev.o_lenL ?_
    | with_reducible refine Ev.o_lenT ?_
    | with_reducible refine Ev.o_lenB ?_
    | with_reducible refine Ev.o_lenN ?_
    | with_reducible refine Ev.o_tupVL ?_
    | with_reducible refine Ev.o_tupVT ?_
    | with_reducible refine Ev.o_tupN ?_
    | with_reducible refine Ev.o_tupB ?_
    | with_reducible refine Ev.o_lstVL ?_
    | with_reducible refine Ev.o_lstVT ?_
    | with_reducible refine Ev.o_lstN ?_
    | with_reducible refine Ev.o_lstB ?_
    | with_reducible refine Ev.o_intI ?_
    | with_reducible refine Ev.o_intB ?_
    | with_reducible refine Ev.o_strB ?_
    | with_reducible refine Ev.o_strS ?_
    | with_reducible refine Ev.o_allB ?_
    | with_reducible refine Ev.o_anyB ?_
    | with_reducible refine Ev.o_allM ?_
    | with_reducible refine Ev.o_anyM ?_)
    | ((with_reducible refine Ev.a_v ?_ ?_); (rfl); dsimp only [List.set_cons_zero, List.set_cons_succ])
    | ((with_reducible refine Ev.a_n ?_ ?_); (rfl); dsimp only [List.set_cons_zero, List.set_cons_succ])
    | ((with_reducible refine Ev.a_t2 ?_ ?_ ?_); (rfl); (rfl); dsimp only [List.set_cons_zero, List.set_cons_succ])
    | ((with_reducible refine Ev.f_v ?_ ?_); (rfl); dsimp only [List.set_cons_zero, List.set_cons_succ])
    | ((with_reducible refine Ev.f_t2 ?_ ?_ ?_); (rfl); (rfl); dsimp only [List.set_cons_zero, List.set_cons_succ])
    | ((with_reducible refine Ev.a_tupI ?_); (refine ⟨_, rfl, ?_⟩))
    | ((with_reducible refine Ev.f_tupI ?_); (refine ⟨_, rfl, ?_⟩))
    | with_reducible refine Ev.i_vl ?_
    | with_reducible refine Ev.i_vt ?_
    | with_reducible refine Ev.i_n ?_
    | with_reducible refine Ev.i_b ?_
    | with_reducible refine Ev.v_v ?_
    | with_reducible refine Ev.v_n ?_
    | with_reducible refine Ev.i_vs ?_
    | ((with_reducible refine Ev.parI ?_); (refine ⟨_, _, rfl, rfl, ?_⟩); dsimp only [List.set_cons_zero, List.set_cons_succ])
    | ((with_reducible refine Ev.o_lr1 ?_ ?_); (omega))
    | ((with_reducible refine Ev.o_lr1T ?_ ?_); (omega))
    | ((with_reducible refine Ev.o_lr2 ?_ ?_); (omega))
    | ((with_reducible refine Ev.g_rng ?_ ?_); (omega))
    | ((with_reducible refine Ev.g_rng2 ?_ ?_); (omega))
    | ((with_reducible refine Ev.zipI ?_); (first | refine ⟨_, _, .inl ⟨rfl, rfl⟩, ?_⟩ | refine ⟨_, _, .inr ⟨rfl, rfl⟩, ?_⟩))
    | ((with_reducible refine Ev.fillI ?_); (refine ⟨_, rfl, ?_⟩))
    | ((with_reducible refine Ev.ownI ?_); (refine ⟨_, rfl, ?_⟩))
    | ((with_reducible refine Ev.addiI ?_); (refine ⟨_, rfl, ?_⟩))
    | with_reducible refine Ev.b_ok' ?_
    | with_reducible refine Ev.g_int ?_
    | with_reducible refine Ev.d_v ?_
    | with_reducible refine Ev.d_n ?_
    | with_reducible refine Ev.e_vl ?_
    | with_reducible refine Ev.e_vt ?_
    | with_reducible refine Ev.e_n ?_
    | with_reducible refine Ev.e_b ?_
    | with_reducible refine Ev.o_revVL ?_
    | with_reducible refine Ev.o_revVT ?_
    | with_reducible refine Ev.o_revN ?_
    | with_reducible refine Ev.o_revB ?_
    | with_reducible refine Ev.o_slT ?_
    | with_reducible refine Ev.o_slL ?_
    | with_reducible refine Ev.o_slB ?_
    | with_reducible refine Ev.o_slN ?_
    | with_reducible refine Ev.o_slS ?_
    | with_reducible refine Ev.tr_b ?_
    | with_reducible refine Ev.tr_i ?_
    | with_reducible refine Ev.tr_t ?_
    | with_reducible refine Ev.tr_l ?_
    | with_reducible refine Ev.tr_lb ?_)
  | with_reducible refine Ev.wl_rt ?_
  | with_reducible refine Ev.wl_bk ?_
  | with_reducible refine Ev.go_nx ?_
  | with_reducible refine Ev.go_rt ?_
  | with_reducible refine Ev.go_bk ?_
  | with_reducible refine Ev.go_ct ?_
  | with_reducible refine Ev.rt_rt ?_
  | with_reducible refine Ev.rt_nx ?_
  | with_reducible refine Ev.lp_nx ?_
  | with_reducible refine Ev.lp_ct ?_
  | with_reducible refine Ev.lp_bk ?_
  | with_reducible refine Ev.lp_rt ?_
  | with_reducible refine Ev.cp_some ?_
  | with_reducible refine Ev.cp_none ?_
  | ((with_reducible refine Ev.gdA ?_); first
    | with_reducible refine Ev.sq_vl ?_
    | with_reducible refine Ev.sq_n ?_
    | with_reducible refine Ev.sq_b ?_
    | ((with_reducible refine Ev.sz_ok ?_ ?_); (rfl))
    | ((with_reducible refine Ev.ap_ok ?_ ?_); (first | omega | (simp only [List.length_map, List.length_append, List.length_cons, List.length_nil]; omega)))
    | with_reducible refine Ev.r_v ?_
    | with_reducible refine Ev.r_n ?_
    | with_reducible refine Ev.c_t ?_
    | with_reducible refine Ev.c_f ?_
    | with_reducible refine Ev.c_t1 ?_
    | with_reducible refine Ev.c_f1 ?_
    | with_reducible refine Ev.c_nt ?_
    | with_reducible refine Ev.c_nf ?_
    | ((with_reducible refine Ev.c_asT ?_ ?_); (with_reducible assumption))
    | ((with_reducible refine Ev.c_asF ?_ ?_); (with_reducible assumption))
    | ((with_reducible refine Ev.c_nasT ?_ ?_); (with_reducible assumption))
    | ((with_reducible refine Ev.c_nasF ?_ ?_); (with_reducible assumption))
    | ((with_reducible refine Ev.c_decT ?_ ?_); (first | omega | (simp only [List.length_cons, List.length_nil, List.length_map, List.length_append, rngL_len]; omega)))
    | ((with_reducible refine Ev.c_decF ?_ ?_); (first | omega | (simp only [List.length_cons, List.length_nil, List.length_map, List.length_append, rngL_len]; omega)))
    | ((with_reducible refine Ev.c_ndecT ?_ ?_); (first | omega | (simp only [List.length_cons, List.length_nil, List.length_map, List.length_append, rngL_len]; omega)))
    | ((with_reducible refine Ev.c_ndecF ?_ ?_); (first | omega | (simp only [List.length_cons, List.length_nil, List.length_map, List.length_append, rngL_len]; omega))))
  | ((with_reducible refine Ev.gdW ?_); first
    | ((with_reducible refine Ev.gdT ?_); first
    | with_reducible refine Ev.w_tdin ?_
    | with_reducible refine Ev.w_tdinN ?_
    | with_reducible refine Ev.w_tval ?_
    | with_reducible refine Ev.w_tcmp ?_
    | with_reducible refine Ev.w_tchain ?_
    | with_reducible refine Ev.w_tand ?_
    | with_reducible refine Ev.w_tor ?_
    | with_reducible refine Ev.w_tnot ?_)
    | with_reducible refine Ev.w_vnil ?_
    | with_reducible refine Ev.w_vcons ?_
    | with_reducible refine Ev.w_dnil ?_
    | with_reducible refine Ev.w_dcons ?_
    | with_reducible refine Ev.w_tnil ?_
    | with_reducible refine Ev.w_tcons ?_
    | with_reducible refine Ev.w_onone ?_
    | with_reducible refine Ev.w_osome ?_
    | with_reducible refine Ev.w_rng1 ?_
    | with_reducible refine Ev.w_rng2 ?_
    | with_reducible refine Ev.w_seq ?_
    | with_reducible refine Ev.w_enum ?_
    | with_reducible refine Ev.w_zip ?_
    | with_reducible refine Ev.w_zipS ?_
    | with_reducible refine Ev.w_forF ?_
    | with_reducible refine Ev.w_compF0 ?_
    | with_reducible refine Ev.w_compF ?_
    | ((with_reducible show wp (compL (compF _ (wipeE _ _) _ _) _ _ _) _ _); simp only [wipeE, List.map_cons, List.map_nil, List.set_cons_zero, List.set_cons_succ]))
  | dsimp only [List.set_cons_zero, List.set_cons_succ])
local macro_rules | `(tactic| walk_at "ex1") => `(tactic| first
  | ((with_reducible refine Ev.gdE ?_); first
    | ((with_reducible refine Ev.w_val' ?_); (refine ⟨_, rfl, ?_⟩))
    | with_reducible refine Ev.w_const ?_
    | with_reducible refine Ev.w_idx ?_
    | with_reducible refine Ev.w_tup ?_
    | with_reducible refine Ev.w_bin ?_
    | with_reducible refine Ev.w_cmp' ?_
    | with_reducible refine Ev.w_call ?_
    | with_reducible refine Ev.w_bfn ?_
    | ((with_reducible refine Ev.w_own' ?_); (refine ⟨_, rfl, ?_⟩))
    | with_reducible refine Ev.w_lst ?_
    | with_reducible refine Ev.w_comp ?_
    | with_reducible refine Ev.w_not' ?_
    | with_reducible refine Ev.w_and' ?_
    | with_reducible refine Ev.w_or' ?_
    | with_reducible refine Ev.w_glob ?_
    | with_reducible refine Ev.w_globS ?_
    | with_reducible refine Ev.w_globT ?_
    | with_reducible refine Ev.w_box ?_
    | with_reducible refine Ev.w_dbox ?_
    | with_reducible refine Ev.w_neg' ?_
    | with_reducible refine Ev.w_if ?_
    | with_reducible refine Ev.w_get1 ?_
    | with_reducible refine Ev.w_get2 ?_
    | with_reducible refine Ev.w_din ?_
    | with_reducible refine Ev.w_dinN ?_
    | with_reducible refine Ev.w_dnewK ?_
    | with_reducible refine Ev.w_dnewT ?_
    | with_reducible refine Ev.w_slice ?_
    | with_reducible refine Ev.w_rev ?_
    | with_reducible refine Ev.w_isi ?_
    | with_reducible refine Ev.w_comp2 ?_
    | with_reducible refine Ev.w_lrng1 ?_
    | with_reducible refine Ev.w_lrng2 ?_
    | with_reducible refine Ev.w_xm ?_
    | with_reducible refine Ev.w_pm ?_
    | with_reducible refine Ev.w_ddis ?_
    | with_reducible refine Ev.w_m0 ?_
    | with_reducible refine Ev.w_chain ?_)
  | ((with_reducible refine Ev.gdS ?_); first
    | with_reducible refine Ev.w_asg ?_
    | ((with_reducible refine Ev.w_frzV ?_); (refine ⟨_, rfl, ?_⟩))
    | ((with_reducible refine Ev.w_frz' ?_); (refine ⟨_, rfl, ?_⟩); dsimp only [List.set_cons_zero, List.set_cons_succ])
    | with_reducible refine Ev.w_ife ?_
    | with_reducible refine Ev.w_ret ?_
    | with_reducible refine Ev.w_par ?_
    | with_reducible refine Ev.w_append ?_
    | with_reducible refine Ev.w_for ?_
    | with_reducible refine Ev.w_nil ?_
    | with_reducible refine Ev.w_asgS ?_
    | with_reducible refine Ev.w_seti ?_
    | with_reducible refine Ev.w_setOwn ?_
    | with_reducible refine Ev.w_addi ?_
    | with_reducible refine Ev.w_subi ?_
    | with_reducible refine Ev.w_popA ?_
    | with_reducible refine Ev.w_expr ?_
    | with_reducible refine Ev.w_retN ?_
    | with_reducible refine Ev.w_brk ?_
    | with_reducible refine Ev.w_cont ?_
    | with_reducible refine Ev.w_pass ?_
    | with_reducible refine Ev.w_whil ?_
    | with_reducible refine Ev.w_muli ?_
    | with_reducible refine Ev.w_extend ?_
    | with_reducible refine Ev.w_asgL ?_
    | with_reducible refine Ev.w_forS ?_
    | ((with_reducible refine Ev.w_retOwn' ?_); (refine ⟨_, rfl, ?_⟩)))
  | ((with_reducible refine Ev.gdX ?_); first
    | ((with_reducible refine Ev.gdBin ?_); first
    | with_reducible refine Ev.o_add ?_
    | with_reducible refine Ev.o_sub ?_
    | ((with_reducible refine Ev.o_modP ?_ ?_); (omega))
    | ((with_reducible refine Ev.o_fdivP ?_ ?_ ?_); (omega); (omega))
    | ((with_reducible refine Ev.o_powP ?_ ?_ ?_); (omega); (omega))
    | ((with_reducible refine Ev.o_mulA ?_ ?_); (omega))
    | ((with_reducible refine Ev.o_mulB ?_ ?_); (omega))
    | with_reducible refine Ev.o_addBI ?_)
    | ((with_reducible refine Ev.gdCmp ?_); first
    | with_reducible refine Ev.o_gt ?_
    | with_reducible refine Ev.o_lt ?_
    | with_reducible refine Ev.o_le ?_
    | with_reducible refine Ev.o_ge ?_
    | with_reducible refine Ev.o_eqI ?_
    | with_reducible refine Ev.o_neI ?_
    | with_reducible refine Ev.o_strEq ?_
    | with_reducible refine Ev.o_strNe ?_
    | with_reducible refine Ev.o_inSg ?_
    | with_reducible refine Ev.o_ninSg ?_
    | with_reducible refine Ev.o_eqBI ?_)
    | ((with_reducible refine Ev.gdIdx ?_); first
    | ((with_reducible refine Ev.o_ixTc ?_); (refine ⟨_, rfl, ?_⟩))
    | ((with_reducible refine Ev.o_ixLc ?_); (refine ⟨_, rfl, ?_⟩))
    | ((with_reducible refine Ev.o_ixNc ?_); (refine ⟨_, rfl, ?_⟩))
    | with_reducible refine Ev.o_ix0T ?_
    | with_reducible refine Ev.o_ix0L ?_
    | with_reducible refine Ev.o_ix0B ?_
    | with_reducible refine Ev.o_ix0N ?_
    | with_reducible refine Ev.o_ix1T ?_
    | with_reducible refine Ev.o_ix1L ?_
    | with_reducible refine Ev.o_ix1B ?_
    | with_reducible refine Ev.o_ix1N ?_
    | with_reducible refine Ev.o_ix2T ?_
    | with_reducible refine Ev.o_ix2L ?_
    | with_reducible refine Ev.o_ix2B ?_
    | with_reducible refine Ev.o_ix2N ?_
    | with_reducible refine Ev.o_ix3T ?_
    | with_reducible refine Ev.o_ix3L ?_
    | with_reducible refine Ev.o_ix3B ?_
    | with_reducible refine Ev.o_ix3N ?_)
    | ((with_reducible refine Ev.gdIsi ?_); first
    | with_reducible refine Ev.oi_int_n ?_
    | with_reducible refine Ev.oi_int_b ?_
    | with_reducible refine Ev.oi_int_i ?_
    | with_reducible refine Ev.oi_int_s ?_
    | with_reducible refine Ev.oi_int_l ?_
    | with_reducible refine Ev.oi_int_t ?_
    | with_reducible refine Ev.oi_int_d ?_
    | with_reducible refine Ev.oi_bool_n ?_
    | with_reducible refine Ev.oi_bool_b ?_
    | with_reducible refine Ev.oi_bool_i ?_
    | with_reducible refine Ev.oi_bool_s ?_
    | with_reducible refine Ev.oi_bool_l ?_
    | with_reducible refine Ev.oi_bool_t ?_
    | with_reducible refine Ev.oi_bool_d ?_
    | with_reducible refine Ev.oi_tuple_n ?_
    | with_reducible refine Ev.oi_tuple_b ?_
    | with_reducible refine Ev.oi_tuple_i ?_
    | with_reducible refine Ev.oi_tuple_s ?_
    | with_reducible refine Ev.oi_tuple_l ?_
    | with_reducible refine Ev.oi_tuple_t ?_
    | with_reducible refine Ev.oi_tuple_d ?_
    | with_reducible refine Ev.oi_str_n ?_
    | with_reducible refine Ev.oi_str_b ?_
    | with_reducible refine Ev.oi_str_i ?_
    | with_reducible refine Ev.oi_str_s ?_
    | with_reducible refine Ev.oi_str_l ?_
    | with_reducible refine Ev.oi_str_t ?_
    | with_reducible refine Ev.oi_str_d ?_
    | with_reducible refine Ev.oi_list_n ?_
    | with_reducible refine Ev.oi_list_b ?_
    | with_reducible refine Ev.oi_list_i ?_
    | with_reducible refine Ev.oi_list_s ?_
    | with_reducible refine Ev.oi_list_l ?_
    | with_reducible refine Ev.oi_list_t ?_
    | with_reducible refine Ev.oi_list_d ?_
    | with_reducible refine Ev.oi_dict_n ?_
    | with_reducible refine Ev.oi_dict_b ?_
    | with_reducible refine Ev.oi_dict_i ?_
    | with_reducible refine Ev.oi_dict_s ?_
    | with_reducible refine Ev.oi_dict_l ?_
    | with_reducible refine Ev.oi_dict_t ?_
    | with_reducible refine Ev.oi_dict_d ?_)
    | ((with_reducible refine Ev.gdBfn ?_); first
    | with_reducible refine Ev.o_lenL ?_
    | with_reducible refine Ev.o_lenT ?_
    | with_reducible refine Ev.o_lenB ?_
    | with_reducible refine Ev.o_lenN ?_
    | with_reducible refine Ev.o_tupVL ?_
    | with_reducible refine Ev.o_tupVT ?_
    | with_reducible refine Ev.o_tupN ?_
    | with_reducible refine Ev.o_tupB ?_
    | with_reducible refine Ev.o_lstVL ?_
    | with_reducible refine Ev.o_lstVT ?_
    | with_reducible refine Ev.o_lstN ?_
    | with_reducible refine Ev.o_lstB ?_
    | with_reducible refine Ev.o_intI ?_
    | with_reducible refine Ev.o_intB ?_
    | with_reducible refine Ev.o_strB ?_
    | with_reducible refine Ev.o_strS ?_
    | with_reducible refine Ev.o_allB ?_
    | with_reducible refine Ev.o_anyB ?_
    | with_reducible refine Ev.o_allM ?_
    | with_reducible refine Ev.o_anyM ?_)
    | ((with_reducible refine Ev.a_v ?_ ?_); (rfl); dsimp only [List.set_cons_zero, List.set_cons_succ])
    | ((with_reducible refine Ev.a_n ?_ ?_); (rfl); dsimp only [List.set_cons_zero, List.set_cons_succ])
    | ((with_reducible refine Ev.a_t2 ?_ ?_ ?_); (rfl); (rfl); dsimp only [List.set_cons_zero, List.set_cons_succ])
    | ((with_reducible refine Ev.f_v ?_ ?_); (rfl); dsimp only [List.set_cons_zero, List.set_cons_succ])
    | ((with_reducible refine Ev.f_t2 ?_ ?_ ?_); (rfl); (rfl); dsimp only [List.set_cons_zero, List.set_cons_succ])
    | ((with_reducible refine Ev.a_tupI ?_); (refine ⟨_, rfl, ?_⟩))
    | ((with_reducible refine Ev.f_tupI ?_); (refine ⟨_, rfl, ?_⟩))
    | with_reducible refine Ev.i_vl ?_
    | with_reducible refine Ev.i_vt ?_
    | with_reducible refine Ev.i_n ?_
    | with_reducible refine Ev.i_b ?_
    | with_reducible refine Ev.v_v ?_
    | with_reducible refine Ev.v_n ?_
    | with_reducible refine Ev.i_vs ?_
    | ((with_reducible refine Ev.parI ?_); (refine ⟨_, _, rfl, rfl, ?_⟩); dsimp only [List.set_cons_zero, List.set_cons_succ])
    | ((with_reducible refine Ev.o_lr1 ?_ ?_); (omega))
    | ((with_reducible refine Ev.o_lr1T ?_ ?_); (omega))
    | ((with_reducible refine Ev.o_lr2 ?_ ?_); (omega))
    | ((with_reducible refine Ev.g_rng ?_ ?_); (omega))
    | ((with_reducible refine Ev.g_rng2 ?_ ?_); (omega))
    | ((with_reducible refine Ev.zipI ?_); (first | refine ⟨_, _, .inl ⟨rfl, rfl⟩, ?_⟩ | refine ⟨_, _, .inr ⟨rfl, rfl⟩, ?_⟩))
    | ((with_reducible refine Ev.fillI ?_); (refine ⟨_, rfl, ?_⟩))
    | ((with_reducible refine Ev.ownI ?_); (refine ⟨_, rfl, ?_⟩))
    | ((with_reducible refine Ev.addiI ?_); (refine ⟨_, rfl, ?_⟩))
    | with_reducible refine Ev.b_ok' ?_
    | with_reducible refine Ev.g_int ?_
    | with_reducible refine Ev.d_v ?_
    | with_reducible refine Ev.d_n ?_
    | with_reducible refine Ev.e_vl ?_
    | with_reducible refine Ev.e_vt ?_
    | with_reducible refine Ev.e_n ?_
    | with_reducible refine Ev.e_b ?_
    | with_reducible refine Ev.o_revVL ?_
    | with_reducible refine Ev.o_revVT ?_
    | with_reducible refine Ev.o_revN ?_
    | with_reducible refine Ev.o_revB ?_
    | with_reducible refine Ev.o_slT ?_
    | with_reducible refine Ev.o_slL ?_
    | with_reducible refine Ev.o_slB ?_
    | with_reducible refine Ev.o_slN ?_
    | with_reducible refine Ev.o_slS ?_
    | with_reducible refine Ev.tr_b ?_
    | with_reducible refine Ev.tr_i ?_
    | with_reducible refine Ev.tr_t ?_
    | with_reducible refine Ev.tr_l ?_
    | with_reducible refine Ev.tr_lb ?_)
  | with_reducible refine Ev.wl_rt ?_
  | with_reducible refine Ev.wl_bk ?_
  | with_reducible refine Ev.go_rt ?_
  | with_reducible refine Ev.go_bk ?_
  | with_reducible refine Ev.go_ct ?_
  | with_reducible refine Ev.rt_rt ?_
  | with_reducible refine Ev.rt_nx ?_
  | with_reducible refine Ev.lp_nx ?_
  | with_reducible refine Ev.lp_ct ?_
  | with_reducible refine Ev.lp_bk ?_
  | with_reducible refine Ev.lp_rt ?_
  | with_reducible refine Ev.cp_some ?_
  | with_reducible refine Ev.cp_none ?_
  | ((with_reducible refine Ev.gdA ?_); first
    | with_reducible refine Ev.sq_vl ?_
    | with_reducible refine Ev.sq_n ?_
    | with_reducible refine Ev.sq_b ?_
    | ((with_reducible refine Ev.sz_ok ?_ ?_); (rfl))
    | ((with_reducible refine Ev.ap_ok ?_ ?_); (first | omega | (simp only [List.length_map, List.length_append, List.length_cons, List.length_nil]; omega)))
    | with_reducible refine Ev.r_v ?_
    | with_reducible refine Ev.r_n ?_
    | with_reducible refine Ev.c_t ?_
    | with_reducible refine Ev.c_f ?_
    | with_reducible refine Ev.c_t1 ?_
    | with_reducible refine Ev.c_f1 ?_
    | with_reducible refine Ev.c_nt ?_
    | with_reducible refine Ev.c_nf ?_
    | ((with_reducible refine Ev.c_asT ?_ ?_); (with_reducible assumption))
    | ((with_reducible refine Ev.c_asF ?_ ?_); (with_reducible assumption))
    | ((with_reducible refine Ev.c_nasT ?_ ?_); (with_reducible assumption))
    | ((with_reducible refine Ev.c_nasF ?_ ?_); (with_reducible assumption))
    | ((with_reducible refine Ev.c_decT ?_ ?_); (first | omega | (simp only [List.length_cons, List.length_nil, List.length_map, List.length_append, rngL_len]; omega)))
    | ((with_reducible refine Ev.c_decF ?_ ?_); (first | omega | (simp only [List.length_cons, List.length_nil, List.length_map, List.length_append, rngL_len]; omega)))
    | ((with_reducible refine Ev.c_ndecT ?_ ?_); (first | omega | (simp only [List.length_cons, List.length_nil, List.length_map, List.length_append, rngL_len]; omega)))
    | ((with_reducible refine Ev.c_ndecF ?_ ?_); (first | omega | (simp only [List.length_cons, List.length_nil, List.length_map, List.length_append, rngL_len]; omega))))
  | ((with_reducible refine Ev.gdW ?_); first
    | ((with_reducible refine Ev.gdT ?_); first
    | with_reducible refine Ev.w_tdin ?_
    | with_reducible refine Ev.w_tdinN ?_
    | with_reducible refine Ev.w_tval ?_
    | with_reducible refine Ev.w_tcmp ?_
    | with_reducible refine Ev.w_tchain ?_
    | with_reducible refine Ev.w_tand ?_
    | with_reducible refine Ev.w_tor ?_
    | with_reducible refine Ev.w_tnot ?_)
    | with_reducible refine Ev.w_vnil ?_
    | with_reducible refine Ev.w_vcons ?_
    | with_reducible refine Ev.w_dnil ?_
    | with_reducible refine Ev.w_dcons ?_
    | with_reducible refine Ev.w_tnil ?_
    | with_reducible refine Ev.w_tcons ?_
    | with_reducible refine Ev.w_onone ?_
    | with_reducible refine Ev.w_osome ?_
    | with_reducible refine Ev.w_rng1 ?_
    | with_reducible refine Ev.w_rng2 ?_
    | with_reducible refine Ev.w_seq ?_
    | with_reducible refine Ev.w_enum ?_
    | with_reducible refine Ev.w_zip ?_
    | with_reducible refine Ev.w_zipS ?_
    | with_reducible refine Ev.w_forF ?_
    | with_reducible refine Ev.w_compF0 ?_
    | with_reducible refine Ev.w_compF ?_
    | ((with_reducible show wp (compL (compF _ (wipeE _ _) _ _) _ _ _) _ _); simp only [wipeE, List.map_cons, List.map_nil, List.set_cons_zero, List.set_cons_succ]))
  | dsimp only [List.set_cons_zero, List.set_cons_succ])
local macro_rules | `(tactic| walk_at "ex") => `(tactic| repeat walk_at "ex1")
local macro_rules | `(tactic| walk_at "ev") => `(tactic| repeat walk_at "ev1")
local macro_rules | `(tactic| walk_at "evs") => `(tactic| repeat' (first | walk_at "ev1" | with_reducible refine c_dec (fun _ => ?_) (fun _ => ?_) | with_reducible refine c_ndec (fun _ => ?_) (fun _ => ?_)))
local macro_rules | `(tactic| walk_at "ev0") => `(tactic| simp only [List.map_cons, List.map_nil, List.length_cons, List.length_nil, List.cons_append, List.nil_append, Nat.reduceAdd, Nat.reduceSub, List.replicate])


abbrev XF : XP := fun _ _ _ => False
abbrev GG : Defs := dfs ents
abbrev Ms := List (Int × List Int)
def ltr : Str := "abcdefghijklmnopqrstuvwxyz"
def wd (k : Nat) : Str := ⟨#[115, 97 + k / 26, 97 + k % 26]⟩
def wD (k : Nat) : D := .str (wd k)
theorem sg : Ev.signs ltr = (List.range 26).map fun j => PyData.str ⟨#[97 + j]⟩ := by kernel_rfl
theorem sg_at {i : Nat} {y : Val} (e : (List.map Val.d (Ev.signs ltr))[i]? = some y) : i < 26 ∧ y = .d (.str ⟨#[97 + i]⟩) := by
  rw [sg, List.map_map, List.getElem?_map] at e
  obtain ⟨k, e1, rfl⟩ := Option.map_eq_some_iff.mp e
  have h := (List.getElem?_eq_some_iff.mp e1).1
  rw [List.length_range] at h
  rw [List.getElem?_range h] at e1
  cases e1
  exact ⟨h, rfl⟩
theorem sg_len : (List.map Val.d (Ev.signs ltr)).length = 26 := by rw [sg]; simp
theorem wcat {i j : Nat} (hj : j < 26) : (("s" : Str) ++ (⟨#[97 + i]⟩ : Str)) ++ (⟨#[97 + j]⟩ : Str) = wd (26 * i + j) := by
  unfold wd
  rw [show (26 * i + j) / 26 = i by omega, show (26 * i + j) % 26 = j by omega]
  rfl
theorem wd_asc {k : Nat} (h : k < 676) : asc (wd k) := fun c hc => by
  simp only [wd, List.mem_cons, List.not_mem_nil, or_false] at hc
  rcases hc with rfl | rfl | rfl <;> omega
theorem wd_sb {k : Nat} (h : k < 676) {j : Nat} : SB (wD k) j 4 0 := sb_str (wd_asc h) (by simp [wd])
def kp (nm : List D) (k : Nat) : Bool := !(nm.any fun y => PyData.eqv y (wD k))
structure Nm (nm : List D) : Prop where
  str : ∀ y ∈ nm, ∃ s : Str, y = .str s ∧ SD y 0 6
  len : nm.length ≤ 10
theorem Nm.sh {nm : List D} (h : Nm nm) : nm.all SeqAt.shaped = true := List.all_eq_true.mpr fun y hy => by
  obtain ⟨s, rfl, hs⟩ := h.str y hy
  exact hs.shaped (by decide)
theorem cnt_or {p q : Nat → Bool} : ∀ l : List Nat, (l.filter fun k => p k || q k).length ≤ (l.filter p).length + (l.filter q).length
  | [] => by simp
  | x :: l => by
    have := cnt_or (p := p) (q := q) l
    simp only [List.filter_cons]
    cases p x <;> cases q x <;> simp <;> omega
theorem wd_inj {i j : Nat} (h : wd i = wd j) : i = j := by
  unfold wd at h
  have h2 := congrArg Str.cps h
  simp only [Array.mk.injEq, List.cons.injEq, true_and, and_true] at h2
  omega
theorem cnt_one {y : D} : ∀ l : List Nat, l.Nodup → (l.filter fun k => PyData.eqv y (wD k)).length ≤ 1
  | [], _ => by simp
  | x :: l, h => by
    obtain ⟨h1, h2⟩ := List.nodup_cons.mp h
    simp only [List.filter_cons]
    split
    · rename_i e
      rw [List.length_cons]
      have : (l.filter fun k => PyData.eqv y (wD k)) = [] := List.filter_eq_nil_iff.mpr fun k hk e2 => by
        cases y with
        | str s =>
          simp only [wD, PyData.eqv, beq_iff_eq] at e e2
          rw [e] at e2
          exact h1 (wd_inj e2 ▸ hk)
        | _ => simp [wD, PyData.eqv] at e
      rw [this]
      simp
    · exact cnt_one l h2
theorem cnt_any {nm : List D} : ((List.range 676).filter fun k => nm.any fun y => PyData.eqv y (wD k)).length ≤ nm.length := by
  induction nm with
  | nil => simp
  | cons y nm ih =>
    have h1 := cnt_or (p := fun k => PyData.eqv y (wD k)) (q := fun k => nm.any fun y => PyData.eqv y (wD k)) (List.range 676)
    have h2 := cnt_one (y := y) _ (List.nodup_range (n := 676))
    simp only [List.any_cons, List.length_cons]
    omega
theorem flt_len {p : Nat → Bool} : ∀ l : List Nat, (l.filter fun k => !p k).length + (l.filter p).length = l.length
  | [] => rfl
  | x :: l => by
    have := flt_len (p := p) l
    simp only [List.filter_cons]
    cases p x <;> simp <;> omega
theorem kp_len {nm : List D} (h : Nm nm) : 666 ≤ ((List.range 676).filter (kp nm)).length := by
  have h1 := flt_len (p := fun k => nm.any fun y => PyData.eqv y (wD k)) (List.range 676)
  have h2 := cnt_any (nm := nm)
  have h3 := h.len
  have : (kp nm) = fun k => !(nm.any fun y => PyData.eqv y (wD k)) := rfl
  rw [this]
  rw [List.length_range] at h1
  omega
def Wn (n : Nat) : List D := (List.range n).map wD
def Fo (nm : List D) (many n : Nat) : List D := (((List.range n).filter (kp nm)).take many).map wD
theorem Wn_len {n : Nat} : (Wn n).length = n := by simp [Wn]
theorem Wn_succ {n : Nat} : Wn (n + 1) = Wn n ++ [wD n] := by simp [Wn, List.range_succ]
theorem Fo_len {nm : List D} {many n : Nat} : (Fo nm many n).length = min many ((List.range n).filter (kp nm)).length := by simp [Fo]
theorem Fo_no {nm : List D} {many n : Nat} (h : kp nm n = false) : Fo nm many (n + 1) = Fo nm many n := by
  simp [Fo, List.range_succ, List.filter_append, List.filter_cons, h]
theorem Fo_full {nm : List D} {many n : Nat} (h : ¬ (Fo nm many n).length < many) : Fo nm many (n + 1) = Fo nm many n := by
  rw [Fo_len] at h
  simp only [Fo, List.range_succ, List.filter_append]
  rw [List.take_append_of_le_length (by omega)]
theorem Fo_put {nm : List D} {many n : Nat} (h : kp nm n = true) (h2 : (Fo nm many n).length < many) : Fo nm many (n + 1) = Fo nm many n ++ [wD n] := by
  rw [Fo_len] at h2
  have hl : ((List.range n).filter (kp nm)).length < many := by omega
  simp only [Fo, List.range_succ, List.filter_append, List.filter_cons, h, if_true, List.filter_nil]
  rw [List.take_of_length_le (by simp; omega), List.take_of_length_le (by omega), List.map_append]
  rfl
theorem Fo_all {nm : List D} (h : Nm nm) {many : Nat} (hm : many ≤ 600) : (Fo nm many 676).length = many := by
  rw [Fo_len]
  have := kp_len h
  omega
theorem names_ok {n : Nat} {m : Store} {Q : Tmp → Store → Prop} {nm : List D} {nv : Val} {many : Int} (hn : Nm nm) (hv : Tv nm nv) (h1 : 0 ≤ many) (h2 : many ≤ 600) (q : Q (.new (.list (Fo nm many.toNat 676))) m) :
    wp (evF GG (n + 1) "state_names" [.d (.int many), nv] m) Q XF := by
  obtain ⟨many, rfl⟩ := Int.eq_ofNat_of_zero_le h1
  rw [Int.toNat_natCast] at q
  refine w_run (n := n) (f := f_state_names) (by kernel_rfl) rfl ?_
  simp only [f_state_names]
  walk_at "ev0"
  walk_at "ev"
  show wp (forL _ (List.map Val.d (Ev.signs ltr)) _ _) _ _
  refine w_forL (fun i r m' => m' = m ∧ ∃ s4 s5 s6 s7 : Slot, r = [.val (.d (.int many)), .val nv, .own (.list (Fo nm many (26 * i))), .own (.list (Wn (26 * i))), s4, s5, s6, s7]) _ _ _ (fun i y r m' e hi => ?_) ⟨rfl, .no, .no, .no, .no, by rw [show Fo nm many (26 * 0) = [] by simp [Fo]]; rfl⟩ fun r m' hi => ?_
  · obtain ⟨rfl, s4, s5, s6, s7, rfl⟩ := hi
    obtain ⟨i26, rfl⟩ := sg_at e
    refine w_forF ?_
    walk_at "ev"
    simp only [b1_state_names]
    walk_at "ev"
    show wp (forL _ (List.map Val.d (Ev.signs ltr)) _ _) _ _
    refine w_forL (fun j r m2 => m2 = m' ∧ ∃ s5 s6 s7 : Slot, r = [.val (.d (.int many)), .val nv, .own (.list (Fo nm many (26 * i + j))), .own (.list (Wn (26 * i + j))), .val (.d (.str ⟨#[97 + i]⟩)), s5, s6, s7]) _ _ _ (fun j y r m2 e hj => ?_) ⟨rfl, _, _, _, rfl⟩ fun r m2 hj => ?_
    · obtain ⟨rfl, s5, s6, s7, rfl⟩ := hj
      obtain ⟨j26, rfl⟩ := sg_at e
      refine w_forF ?_
      walk_at "ev"
      simp only [b0_state_names]
      walk_at "ev"
      refine o_addS (by show 2 ≤ 16777216; decide) ?_
      walk_at "ev"
      refine o_addS (by show 3 ≤ 16777216; decide) ?_
      walk_at "ev"
      rw [wcat j26]
      have kk : 26 * i + j < 676 := by omega
      have hw : (Wn (26 * i + j)).length < 16777216 := by rw [Wn_len]; omega
      refine ⟨hw, ?_⟩
      walk_at "ev"
      refine o_notinTv hv ((wd_sb kk (j := 0)).shaped (by decide)) hn.sh ?_
      refine ⟨fun hk => ?_, fun hk => ?_⟩
      · walk_at "ev"
        refine c_dec (fun hl => ?_) (fun hl => ?_)
        · walk_at "ev"
          rw [show 26 * i + (j + 1) = 26 * i + j + 1 from rfl, Fo_put hk (by omega), Wn_succ]
          exact ⟨rfl, _, _, _, rfl⟩
        · walk_at "ev"
          rw [show 26 * i + (j + 1) = 26 * i + j + 1 from rfl, Fo_full (by omega), Wn_succ]
          exact ⟨rfl, _, _, _, rfl⟩
      · walk_at "ev"
        rw [show 26 * i + (j + 1) = 26 * i + j + 1 from rfl, Fo_no hk, Wn_succ]
        exact ⟨rfl, _, _, _, rfl⟩
    · obtain ⟨rfl, s5, s6, s7, rfl⟩ := hj
      rw [sg_len]
      refine go_nx ?_
      walk_at "ev"
      exact ⟨rfl, _, _, _, _, rfl⟩
  · obtain ⟨rfl, s4, s5, s6, s7, rfl⟩ := hi
    rw [sg_len, show 26 * 26 = 676 from rfl]
    have hl := Fo_all hn (many := many) (by omega)
    generalize Fo nm many 676 = F at q hl
    generalize Wn 676 = W
    refine go_nx ?_
    walk_at "ev"
    refine w_whilL (n := 0) (fun _ r m2 => m2 = m' ∧ r = [.val (.d (.int many)), .val nv, .own (.list F), .own (.list W), s4, s5, s6, s7]) (fun n r m2 hI => ?_) ⟨rfl, rfl⟩
    obtain ⟨rfl, rfl⟩ := hI
    walk_at "ev"
    exact q

def nmT (k : Nat) : D := .tuple [.str "name", wD k]
def stT (ks : List Nat) (s : Int × List Int) : D := .tuple [.str "put", .int s.1, .tuple [.str "rest", .tuple [.str "zip", .tuple (s.2.map fun j => nmT (ks.getD j.toNat 0))]]]
def rowT (ks : List Nat) (p : Nat × (Int × List Int)) : D := .tuple [wD p.1, stT ks p.2]
def rulesD (base : Int) (ks : List Nat) (st : Ms) : D := .tuple [.int base, .tuple ((ks.zip st).map (rowT ks))]
def Ks (nm : List D) (many : Nat) : List Nat := ((List.range 676).filter (kp nm)).take many
theorem Fo_Ks {nm : List D} {many : Nat} : Fo nm many 676 = (Ks nm many).map wD := rfl
theorem Ks_len {nm : List D} (h : Nm nm) {many : Nat} (hm : many ≤ 600) : (Ks nm many).length = many := by
  have := Fo_all h hm
  rw [Fo_Ks, List.length_map] at this
  exact this
theorem Ks_lt {nm : List D} {many k : Nat} (h : k ∈ Ks nm many) : k < 676 := by
  have := List.mem_filter.mp (List.mem_of_mem_take h)
  exact List.mem_range.mp this.1
theorem Ks_up {nm : List D} {many : Nat} : (Ks nm many).Pairwise (· < ·) :=
  ((List.pairwise_lt_range (n := 676)).filter _).sublist (List.take_sublist _ _)
section
variable {n : Nat} {m : Store} {Q : Tmp → Store → Prop} {nm : List D} {base turn : Int} {st : Ms} {ks : List Nat}
theorem term_ok {s : Int × List Int} (hs : ∀ j ∈ s.2, 0 ≤ j ∧ j < ks.length) (hl : s.2.length ≤ 100) (q : Q (.v (.d (stT ks s))) m) : wp (evF GG (n + 1) "state_term" [.d (.int s.1), .d (.tuple (s.2.map .int)), .d (.list (ks.map wD))] m) Q XF := by
  refine w_run (n := n) (f := f_state_term) (by kernel_rfl) rfl ?_
  simp only [f_state_term]
  walk_at "ev0"
  walk_at "ev"
  refine w_compP (fun d => match d with
    | .int j => nmT (ks.getD j.toNat 0)
    | _ => .none) (fun d hd => ?_) (by rw [List.length_map, show sizeLine = 16777216 from rfl]; omega) ?_
  · obtain ⟨j, hj, rfl⟩ := List.mem_map.mp hd
    obtain ⟨j0, j1⟩ := hs j hj
    obtain ⟨i, rfl⟩ := Int.eq_ofNat_of_zero_le j0
    have hi : i < ks.length := by omega
    refine ⟨_, rfl, ?_⟩
    simp only [x0_state_term]
    walk_at "ev"
    refine o_ixL (atI_nat (xs := ks.map wD) (j := i) (v := wD ks[i]) (by rw [List.getElem?_map, List.getElem?_eq_getElem hi]; rfl)) ?_
    walk_at "ev"
    refine ⟨?_, rfl⟩
    show _ = some (nmT (ks.getD i 0))
    rw [List.getD_eq_getElem?_getD, List.getElem?_eq_getElem hi]
    rfl
  · walk_at "ev"
    rw [List.map_map]
    exact q
theorem stT_sd {s : Int × List Int} (h0 : s.1.natAbs < 10 ^ 60) (hl : s.2.length ≤ 10) (hk : ∀ k ∈ ks, k < 676) : SD (stT ks s) 5 140 := by
  have n1 : ∀ x ∈ s.2.map (fun j => nmT (ks.getD j.toNat 0)), SD x 1 11 := fun x hx => by
    obtain ⟨j, _, rfl⟩ := List.mem_map.mp hx
    have hw : ks.getD j.toNat 0 < 676 := by
      rw [List.getD_eq_getElem?_getD]
      cases e : ks[j.toNat]? with
      | none => decide
      | some k => exact hk k (List.mem_of_getElem? e)
    exact ((sdc (n := 6) (s := "name") (by decide +kernel) (by decide +kernel)).tcons ((wd_sb hw (j := 0)).sd.tcons (SD.t0 (n := 0)))).mono (by omega) (by omega)
  have n2 : SD (.tuple (s.2.map (fun j => nmT (ks.getD j.toNat 0)))) 2 111 := SD.tupW (n := 10) n1 (by rw [List.length_map]; exact hl)
  exact ((sdc (n := 6) (s := "put") (by decide +kernel) (by decide +kernel)).tcons ((sd_int h0).tcons (((sdc (n := 6) (s := "rest") (by decide +kernel) (by decide +kernel)).tcons (((sdc (n := 6) (s := "zip") (by decide +kernel) (by decide +kernel)).tcons (n2.tcons (SD.t0 (n := 0)))).tcons (SD.t0 (n := 0)))).tcons (SD.t0 (n := 0))))).mono (by omega) (by omega)
theorem row_lt {a b : Nat} (h : a < b) (hb : b < 676) {x y : D} : PySem.W.dataLt (.tuple [wD b, y]) (.tuple [wD a, x]) = false := by
  unfold wD
  rw [dataLt_str1 (fun e => by have := wd_inj e; omega)]
  refine decide_eq_false ?_
  simp only [wd]
  intro hh
  rw [List.cons_lt_cons_iff] at hh
  rcases hh with hh | ⟨_, hh⟩
  · omega
  · rw [List.cons_lt_cons_iff] at hh
    rcases hh with hh | ⟨e, hh⟩
    · omega
    · rw [List.cons_lt_cons_iff] at hh
      rcases hh with hh | ⟨_, hh⟩
      · omega
      · simp at hh
theorem zip_up (hu : ks.Pairwise (· < ·)) : (ks.zip st).Pairwise fun p q => p.1 < q.1 := by
  induction ks generalizing st with
  | nil => simp
  | cons k ks ih =>
    obtain ⟨h1, h2⟩ := List.pairwise_cons.mp hu
    cases st with
    | nil => simp
    | cons s st =>
      rw [List.zip_cons_cons]
      exact List.pairwise_cons.mpr ⟨fun q hq => h1 _ (List.of_mem_zip hq).1, ih h2⟩
theorem rows_srt (hu : ks.Pairwise (· < ·)) (hk : ∀ k ∈ ks, k < 676) (zs : List Nat) : sortRows ((ks.zip st).map (rowT zs)) = (ks.zip st).map (rowT zs) := by
  refine sortRows_id (List.pairwise_map.mpr ?_)
  refine (zip_up hu).imp_of_mem fun {p q} hp hq h => ?_
  exact row_lt h (hk _ (List.of_mem_zip hq).1)
theorem rows_B (h : MOk base turn st) (hb : base ≤ 1000) (ht : turn ≤ 10) (hu : ks.Pairwise (· < ·)) (hk : ∀ k ∈ ks, k < 676) : rowsB ((ks.zip st).map (rowT ks)) = true := by
  have hs : ∀ s ∈ st, SD (stT ks s) 5 140 := fun s hs => by
    obtain ⟨a, b, c, _⟩ := h.ok s hs
    exact stT_sd (by omega) (by omega) hk
  refine List.all_eq_true.mpr fun d hd => ?_
  obtain ⟨p, hp, rfl⟩ := List.mem_map.mp hd
  have hp2 := List.of_mem_zip hp
  have s1 := hs _ hp2.2
  rw [Bool.and_eq_true, decide_eq_true_eq]
  refine ⟨Nat.le_trans ((wd_sb (hk _ hp2.1) (j := 5)).sd.tcons (s1.tcons (SD.t0 (n := 0)))).dep (by omega), List.all_eq_true.mpr fun e he => ?_⟩
  obtain ⟨q, hq, rfl⟩ := List.mem_map.mp he
  show rowOk [wD p.1, stT ks p.2] [wD q.1, stT ks q.2] = true
  by_cases e : p.1 = q.1
  · have : p = q := by
      obtain ⟨i, hi, ei⟩ := List.mem_iff_getElem.mp hp
      obtain ⟨j, hj, ej⟩ := List.mem_iff_getElem.mp hq
      have pw := List.pairwise_iff_getElem.mp (zip_up (st := st) hu)
      rcases Nat.lt_trichotomy i j with l | rfl | l
      · have := pw i j hi hj l
        rw [ei, ej] at this
        omega
      · rw [← ei, ← ej]
      · have := pw j i hj hi l
        rw [ei, ej] at this
        omega
    subst this
    refine rowOk_self _ ?_
    simp only [sdAll, s1.s, (wd_sb (hk _ hp2.1) (j := 5)).sd.s, Bool.and_self]
  · simp only [rowOk, wD, PySem.W.alike, PyData.eqv, Bool.true_and, beq_eq_false_iff_ne.mpr (fun h => e (wd_inj h)), Bool.not_false, Bool.true_or]
theorem rules_ok {nv : Val} (h : MOk base turn st) (hb : base ≤ 1000) (h1 : 1 ≤ st.length) (hl : st.length ≤ 100) (ht0 : 0 ≤ turn) (ht : turn ≤ 10) (hn : Nm nm) (hv : Tv nm nv) (q : Q (.v (.d (rulesD base (Ks nm st.length) st))) m) :
    wp (evF GG (n + 2) "rules_of" [.d (mD base turn st), nv] m) Q XF := by
  have kl := Ks_len hn (many := st.length) (by omega)
  refine w_run (n := n + 1) (f := f_rules_of) (by kernel_rfl) rfl ?_
  simp only [f_rules_of, mD]
  walk_at "ev0"
  walk_at "ev"
  rw [List.length_map]
  refine names_ok hn hv (by omega) (by omega) ?_
  rw [Fo_Ks]
  simp only [Int.toNat_natCast]
  generalize hks : Ks nm st.length = ks at q kl
  have kup : ks.Pairwise (· < ·) := by rw [← hks]; exact Ks_up
  have klt : ∀ k ∈ ks, k < 676 := fun k hk => Ks_lt (by rw [hks]; exact hk)
  walk_at "ev"
  refine ⟨_, _, rfl, rfl, by simp [kl], ?_⟩
  rw [zipL_map]
  refine w_compM (fun p : Nat × (Int × List Int) => .tuple [wD p.1, stD p.2]) (rowT ks) (fun p hp => ?_) (by rw [List.length_zip, show sizeLine = 16777216 from rfl]; omega) ?_
  · obtain ⟨p1, p2⟩ := List.of_mem_zip hp
    obtain ⟨_, _, a3, a4⟩ := h.ok _ p2
    refine ⟨_, rfl, ?_⟩
    simp only [x0_rules_of]
    walk_at "ev"
    refine term_ok (fun j hj => by rw [kl]; exact a4 j hj) (by omega) ?_
    walk_at "ev"
    exact ⟨rfl, rfl⟩
  · walk_at "ev"
    obtain ⟨p, ps, ep⟩ : ∃ p ps, (ks.zip st) = p :: ps := by
      cases e : ks.zip st with
      | nil =>
        have := congrArg List.length e
        rw [List.length_zip, List.length_nil] at this
        omega
      | cons p ps => exact ⟨p, ps, rfl⟩
    have rb := rows_B h hb ht kup klt
    have rs := rows_srt (st := st) kup klt ks
    rw [ep, List.map_cons] at rb rs
    rw [ep, List.map_cons]
    refine o_sortR rfl rb ?_
    rw [rs]
    walk_at "ev"
    rw [rulesD, ep, List.map_cons] at q
    exact q
end

section
variable {n : Nat} {m : Store} {Q : Tmp → Store → Prop} {nm : List D} {nv : Val} {base turn : Int} {st : Ms}
theorem lwords_ok {many : Int} (hn : Nm nm) (hv : Tv nm nv) (h1 : 0 ≤ many) (h2 : many ≤ 600) (q : Q (.new (.list ((Ks nm many.toNat).map wD))) m) :
    wp (evF GG (n + 1) "_law_words" [.d (.int many), nv] m) Q XF := by
  refine w_run (n := n) (f := f__law_words) (by kernel_rfl) rfl ?_
  simp only [f__law_words]
  walk_at "ev0"
  walk_at "ev"
  show wp (forL _ (List.map Val.d (Ev.signs ltr)) _ _) _ _
  refine w_forL (fun i r m' => m' = m ∧ ∃ s4 s5 : Slot, r = [.val (.d (.int many)), .val nv, .val (.d (.str ltr)), .own (.list (((List.range (26 * i)).filter (kp nm)).map wD)), s4, s5]) _ _ _ (fun i y r m' e hi => ?_) ⟨rfl, .no, .no, rfl⟩ fun r m' hi => ?_
  · obtain ⟨rfl, s4, s5, rfl⟩ := hi
    obtain ⟨i26, rfl⟩ := sg_at e
    have fl : ((List.range (26 * i)).filter (kp nm)).length ≤ 676 := Nat.le_trans (List.length_filter_le _ _) (by rw [List.length_range]; omega)
    refine w_forF ?_
    walk_at "ev"
    simp only [b2_law_words]
    walk_at "ev"
    show wp (compL _ (List.map Val.d (Ev.signs ltr)) _ _) _ _
    rw [sg]
    refine w_compMT (fun j => kp nm (26 * i + j)) (fun j => PyData.str ⟨#[97 + j]⟩) (fun j => wD (26 * i + j)) (fun j hj => ?_) (by rw [List.length_range]; decide) ?_
    · have j26 := List.mem_range.mp hj
      refine ⟨_, rfl, ?_, fun hp => ?_⟩
      · simp only [c0_law_words]
        walk_at "ev"
        refine o_addS (by show 2 ≤ 16777216; decide) ?_
        walk_at "ev"
        refine o_addS (by show 3 ≤ 16777216; decide) ?_
        walk_at "ev"
        rw [wcat j26]
        refine o_notinTv hv ((wd_sb (by omega) (j := 0)).shaped (by decide)) hn.sh ?_
        exact ⟨rfl, rfl⟩
      · simp only [x1_law_words]
        walk_at "ev"
        refine o_addS (by show 2 ≤ 16777216; decide) ?_
        walk_at "ev"
        refine o_addS (by show 3 ≤ 16777216; decide) ?_
        walk_at "ev"
        rw [wcat j26]
        exact ⟨rfl, rfl⟩
    · walk_at "ev"
      have hl : ((List.range 26).filter fun j => kp nm (26 * i + j)).length ≤ 26 := Nat.le_trans (List.length_filter_le _ _) (by rw [List.length_range]; omega)
      refine ⟨_, rfl, ?_, ?_⟩
      · rw [List.length_map, List.length_map, show sizeLine = 16777216 from rfl]
        omega
      walk_at "ev"
      have key : ((List.range (26 * i)).filter (kp nm)).map wD ++ ((List.range 26).filter fun j => kp nm (26 * i + j)).map (fun j => wD (26 * i + j)) = ((List.range (26 * (i + 1))).filter (kp nm)).map wD := by
        rw [show 26 * (i + 1) = 26 * i + 26 by omega, List.range_add, List.filter_append, List.map_append, List.filter_map, List.map_map]
        rfl
      rw [key]
      exact ⟨rfl, _, _, rfl⟩
  · obtain ⟨rfl, s4, s5, rfl⟩ := hi
    rw [sg_len, show 26 * 26 = 676 from rfl]
    have kl := kp_len hn
    refine go_nx ?_
    walk_at "ev"
    rw [cut_hi (by omega) (by rw [List.length_map]; omega), ← List.map_take]
    exact q
theorem ldue_ok (h : MOk base turn st) (hl : st.length ≤ 100) (ht : turn ≤ 10) (hn : Nm nm) (hv : Tv nm nv) (q : Q (.v (.d (rulesD base (Ks nm st.length) st))) m) :
    wp (evF GG (n + 2) "_law_due" [.d (mD base turn st), nv] m) Q XF := by
  have kl := Ks_len hn (many := st.length) (by omega)
  refine w_run (n := n + 1) (f := f__law_due) (by kernel_rfl) rfl ?_
  simp only [f__law_due, mD]
  walk_at "ev0"
  walk_at "ev"
  rw [List.length_map]
  refine lwords_ok hn hv (by omega) (by omega) ?_
  simp only [Int.toNat_natCast]
  generalize Ks nm st.length = ks at q kl
  walk_at "ev"
  rw [List.length_map, kl]
  refine ⟨by simp only [small62, Bool.and_eq_true, decide_eq_true_eq]; exact ⟨by omega, by omega⟩, ?_⟩
  refine w_forL (fun i r m' => m' = m ∧ ∃ s4 s5 s6 s7 s8 : Slot, r = [.val (.d (.tuple [.int base, .int turn, .tuple (st.map stD)])), .val nv, .val (.d (.list (ks.map wD))), .own (.list (((ks.zip st).take i).map (rowT ks))), s4, s5, s6, s7, s8]) _ _ _ (fun i y r m' e hi => ?_) ⟨rfl, .no, .no, .no, .no, .no, rfl⟩ fun r m' hi => ?_
  · obtain ⟨rfl, s4, s5, s6, s7, s8, rfl⟩ := hi
    obtain ⟨rfl, hx⟩ := rngL_at e
    rw [Int.zero_add] at hx ⊢
    have hi : i < st.length := by omega
    have hk : i < ks.length := by omega
    obtain ⟨_, _, a3, a4⟩ := h.ok st[i] (List.getElem_mem hi)
    have tl : (((ks.zip st).take i).map (rowT ks)).length < 16777216 := by rw [List.length_map, List.length_take]; omega
    refine w_forF ?_
    walk_at "ev"
    simp only [b1_law_due]
    walk_at "ev"
    refine o_ixT (atI_nat (xs := st.map stD) (j := i) (v := stD st[i]) (by rw [List.getElem?_map, List.getElem?_eq_getElem hi]; rfl)) ?_
    simp only [stD]
    walk_at "ev"
    refine w_compP (fun d => match d with
      | .int j => nmT (ks.getD j.toNat 0)
      | _ => .none) (fun d hd => ?_) (by rw [List.length_map, show sizeLine = 16777216 from rfl]; omega) ?_
    · obtain ⟨j, hj, rfl⟩ := List.mem_map.mp hd
      obtain ⟨j0, j1⟩ := a4 j hj
      obtain ⟨z, rfl⟩ := Int.eq_ofNat_of_zero_le j0
      have hz : z < ks.length := by omega
      refine ⟨_, rfl, ?_⟩
      simp only [x0_law_due]
      walk_at "ev"
      refine o_ixL (atI_nat (xs := ks.map wD) (j := z) (v := wD ks[z]) (by rw [List.getElem?_map, List.getElem?_eq_getElem hz]; rfl)) ?_
      walk_at "ev"
      refine ⟨?_, rfl⟩
      show _ = some (nmT (ks.getD z 0))
      rw [List.getD_eq_getElem?_getD, List.getElem?_eq_getElem hz]
      rfl
    · walk_at "ev"
      refine o_ixL (atI_nat (xs := ks.map wD) (j := i) (v := wD ks[i]) (by rw [List.getElem?_map, List.getElem?_eq_getElem hk]; rfl)) ?_
      walk_at "ev"
      have ez : (ks.zip st)[i]? = some (ks[i], st[i]) := by
        rw [List.getElem?_zip_eq_some]
        exact ⟨List.getElem?_eq_getElem hk, List.getElem?_eq_getElem hi⟩
      rw [List.map_map, List.take_add_one, ez, Option.toList_some, List.map_append]
      exact ⟨rfl, _, _, _, _, _, rfl⟩
  · obtain ⟨rfl, s4, s5, s6, s7, s8, rfl⟩ := hi
    rw [rngL_len, List.take_of_length_le (by rw [List.length_zip]; omega)]
    refine go_nx ?_
    walk_at "ev"
    exact q
theorem rulesD_sd {ks : List Nat} (h : MOk base turn st) (hb0 : 0 ≤ base) (hb : base ≤ 1000) (ht : turn ≤ 10) (hk : ∀ k ∈ ks, k < 676) (hl : st.length ≤ 100) : SD (rulesD base ks st) 9 14600 := by
  have r : ∀ x ∈ (ks.zip st).map (rowT ks), SD x 6 145 := fun x hx => by
    obtain ⟨p, hp, rfl⟩ := List.mem_map.mp hx
    obtain ⟨p1, p2⟩ := List.of_mem_zip hp
    obtain ⟨a, b, c, _⟩ := h.ok _ p2
    exact ((wd_sb (hk _ p1) (j := 5)).sd.tcons ((stT_sd (ks := ks) (s := p.2) (by omega) (by omega) hk).tcons (SD.t0 (n := 0)))).mono (by omega) (by omega)
  exact ((sd_int (k := 7) (by omega)).tcons ((SD.tupW (n := 100) r (by rw [List.length_map, List.length_zip]; omega)).tcons (SD.t0 (n := 0)))).mono (by omega) (by omega)
end

theorem dt_bx {m tl : Store} {b : Box} {d : Int} (h : DT m d (tl ++ [b])) : m[tl.length + 1]? = some b := by
  obtain ⟨_, _, _, _, e, _⟩ := h
  rw [e]
  simp
theorem dt_st {m tl : Store} {b c : Box} {d : Int} (h : DT m d (tl ++ [b])) : DT (m.set (tl.length + 1) c) d (tl ++ [c]) := by
  have := h.set tl.length c
  rwa [List.set_append_right _ _ (Nat.le_refl _), Nat.sub_self, List.set_cons_zero] at this
theorem o_rep2 {x : D} {P : Tmp → Prop} (h : P (.new (.list [x, x]))) : ∃ z, binV .mul (.new (.list [x])) (.v (.d (.int 2))) = some z ∧ P z := ⟨_, rfl, h⟩
theorem er_map {α β : Type} {f : α → β} : ∀ (xs : List α) (i : Nat), (xs.map f).eraseIdx i = (xs.eraseIdx i).map f
  | [], _ => rfl
  | x :: xs, 0 => rfl
  | x :: xs, i + 1 => by
    rw [List.map_cons, List.eraseIdx_cons_succ, List.eraseIdx_cons_succ, List.map_cons, er_map xs i]
def pool : List Str := ["saa", "sab", "sad", "saz", "sba", "a", "b", "szz", "saaa", "sbc"]
theorem pool_sd : ∀ s ∈ pool, SD (.str s) 0 6 := by
  have : pool.all (fun s => sd (.str s) && Nat.ble (nod (.str s)) 6) = true := by decide +kernel
  intro s hs
  have h := List.all_eq_true.mp this s hs
  rw [Bool.and_eq_true] at h
  exact sdc h.1 h.2
section
variable {n : Nat} {m : Store} {d : Int} {base turn : Int} {st : Ms}
theorem body_ok (g : D1 m d) (hd : d < 100000) {v0 v2 s3 s4 s5 s6 s7 : Slot} {Qs : Fl → Store → Prop} (q : ∀ m' s3 s4 s5 s6 s7, D1 m' (d + 4000) → Qs (.nx [v0, .val (.loc 0), v2, s3, s4, s5, s6, s7]) m') :
    wp (evSs (evF GG (n + 4)) b1_law [v0, .val (.loc 0), v2, s3, s4, s5, s6, s7] m) Qs XF := by
  have tail : ∀ {base turn : Int} {st : Ms} {m : Store} {s4 s5 s6 s7 : Slot}, 1 ≤ base → base ≤ 5 → 2 ≤ turn → turn ≤ 4 → 1 ≤ st.length → st.length ≤ 100 → MOk base turn st → D1 m (d + 3000) →
      wp (evSs (evF GG (n + 4)) (b1_law.drop 2) [v0, .val (.loc 0), v2, .val (.d (mD base turn st)), s4, s5, s6, s7] m) Qs XF := fun {base turn st m s4 s5 s6 s7} b1 b5 t2 t4 l1 l2 hm g => by
    have hms := sd_m hm (by omega) (by omega) (by omega) (by omega) (by omega)
    obtain ⟨tl, g⟩ := g
    simp only [b1_law, List.drop_succ_cons, List.drop_zero]
    walk_at "ev"
    refine ⟨_, rfl, ?_⟩
    walk_at "ev"
    have gl := g.len
    rw [gl]
    refine drT (by kernel_rfl) (g.push [.lst (pool.map fun s => .d (.str s))]) (by omega) (by omega) (by omega) fun k m1 k1 k2 g1 => ?_
    walk_at "ev"
    refine w_compL (fun j acc m' => ∃ ss ps : List Str, ss.length = j ∧ acc = ss.map .str ∧ (∀ s ∈ ss, s ∈ pool) ∧ (∀ s ∈ ps, s ∈ pool) ∧ ps.length + j = 10 ∧ DT m' (d + 3001 + j) (tl ++ [.lst (ps.map fun s => .d (.str s))])) (fun j y acc m' e hj => ?_) ?_ ⟨[], pool, rfl, rfl, (fun _ h => nomatch h), (fun _ h => h), rfl, g1.mono (by omega)⟩ fun ys m2 hj => ?_
    · obtain ⟨ss, ps, rfl, rfl, hs, hp, hl, g⟩ := hj
      obtain ⟨rfl, hx⟩ := rngL_at e
      have hi : ss.length < 7 := by omega
      walk_at "ev"
      simp only [x0_law]
      walk_at "ev"
      refine il_ok (dt_bx g) ?_
      walk_at "ev"
      refine o_lenBx (dt_bx g) ?_
      walk_at "ev"
      rw [List.length_map]
      refine drT (by kernel_rfl) g (by omega) (by omega) (by omega) fun k m1 k1 k2 g1 => ?_
      walk_at "ev"
      have hk : k.toNat < ps.length := by omega
      refine o_popAt (dt_bx g1) k1 (by omega) (by rw [List.getElem?_map, List.getElem?_eq_getElem hk]; rfl) ?_
      walk_at "ev"
      refine ⟨ss ++ [ps[k.toNat]], ps.eraseIdx k.toNat, by simp, by simp, fun s h => ?_, fun s h => hp s (List.mem_of_mem_eraseIdx h), by rw [List.length_eraseIdx, if_pos hk]; omega, ?_⟩
      · rcases List.mem_append.mp h with h | h
        · exact hs s h
        · rw [List.mem_singleton] at h
          subst h
          exact hp _ (List.getElem_mem hk)
      · rw [er_map]
        exact (dt_st g1).mono (by push_cast; omega)
    · rw [rngL_len, show sizeLine = 16777216 from rfl]
      omega
    obtain ⟨ss, ps, hl, rfl, hs, _, _, g2⟩ := hj
    rw [rngL_len] at hl g2
    walk_at "ev"
    refine o_sortS (ss := ss) rfl (by omega) fun zs hz => ?_
    walk_at "ev"
    have hn : Nm (zs.map PyData.str) := by
      refine ⟨fun y hy => ?_, by rw [List.length_map, hz.length_eq]; omega⟩
      obtain ⟨s, h1, rfl⟩ := List.mem_map.mp hy
      exact ⟨s, rfl, pool_sd s (hs s (hz.mem_iff.mp h1))⟩
    have h0 : Nm [] := ⟨(fun _ h => nomatch h), by decide⟩
    have st1 : SD (.tuple (zs.map PyData.str)) 1 61 := SD.tupW (n := 10) (fun y hy => by
      obtain ⟨s, rfl, h⟩ := hn.str y hy
      exact h) hn.len
    generalize zs.map PyData.str = nm at hn st1
    have hk : SD (.tuple [mD base turn st, .tuple nm]) 5 14200 := (hms.tcons ((st1.mono (k' := 4) (n' := 61) (by omega) (by omega)).tcons (SD.t0 (n := 0)))).mono (by omega) (by omega)
    have kr : ∀ {nm : List D}, Nm nm → SD (rulesD base (Ks nm st.length) st) 9 14600 := fun h => rulesD_sd hm (by omega) (by omega) (by omega) (fun k hk => Ks_lt hk) l2
    refine o_reprS hk (by decide) (by decide) ?_
    walk_at "ev"
    refine rules_ok hm (by omega) l1 l2 (by omega) (by omega) hn (.inl rfl) ?_
    walk_at "ev"
    refine ldue_ok hm l2 (by omega) hn (.inl rfl) ?_
    walk_at "ev"
    refine same_ok (by kernel_rfl) (kr hn) (by decide) (by decide) rfl ?_
    walk_at "ev"
    refine rules_ok hm (by omega) l1 l2 (by omega) (by omega) h0 (.inr rfl) ?_
    walk_at "ev"
    refine rules_ok hm (by omega) l1 l2 (by omega) (by omega) h0 (.inl rfl) ?_
    walk_at "ev"
    refine ldue_ok hm l2 (by omega) h0 (.inl rfl) ?_
    walk_at "ev"
    refine o_rep2 ?_
    walk_at "ev"
    have l22 : SD (.list [rulesD base (Ks [] st.length) st, rulesD base (Ks [] st.length) st]) 10 (2 * 14600 + 1) := SD.listW (n := 2) (fun x hx => by
      simp only [List.mem_cons, List.not_mem_nil, or_false, or_self] at hx
      rw [hx]
      exact kr h0) (by simp)
    refine same_ok (by kernel_rfl) l22 (by decide) (by decide) rfl ?_
    walk_at "ev"
    refine o_reprS hk (by decide) (by decide) ?_
    walk_at "ev"
    refine c_ndecF rfl ?_
    walk_at "ev"
    exact q _ _ _ _ _ _ ⟨_, g2.mono (by omega)⟩
  obtain ⟨T, hT, eT⟩ : ∃ T, T = b1_law.drop 2 ∧ b1_law = b1_law.take 2 ++ T := ⟨_, rfl, rfl⟩
  rw [eT]
  simp only [b1_law, List.take_succ_cons, List.take_zero, List.cons_append, List.nil_append]
  walk_at "ev"
  refine some_gen (n := n + 1) (by kernel_rfl) (by kernel_rfl) (by kernel_rfl) g (by omega) (by decide) (by decide) fun base turn A m1 b1 b5 t2 t4 a1 a6 ha g1 => ?_
  walk_at "ev"
  refine dr (by kernel_rfl) g1 (by omega) (by omega) (by omega) fun way m2 w1 w2 g2 => ?_
  walk_at "ev"
  refine c_dec (fun c1 => ?_) (fun c1 => ?_)
  · walk_at "ev"
    refine dr (by kernel_rfl) g2 (by omega) (by omega) (by omega) fun k m3 k1 k2 g3 => ?_
    walk_at "ev"
    obtain ⟨c, ec, hc⟩ : ∃ c : Int, L2.atI [PyData.int 30, .int 100] k = some (.int c) ∧ (c = 30 ∨ c = 100) := by
      rcases show k = 0 ∨ k = 1 by omega with rfl | rfl
      · exact ⟨30, rfl, .inl rfl⟩
      · exact ⟨100, rfl, .inr rfl⟩
    refine o_ixN ec ?_
    walk_at "ev"
    refine machine_gen (n := n + 2) (by kernel_rfl) (by kernel_rfl) g3 (by omega) (by omega) (by omega) (by omega) (by omega) (by omega) (by omega) fun B m4 bl hb g4 => ?_
    walk_at "ev"
    rw [hT]
    exact tail (by omega) (by omega) (by omega) (by omega) (by omega) (by omega) hb (g4.mono (by omega))
  · walk_at "ev"
    rw [hT]
    exact tail b1 b5 t2 t4 (by omega) (by omega) ha (g2.mono (by omega))
theorem law_ok {n : Nat} (ns : List Int) : wp (evF GG (n + 5) "law" [.script ns] []) (fun x _ => x = .v (.d (.bool true))) XF := by
  refine w_run (n := n + 4) (f := f_law) (by kernel_rfl) rfl ?_
  simp only [f_law]
  walk_at "ev0"
  walk_at "ev"
  refine wp_mono (feed_ok (n := n + 3) (by kernel_rfl)) fun x m q => ?_
  obtain ⟨rfl, g⟩ := q
  walk_at "ev"
  refine w_forL (fun i r m' => (∃ v0 v2 s3 s4 s5 s6 s7 : Slot, r = [v0, .val (.loc 0), v2, s3, s4, s5, s6, s7]) ∧ D1 m' (4000 * i)) _ _ _ (fun i y r m' e hi => ?_) ⟨⟨_, _, _, _, _, _, _, rfl⟩, ⟨_, g.mono (by omega)⟩⟩ fun r m' hi => ?_
  · obtain ⟨⟨v0, v2, s3, s4, s5, s6, s7, rfl⟩, g⟩ := hi
    obtain ⟨rfl, hx⟩ := rngL_at e
    refine w_forF ?_
    walk_at "ev"
    exact body_ok g (by omega) fun m' s3 s4 s5 s6 s7 g => ⟨⟨_, _, _, _, _, _, _, rfl⟩, g.mono (by push_cast; omega)⟩
  · obtain ⟨⟨v0, v2, s3, s4, s5, s6, s7, rfl⟩, g⟩ := hi
    refine go_nx ?_
    walk_at "ev"
theorem ans (ns : List Int) (_ : ns.length ≤ 63) : ∃ m, evF (dfs ents) 40 "law" [.script ns] [] = .ok (.v (.d (.bool true))) m := by
  obtain ⟨a, m, e, rfl⟩ := wp_out (law_ok (n := 35) ns)
  exact ⟨m, e⟩
end

abbrev tb : Tbl := tbl ents frees cons
abbrev pg : Program := PySem.Challenge.pw_nextgivers_k57_rules_of_machines
def top (i : Nat) : Stmt := pg.main.body.getD i (.Pass ⟨0, 0, 0, 0⟩)
abbrev s0 : Stmt := top 2
def d0 : He.DefD := ⟨("state_names", none), "state_names", "state_names", defArgs s0, defBody s0, defScope s0, [], []⟩
abbrev s1 : Stmt := top 3
def d1 : He.DefD := ⟨("state_term", none), "state_term", "state_term", defArgs s1, defBody s1, defScope s1, [], []⟩
abbrev s2 : Stmt := top 4
def d2 : He.DefD := ⟨("rules_of", none), "rules_of", "rules_of", defArgs s2, defBody s2, defScope s2, [], [("names", (.adr (Ev.kwdAt ("rules_of", none) "names")))]⟩
abbrev s3 : Stmt := top 6
def d3 : He.DefD := ⟨("_law_feed", none), "_law_feed", "_law_feed", defArgs s3, defBody s3, defScope s3, [], []⟩
abbrev s4 : Stmt := top 7
def d4 : He.DefD := ⟨("_law_draw", none), "_law_draw", "_law_draw", defArgs s4, defBody s4, defScope s4, [], []⟩
abbrev s5 : Stmt := top 8
def d5 : He.DefD := ⟨("_law_same", none), "_law_same", "_law_same", defArgs s5, defBody s5, defScope s5, [], []⟩
abbrev s6 : Stmt := top 9
def d6 : He.DefD := ⟨("_law_machine", none), "_law_machine", "_law_machine", defArgs s6, defBody s6, defScope s6, [], []⟩
abbrev s7 : Stmt := top 10
def d7 : He.DefD := ⟨("_law_some", none), "_law_some", "_law_some", defArgs s7, defBody s7, defScope s7, [], []⟩
abbrev s8 : Stmt := top 11
def d8 : He.DefD := ⟨("_law_words", none), "_law_words", "_law_words", defArgs s8, defBody s8, defScope s8, [], []⟩
abbrev s9 : Stmt := top 12
def d9 : He.DefD := ⟨("_law_due", none), "_law_due", "_law_due", defArgs s9, defBody s9, defScope s9, [], []⟩
abbrev s10 : Stmt := top 13
def d10 : He.DefD := ⟨("law", none), "law", "law", defArgs s10, defBody s10, defScope s10, [], []⟩
def fn : List He.DefD := [d0, d1, d2, d3, d4, d5, d6, d7, d8, d9, d10]
def fa : List He.Fa := [.glo "state_names", .glo "state_term", .glo "rules_of", .glo "_law_feed", .glo "_law_draw", .glo "_law_same", .glo "_law_machine", .glo "_law_some", .glo "_law_words", .glo "_law_due", .glo "law", .free "len", .free "tuple", .free "zip", .free "sorted", .free "repr", .free "range", .str "LETTERS" "abcdefghijklmnopqrstuvwxyz"]
def exs : List (PySem.W.Frag → Bool) := [Ev.kwT ("rules_of", none) "names" []]
section
variable {K : PySem.W.Frag} {mg : Str → Option Value} {a : Addr} {fd : FuncData}
theorem sc0 : FnScope e0.fn.ns e0.fn.ps (defScope s0) := ⟨by kernel_rfl, by kernel_rfl, by kernel_rfl, by decide +kernel, by kernel_rfl, by decide +kernel, by decide +kernel⟩
theorem ck0 : ckSs tb e0.fn.ns (defScope s0) e0.fn.body (defBody s0) = true := by kernel_rfl
theorem ok0 (F : FunD K "state_names" "state_names" (defArgs s0) (defBody s0) (defScope s0) [] [] a fd) (g : mg "state_names" = some (.ref a)) : EntOk K mg tb e0 :=
  ⟨_, _, _, _, _, _, _, _, F, g, sc0, ck0,
  List.forall_mem_cons.mpr ⟨bindP F fun _ _ _ _ _ _ us ws l1 l2 => match us, ws, l1, l2 with
| [u0, u1], [], _, _ => ⟨[u0, u1], rfl, .cons rfl (.cons rfl .nil)⟩, fun _ h => nomatch h⟩⟩
theorem sc1 : FnScope e1.fn.ns e1.fn.ps (defScope s1) := ⟨by kernel_rfl, by kernel_rfl, by kernel_rfl, by decide +kernel, by kernel_rfl, by decide +kernel, by decide +kernel⟩
theorem ck1 : ckSs tb e1.fn.ns (defScope s1) e1.fn.body (defBody s1) = true := by kernel_rfl
theorem ok1 (F : FunD K "state_term" "state_term" (defArgs s1) (defBody s1) (defScope s1) [] [] a fd) (g : mg "state_term" = some (.ref a)) : EntOk K mg tb e1 :=
  ⟨_, _, _, _, _, _, _, _, F, g, sc1, ck1,
  List.forall_mem_cons.mpr ⟨bindP F fun _ _ _ _ _ _ us ws l1 l2 => match us, ws, l1, l2 with
| [u0, u1, u2], [], _, _ => ⟨[u0, u1, u2], rfl, .cons rfl (.cons rfl (.cons rfl .nil))⟩, fun _ h => nomatch h⟩⟩
theorem sc2 : FnScope e2.fn.ns e2.fn.ps (defScope s2) := ⟨by kernel_rfl, by kernel_rfl, by kernel_rfl, by decide +kernel, by kernel_rfl, by decide +kernel, by decide +kernel⟩
theorem ck2 : ckSs tb e2.fn.ns (defScope s2) e2.fn.body (defBody s2) = true := by kernel_rfl
theorem ok2 (x_names : Ev.kwT ("rules_of", none) "names" [] K = true) (F : FunD K "rules_of" "rules_of" (defArgs s2) (defBody s2) (defScope s2) [] [("names", (.ref (Ev.kwdAt ("rules_of", none) "names" K)))] a fd) (g : mg "rules_of" = some (.ref a)) : EntOk K mg tb e2 :=
  ⟨_, _, _, _, _, _, _, _, F, g, sc2, ck2,
  List.forall_mem_cons.mpr ⟨bindP F fun _ _ _ _ _ _ us ws l1 l2 => match us, ws, l1, l2 with
| [u0], [w0], _, _ => ⟨[u0, w0], rfl, .cons rfl (.cons rfl .nil)⟩, List.forall_mem_cons.mpr ⟨bindPK F [("names", (.ref (Ev.kwdAt ("rules_of", none) "names" K)))] (by first | decide | simp) (by first | decide | exact fun _ h => h) fun _ _ _ _ _ _ us ws mv l1 l2 rm => match us, ws, mv, l1, l2, rm with
| [u0], [], [m0], _, _, .cons rm0 .nil => ⟨[u0, m0], ⟨_, _, _, _, _, _, rfl, rfl, rfl⟩, .cons rfl (.cons (df_tup x_names rm0) .nil)⟩, fun _ h => nomatch h⟩⟩⟩
theorem sc3 : FnScope e3.fn.ns e3.fn.ps (defScope s3) := ⟨by kernel_rfl, by kernel_rfl, by kernel_rfl, by decide +kernel, by kernel_rfl, by decide +kernel, by decide +kernel⟩
theorem ck3 : ckSs tb e3.fn.ns (defScope s3) e3.fn.body (defBody s3) = true := by kernel_rfl
theorem ok3 (F : FunD K "_law_feed" "_law_feed" (defArgs s3) (defBody s3) (defScope s3) [] [] a fd) (g : mg "_law_feed" = some (.ref a)) : EntOk K mg tb e3 :=
  ⟨_, _, _, _, _, _, _, _, F, g, sc3, ck3,
  List.forall_mem_cons.mpr ⟨bindP F fun _ _ _ _ _ _ us ws l1 l2 => match us, ws, l1, l2 with
| [u0], [], _, _ => ⟨[u0], rfl, .cons rfl .nil⟩, fun _ h => nomatch h⟩⟩
theorem sc4 : FnScope e4.fn.ns e4.fn.ps (defScope s4) := ⟨by kernel_rfl, by kernel_rfl, by kernel_rfl, by decide +kernel, by kernel_rfl, by decide +kernel, by decide +kernel⟩
theorem ck4 : ckSs tb e4.fn.ns (defScope s4) e4.fn.body (defBody s4) = true := by kernel_rfl
theorem ok4 (F : FunD K "_law_draw" "_law_draw" (defArgs s4) (defBody s4) (defScope s4) [] [] a fd) (g : mg "_law_draw" = some (.ref a)) : EntOk K mg tb e4 :=
  ⟨_, _, _, _, _, _, _, _, F, g, sc4, ck4,
  List.forall_mem_cons.mpr ⟨bindP F fun _ _ _ _ _ _ us ws l1 l2 => match us, ws, l1, l2 with
| [u0, u1], [], _, _ => ⟨[u0, u1], rfl, .cons rfl (.cons rfl .nil)⟩, fun _ h => nomatch h⟩⟩
theorem sc5 : FnScope e5.fn.ns e5.fn.ps (defScope s5) := ⟨by kernel_rfl, by kernel_rfl, by kernel_rfl, by decide +kernel, by kernel_rfl, by decide +kernel, by decide +kernel⟩
theorem ck5 : ckSs tb e5.fn.ns (defScope s5) e5.fn.body (defBody s5) = true := by kernel_rfl
theorem ok5 (F : FunD K "_law_same" "_law_same" (defArgs s5) (defBody s5) (defScope s5) [] [] a fd) (g : mg "_law_same" = some (.ref a)) : EntOk K mg tb e5 :=
  ⟨_, _, _, _, _, _, _, _, F, g, sc5, ck5,
  List.forall_mem_cons.mpr ⟨bindP F fun _ _ _ _ _ _ us ws l1 l2 => match us, ws, l1, l2 with
| [u0, u1], [], _, _ => ⟨[u0, u1], rfl, .cons rfl (.cons rfl .nil)⟩, fun _ h => nomatch h⟩⟩
theorem sc6 : FnScope e6.fn.ns e6.fn.ps (defScope s6) := ⟨by kernel_rfl, by kernel_rfl, by kernel_rfl, by decide +kernel, by kernel_rfl, by decide +kernel, by decide +kernel⟩
theorem ck6 : ckSs tb e6.fn.ns (defScope s6) e6.fn.body (defBody s6) = true := by kernel_rfl
theorem ok6 (F : FunD K "_law_machine" "_law_machine" (defArgs s6) (defBody s6) (defScope s6) [] [] a fd) (g : mg "_law_machine" = some (.ref a)) : EntOk K mg tb e6 :=
  ⟨_, _, _, _, _, _, _, _, F, g, sc6, ck6,
  List.forall_mem_cons.mpr ⟨bindP F fun _ _ _ _ _ _ us ws l1 l2 => match us, ws, l1, l2 with
| [u0, u1, u2, u3], [], _, _ => ⟨[u0, u1, u2, u3], rfl, .cons rfl (.cons rfl (.cons rfl (.cons rfl .nil)))⟩, fun _ h => nomatch h⟩⟩
theorem sc7 : FnScope e7.fn.ns e7.fn.ps (defScope s7) := ⟨by kernel_rfl, by kernel_rfl, by kernel_rfl, by decide +kernel, by kernel_rfl, by decide +kernel, by decide +kernel⟩
theorem ck7 : ckSs tb e7.fn.ns (defScope s7) e7.fn.body (defBody s7) = true := by kernel_rfl
theorem ok7 (F : FunD K "_law_some" "_law_some" (defArgs s7) (defBody s7) (defScope s7) [] [] a fd) (g : mg "_law_some" = some (.ref a)) : EntOk K mg tb e7 :=
  ⟨_, _, _, _, _, _, _, _, F, g, sc7, ck7,
  List.forall_mem_cons.mpr ⟨bindP F fun _ _ _ _ _ _ us ws l1 l2 => match us, ws, l1, l2 with
| [u0, u1], [], _, _ => ⟨[u0, u1], rfl, .cons rfl (.cons rfl .nil)⟩, fun _ h => nomatch h⟩⟩
theorem sc8 : FnScope e8.fn.ns e8.fn.ps (defScope s8) := ⟨by kernel_rfl, by kernel_rfl, by kernel_rfl, by decide +kernel, by kernel_rfl, by decide +kernel, by decide +kernel⟩
theorem ck8 : ckSs tb e8.fn.ns (defScope s8) e8.fn.body (defBody s8) = true := by kernel_rfl
theorem ok8 (F : FunD K "_law_words" "_law_words" (defArgs s8) (defBody s8) (defScope s8) [] [] a fd) (g : mg "_law_words" = some (.ref a)) : EntOk K mg tb e8 :=
  ⟨_, _, _, _, _, _, _, _, F, g, sc8, ck8,
  List.forall_mem_cons.mpr ⟨bindP F fun _ _ _ _ _ _ us ws l1 l2 => match us, ws, l1, l2 with
| [u0, u1], [], _, _ => ⟨[u0, u1], rfl, .cons rfl (.cons rfl .nil)⟩, fun _ h => nomatch h⟩⟩
theorem sc9 : FnScope e9.fn.ns e9.fn.ps (defScope s9) := ⟨by kernel_rfl, by kernel_rfl, by kernel_rfl, by decide +kernel, by kernel_rfl, by decide +kernel, by decide +kernel⟩
theorem ck9 : ckSs tb e9.fn.ns (defScope s9) e9.fn.body (defBody s9) = true := by kernel_rfl
theorem ok9 (F : FunD K "_law_due" "_law_due" (defArgs s9) (defBody s9) (defScope s9) [] [] a fd) (g : mg "_law_due" = some (.ref a)) : EntOk K mg tb e9 :=
  ⟨_, _, _, _, _, _, _, _, F, g, sc9, ck9,
  List.forall_mem_cons.mpr ⟨bindP F fun _ _ _ _ _ _ us ws l1 l2 => match us, ws, l1, l2 with
| [u0, u1], [], _, _ => ⟨[u0, u1], rfl, .cons rfl (.cons rfl .nil)⟩, fun _ h => nomatch h⟩⟩
theorem sc10 : FnScope e10.fn.ns e10.fn.ps (defScope s10) := ⟨by kernel_rfl, by kernel_rfl, by kernel_rfl, by decide +kernel, by kernel_rfl, by decide +kernel, by decide +kernel⟩
theorem ck10 : ckSs tb e10.fn.ns (defScope s10) e10.fn.body (defBody s10) = true := by kernel_rfl
theorem ok10 (F : FunD K "law" "law" (defArgs s10) (defBody s10) (defScope s10) [] [] a fd) (g : mg "law" = some (.ref a)) : EntOk K mg tb e10 :=
  ⟨_, _, _, _, _, _, _, _, F, g, sc10, ck10,
  List.forall_mem_cons.mpr ⟨bindP F fun _ _ _ _ _ _ us ws l1 l2 => match us, ws, l1, l2 with
| [u0], [], _, _ => ⟨[u0], rfl, .cons rfl .nil⟩, fun _ h => nomatch h⟩⟩
theorem facts (h : Heap) (X : K.In h) (G : h.Ns mainGlobals mg) (c : Ev.SaysX fa fn exs K) : TxtOk K mg (dfs ents) tb := by
  obtain ⟨f0, F0⟩ := c.d.def_ 0 (d := d0) rfl
  obtain ⟨f1, F1⟩ := c.d.def_ 1 (d := d1) rfl
  obtain ⟨f2, F2⟩ := c.d.def_ 2 (d := d2) rfl
  obtain ⟨f3, F3⟩ := c.d.def_ 3 (d := d3) rfl
  obtain ⟨f4, F4⟩ := c.d.def_ 4 (d := d4) rfl
  obtain ⟨f5, F5⟩ := c.d.def_ 5 (d := d5) rfl
  obtain ⟨f6, F6⟩ := c.d.def_ 6 (d := d6) rfl
  obtain ⟨f7, F7⟩ := c.d.def_ 7 (d := d7) rfl
  obtain ⟨f8, F8⟩ := c.d.def_ 8 (d := d8) rfl
  obtain ⟨f9, F9⟩ := c.d.def_ 9 (d := d9) rfl
  obtain ⟨f10, F10⟩ := c.d.def_ 10 (d := d10) rfl
  exact txt_of (List.forall_mem_cons.mpr ⟨ok0 F0 (He.glo_ok X G (c.d.fact 0 (f := .glo "state_names") rfl)), List.forall_mem_cons.mpr ⟨ok1 F1 (He.glo_ok X G (c.d.fact 1 (f := .glo "state_term") rfl)), List.forall_mem_cons.mpr ⟨ok2 (c.ex 0 (f := Ev.kwT ("rules_of", none) "names" []) rfl) F2 (He.glo_ok X G (c.d.fact 2 (f := .glo "rules_of") rfl)), List.forall_mem_cons.mpr ⟨ok3 F3 (He.glo_ok X G (c.d.fact 3 (f := .glo "_law_feed") rfl)), List.forall_mem_cons.mpr ⟨ok4 F4 (He.glo_ok X G (c.d.fact 4 (f := .glo "_law_draw") rfl)), List.forall_mem_cons.mpr ⟨ok5 F5 (He.glo_ok X G (c.d.fact 5 (f := .glo "_law_same") rfl)), List.forall_mem_cons.mpr ⟨ok6 F6 (He.glo_ok X G (c.d.fact 6 (f := .glo "_law_machine") rfl)), List.forall_mem_cons.mpr ⟨ok7 F7 (He.glo_ok X G (c.d.fact 7 (f := .glo "_law_some") rfl)), List.forall_mem_cons.mpr ⟨ok8 F8 (He.glo_ok X G (c.d.fact 8 (f := .glo "_law_words") rfl)), List.forall_mem_cons.mpr ⟨ok9 F9 (He.glo_ok X G (c.d.fact 9 (f := .glo "_law_due") rfl)), List.forall_mem_cons.mpr ⟨ok10 F10 (He.glo_ok X G (c.d.fact 10 (f := .glo "law") rfl)), fun _ h => nomatch h⟩⟩⟩⟩⟩⟩⟩⟩⟩⟩⟩) (List.forall_mem_cons.mpr ⟨He.free_ok X G (c.d.fact 11 (f := .free "len") rfl), List.forall_mem_cons.mpr ⟨He.free_ok X G (c.d.fact 12 (f := .free "tuple") rfl), List.forall_mem_cons.mpr ⟨He.free_ok X G (c.d.fact 13 (f := .free "zip") rfl), List.forall_mem_cons.mpr ⟨He.free_ok X G (c.d.fact 14 (f := .free "sorted") rfl), List.forall_mem_cons.mpr ⟨He.free_ok X G (c.d.fact 15 (f := .free "repr") rfl), List.forall_mem_cons.mpr ⟨He.free_ok X G (c.d.fact 16 (f := .free "range") rfl), fun _ h => nomatch h⟩⟩⟩⟩⟩⟩) (List.forall_mem_cons.mpr ⟨(let ⟨t, e⟩ := He.str_ok X G (c.d.fact 17 (f := .str "LETTERS" "abcdefghijklmnopqrstuvwxyz") rfl); ⟨_, .str "abcdefghijklmnopqrstuvwxyz", e, ⟨t, rfl⟩, fun _ _ => .str _⟩), fun _ h => nomatch h⟩)
end
abbrev R : PySem.W.OpenRow := PySem.W.OpenLaw.row PySem.Challenge.rw_nextgivers_k57_rules_of_machines
abbrev hk : PySem.W.Hook := Ev.hookX 4 fa fn exs
def ob (s : PySem.W.SharedT) : Ev.AlX := Ev.obsXG 4 fa fn exs (HandSHeadRun.getT s)
theorem ob_eq (s : PySem.W.SharedT) : ob s = hk.obs s.abs := Ev.obsXG_eq (HandSHeadRun.getT_eq s)
theorem run (w : World) : HandSHeadRun.RunEq R (PySem.W.view R.prog [13]) hk ob 2100 ["LETTERS", "state_names", "state_term", "rules_of", "_law_feed", "_law_draw", "_law_same", "_law_machine", "_law_some", "_law_words", "_law_due"] w := by
  intro os
  kernel_rfl

end Law
open PySem PySem.W PySem.Calls PyProof.Rows
theorem PySem.Challenge.cw_nextgivers_k57_rules_of_machines_holds : PySem.Challenge.rw_nextgivers_k57_rules_of_machines.Holds := by
  w_on; o_law
  refine HandSHeadRun.head_any (r := OpenLaw.row PySem.Challenge.rw_nextgivers_k57_rules_of_machines) (q := view (OpenLaw.row PySem.Challenge.rw_nextgivers_k57_rules_of_machines).prog [13]) (H := Law.hk) (ob := Law.ob) (M := 2100) (loose := ["LETTERS", "state_names", "state_term", "rules_of", "_law_feed", "_law_draw", "_law_same", "_law_machine", "_law_some", "_law_words", "_law_due"]) (d := HandSHeadRun.topDef (OpenLaw.row PySem.Challenge.rw_nextgivers_k57_rules_of_machines).prog 13) (kwd := []) Law.ob_eq
    (by kernel_rfl) (fun s => by kernel_rfl) Law.run (by kernel_rfl) (by kernel_rfl) (by kernel_rfl) (by rfl) (by first | assumption | decide +kernel) (by decide +kernel) ⟨rfl, rfl, rfl, rfl, rfl, by decide +kernel⟩ ?hw ?hc
  case hw => w_witness2
  case hc =>
    exact Ev.top_walk (l := PySem.Challenge.rw_nextgivers_k57_rules_of_machines) (n := 63) (k := 40) (f := Law.f_law) (nm := "script") (T := Law.tb) (G := Ev.dfs Law.ents) rfl (by decide) (by kernel_rfl) ⟨rfl, by decide, by decide⟩ rfl rfl (by kernel_rfl) (fun K h mg X G c => Law.facts h X G c) Law.ans

